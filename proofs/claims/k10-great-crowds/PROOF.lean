import PyProof.Rows.All
import Wide.All
import OpenK.AllK
import Wide.FinOn
import KE.KExcSuper
import HandS.ForExc
import HandS.ExcField
import HandS.ExcIs
import HandS.IsInst
import PyProof.InstEq
import HandS.ForMost
import HandS.OwnEq
import KE.KOpsOwn
import KE.KCallOwn
import HandS.Text
import HandS.Conv
import HandS.ReplaceLit
import PyProof.ListStr
import PyProof.ZipIter
import PyProof.Draws
import KE.KStar
import HandS.Star
import HandS.Iter
import HandS.Zip
import HandS.Defaults
import HandS.Style
import HandS.ClsMeth
import HandS.CallLocal
import KE.KLam
import KE.KNest
import HandS.Lambda
import HandS.Words
import HandS.Codes
import HandS.FStr
import PyProof.P3In
import HandS.Deep
import HandS.WordsExc
import PyProof.NeData
import HandS.EndTab
import KE.KNestM
import KE.RegKIsAll
import KE.RegKSuper
import KE.RegKTryMore
import PySem.Challenge.RW_foreheads_k10_great_crowds
set_option Elab.async false
set_option linter.all false
set_option maxRecDepth 100000
set_option maxHeartbeats 2000000
/-! An own error whose maker says super, then keeps one thing. -/
namespace PySem
namespace ErrX
open PySem.W PySem.Calls PyProof.Rows PySem.HandSPX
def iA (n : Nat) : Arguments :=
  { posonlyargs := [], args := [{ arg := "self", annotation := none, pos := ⟨n, 17, n, 21⟩ }, { arg := "word", annotation := none, pos := ⟨n, 23, n, 27⟩ }],
    vararg := none, kwonlyargs := [], kw_defaults := [], kwarg := none, defaults := [] }
def iB (n m : Nat) : List Stmt :=
  [.Expr (.Call (.Attribute (.Call (.Name "super" ⟨n, 8, n, 13⟩) [] [] ⟨n, 8, n, 15⟩) "__init__" ⟨n, 8, n, 24⟩) [.Name "word" ⟨n, 25, n, 29⟩] [] ⟨n, 8, n, 30⟩) ⟨n, 8, n, 30⟩,
   .Assign [.Attribute (.Name "self" ⟨m, 8, m, 12⟩) "word" ⟨m, 8, m, 17⟩] (.Name "word" ⟨m, 20, m, 24⟩) ⟨m, 8, m, 24⟩]
theorem mcp {o : Expr} {env : Env} {a b c d e f n : Nat} : methodCallPos true o env ⟨a, b, n, c⟩ ⟨n, d, e, f⟩ = pure ⟨n, d, e, f⟩ := by
  simp [methodCallPos]
/-- a method's call in one line -/
theorem meth_line {o : Expr} {name : Str} {a b c d e f n : Nat} {args : List Expr} {env : Env} (hf : methodCallForm (args.length + 0) (backTo ⟨n, d, e, f⟩ (starEach args env)) [] = true) :
    eval (.Call (.Attribute o name ⟨a, b, n, c⟩) args [] ⟨n, d, e, f⟩) env = (do
      let ov ← attributeBase o name env (eval o env)
      standAt (Pos.atName ⟨a, b, n, c⟩)
      let (f', first) ← holding [ov] (getMethod ov name (do return (← importBound o env).getD true))
      callWith ⟨n, d, e, f⟩ f' first (backTo ⟨n, d, e, f⟩ (starEach args env)) []) := by
  rw [arm_eval_Call]
  have hk : backToKw ⟨n, d, e, f⟩ (keywordEach [] env) = [] := rfl
  rw [hk]
  have hl : args.length + ([] : List Keyword).length = args.length + 0 := rfl
  rw [hl]
  simp only [methodCall, hf, calleeOf, if_true, mcp, pure_bind]
def iS : Scope :=
  { kind := .function, names := [(PySem.Str.ofString "self", .local), (PySem.Str.ofString "word", .local), (PySem.Str.ofString "__class__", .free), (PySem.Str.ofString "super", .globalImplicit)],
    isGenerator := false, isCoroutine := false, more := [] }
structure ErrTxt (P : Program) (K : Frag) (mg : Str → Option Value) (cn : Str) (C fI : Addr) : Prop where
  gC : mg cn = some (.ref C)
  cls : ∃ nm q N bs bm sn sub ab col dd k0 k1 k2 k3 k5,
    K.lookup C = some (excClassObj nm q C N bs bm true sn sub ab col dd k0 k1 k2 k3 k5 "ValueError.__new__") ∧ refsVE bm = true
  sa : findIn K (.ref C) "__setattr__" = some (some (.builtin "object.__setattr__"))
  ga : findIn K (.ref C) "__getattribute__" = some (some (.builtin "BaseException.__getattribute__"))
  gg : findIn K (.ref C) "__getattr__" = some none
  noN : findIn K (.ref C) "word" = some none
  iC : findIn K (.ref C) "__init__" = some (some (.ref fI))
  tC : typeIn K (.ref fI) = some (.type "function")
  kC : keepIn K (.ref C) = true
  exC : subIn K (.ref C) (.type "BaseException") = some true
  tyC : typeIn K (.ref C) = some (.type "type")
  hdC : hasDictIn K C = true
  sup : ks_superIn K C C "__init__" = some (some (.builtin "ValueError.__init__"))
  sV : subIn K (.ref C) (.type "ValueError") = some true
  sS : mroIn K C (.ref C) = some true
  op : nsIn K cStatics "thirdparty.any" = some none
  su : nsIn K mainGlobals "super" = some none
  top : (P.main.scope.names.lookup ("super" : Str)).isSome = false
  fn : ∃ (qual : Str) (oc : Value) (od : Option Addr) (doc pm : Value) (an : Option Addr) (ct : Value) (osl : Array (Option Value)) (n1 n2 n3 : Nat) (cc cda : Addr),
    K.lookup fI = some ⟨oc, od, .func (ksFn "__init__" qual (iA n1) (iB n2 n3) iS .none .none doc pm an (.ref cda) ct cc), osl⟩ ∧ codeIn K (.ref cda) qual = true ∧
    (∃ ccl cdd vs ccs file tf, K.lookup cda = some ⟨ccl, cdd, .fields vs, ccs⟩ ∧ vs[2]? = some (.str file tf) ∧ ((P.main.file : Str) == file) = true) ∧
    ∃ cl cld csl, K.lookup cc = some ⟨cl, cld, .cell (some (.ref C)), csl⟩
/-- what the maker leaves of a fresh error at x -/
structure InitEnd (h h' : Heap) (x C dx : Addr) (v : Value) : Prop where
  keep : ∀ b o, b ≠ x → h.get? b = some o → h'.get? b = some o
  obj : ∃ t1 : Addr, h'.get? x = some { cls := .ref C, dict := some dx, data := .fields #[.ref t1, .none, .none, .none, .bool false, .none] }
  dbig : h.objs.size ≤ dx
  dne : dx ≠ x
  ns : h'.Ns1 dx (fun y => if y = "word" then some v else none)
structure Made (h h' : Heap) (e C d : Addr) (v : Value) : Prop where
  keep : ∀ b o, h.get? b = some o → h'.get? b = some o
  new : h.objs.size ≤ e
  obj : ∃ t1 : Addr, h'.get? e = some ({ cls := .ref C, dict := some d, data := .fields #[.ref t1, .none, .none, .none, .bool false, .none] } : Obj)
  dbig : h.objs.size ≤ d
  dne : d ≠ e
  ns : h'.Ns1 d (fun y => if y = "word" then some v else none)
theorem one_fits (v : Value) : [v].length ≤ sizeLine := by
  rw [sizeLine_eq]; exact (by decide : 1 ≤ 16777216)
theorem noCell : ∀ y ∈ iS.names, y.2 ≠ .cell := by decide
theorem isLoc (x : Addr) (v : Value) : ∀ y ∈ [((("self" : Str), Value.ref x) : Str × Value), ("word", v)], iS.names.lookup y.1 = some .local := by
  intro y hy
  rcases List.mem_cons.mp hy with rfl | hy
  · rfl
  · rcases List.mem_cons.mp hy with rfl | hy
    · rfl
    · cases hy
theorem bootSuper : bootBuiltins "super" = some (.type "super") := by decide +kernel
section
variable {prog : Program} {w : World} {A : Around} {E : Value → Shared → Prop} {h : Heap} {g : Array GenState} {d : Drawn} {t : Nat} {os : OsState}
/-- the bound built-in maker, called -/
theorem call_mw {nm q : Str} {C N u x t0 : Addr} {bs bm : List Value} {hdct : Bool} {sn : List Str} {sub : List Value} {ab : Bool} {col : Option Bool} {dd : Option Addr} {k0 k1 k2 k3 k5 : Option Value} {rest : List Value} {Q : Value → Shared → Prop}
    (hC : h.get? C = some (excClassObj nm q C N bs bm hdct sn sub ab col dd k0 k1 k2 k3 k5 "ValueError.__new__")) (he : h.get? x = some (excO C t0)) (hu : h.get? u = some (kxs_mw "ValueError.__init__" x)) (hz : rest.length ≤ sizeLine)
    (hq : ∀ h' t1, (∀ b o, b ≠ x → h.get? b = some o → h'.get? b = some o) → h'.get? x = some (excO C t1) → Q .none ⟨h', g, d, t, os⟩) :
    wpAny (model prog w) A (call (.ref u) rest) Q E ⟨h, g, d, t, os⟩ := by
  have FB := F.excBase_ValueError
  refine wpAny_call (codeAny_of_tree ?_)
  show wpAny _ A.in1 (callAny (.ref u) ⟨rest, []⟩) _ _ _
  simp only [callAny]
  refine wpAny_bind (wpAny_load hu ?_)
  have z : (Value.type "method-wrapper" == Value.type "method" || Value.type "method-wrapper" == Value.type "builtin_function_or_method" || Value.type "method-wrapper" == Value.type "method-wrapper") = true := by decide
  simp only [kxs_mw, z, if_true]
  refine KFB.if_so (by decide) ?_
  refine wpAny_bind (check_bound_init FB.toExcCallFacts hC he rfl ?_)
  refine wpAny_bind (wpAny_pure (wpAny_pure ?_))
  refine ⟨plainId_quiet FB.init.plain _, codeAny_builtin FB.initEntry ?_⟩
  exact exc_init_tree (cls := .ref C) (t0 := t0) (dv := none) (c2 := .none) (c3 := .none) (b4 := .bool false) he hz fun h' k e' _ => hq h' _ k e'
end
theorem ldC {M : Model} {A : Around} {E : Value → Shared → Prop} {s : Shared} {env : Env} {m : Str → Option Value} {x : Str} {pos : Pos} {v : Value} {Q : Value → Shared → Prop} (hn : s.heap.Ns env.locals m) (hv : m x = some v) (h : Q v s)
    (hk : env.scope.kind = .function := by rfl) (hl : env.kindOf x = some .local := by rfl) (hd : (x == ("__debug__" : Str)) = false := by decide) :
    wpAny M A (eval (.Name x pos) env) Q E s := wpAny_Name (wpAny_loadName_local hk hl hn hv h) hd
section
variable {prog : Program} {w : World} {A : Around} {E : Value → Shared → Prop} {R : Result → Shared → Prop} {s : Shared} {K : Frag} {mg : Str → Option Value} {cn : Str} {C fI : Addr}
theorem err_init (T : ErrTxt prog K mg cn C fI) {x t0 : Addr} {v : Value} (X : K.In s.heap) (hlim : s.heap.NoLimit) (hG : s.heap.Ns mainGlobals mg)
    (hB : ∃ mb, s.heap.Ns builtinsNs mb ∧ ∀ x : Str, x ≠ "__name__" → mb x = bootBuiltins x) (hx : s.heap.get? x = some (excO C t0)) (hnx : K.lookup x = none) (hroom : A.depth < recursionLimit)
    (hq : ∀ h' tk dx, InitEnd s.heap h' x C dx v → R (.ok (.ret .none)) { s with heap := h', toks := tk }) :
    codeAny (model prog w) A (.call (.ref fI) ⟨[.ref x, v], []⟩) R s := by
  obtain ⟨qual, oc, od, doc, pm, an, ct, osl, n1, n2, n3, cc, cda, ho, hcd, ⟨ccl, cdd, vs, ccs, file, tf, hcode, hvs, hfile⟩, cl, cld, csl, hcell⟩ := T.fn
  obtain ⟨nm, qn, N, bs, bm, sn, sub, ab, col, dd, k0, k1, k2, k3, k5, hC, hbm⟩ := T.cls
  have hcl : clsIn K C = some { name := nm, bases := bs, mro := .ref C :: bm, ns := N, qualname := qn, hasDict := true, slotNames := sn, subclasses := sub, abstract := ab, collection := col, hasDel := false } := by
    unfold clsIn; rw [hC] <;> rfl
  obtain ⟨mb, hb, hbb⟩ := hB
  have hxC : x ≠ C := fun z => by
    rw [z] at hnx
    rw [hC] at hnx
    cases hnx
  have hbi : BindsTo s (ksFn "__init__" qual (iA n1) (iB n2 n3) iS .none .none doc pm an (.ref cda) ct cc) ⟨[.ref x, v], []⟩ [("self", .ref x), ("word", v)] := BindsTo.of_eq (by first | rfl | with_unfolding_all rfl)
  refine ks_codeAny_call_defAt (fd := ksFn "__init__" qual (iA n1) (iB n2 n3) iS .none .none doc pm an (.ref cda) ct cc) (body := iB n2 n3) (binds := [("self", .ref x), ("word", v)]) hroom (X _ _ ho) rfl hlim
    (codeRec_of X hcd) rfl hbi noCell (isLoc x v) (fun h1 hns hk1 => ?_)
  have X1 : K.In h1 := X.keeps hk1
  have hx1 := hk1 _ _ hx
  show wpAt _ _ (.func (iB n2 n3) (ksEnv qual iS s.heap.objs.size fI (.ref cda) cc)) (execs (iB n2 n3) (ksEnv qual iS s.heap.objs.size fI (.ref cda) cc)) _ _ _
  unfold iB
  refine ks_wpAt_execs_cons ?_
  refine ks_wpAt_Expr_any ?_
  refine ks_wpAt_MethodCall ?_ (meth_line rfl)
  refine ks_wpAt_super_base (env := ksEnv qual iS s.heap.objs.size fI (.ref cda) cc) rfl rfl (by decide) rfl (X1 _ _ ho) rfl rfl rfl (X1 _ _ hcode) rfl hvs hfile T.top ?_
  refine ks_loadName_global rfl rfl (loadGlobal_builtin (env := ksEnv qual iS s.heap.objs.size fI (.ref cda) cc) (hG.keeps hk1) (mg_none_of X hG T.su) (hb.keeps hk1) ((hbb _ (by decide)).trans bootSuper) ⟨rfl, ?_⟩)
  refine wpAny_loadName_free rfl rfl rfl ⟨_, X1 _ _ hcell, rfl⟩ ?_
  refine wpAny_loadName_local rfl rfl hns (by first | rfl | with_unfolding_all rfl) ?_
  refine ks_wpAny_isType_cls (X1 _ _ hC) rfl ⟨rfl, ?_⟩
  refine ks_wpAny_call_super (X1 _ _ hC) rfl hx1 rfl (fun c e => by cases e) (looks_mroIn X1 T.sS) (fun h2 hso hk2 => ?_)
  have X2 : K.In h2 := X1.keeps hk2
  have hx2 := hk2 _ _ hx1
  have hI : Looks (model prog w) h2 (isInstance (.ref x) (.type "ValueError")) true := (show InstAt h2 x (excO C t0) C none from ⟨hx2, rfl, rfl, trivial⟩).type.andThen (looks_subIn X2 T.sV)
  have hsup : alongIn K "__init__" (((Value.ref C :: bm).dropWhile (· != .ref C)).drop 1) = some (some (.builtin "ValueError.__init__")) := by
    have z := T.sup
    unfold ks_superIn at z
    rw [hcl] at z
    exact z
  refine kxs_getMethod kxs_ValueError hso (looks_opaque X2 T.op) (l₀ := .ref C :: bm) (fun A' Q' E' s' k q' => wpAny_bind ((looks_clsIn X2 hcl) A' _ E' s' k (wpAny_pure q'))) rfl X2 hsup hI hxC (by decide) ?_
  have hk3 : ∀ b o, h2.get? b = some o → (h2.push (kxs_mw "ValueError.__init__" x)).get? b = some o := fun b o e => Heap.get?_push_of_some _ e
  have hu3 : (h2.push (kxs_mw "ValueError.__init__" x)).get? h2.objs.size = some (kxs_mw "ValueError.__init__" x) := Heap.get?_push_at rfl rfl
  have hn3 : (h2.push (kxs_mw "ValueError.__init__" x)).Ns s.heap.objs.size (fun y => ([(("self" : Str), Value.ref x), ("word", v)] : List (Str × Value)).reverse.lookup y) := (hns.keeps hk2).keeps hk3
  refine kxs_callWith (i := "ValueError.__init__") (x := x) rfl ?_
  refine evalArgs_plain (x := eval (.Name "word" ⟨n2, 25, n2, 29⟩) (ksEnv qual iS s.heap.objs.size fI (.ref cda) cc)) (rest := []) ?_
  refine spliced_cons ?_
  refine ldC (v := v) hn3 (by first | rfl | with_unfolding_all rfl | kernel_rfl) ?_
  refine spliced_nil ⟨hu3, ?_⟩
  refine call_mw (X2.keeps hk3 _ _ hC) (hk3 _ _ hx2) hu3 (one_fits v) fun h4 t1 hk4 hx4 => ?_
  show wpAt _ _ _ (execs _ _) _ _ _
  have hL : s.heap.objs.size ≠ x := Nat.ne_of_gt (Heap.lt_size hx)
  have kx : ∀ b o, b ≠ x → s.heap.get? b = some o → h4.get? b = some o := fun b o hb e => hk4 b o hb (hk3 _ _ (hk2 _ _ (hk1 _ _ e)))
  have X4 : K.In h4 := fun a o e => hk4 a o (fun z => by rw [z, hnx] at e; cases e) (X2.keeps hk3 a o e)
  have hn4 : h4.Ns s.heap.objs.size (fun y => ([(("self" : Str), Value.ref x), ("word", v)] : List (Str × Value)).reverse.lookup y) := by
    obtain ⟨o, es, ep, e, r⟩ := hn3
    exact ⟨o, es, ep, hk4 _ _ hL e, r⟩
  refine wpAt_of_wpAny ?_
  refine wpAny_execs_cons (plainObj_wpAny_Assign_Attribute ?_)
  refine ldC (v := v) hn4 (by first | rfl | with_unfolding_all rfl | kernel_rfl) (ldC (v := .ref x) hn4 (by first | rfl | with_unfolding_all rfl | kernel_rfl) ?_)
  refine set_plain X4 (ox := excO C t1) (od := none) ⟨hx4, rfl, rfl, trivial⟩ T.sa ?_
  refine exc_osa X4 hx4 hcl (show refsVE (.ref C :: bm) = true from hbm) rfl T.noN (fun h5 tk5 dx hk5 dn dne hx5 hn5 => ?_)
  have z : s.heap.objs.size < h1.objs.size := hns.lt
  have z2 : h1.objs.size ≤ h2.objs.size := Nat.le_of_lt (Heap.lt_size hso)
  have z3 : h2.objs.size < h4.objs.size := by
    have e := hk4 _ _ (fun q => absurd (Heap.lt_size hx2) (by rw [q]; exact Nat.lt_irrefl _)) hu3
    exact Heap.lt_size e
  show wpAny _ _ (execs _ _) _ _ _
  exact wpAny_execs_nil (hq h5 tk5 dx ⟨fun b o hb e => hk5 b o hb (kx b o hb e), ⟨_, hx5⟩, by have dn' : h4.objs.size ≤ dx := dn; omega, dne, hn5⟩)
theorem err_made (T : ErrTxt prog K mg cn C fI) {v : Value} (X : K.In s.heap) (hlim : s.heap.NoLimit) (hG : s.heap.Ns mainGlobals mg)
    (hB : ∃ mb, s.heap.Ns builtinsNs mb ∧ ∀ x : Str, x ≠ "__name__" → mb x = bootBuiltins x) (hroom : A.depth + 1 < recursionLimit)
    (hq : ∀ h' tk e d, Made s.heap h' e C d v → R (.ok (.ret (.ref e))) { s with heap := h', toks := tk }) :
    codeAny (model prog w) A (.call (.ref C) ⟨[v], []⟩) R s := by
  obtain ⟨nm, q, N, bs, bm, sn, sub, ab, col, dd, k0, k1, k2, k3, k5, hC, hbm⟩ := T.cls
  obtain ⟨hp, g, dr, tk, os⟩ := s
  have k : ∀ b o, hp.get? b = some o → ((hp.push (kdv_tup [v])).push (excO C hp.objs.size)).get? b = some o := fun b o e => Heap.get?_push_of_some _ (Heap.get?_push_of_some _ e)
  have hget : ((hp.push (kdv_tup [v])).push (excO C hp.objs.size)).get? (hp.objs.size + 1) = some (excO C hp.objs.size) := by heap_get
  have hnx : K.lookup (hp.objs.size + 1) = none := by
    cases e : K.lookup (hp.objs.size + 1) with
    | none => rfl
    | some o =>
      have z : hp.get? (hp.objs.size + 1) = some o := X _ _ e
      exact absurd (Nat.lt_of_succ_lt (Heap.lt_size z)) (Nat.lt_irrefl _)
  obtain ⟨mb, hb, hbb⟩ := hB
  refine call_own F.excBase_ValueError (fun X => refsVE_contains X bm hbm) (X _ _ hC) (looks_findIn X T.iC) (fun self => bind_fn X self T.tC) (one_fits v) ?_
  refine err_init (s := ⟨(hp.push (kdv_tup [v])).push (excO C hp.objs.size), g, dr, tk, os⟩) T (X.keeps k) (hlim.keeps k) (hG.keeps k) ⟨mb, hb.keeps k, hbb⟩ hget hnx ?_ fun h' tk' dx I => ?_
  · show A.depth + 1 < recursionLimit
    exact hroom
  · have old : ∀ b o, hp.get? b = some o → h'.get? b = some o := fun b o e => I.keep b o (Nat.ne_of_lt (Nat.lt_succ_of_lt (Heap.lt_size e))) (k b o e)
    have z : hp.objs.size + 1 + 1 ≤ dx := by
      first
        | (simpa only [Heap.size_push] using I.dbig)
        | exact I.dbig
    exact ⟨rfl, hq h' tk' (hp.objs.size + 1) dx ⟨old, Nat.le_succ _, I.obj, by show hp.objs.size ≤ dx; omega, I.dne, I.ns⟩⟩
end
end ErrX
end PySem
namespace L2
open PySem PySem.Spec PyProof.Rows
theorem relO_word {v : V} {v' : Value} (r : RelV v v') (f : Str) : RelO (List.lookup f [(("word" : Str), v)]) (if f = "word" then some v' else none) := by
  by_cases hw : f = "word"
  · subst hw
    rw [if_pos rfl, show List.lookup ("word" : Str) [(("word" : Str), v)] = some v by simp [List.lookup]]
    exact r
  · rw [if_neg hw]
    have qw : (f == ("word" : Str)) = false := by simpa using hw
    rw [show List.lookup f [(("word" : Str), v)] = none by simp [List.lookup, qw]]
    trivial
section
variable {X : Cx} {C fI : Addr} {cn : Str}
/-- C(e), C an own error that keeps its word -/
def tMkErr (C : Addr) (ta : TA) : St → Hp → XK → Prop := fun σ H Q => ta σ H fun vs H1 => ∃ v, vs = [v] ∧ ∀ d, H1 d = none → Q (.ref C) (some d) (upd H1 d (.xd [(("word" : Str), v)]))
theorem pmk_err {a : Expr} {ta : TA} {p pos : Pos} {k : Nat} (T : PySem.ErrX.ErrTxt X.prog X.K X.mg cn C fI) (hr : Room k X.A) (ha : PA X [a] ta) (hg : Gl X cn) (hdb : (cn == ("__debug__" : Str)) = false := by decide)
    (he : starEach (a :: []) X.env = (false, eval a X.env) :: starEach [] X.env := by rfl) (hpl : (backTo pos (starEach [] X.env)).any (·.1) = false := by rfl) :
    PMk X (.Call (.Name cn p) [a] [] pos) (tMkErr C ta) := by
  intro pins s σ H Q I h
  refine wpAny_Call_Name_kw (ld_glob I hg T.gC ?_ hdb)
  refine PySem.W.callWith_K (h₀ := X.base) I.ok.mod.kin T.kC (thn (ha.run pos pins s σ H _ I h) fun us s1 hh => ?_) he hpl
  obtain ⟨vs, H1, I1, r1, v, ev, q1⟩ := hh
  subst ev
  refine ⟨I1.kIn, ?_⟩
  cases r1 with
  | cons rv rn =>
    rename_i v' us'
    cases rn
    show wpAny _ _ (call (.ref C) [v']) _ _ _
    have hlim := I1.nolimit
    have hgl := I1.mod.glob.keeps I1.bk
    obtain ⟨mb, hb, hbb⟩ := I1.mod.blt
    have hb' := hb.keeps I1.bk
    have kin := I1.kIn
    obtain ⟨hp, g, dr, tk, os⟩ := s1
    refine wpAny_call (PySem.ErrX.err_made T kin hlim hgl ⟨mb, hb', hbb⟩ (by have := hr.dp; omega) fun h' tk' e d M => ?_)
    show MkP X pins σ Q (.ref e) ⟨h', g, dr, tk', os⟩
    obtain ⟨t1, hoe⟩ := M.obj
    have hns := M.ns
    obtain ⟨G', g1, g2⟩ := restrict h' fun b => decide (b ≠ e)
    have gk : ∀ b, b ≠ e → G'.get? b = h'.get? b := fun b hb => g1 b (decide_eq_true hb)
    have ge : G'.get? e = none := g2 e (by simp)
    have old : ∀ b o, hp.get? b = some o → G'.get? b = some o := fun b o q => (gk b (Nat.ne_of_lt (Nat.lt_of_lt_of_le (Heap.lt_size q) M.new))).trans (M.keep b o q)
    have ob : ObjOk X.prog X.w (upd H1 d (.xd [(("word" : Str), v)])) G' d (.xd [(("word" : Str), v)]) :=
      ⟨_, hns.at (fun o q => (gk d M.dne).trans q), fun f => relO_word rv f⟩
    have J : Inv X pins σ (upd H1 d (.xd [(("word" : Str), v)])) ⟨G', g, dr, tk', os⟩ := I1.laid (t' := tk') old M.dbig ob
    refine ⟨e, _, _, ⟨G', g, dr, tk', os⟩, _, .ref C, some d, rfl, J, fun b o q => ?_, ge, hoe, ⟨rfl, rfl⟩, rfl, rfl, ?_, rfl, I1.bare, raises_own T.exC T.tyC, q1 d (I1.hok.fresh M.dbig)⟩
    · by_cases hb : b = e
      · have q' : G'.get? b = some o := q
        rw [hb, ge] at q'; cases q'
      · exact (gk b hb).symm.trans q
    · rw [upd_ne (Ne.symm M.dne)]
      exact I1.hok.fresh M.new
/-- raise C(e) -/
def tRaiseErr (C : Addr) (W : WX) (ta : TA) : TS := fun _ σ H => tMkErr C ta σ H fun cls d H' => W cls d σ H'
theorem ps_raiseErr {a : Expr} {ta : TA} {W : WX} {p pos pos2 : Pos} {k : Nat} (hc : X.calm = true) (T : PySem.ErrX.ErrTxt X.prog X.K X.mg cn C fI) (hr : Room k X.A) (tk : Takes X W) (ha : PA X [a] ta) (hg : Gl X cn) (hdb : (cn == ("__debug__" : Str)) = false := by decide)
    (he : starEach (a :: []) X.env = (false, eval a X.env) :: starEach [] X.env := by rfl) (hpl : (backTo pos (starEach [] X.env)).any (·.1) = false := by rfl) :
    PS X (.Raise (some (.Call (.Name cn p) [a] [] pos)) none pos2) (tRaiseErr C W ta) := ps_raise hc tk (pmk_err T hr ha hg hdb he hpl)
end
end L2
namespace PySem.W
open PySem PySem.Spec PySem.Calls PyProof.Rows
section
variable {prog : Program} {w : World} {A : Around} {E : Value → Shared → Prop} {s : Shared} {K : Frag} {x D : Addr} {ox : Obj} {od : Option Obj}
/-- what an error's class says of the name of its class -/
structure EcC (K : Frag) (D : Addr) : Prop where
  hg : findIn K (.ref D) "__getattribute__" = some (some (.builtin "BaseException.__getattribute__"))
  hk : findIn K (.ref D) "__getattr__" = some none
  hs : subIn K (.ref D) (.type "BaseException") = some true
  hd : hasDictIn K D = true
  ha : findIn K (.ref D) "__class__" = some (some (.builtin "object.__class__"))
  hn : specialIn K (.builtin "object.__class__") "__get__" = some (some (.builtin "getset_descriptor.__get__"))
  ht : takesIn K (.builtin "object.__class__") = some true
  hm : mroIn K D (.type "object") = some true
theorem ec_find (T : EcC K D) : findObj K D od "__class__" = some (.bind (.builtin "getset_descriptor.__get__") (.builtin "object.__class__")) := by
  obtain ⟨cd, hc, _⟩ := any_some T.hd
  unfold findObj
  rw [hc, Option.bind_some, T.ha, Option.bind_some]
  simp [T.hn, T.ht]
theorem ec_class (T : EcC K D) {Q : Option Value → Shared → Prop} (X : K.In s.heap) (I : InstAt s.heap x ox D od) (h : Q (some (.ref D)) { s with toks := s.toks + 1 }) : wpAny (model prog w) A (getAttr? (.ref x) "__class__") Q E s := by
  have hf := ec_find (od := od) T
  obtain ⟨hp, g, d, t, os⟩ := s
  have L0 := I.type (M := model prog w)
  have L1 := looks_findIn (M := model prog w) X T.hg
  have L2 := looks_findIn (M := model prog w) X T.hk
  have L3 := looks_find (M := model prog w) X I hf
  have su : Looks (model prog w) hp (isInstance (.ref x) (.type "BaseException")) true := L0.andThen (looks_subIn X T.hs)
  have z0 : (false && onTheHeap (Value.builtin "BaseException.__getattribute__")) = false := rfl
  have z2 : (Value.builtin "BaseException.__getattribute__" == Value.builtin "object.__getattribute__") = false := by decide +kernel
  have z1 : (onTheHeap (Value.ref D) && Value.builtin "BaseException.__getattribute__" == Value.builtin "object.__getattribute__") = false := by rw [z2]; rfl
  unfold getAttr? getAttrBy? getAttrBy
  refine wpAny_bind (wpAny_mkText (wpAny_bind (wpAny_attempt (wpAny_holding (wpAny_bind (L0.at (wpAny_bind (L1.at ?_)))))) ))
  show wpAny _ _ (if (onTheHeap (Value.ref D) && Value.builtin "BaseException.__getattribute__" == Value.builtin "object.__getattribute__") = true then _ else _) _ _ _
  rw [z1, if_neg Bool.false_ne_true]
  unfold getAttrByItsOwn hookBefore
  refine wpAny_bind ?_
  rw [if_pos (show onTheHeap (Value.ref D) = true from rfl)]
  refine L2.at (wpAny_bind (wpAny_attempt (wpAny_holding ?_)))
  unfold callGetattribute
  rw [z0, if_neg Bool.false_ne_true]
  unfold boundAndCalled
  rw [PySem.F.excAttr_ValueError.ga.bind (.ref x)]
  refine wpAny_bind (wpAny_pure ?_)
  show wpAny _ _ (call (.builtin "BaseException.__getattribute__") [.ref x, .str "__class__" t]) _ _ _
  refine wpAny_call (codeAny_call_builtin PySem.F.excAttr_ValueError.ga.plain PySem.F.entry_bexc_ga ?_)
  refine @check_slot (model prog w) _ _ ⟨hp, g, d, t + 1, os⟩ "BaseException.__getattribute__" "BaseException" "__getattribute__" (.ref x) [.str "__class__" t] [] _ (by decide +kernel) (by decide +kernel) su (PySem.F.args_bexc_ga (.ref x) (.str "__class__" t)) ?_
  unfold Builtin.«object.__getattribute__»
  refine wpAny_bind (wpAny_of_eq (a := ((Value.ref x : Value), [Value.str "__class__" t])) (by first | rfl | (simp only [slotArgs]; rfl)) ?_)
  refine wpAny_bind (wpAny_pure (wpAny_bind (L0.at (wpAny_bind (L3.at ?_)))))
  show wpAny _ _ (holding [Value.builtin "object.__class__"] (call (.builtin "getset_descriptor.__get__") [.builtin "object.__class__", .ref x, .ref D]) >>= ret) _ _ _
  refine wpAny_bind (wpAny_holding (wpAny_call (class_get (s := ⟨hp, g, d, t + 1, os⟩) (ox := ox) (od := od) X I T.hm (wpAny_pure ?_))))
  show wpAny _ _ (handedOut (.ref D)) _ _ _
  rw [handedOut_of (v := .ref D) rfl]
  first
    | exact wpAny_pure (wpAny_pure h)
    | exact wpAny_pure h
    | exact wpAny_pure (wpAny_bind (wpAny_pure (wpAny_pure h)))
theorem ec_kit (T : EcC K D) : KitX K (.ref x) (.ref D) (fun h => InstAt h x ox D od) where
  ty := fun _ _ _ I => I.type
  it := fun _ _ X _ => by
    obtain ⟨cd, hc, _⟩ := any_some T.hd
    unfold clsIn at hc
    split at hc
    · rename_i c' d' cd' sl' ho
      intro A' Q' E' s' k q
      unfold isType loadHead
      exact wpAny_bind (wpAny_loadPart (k _ _ (X _ _ ho)) (wpAny_pure q))
    · cases hc
  ne := fun h tp dd its n sl X htp => by
    obtain ⟨cd, hc, _⟩ := any_some T.hd
    refine Bool.eq_false_iff.mpr fun q => ?_
    have e : D = tp := Value.ref.inj (beq_iff_eq.mp q)
    subst e
    unfold clsIn at hc
    split at hc
    · rename_i c' d' cd' sl' ho
      cases (X _ _ ho).symm.trans htp
    · cases hc
  ca := fun X I k => ec_class T X I k
end
end PySem.W
namespace L2
open PySem PySem.Spec PyProof.Rows
/-- isinstance(e, c), e the error that the suite holds, with a dict of its own -/
def rIsEd (K : PySem.W.Frag) (D a : Addr) (cls : Value) (d : Option Addr) : List V → Hp → VK → Prop := fun xs H Q => ∃ (c : V) (cv : Value) (b : Bool) (dd : Addr) (fs : List (Str × V)),
  xs = [.ref a, c] ∧ cls = .ref D ∧ ClsV c cv ∧ d = some dd ∧ H dd = some (.xd fs) ∧ PySem.W.kitOne K (.ref D) cv = some b ∧ Q (.bl b) H
theorem call_isEd {X : Cx} {a D : Addr} {cls : Value} {d : Option Addr} {oe : Obj} {pn : List (Addr × Obj)} (C : PySem.W.EcC X.K D) (hz : Zc cls d oe) (hf : ∃ vs, oe.data = .fields vs) :
    CallR (X.suite a ((a, oe) :: pn)) (.builtin "isinstance") (rIsEd X.K D a cls d) := by
  intro pins s σ H xs us Q I r h
  obtain ⟨c, cv, b, dd, fs, rfl, rfl, hcv, rfl, hdd, e, q⟩ := h
  cases r with
  | cons rx rr =>
    cases rr with
    | cons rt rr =>
      cases rr
      cases rx
      have ec := hcv.eq rt
      subst ec
      obtain ⟨hget, _⟩ := I.pin (a, oe) (List.mem_append.mpr (.inl List.mem_cons_self))
      obtain ⟨vs, hv⟩ := hf
      obtain ⟨mA, hns, _⟩ := (show ObjOk X.prog X.w H s.heap dd (.xd fs) from I.hok dd _ hdd)
      obtain ⟨od, ho, _⟩ := lookIn_ns hns
      have J : PySem.W.InstAt s.heap a oe D (some od) := ⟨hget, hz.1, by unfold PySem.W.notCls; rw [hv] <;> rfl, by rw [hz.2]; exact ho⟩
      exact PySem.W.kia_one (PySem.W.ec_kit C) I.kIn J e (fun z => nomatch z) fun tk => ⟨.bl b, H, I.kept (t' := tk) fun _ _ z => z, rfl, q⟩
end L2

set_option Elab.async false
set_option linter.all false
set_option maxRecDepth 100000
set_option maxHeartbeats 2000000
namespace PySem.W
open PySem PySem.Calls PyProof.Rows
section
variable {prog : Program} {w : World} {A : Around} {E : Value → Shared → Prop} {s : Shared} {K : Frag} {x C f : Addr} {ox : Obj} {od : Option Obj} {b tb : Value}
/-- != of an instance whose class writes == alone -/
theorem ne_own {Q : Value → Shared → Prop} (hu : A.units + 1 < cLine) (X : K.In s.heap) (I : InstAt s.heap x ox C od) (hb : Looks (model prog w) s.heap (typeOf b) tb) (hn : notFirst K C tb = true)
    (hs : findIn K (.ref C) "__eq__" = some (some (.ref f))) (hf : isFn K (.ref f) = true) (hne : findIn K (.ref C) "__ne__" = some (some (.builtin "object.__ne__"))) (hob : mroIn K C (.type "object") = some true)
    (h : wpAny (model prog w) A.in1 (call (.ref f) [.ref x, b]) (fun v s' => ∃ c, v = .bool c ∧ Q (.bool (!c)) s') E s) : wpAny (model prog w) A (richCompare .NotEq (.ref x) b) Q E s := by
  have SN := F.cmp_object.ne
  have sub : Looks (model prog w) s.heap (isInstance (.ref x) (.type "object")) true := I.type.andThen (looks_mroIn X hob)
  have one : wpAny (model prog w) A (tryCompare (.ref x) "__ne__" b) (fun r s' => ∃ v, r = some v ∧ Q v s') E s := by
    unfold tryCompare
    simp only [callSpecialIfBound?, bindSpecialIfBound?]
    have cal : wpAny (model prog w) A (call (.builtin "object.__ne__") [.ref x, b]) (fun v s' => ∃ c, v = .bool c ∧ Q v s') E s := by
      refine wpAny_call (codeAny_call_builtin SN.plain F.cmpEntry_ne (check_slot F.cmpKind_ne F.cmpSplit_ne sub (F.cmpArgs_ne _ _) ?_))
      unfold Builtin.«object.__ne__»
      refine wpAny_bind (wpAny_of_eq (a := ((Value.ref x : Value), [b])) (by first | rfl | (simp only [slotArgs]; rfl)) ?_)
      refine wpAny_bind (wpAny_cRoomFor hu ?_)
      refine wpAny_bind (ifBound_K X I hs hf (wpAny_mono h (fun v s' hv => ?_) fun _ _ e => e))
      obtain ⟨c, rfl, hq⟩ := hv
      exact wpAny_bind (wpAny_truthy_bool (wpAny_pure ⟨!c, rfl, hq⟩))
    refine wpAny_bind (wpAny_holding (wpAny_bind (wpAny_bind (wpAny_bind (I.type.here ((looks_findIn X hne).here ?_))))))
    refine wpAny_bind (wpAny_askSetting (wpAny_ite ?_))
    have bnd := SN.bind (.ref x)
    split
    · refine wpAny_bind (wpAny_of_eq bnd (wpAny_pure ?_))
      refine wpAny_bind (wpAny_mono cal (fun v s' hv => wpAny_pure ?_) fun _ _ e => e)
      obtain ⟨c, rfl, hq⟩ := hv
      exact wpAny_pure ⟨_, rfl, hq⟩
    · refine wpAny_tryCatch (wpAny_bind (wpAny_of_eq bnd (wpAny_pure ?_)))
      refine wpAny_bind (wpAny_mono cal (fun v s' hv => wpAny_pure ?_) fun _ _ e => e)
      obtain ⟨c, rfl, hq⟩ := hv
      exact wpAny_pure ⟨_, rfl, hq⟩
  unfold richCompare
  simp only [oneThing_ref]
  refine wpAny_holding (wpAny_bind (wpAny_cRoomFor (Nat.lt_of_succ_lt hu) ?_))
  rw [cmpInfo_NotEq]
  dsimp only
  refine wpAny_bind (I.type.here (wpAny_bind (hb.here ?_)))
  split
  · rename_i q
    have e : subIn K tb (.ref C) = some false := by
      rcases Bool.or_eq_true_iff.mp hn with e | e
      · rw [beq_iff_eq.mp e] at q; simp at q
      · exact beq_iff_eq.mp e
    refine wpAny_bind ((looks_subIn X e).here ?_)
    simp only [Bool.false_eq_true, if_false]
    refine wpAny_bind (wpAny_mono one (fun r s' z => ?_) fun _ _ e => e)
    obtain ⟨v, rfl, hq⟩ := z
    exact wpAny_pure hq
  · refine wpAny_bind (wpAny_pure ?_)
    simp only [Bool.false_eq_true, if_false]
    refine wpAny_bind (wpAny_mono one (fun r s' z => ?_) fun _ _ e => e)
    obtain ⟨v, rfl, hq⟩ := z
    exact wpAny_pure hq
end
end PySem.W
namespace L2
open PySem PySem.Spec PyProof.Rows
section
variable {X : Cx} {C f : Addr} {fd : FuncData} {ps : List Str} {n : Nat}
/-- the type of any value, as the look of the library -/
theorem TyX.look {pins : List (Addr × Obj)} {σ : St} {H : Hp} {s : Shared} {x : V} {u t : Value} (I : Inv X pins σ H s) (rx : RelV x u) (ty : TyX X.K H x t) : PySem.W.Looks (model X.prog X.w) s.heap (typeOf u) t := by
  obtain ⟨P, Z, p, _⟩ := kit_of I rx ty
  exact Z.ty _ _ I.kIn p
/-- what an own == or the like is asked: it answers with a bool -/
def rOwn (K : PySem.W.Frag) (C : Addr) (sp : Sp) (g : Bool → Bool) : R2 := fun x y H Q => ∃ (a dx : Addr) (fs : List (Str × V)) (t : Value), x = .ref a ∧ H a = some (.ins C dx fs) ∧ TyX K H y t ∧ PySem.W.notFirst K C t = true ∧
  sp [x, y] H (fun z H' => ∃ b, z = .bl b ∧ Q (.bl (g b)) H') fun _ _ _ => False
theorem run_own {A : Around} {pins : List (Addr × Obj)} {σ : St} {H : Hp} {s : Shared} {a : Addr} {y : V} {v : Value} {sp : Sp} {R : VK} {CX : CXT} (F : FnOk X.prog X.w X.K X.mg X.base CX n f fd ps sp) (hr : Room n A) (hfr : A.frames = X.A.frames) (hb : Binds X.K fd ps [])
    (hx : Passes CX X (fun _ _ _ => False)) (I : Inv X pins σ H s) (ry : RelV y v) (h : sp [.ref a, y] H R fun _ _ _ => False) :
    wpAny (model X.prog X.w) A (call (.ref f) [.ref a, v]) (EP X pins σ R) X.xe s := by
  have e0 : Env0 X.prog X.w X.K X.mg X.base A X.stack s H := by
    have e := I.env0
    exact ⟨by rw [hfr]; exact e.frames, e.mod, e.bs, e.bsz, e.funs, e.frf, e.hok, e.bare⟩
  have r2 : Vals [V.ref a, y] [Value.ref a, v] := .cons rfl (.cons ry .nil)
  have hl := F.len _ _ _ _ h
  refine wpAny_call (codeAny_mono (F.run A X.stack s H ⟨[.ref a, v], []⟩ [.ref a, v] [.ref a, y] _ _ hr e0 (by
    have := hb s [.ref a, v] I.kIn (by simpa using hl)
    simpa using this) r2 h) fun r s' hq => ?_)
  cases r with
  | error e => exact hx pins σ H s e s' I hq
  | ok fl =>
    cases fl with
    | ret u => exact I.after hq
    | next => exact False.elim hq
    | brk => exact False.elim hq
    | cont => exact False.elim hq
theorem op_eqOwn {sp : Sp} {CX : CXT} (F : FnOk X.prog X.w X.K X.mg X.base CX n f fd ps sp) (hr : Room n X.A) (hb : Binds X.K fd ps []) (hx : Passes CX X (fun _ _ _ => False))
    (hs : PySem.W.findIn X.K (.ref C) "__eq__" = some (some (.ref f))) (hf : PySem.W.isFn X.K (.ref f) = true) : OpR X (compareOp .Eq) (rOwn X.K C sp id) := by
  intro pins s σ H x y u v Q I rx ry h
  obtain ⟨a, dx, fs, t, rfl, ha, ty, nf, q⟩ := h
  cases rx
  obtain ⟨mA, J, _⟩ := ins_get I.hok ha
  obtain ⟨od, J, _⟩ := J.look
  obtain ⟨m, hF⟩ := I.fr
  show wpAny (model X.prog X.w) X.A (richCompare .Eq (.ref a) v) _ _ _
  refine PySem.W.cmp_K (op := .Eq) hr.units0 hF I.ok.mod.kin J (TyX.look I ry ty) nf hs hf ?_
  refine wpAny_mono (run_own F hr rfl hb hx I ry q) (fun z s' hz => ?_) fun _ _ e => e
  obtain ⟨z', H', I', rz, b, rfl, q'⟩ := hz
  cases rz
  exact ⟨.bl b, H', I', rfl, q'⟩
theorem op_neOwn {sp : Sp} {CX : CXT} (F : FnOk X.prog X.w X.K X.mg X.base CX n f fd ps sp) (hr : Room (n + 1) X.A) (hb : Binds X.K fd ps []) (hx : Passes CX X (fun _ _ _ => False))
    (hs : PySem.W.findIn X.K (.ref C) "__eq__" = some (some (.ref f))) (hf : PySem.W.isFn X.K (.ref f) = true) (hne : PySem.W.findIn X.K (.ref C) "__ne__" = some (some (.builtin "object.__ne__"))) (hob : PySem.W.mroIn X.K C (.type "object") = some true) :
    OpR X (compareOp .NotEq) (rOwn X.K C sp not) := by
  intro pins s σ H x y u v Q I rx ry h
  obtain ⟨a, dx, fs, t, rfl, ha, ty, nf, q⟩ := h
  cases rx
  obtain ⟨mA, J, _⟩ := ins_get I.hok ha
  obtain ⟨od, J, _⟩ := J.look
  show wpAny (model X.prog X.w) X.A (richCompare .NotEq (.ref a) v) _ _ _
  refine PySem.W.ne_own (hu_of hr) I.kIn J (TyX.look I ry ty) nf hs hf hne hob ?_
  refine wpAny_mono (run_own (A := X.A.in1) F hr.in1 rfl hb hx I ry q) (fun z s' hz => ?_) fun _ _ e => e
  obtain ⟨z', H', I', rz, b, rfl, q'⟩ := hz
  cases rz
  exact ⟨b, rfl, .bl (!b), H', I', rfl, q'⟩
end
/-! ### repr of data: where nothing is being shown -/
section
variable {X : Cx}
def rRepr (K : PySem.W.Frag) : List V → Hp → VK → Prop := fun xs H Q => ∃ (x : V) (d : PyData), xs = [x] ∧ Dp K H x d ∧ d.showable = true ∧ d.hasDict = false ∧ d.depth ≤ 40 ∧ d.shown.length ≤ sizeLine ∧ Q (.str d.shown) H
theorem call_reprD {k : Nat} (hr : Room k X.A) (hg : X.A.guards = some []) : CallR X (.builtin "repr") (rRepr X.K) := by
  intro pins s σ H xs us Q I r h
  obtain ⟨x, d, rfl, hd, hs, hn, hdp, hz, q⟩ := h
  obtain ⟨u, rfl, ru⟩ := r.one
  obtain ⟨as, rd⟩ := Dp.reads I d x u hd ru
  have hu := hr.units
  have fin : ∀ h' (u' : Tok) tk, (∀ b o, s.heap.get? b = some o → h'.get? b = some o) → EP X pins σ Q (.str d.shown u') { s with heap := h', toks := tk } := fun h' u' tk k => ⟨.str d.shown, H, I.kept (t' := tk) k, ⟨_, rfl⟩, q⟩
  cases hd with
  | non =>
    cases (show u = Value.none from ru)
    exact P.repr_of_none (fin s.heap _ _ fun _ _ e => e)
  | bl b =>
    cases (show u = Value.bool b from ru)
    exact P.repr_of_bool (fin s.heap _ _ fun _ _ e => e)
  | int i =>
    obtain ⟨t, e⟩ := (show ∃ t, u = Value.int i t from ru)
    cases e
    exact P.repr_of_int (by simpa [PyData.showable] using hs) (fin s.heap _ _ fun _ _ e => e)
  | str y =>
    obtain ⟨t, e⟩ := (show ∃ t, u = Value.str y t from ru)
    cases e
    exact P.repr_of_str (fin s.heap _ _ fun _ _ e => e) hz
  | lst h1 h2 =>
    cases ru
    exact repr_of_reads' rd hs (by rw [hn]; intro z; cases z) hg (by omega) (fun _ _ e => e) fin hz
  | tup h1 h2 =>
    cases ru
    exact repr_of_reads' rd hs (by rw [hn]; intro z; cases z) hg (by omega) (fun _ _ e => e) fin hz
end
end L2

set_option Elab.async false
set_option linter.all false
set_option maxRecDepth 100000
set_option maxHeartbeats 2000000
/-! operators, truth, text of an own class, by its own methods -/
namespace L2
open PySem PySem.Spec PyProof.Rows
theorem rref (a : Addr) : RelV (V.ref a) (Value.ref a) := rfl
theorem relv_ni {v : V} {u : Value} (r : RelV v u) : u ≠ .notImplemented := by
  intro e
  subst e
  cases v <;> first | (cases r; done) | (obtain ⟨_, h⟩ := r; cases h) | (cases r)
section
variable {X : Cx} {K : PySem.W.Frag} {C f : Addr} {fd : FuncData} {ps : List Str} {n : Nat} {sp : Sp} {CX : CXT}
theorem run_ownL {A : Around} {pins : List (Addr × Obj)} {σ : St} {H : Hp} {s : Shared} {vs : List V} {us : List Value} {R : VK} (F : FnOk X.prog X.w X.K X.mg X.base CX n f fd ps sp) (hr : Room n A) (hfr : A.frames = X.A.frames) (hb : Binds X.K fd ps [])
    (hx : Passes CX X (fun _ _ _ => False)) (I : Inv X pins σ H s) (rv : Vals vs us) (h : sp vs H R fun _ _ _ => False) :
    wpAny (model X.prog X.w) A (call (.ref f) us) (EP X pins σ R) X.xe s := by
  have e0 : Env0 X.prog X.w X.K X.mg X.base A X.stack s H := by
    have e := I.env0
    exact ⟨by rw [hfr]; exact e.frames, e.mod, e.bs, e.bsz, e.funs, e.frf, e.hok, e.bare⟩
  have hl := F.len _ _ _ _ h
  refine wpAny_call (codeAny_mono (F.run A X.stack s H ⟨us, []⟩ us vs _ _ hr e0 (by
    have := hb s us I.kIn (by rw [List.append_nil, ← rv.length]; exact hl)
    simpa using this) rv h) fun r s' hq => ?_)
  cases r with
  | error e => exact hx pins σ H s e s' I hq
  | ok fl =>
    cases fl with
    | ret u => exact I.after hq
    | next => exact False.elim hq
    | brk => exact False.elim hq
    | cont => exact False.elim hq
/-- both of the class C -/
def rOwn2 (C : Addr) (sp : Sp) : R2 := fun x y H Q => ∃ (a b dx dy : Addr) (fs gs : List (Str × V)), x = .ref a ∧ y = .ref b ∧ H a = some (.ins C dx fs) ∧ H b = some (.ins C dy gs) ∧ sp [x, y] H Q fun _ _ _ => False
def rOwn1 (C : Addr) (sp : Sp) : V → Hp → VK → Prop := fun x H Q => ∃ (a dx : Addr) (fs : List (Str × V)), x = .ref a ∧ H a = some (.ins C dx fs) ∧ sp [x] H Q fun _ _ _ => False
theorem op_binOwn {op : Operator} (F : FnOk X.prog X.w X.K X.mg X.base CX n f fd ps sp) (hr : Room n X.A) (hb : Binds X.K fd ps []) (hx : Passes CX X (fun _ _ _ => False))
    (hs : PySem.W.findIn X.K (.ref C) (PySem.dunder op.info.2) = some (some (.ref f))) (hf : PySem.W.isFn X.K (.ref f) = true) (hc : PySem.W.selfFirst X.K C = true) : OpR X (binaryOp op) (rOwn2 C sp) := by
  intro pins s σ H x y u v Q I rx ry h
  obtain ⟨a, b, dx, dy, fs, gs, rfl, rfl, ha, hb', q⟩ := h
  cases rx
  cases ry
  obtain ⟨mA, J, _⟩ := ins_get I.hok ha
  obtain ⟨od, J, _⟩ := J.look
  obtain ⟨mB, J2, _⟩ := ins_get I.hok hb'
  obtain ⟨od2, J2, _⟩ := J2.look
  obtain ⟨m, hF⟩ := I.fr
  refine PySem.W.binop_K hF I.ok.mod.kin J J2.type hc hs hf ?_
  refine wpAny_mono (run_ownL F hr rfl hb hx I (.cons (rref _) (.cons (rref _) .nil)) q) (fun z s' hz => ?_) fun _ _ e => e
  obtain ⟨z', H', I', rz, q'⟩ := hz
  have := relv_ni rz
  cases z <;> first | exact (this rfl).elim | exact ⟨z', H', I', rz, q'⟩
theorem op_cmpOwn {op : CmpOp} (F : FnOk X.prog X.w X.K X.mg X.base CX n f fd ps sp) (hr : Room n X.A) (hb : Binds X.K fd ps []) (hx : Passes CX X (fun _ _ _ => False)) (ho : ∀ a b, compareOp op a b = richCompare op a b)
    (hs : PySem.W.findIn X.K (.ref C) (cmpInfo op).2.1 = some (some (.ref f))) (hf : PySem.W.isFn X.K (.ref f) = true) (hn : PySem.W.notFirst X.K C (.ref C) = true) : OpR X (compareOp op) (rOwn2 C sp) := by
  intro pins s σ H x y u v Q I rx ry h
  obtain ⟨a, b, dx, dy, fs, gs, rfl, rfl, ha, hb', q⟩ := h
  cases rx
  cases ry
  obtain ⟨mA, J, _⟩ := ins_get I.hok ha
  obtain ⟨od, J, _⟩ := J.look
  obtain ⟨mB, J2, _⟩ := ins_get I.hok hb'
  obtain ⟨od2, J2, _⟩ := J2.look
  obtain ⟨m, hF⟩ := I.fr
  rw [ho]
  refine PySem.W.cmp_K hr.units0 hF I.ok.mod.kin J J2.type hn hs hf ?_
  refine wpAny_mono (run_ownL F hr rfl hb hx I (.cons (rref _) (.cons (rref _) .nil)) q) (fun z s' hz => ?_) fun _ _ e => e
  obtain ⟨z', H', I', rz, q'⟩ := hz
  have := relv_ni rz
  cases z <;> first | exact (this rfl).elim | exact ⟨z', H', I', rz, q'⟩
theorem un_invOwn (F : FnOk X.prog X.w X.K X.mg X.base CX n f fd ps sp) (hr : Room n X.A) (hb : Binds X.K fd ps []) (hx : Passes CX X (fun _ _ _ => False))
    (hs : PySem.W.findIn X.K (.ref C) "__invert__" = some (some (.ref f))) (hf : PySem.W.isFn X.K (.ref f) = true) : UnR X (unaryOp .Invert) (rOwn1 C sp) := by
  intro pins s σ H x u Q I rx h
  obtain ⟨a, dx, fs, rfl, ha, q⟩ := h
  cases rx
  obtain ⟨mA, J, _⟩ := ins_get I.hok ha
  obtain ⟨od, J, _⟩ := J.look
  obtain ⟨m, hF⟩ := I.fr
  exact PySem.W.ksp_inv hF I.ok.mod.kin J hs hf (run_ownL F hr rfl hb hx I (.cons (rref _) .nil) q)
/-- v in o, o's class with __contains__ that answers with a bool -/
def rInOwn (C : Addr) (sp : Sp) (g : Bool → Bool) : R2 := fun x y H Q => ∃ (a dx : Addr) (fs : List (Str × V)), y = .ref a ∧ H a = some (.ins C dx fs) ∧ sp [y, x] H (fun z H' => ∃ b, z = .bl b ∧ Q (.bl (g b)) H') fun _ _ _ => False
theorem op_inOwn (F : FnOk X.prog X.w X.K X.mg X.base CX n f fd ps sp) (hr : Room n X.A) (hb : Binds X.K fd ps []) (hx : Passes CX X (fun _ _ _ => False))
    (hs : PySem.W.findIn X.K (.ref C) "__contains__" = some (some (.ref f))) (hf : PySem.W.isFn X.K (.ref f) = true) : OpR X (compareOp .In) (rInOwn C sp id) := by
  intro pins s σ H x y u v Q I rx ry h
  obtain ⟨a, dx, fs, rfl, ha, q⟩ := h
  cases ry
  obtain ⟨mA, J, _⟩ := ins_get I.hok ha
  obtain ⟨od, J, _⟩ := J.look
  obtain ⟨m, hF⟩ := I.fr
  refine PySem.W.in_K hF I.ok.mod.kin J hs hf ?_
  refine wpAny_mono (run_ownL F hr rfl hb hx I (.cons (rref _) (.cons rx .nil)) q) (fun z s' hz => ?_) fun _ _ e => e
  obtain ⟨z', H', I', rz, b, rfl, q'⟩ := hz
  cases rz
  exact wpAny_truthy_bool ⟨.bl b, H', I', rfl, q'⟩
theorem op_ninOwn (F : FnOk X.prog X.w X.K X.mg X.base CX n f fd ps sp) (hr : Room n X.A) (hb : Binds X.K fd ps []) (hx : Passes CX X (fun _ _ _ => False))
    (hs : PySem.W.findIn X.K (.ref C) "__contains__" = some (some (.ref f))) (hf : PySem.W.isFn X.K (.ref f) = true) : OpR X (compareOp .NotIn) (rInOwn C sp not) := by
  intro pins s σ H x y u v Q I rx ry h
  obtain ⟨a, dx, fs, rfl, ha, q⟩ := h
  cases ry
  obtain ⟨mA, J, _⟩ := ins_get I.hok ha
  obtain ⟨od, J, _⟩ := J.look
  obtain ⟨m, hF⟩ := I.fr
  refine PySem.W.notIn_K hF I.ok.mod.kin J hs hf ?_
  refine wpAny_mono (run_ownL F hr rfl hb hx I (.cons (rref _) (.cons rx .nil)) q) (fun z s' hz => ?_) fun _ _ e => e
  obtain ⟨z', H', I', rz, b, rfl, q'⟩ := hz
  cases rz
  exact wpAny_truthy_bool ⟨.bl (!b), H', I', rfl, q'⟩
/-- str(o) by the class's __str__ -/
def rStrOwn (C : Addr) (sp : Sp) : List V → Hp → VK → Prop := fun xs H Q => ∃ (a dx : Addr) (fs : List (Str × V)), xs = [.ref a] ∧ H a = some (.ins C dx fs) ∧ sp [.ref a] H (fun z H' => ∃ x, z = .str x ∧ Q (.str x) H') fun _ _ _ => False
theorem call_strOwn (F : FnOk X.prog X.w X.K X.mg X.base CX n f fd ps sp) (hr : Room (n + 2) X.A) (hb : Binds X.K fd ps []) (hx : Passes CX X (fun _ _ _ => False))
    (hs : PySem.W.findIn X.K (.ref C) "__str__" = some (some (.ref f))) (hf : PySem.W.isFn X.K (.ref f) = true) : CallR X (.type "str") (rStrOwn C sp) := by
  intro pins s σ H xs us Q I r h
  obtain ⟨a, dx, fs, e, ha, q⟩ := h
  subst e
  obtain ⟨u, eu, rx⟩ := vals1 r
  subst eu
  cases rx
  obtain ⟨mA, J, _⟩ := ins_get I.hok ha
  obtain ⟨od, J, _⟩ := J.look
  refine PySem.W.kso_call hr.in1.in1.units0 I.kIn J hs hf ?_
  refine wpAny_mono (run_ownL (A := X.A.in1.in1) F hr.in1.in1 rfl hb hx I (.cons (rref _) .nil) q) (fun z s' hz => ?_) fun _ _ e => e
  obtain ⟨z', H', I', rz, x, rfl, q'⟩ := hz
  obtain ⟨t, rfl⟩ := rz
  exact ⟨.str x, H', I', ⟨t, rfl⟩, q'⟩
end
end L2

set_option Elab.async false
set_option linter.all false
set_option maxRecDepth 100000
set_option maxHeartbeats 2000000
namespace L2
open PySem PySem.Spec PyProof.Rows
/-- a promise that is kept where nothing is being shown -/
structure FnG (P : Program) (w : World) (K : PySem.W.Frag) (mg : Str → Option Value) (base : Heap) (k : Nat) (f : Addr) (fd : FuncData) (ps : List Str) (sp : Sp) : Prop where
  len : ∀ vs H Q E, sp vs H Q E → vs.length = ps.length
  run : ∀ (A : Around) (outer : List Env) (s : Shared) (H : Hp) (args : Args) (us : List Value) (vs : List V) (Q : VK) (E : XK), A.guards = some [] → Room k A → Env0 P w K mg base A outer s H → BindsTo s fd args (ps.zip us) → Vals vs us → sp vs H Q E →
    codeAny (model P w) A (.call (.ref f) args) (CR CX0 outer P w H s Q E) s
section
variable {P : Program} {w : World} {K : PySem.W.Frag} {mg : Str → Option Value} {base : Heap}
theorem Fun.okG {x qual : Str} {st : Stmt} {f : Addr} {fd : FuncData} {N ps : List Str} {k : Nat} {sp : Sp} (F : Fun K x qual st f fd) (S : FnScope N ps (defScope st)) (len : ∀ vs H Q E, sp vs H Q E → vs.length = ps.length)
    (hbody : ∀ (cdv : Value) (A : Around) (outer : List Env) (s : Shared) (H : Hp) (vs : List V) (Q : VK) (E : XK), (A.deeper (envOfC qual (defScope st) s.heap.objs.size f cdv)).guards = some [] →
      Room k (A.deeper (envOfC qual (defScope st) s.heap.objs.size f cdv)) → sp vs H Q E →
      ∃ t, PSs (cxOf CX0 P w K mg base N qual (defScope st) f cdv A outer s H E).nox (defBody st) t ∧ t { nx := fun _ H' => Q .non H', rt := Q } (start N vs) H) : FnG P w K mg base (k + 1) f fd ps sp := by
  obtain ⟨oc, od, kV, doc, pm, an, cdv, ct, osl, rfl, lk, hcd⟩ := F.ex
  refine ⟨len, fun A outer s H args us vs Q E hg hr e0 hb r hsp => ?_⟩
  -- at this one A the promise's own walk is the plain one's: it asks the body at A alone
  have hl := len _ _ _ _ hsp
  have kin : K.In s.heap := e0.mod.kin.keeps fun b o e => (e0.bs b o e).1
  have lim : s.heap.NoLimit := e0.mod.nolimit.keeps fun b o e => (e0.bs b o e).1
  have hkd : ∀ y ∈ ps.zip us, (defScope st).names.lookup y.1 = some .local ∨ ((defScope st).names.lookup y.1 = some .cell ∧ ((cellsFrom (s.heap.objs.size + 1) (defScope st).names []).lookup y.1).isSome = true) := fun y hy => by
    rcases S.par y.1 (List.of_mem_zip hy).1 with q | q
    · exact .inl q
    · exact .inr ⟨q, PySem.W.cellsFrom_some _ _ _ (.inl q)⟩
  refine codeAny_call_function hr.depth (kin _ _ lk) rfl S.co S.gen rfl (PySem.W.codeRec_of kin hcd) (hb _ _ _ _ (wpAny_newFunctionEnv_cells S.kind hkd fun env he s1 x => ?_))
  subst he
  refine ⟨lim.keeps x.toInCall.keep, codeAny_func ?_⟩
  obtain ⟨t, ht, hq⟩ := hbody cdv A outer s H vs Q E hg (hr.deeper _) hsp
  have I : Inv (cxOf CX0 P w K mg base N qual (defScope st) f cdv A outer s H E) [] (start N vs) H s1 := inv_start S hr.hd e0 hl r x
  refine wpAny_mono (ht.nox.run [] s1 (start N vs) H _ I hq) (fun fl s' hs => ?_) fun e s' hs => hs
  cases fl with
  | ret u =>
    obtain ⟨v, σ', H', J, rv, q⟩ := hs
    exact ⟨v, H', J.os, J.bare, J.base, J.hok, rv, q⟩
  | next =>
    obtain ⟨σ', H', J, q⟩ := hs
    exact ⟨V.non, H', J.os, J.bare, J.base, J.hok, rfl, q⟩
  | brk => exact hs.elim fun _ z => z.elim fun _ z => False.elim z.2
  | cont => exact hs.elim fun _ z => z.elim fun _ z => False.elim z.2
end
/-- the plain promise, of the caller's frame alone -/
theorem FnG.at {P : Program} {w : World} {K : PySem.W.Frag} {mg : Str → Option Value} {base : Heap} {k : Nat} {f : Addr} {fd : FuncData} {ps : List Str} {sp : Sp} (F : FnG P w K mg base k f fd ps sp) {s : Shared} {H : Hp} {args : Args} {us : List Value} {vs : List V} {Q : VK} {E : XK}
    (hr : Room k callerA) (e0 : Env0 P w K mg base callerA [] s H) (hb : BindsTo s fd args (ps.zip us)) (r : Vals vs us) (h : sp vs H Q E) : codeAny (model P w) callerA (.call (.ref f) args) (CR CX0 [] P w H s Q E) s :=
  F.run callerA [] s H args us vs Q E rfl hr e0 hb r h
theorem law_callG {P : Program} {w : World} {K : PySem.W.Frag} {mg mb : Str → Option Value} {k : Nat} {fa a : Addr} {fd : FuncData} {x : Str} {sp : Sp} {s1 : Shared} {vs : List Value} {ns : List Int}
    (kin : K.In s1.heap) (hns : s1.heap.Ns mainGlobals mg) (hb : s1.heap.Ns builtinsNs mb) (hbb : ∀ x : Str, x ≠ "__name__" → mb x = bootBuiltins x) (hlim : s1.heap.NoLimit) (hg : s1.gens = #[])
    (ha : s1.heap.get? a = some { cls := .type "list", data := .seq vs.toArray }) (hi : IntsAre vs ns) (hl : ns.length ≤ sizeLine) (hr : Room k callerA)
    (F : ∀ base : Heap, K.In base → base.Ns mainGlobals mg → FnG P w K mg base k fa fd [x] sp) (hbind : ∀ (s : Shared) (u : Value), BindsTo s fd ⟨[u], []⟩ [(x, u)])
    (hsp : ∀ H : Hp, Only H → SqL K H a (ns.map V.int) → sp [.ref a] H (fun v _ => v = .bl true) fun _ _ _ => False) :
    codeAny (model P w) callerA (.call (.ref fa) ⟨[.ref a], []⟩) (fun r s' => r = .ok (.ret (.bool true)) ∧ OldK s1.heap s'.heap ∧ s'.os = s1.os ∧ AllBare s'.gens) s1 := by
  have rv := vals_ints hi
  have core : ∀ H : Hp, Only H → SqL K H a (ns.map V.int) → HOk P w H s1.heap → (∀ b, H b ≠ none → b = a) → (H a ≠ none → K.lookup a = none) →
      codeAny (model P w) callerA (.call (.ref fa) ⟨[.ref a], []⟩) (fun r s' => r = .ok (.ret (.bool true)) ∧ OldK s1.heap s'.heap ∧ s'.os = s1.os ∧ AllBare s'.gens) s1 := by
    intro H hO hS hok hA hK
    have free : ∀ {b : Addr} {o : Obj}, s1.heap.get? b = some o → (b = a → False) → H b = none := fun {b o} _ n => by
      cases q : H b with
      | none => rfl
      | some u => exact (n (hA b (by rw [q]; simp))).elim
    have nsK : ∀ {b : Addr} {m : Str → Option Value}, s1.heap.Ns b m → (hidT s1.heap H).Ns b m := fun {b m} ⟨o, es, ep, e, d, r⟩ => ⟨o, es, ep, hidT_get e (free e fun z => by
      subst z
      rw [ha] at e
      cases e
      have d' : Data.seq vs.toArray _ = Data.dict es ep := d
      cases d'), d, r⟩
    have hKb : K.In (hidT s1.heap H) := fun b o e => hidT_get (kin b o e) (by
      cases q : H b with
      | none => rfl
      | some u =>
        have z : b = a := hA b (by rw [q]; simp)
        subst z
        rw [hK (by rw [q]; simp)] at e
        cases e)
    have hM : Mod K mg (hidT s1.heap H) := ⟨hKb, nsK hns, ⟨mb, nsK hb, hbb⟩, let ⟨mc, h1, h2⟩ := hlim; ⟨mc, nsK h1, h2⟩⟩
    have e0 : Env0 P w K mg (hidT s1.heap H) callerA [] s1 H := ⟨rfl, hM, fun b o e => of_hidT e, Nat.le_of_eq (hidT_size _ _), trivial, fun b z => absurd (show b ∈ ([] : List Addr) from z) (by simp), hok, .of_eq hg⟩
    refine codeAny_mono ((F _ hKb (nsK hns)).at (us := [.ref a]) (vs := [.ref a]) hr e0 (hbind s1 (.ref a)) (.cons rfl .nil) (hsp H hO hS)) fun r s' h => ?_
    cases r with
    | error e => exact h.elim
    | ok fl =>
      cases fl with
      | ret u =>
        obtain ⟨v, H', os, bare, un, hok', r', q⟩ := h
        have q' : v = .bl true := q
        subst q'
        obtain rfl : u = Value.bool true := r'
        refine ⟨rfl, OldK.of_keep fun b o e => ?_, os, bare⟩
        cases q : H b with
        | none => exact un.keep b o e q (by intro z; exact absurd (show b ∈ ([] : List Addr) from z) (by simp)) (by simp)
        | some u =>
          rcases hO b with z | ⟨ob, xs, z⟩
          · rw [q] at z; cases z
          · have z2 := un.frzs b ob _ z
            obtain ⟨e1, _⟩ := hok b _ z
            obtain ⟨e2, _⟩ := hok' b _ z2
            rw [e] at e1; cases e1
            exact e2
      | next => exact h.elim
      | brk => exact h.elim
      | cont => exact h.elim
  cases hk : K.lookup a with
  | some o =>
    have e := kin a o hk
    rw [ha] at e
    cases e
    exact core (fun _ => none) (fun _ => .inl rfl) (.inr ⟨_, vs.toArray, _, hk, rfl, rfl, rfl, by rw [List.size_toArray, hi.length]; exact hl, by simpa using rv⟩)
      (fun b u z => by have z' : (none : Option HO) = some u := z; cases z') (fun b z => absurd rfl z) fun z => absurd rfl z
  | none =>
    refine core (fun b => if b = a then some (.frz { cls := .type "list", data := .seq vs.toArray } (.lst (ns.map V.int))) else none) (fun b => ?_) (.inl (.inr ⟨{ cls := .type "list", data := .seq vs.toArray }, if_pos rfl⟩)) (fun b u z => ?_) (fun b z => ?_) fun _ => hk
    · by_cases hb : b = a
      · exact .inr ⟨_, _, if_pos hb⟩
      · exact .inl (if_neg hb)
    · by_cases hb : b = a
      · cases (if_pos hb).symm.trans z
        subst hb
        exact ⟨ha, by rw [List.length_map]; exact hl, vs, _, rv, ha⟩
      · cases (if_neg hb).symm.trans z
    · by_cases hb : b = a
      · exact hb
      · exact absurd (if_neg hb) z
theorem walk_ofG {l : PySem.W.OpenLaw} {n k : Nat} {q : Program} {loose : List Str} {XP : (Str → Option Value) → Heap → Prop} {YP : World → Heap → Prop} {d : DefRec} {K : Params → PySem.W.Frag} {sp : PySem.W.Frag → Sp} {x : Str}
    (hn : l.most = some n) (hn2 : n ≤ sizeLine) (hdf : d.params.defaults = []) (hr : Room k callerA) (hY : ∀ (w : World) (h : Heap), YP w h → (K w.params).In h)
    (F : ∀ (w : World) (mg : Str → Option Value) (fa : Addr) (h : Heap), (K w.params).In h → h.Ns mainGlobals mg → mg d.name = some (.ref fa) →
      ∃ fd : FuncData, (∀ (s : Shared) (u : Value), BindsTo s fd ⟨[u], []⟩ [(x, u)]) ∧ ∀ base : Heap, (K w.params).In base → base.Ns mainGlobals mg → FnG l.prog w (K w.params) mg base k fa fd [x] (sp (K w.params)))
    (hsp : ∀ (K : PySem.W.Frag) (H : Hp) (a : Addr) (ns : List Int), ns.length ≤ n → Only H → SqL K H a (ns.map V.int) → sp K [.ref a] H (fun v _ => v = .bl true) fun _ _ _ => False) :
    PySem.W.WalkO q loose XP YP l.row.toRowW d [] (fun f vs => PySem.call f vs) := by
  refine Att.attach_call hn hdf fun w s0 s1 mg mb fa o pm cd doc a vs ns G Y ho hd hcd hmg hobj hints hlen hg => ?_
  obtain ⟨fd, hb, hF⟩ := F w mg fa _ (hY w _ Y) G.T.g hmg
  exact law_callG (hY w _ Y) G.T.g G.T.b G.T.builtins G.T.nolimit hg hobj hints (Nat.le_trans hlen hn2) hr hF hb fun H hO hS => hsp _ H a ns hlen hO hS
section
variable {X : Cx} {CX : CXT} {k : Nat} {f C : Addr} {fd : FuncData} {ps : List Str} {ds : List Value} {dvs : List V} {sp : Sp} {x : Str} {p pos : Pos} {e : Expr} {es : List Expr} {t : TA} {E : St → XK}
/-- C(e, ..) where what is raised is wished for at the slots -/
def tMakeS (C : Addr) (sp : Sp) (dvs : List V) (E : St → XK) (t : TA) : TE := fun σ H Q => t σ H fun vs H1 => ∀ x dx, H1 x = none → H1 dx = none → dx ≠ x →
  sp (.ref x :: (vs ++ dvs)) (upd (upd H1 dx (.own x)) x (.ins C dx [])) (fun v H2 => v = .non ∧ Q (.ref x) H2) (E σ)
theorem pe_makeS (M : Mk X.K C f) (F : FnOk X.prog X.w X.K X.mg X.base CX k f fd ps sp) (hr : Room (k + 1) X.A) (hg : Gl X x) (hm : X.mg x = some (.ref C)) (hb : Binds X.K fd ps ds) (hd : Vals dvs ds) (hx : ∀ σ, PassesAt CX X σ (E σ))
    (ha : PA X (e :: es) t) (hdb : (x == ("__debug__" : Str)) = false := by decide) (he : starEach (e :: es) X.env = (false, eval e X.env) :: starEach es X.env := by rfl) (hpl : (backTo pos (starEach es X.env)).any (·.1) = false := by rfl) :
    PE X (.Call (.Name x p) (e :: es) [] pos) (tMakeS C sp dvs E t) := by
  refine ⟨fun pins s0 σ H0 Q I0 h0 => wpAny_Call_Name_kw (ld_glob I0 hg hm ?_ hdb)⟩
  refine PySem.W.callWith_K (h₀ := X.base) I0.ok.mod.kin M.kp (thn (ha.run pos pins s0 σ H0 _ I0 h0) fun us s ⟨vs, H, I, r, h⟩ => ⟨I.kIn, ?_⟩) he hpl
  have hq := h (s.heap.objs.size + 1) s.heap.objs.size (I.hok.fresh (Nat.le_succ _)) (I.hok.fresh (Nat.le_refl _)) (Nat.ne_of_lt (Nat.lt_succ_self _))
  have I2 := Inv.made (C := C) I
  have r2 : Vals (V.ref (s.heap.objs.size + 1) :: (vs ++ dvs)) (Value.ref (s.heap.objs.size + 1) :: (us ++ ds)) := .cons rfl (r.append hd)
  have hl : (Value.ref (s.heap.objs.size + 1) :: us ++ ds).length = ps.length := r2.length.symm.trans (F.len _ _ _ _ hq)
  refine wpAny_call (make_map (f := f) I.kIn M.makes M.init (beq_iff_eq.mp M.fn) (codeAny_mono (F.run _ X.stack _ _ ⟨Value.ref (s.heap.objs.size + 1) :: us, []⟩ (Value.ref (s.heap.objs.size + 1) :: (us ++ ds)) _ _ (E σ) (hr.make C us [])
    (I2.env0.make C us []) (hb _ (Value.ref (s.heap.objs.size + 1) :: us) I2.kIn hl) r2 hq) fun r s' z => ?_))
  cases r with
  | error e => exact hx σ pins _ _ e s' I2 z
  | ok fl =>
    cases fl with
    | ret u =>
      obtain ⟨v, H', I3, rv, ev, q3⟩ := I2.after z
      subst ev
      exact ⟨rv, ⟨V.ref (s.heap.objs.size + 1), H', I3, rfl, q3⟩⟩
    | next => exact False.elim z
    | brk => exact False.elim z
    | cont => exact False.elim z
end
end L2

set_option Elab.async false
set_option linter.all false
set_option maxRecDepth 100000
set_option maxHeartbeats 1000000
namespace L2
open PySem
/-! comprehensions whose turns change nothing that is tracked -/
theorem take_fm {α β : Type} (o : α → Option β) {xs : List α} {i : Nat} {x : α} (h : xs[i]? = some x) : (xs.take (i + 1)).filterMap o = (xs.take i).filterMap o ++ (o x).toList := by
  have hi : i < xs.length := (List.getElem?_eq_some_iff.mp h).1
  have e : xs[i] = x := (List.getElem?_eq_some_iff.mp h).2
  rw [List.take_succ_eq_append_getElem hi, List.filterMap_append, e]
  cases q : o x <;> simp [q]
theorem fm_len {α β : Type} (o : α → Option β) (xs : List α) (i : Nat) : ((xs.take i).filterMap o).length ≤ xs.length :=
  Nat.le_trans (List.length_filterMap_le _ _) (by rw [List.length_take]; exact Nat.min_le_right _ _)
section
variable {K : PySem.W.Frag} {a : Addr} {xs : List V} {g : TG} {tt : TT} {te : TE} {vs : List Nat} {σ : St} {H1 : Hp} {D : Addr} {Qd : Hp → Prop}
theorem lc_fmL (nD : H1 D = none) (hl : SqL K H1 a xs) (hz : xs.length < 100000) (o : V → Option V)
    (hs : ∀ (i : Nat) (x : V) (H : Hp) (Nx : Hp → Prop), xs[i]? = some x → Same H1 H → (∀ H' y, Same H H' → o x = some y → ∃ acc, H' D = some (.lst acc) ∧ acc.length < sizeLine ∧ Nx (upd H' D (.lst (acc ++ [y])))) → (∀ H', Same H H' → o x = none → Nx H') →
      g x (wipe σ vs) H fun σ2 H2 => wipe σ2 vs = wipe σ vs ∧ tt σ2 H2 fun b H3 => if b = true then te σ2 H3 fun y H4 => ∃ acc, H4 D = some (.lst acc) ∧ acc.length < sizeLine ∧ Nx (upd H4 D (.lst (acc ++ [y]))) else Nx H3)
    (hd : ∀ H, Same H1 H → H D = some (.lst (xs.filterMap o)) → Qd H) :
    ∃ W : Nat → Nat → Hp → Prop, (∃ m, W 0 m (upd H1 D (.lst []))) ∧ ∀ i m H, W i m H →
      ((Itl K a).stop i H ∧ Qd H) ∨ ((Itl K a).go i H ∧ ∃ Nx : Hp → Prop, (∀ H', Nx H' → ∃ m', m' < m ∧ W (i + 1) m' H') ∧ ∀ x H', (Itl K a).yld i H x H' → g x (wipe σ vs) H' fun σ2 H2 => wipe σ2 vs = wipe σ vs ∧ tt σ2 H2 fun b H3 =>
        if b = true then te σ2 H3 fun y H4 => ∃ acc, H4 D = some (.lst acc) ∧ acc.length < sizeLine ∧ Nx (upd H4 D (.lst (acc ++ [y]))) else Nx H3) := by
  have sm : Same H1 (upd H1 D (.lst [])) := fun b x e => by rw [upd_ne (ne_of_none e nD)]; exact e
  refine lc_list (Pv := fun i H => Same H1 H ∧ H D = some (.lst ((xs.take i).filterMap o))) ⟨sm, upd_same⟩ (fun i H _ h => h.1.seq hl) (fun i x H hx h => ?_) (fun H h => ?_)
  · refine hs i x H _ hx h.1 (fun H' y s e => ⟨_, s _ _ h.2, ?_, fun b z q => ?_, ?_⟩) (fun H' s e => ⟨h.1.trans s, ?_⟩)
    · exact Nat.lt_of_le_of_lt (fm_len o xs i) (Nat.lt_trans hz (by decide))
    · rw [upd_ne (ne_of_none q nD)]
      exact s _ _ (h.1 _ _ q)
    · rw [upd_same, take_fm o hx, e]
      rfl
    · rw [s _ _ h.2, take_fm o hx, e]
      simp
  · exact hd H h.1 (by rw [h.2, List.take_length])
theorem lc_fmT (nD : H1 D = none) (hl : SqT K H1 a xs) (hz : xs.length < 100000) (o : V → Option V)
    (hs : ∀ (i : Nat) (x : V) (H : Hp) (Nx : Hp → Prop), xs[i]? = some x → Same H1 H → (∀ H' y, Same H H' → o x = some y → ∃ acc, H' D = some (.lst acc) ∧ acc.length < sizeLine ∧ Nx (upd H' D (.lst (acc ++ [y])))) → (∀ H', Same H H' → o x = none → Nx H') →
      g x (wipe σ vs) H fun σ2 H2 => wipe σ2 vs = wipe σ vs ∧ tt σ2 H2 fun b H3 => if b = true then te σ2 H3 fun y H4 => ∃ acc, H4 D = some (.lst acc) ∧ acc.length < sizeLine ∧ Nx (upd H4 D (.lst (acc ++ [y]))) else Nx H3)
    (hd : ∀ H, Same H1 H → H D = some (.lst (xs.filterMap o)) → Qd H) :
    ∃ W : Nat → Nat → Hp → Prop, (∃ m, W 0 m (upd H1 D (.lst []))) ∧ ∀ i m H, W i m H →
      ((Itt K a).stop i H ∧ Qd H) ∨ ((Itt K a).go i H ∧ ∃ Nx : Hp → Prop, (∀ H', Nx H' → ∃ m', m' < m ∧ W (i + 1) m' H') ∧ ∀ x H', (Itt K a).yld i H x H' → g x (wipe σ vs) H' fun σ2 H2 => wipe σ2 vs = wipe σ vs ∧ tt σ2 H2 fun b H3 =>
        if b = true then te σ2 H3 fun y H4 => ∃ acc, H4 D = some (.lst acc) ∧ acc.length < sizeLine ∧ Nx (upd H4 D (.lst (acc ++ [y]))) else Nx H3) := by
  have sm : Same H1 (upd H1 D (.lst [])) := fun b x e => by rw [upd_ne (ne_of_none e nD)]; exact e
  have st : ∀ H, Same H1 H → SqT K H a xs := fun H s => by
    rcases hl with (h | ⟨ob, h⟩) | h
    · exact .inl (.inl (s _ _ h))
    · exact .inl (.inr ⟨ob, s _ _ h⟩)
    · exact .inr h
  refine lc_tup (Pv := fun i H => Same H1 H ∧ H D = some (.lst ((xs.take i).filterMap o))) ⟨sm, upd_same⟩ (fun i H _ h => st H h.1) (fun i x H hx h => ?_) (fun H h => ?_)
  · refine hs i x H _ hx h.1 (fun H' y s e => ⟨_, s _ _ h.2, ?_, fun b z q => ?_, ?_⟩) (fun H' s e => ⟨h.1.trans s, ?_⟩)
    · exact Nat.lt_of_le_of_lt (fm_len o xs i) (Nat.lt_trans hz (by decide))
    · rw [upd_ne (ne_of_none q nD)]
      exact s _ _ (h.1 _ _ q)
    · rw [upd_same, take_fm o hx, e]
      rfl
    · rw [s _ _ h.2, take_fm o hx, e]
      simp
  · exact hd H h.1 (by rw [h.2, List.take_length])
theorem lc_fmR {lo : Int} {n : Nat} (nD : H1 D = none) (hz : n < 100000) (o : Nat → Option V)
    (hs : ∀ (i : Nat) (H : Hp) (Nx : Hp → Prop), i < n → Same H1 H → (∀ H' y, Same H H' → o i = some y → ∃ acc, H' D = some (.lst acc) ∧ acc.length < sizeLine ∧ Nx (upd H' D (.lst (acc ++ [y])))) → (∀ H', Same H H' → o i = none → Nx H') →
      g (.int (lo + i)) (wipe σ vs) H fun σ2 H2 => wipe σ2 vs = wipe σ vs ∧ tt σ2 H2 fun b H3 => if b = true then te σ2 H3 fun y H4 => ∃ acc, H4 D = some (.lst acc) ∧ acc.length < sizeLine ∧ Nx (upd H4 D (.lst (acc ++ [y]))) else Nx H3)
    (hd : ∀ H, Same H1 H → H D = some (.lst ((List.range n).filterMap o)) → Qd H) :
    ∃ W : Nat → Nat → Hp → Prop, (∃ m, W 0 m (upd H1 D (.lst []))) ∧ ∀ i m H, W i m H →
      ((Itr lo n).stop i H ∧ Qd H) ∨ ((Itr lo n).go i H ∧ ∃ Nx : Hp → Prop, (∀ H', Nx H' → ∃ m', m' < m ∧ W (i + 1) m' H') ∧ ∀ x H', (Itr lo n).yld i H x H' → g x (wipe σ vs) H' fun σ2 H2 => wipe σ2 vs = wipe σ vs ∧ tt σ2 H2 fun b H3 =>
        if b = true then te σ2 H3 fun y H4 => ∃ acc, H4 D = some (.lst acc) ∧ acc.length < sizeLine ∧ Nx (upd H4 D (.lst (acc ++ [y]))) else Nx H3) := by
  have sm : Same H1 (upd H1 D (.lst [])) := fun b x e => by rw [upd_ne (ne_of_none e nD)]; exact e
  have rg : ∀ i, i < n → (List.range n)[i]? = some i := fun i hi => by simp [hi]
  refine lc_range (Pv := fun i H => Same H1 H ∧ H D = some (.lst (((List.range n).take i).filterMap o))) ⟨sm, upd_same⟩ (fun i H hi h => ?_) (fun H h => ?_)
  · refine hs i H _ hi h.1 (fun H' y s e => ⟨_, s _ _ h.2, ?_, fun b z q => ?_, ?_⟩) (fun H' s e => ⟨h.1.trans s, ?_⟩)
    · exact Nat.lt_of_le_of_lt (fm_len o _ i) (by rw [List.length_range]; exact Nat.lt_trans hz (by decide))
    · rw [upd_ne (ne_of_none q nD)]
      exact s _ _ (h.1 _ _ q)
    · rw [upd_same, take_fm o (rg i hi), e]
      rfl
    · rw [s _ _ h.2, take_fm o (rg i hi), e]
      simp
  · exact hd H h.1 (by rw [h.2]; congr 2; rw [List.take_of_length_le (by simp)])
/-- a list or a tuple walked -/
def iSeq (K : PySem.W.Frag) (tl : TE) : TI := fun σ H R => tl σ H fun x H1 => ∃ (a : Addr) (xs : List V), x = .ref a ∧ ((SqL K H1 a xs ∧ R (Itl K a) H1) ∨ (SqT K H1 a xs ∧ R (Itt K a) H1))
theorem piSK {X : Cx} {tg l : Expr} {tl : TE} (h : X.K = K) (hl : PE X l tl) : PI X tg l (iSeq K tl) := by
  subst h
  refine ⟨fun pins s σ H R I h => ?_⟩
  refine thn (hl.run pins s σ H _ I h) fun v s1 ⟨x, H1, I1, r1, a, xs, e, q⟩ => ?_
  subst e
  cases r1
  have fp : ∀ b ∈ [s1.heap.objs.size], FpOk X pins H1 b := fun b hb => by
    have e : b = s1.heap.objs.size := by simpa using hb
    subst e
    exact I1.fpOk (Nat.le_refl _) (I1.hok.fresh (Nat.le_refl _))
  rcases q with ⟨hq, q⟩ | ⟨hq, q⟩
  · obtain ⟨its, rv, p, hz⟩ := I1.list hq
    exact wpAny_pyIter_list p.isList ⟨_, [s1.heap.objs.size], _, _, H1, rfl, I1.kept (t' := s1.toks) fun b o e => Heap.get?_push_of_some _ e, turn_list a _, ⟨_, Heap.get?_push_size _ rfl, rfl, rfl⟩, fp, q⟩
  · obtain ⟨its, rv, p, hz⟩ := I1.tuple hq
    exact wpAny_pyIter_tuple (show s1.heap.IsTuple a its.toArray from p) ⟨_, [s1.heap.objs.size], _, _, H1, rfl, I1.kept (t' := s1.toks) fun b o e => Heap.get?_push_of_some _ e, turn_tuple a _, ⟨_, Heap.get?_push_size _ rfl, rfl, rfl⟩, fp, q⟩
theorem lc_seqV {H : Hp} {Q : VK} {k : Nat} (hv : σ[k]? = some (some (.ref a))) (hl : SqL K H a xs ∨ SqT K H a xs) (hz : xs.length < 100000) (o : V → Option V)
    (hs : ∀ (D : Addr) (i : Nat) (x : V) (H1 : Hp) (Nx : Hp → Prop), H D = none → xs[i]? = some x → Same H H1 → (∀ H' y, Same H1 H' → o x = some y → ∃ acc, H' D = some (.lst acc) ∧ acc.length < sizeLine ∧ Nx (upd H' D (.lst (acc ++ [y])))) → (∀ H', Same H1 H' → o x = none → Nx H') →
      g x (wipe σ vs) H1 fun σ2 H2 => wipe σ2 vs = wipe σ vs ∧ tt σ2 H2 fun b H3 => if b = true then te σ2 H3 fun y H4 => ∃ acc, H4 D = some (.lst acc) ∧ acc.length < sizeLine ∧ Nx (upd H4 D (.lst (acc ++ [y]))) else Nx H3)
    (hd : ∀ (D : Addr) (H1 : Hp), H D = none → Same H H1 → H1 D = some (.lst (xs.filterMap o)) → Q (.ref D) H1) :
    tLc (iSeq K (tVar k)) g tt te vs σ H Q := by
  refine ⟨_, hv, a, xs, rfl, ?_⟩
  rcases hl with h | h
  · exact .inl ⟨h, fun D nD => lc_fmL nD h hz o (fun i x H1 Nx => hs D i x H1 Nx nD) (fun H1 => hd D H1 nD)⟩
  · exact .inr ⟨h, fun D nD => lc_fmT nD h hz o (fun i x H1 Nx => hs D i x H1 Nx nD) (fun H1 => hd D H1 nD)⟩
end
/-- a statement by what it leads to, whatever follows -/
theorem viaS {t : TS} {D : Ends} {σ : St} {H : Hp} (Post : St → Hp → Prop) (a : ∀ σ2 H2, Post σ2 H2 → D.nx σ2 H2) (b : ∀ nx' : St → Hp → Prop, (∀ σ2 H2, Post σ2 H2 → nx' σ2 H2) → t { D with nx := nx' } σ H) : t D σ H := b D.nx a
end L2

set_option Elab.async false
set_option linter.all false
set_option maxRecDepth 100000
set_option maxHeartbeats 1000000
namespace L2
open PySem PySem.Spec PyProof.Rows
/-! rules whose reading names the written part by a letter of one's own (for blocks) -/
section
variable {X : Cx} {K : PySem.W.Frag}
theorem ixLK (h : X.K = K) : IxR X (rIxL K) := by subst h; exact ix_list
theorem ixTK (h : X.K = K) : IxR X (rIxT K) := by subst h; exact ix_tup
theorem inK (h : X.K = K) : OpR X (compareOp .In) (rIn K false) := by subst h; exact op_in_seq
theorem ninK (h : X.K = K) : OpR X (compareOp .NotIn) (rIn K true) := by subst h; exact op_notIn_seq
theorem slLK (h : X.K = K) : SlR X (rSlL K) := by subst h; exact sl_list
def rLenSq (K : PySem.W.Frag) : List V → Hp → VK → Prop := fun xs H Q => ∃ p ys, xs = [.ref p] ∧ (SqL K H p ys ∨ SqT K H p ys) ∧ Q (.int ys.length) H
theorem lenK (h : X.K = K) : CallR X (.builtin "len") (rLenSq K) := by subst h; exact call_len_seq
def rTupOfQ (K : PySem.W.Frag) : List V → Hp → VK → Prop := fun xs H Q => ∃ p ys, xs = [.ref p] ∧ ((SqL K H p ys ∧ ∀ l, H l = none → Q (.ref l) (upd H l (.tup ys))) ∨ (SqT K H p ys ∧ Q (.ref p) H))
theorem tupK (h : X.K = K) : CallR X (.type "tuple") (rTupOfQ K) := by subst h; exact call_tuple_of
def rLstOfQ (K : PySem.W.Frag) : List V → Hp → VK → Prop := fun xs H Q => ∃ p ys, xs = [.ref p] ∧ (SqL K H p ys ∨ SqT K H p ys) ∧ ∀ l, H l = none → Q (.ref l) (upd H l (.lst ys))
theorem lstK (h : X.K = K) : CallR X (.type "list") (rLstOfQ K) := by subst h; exact call_list_of
theorem allK (h : X.K = K) (hc : X.calm = true) : CallR X (.builtin "all") (rAll K) := by subst h; exact cr_all hc
theorem anyK (h : X.K = K) (hc : X.calm = true) : CallR X (.builtin "any") (rAny K) := by subst h; exact cr_any hc
theorem isiK (h : X.K = K) : CallR X (.builtin "isinstance") (rIsi K) := by subst h; exact call_isi
theorem isiTK (h : X.K = K) : CallR X (.builtin "isinstance") (rIsiT K) := by subst h; exact call_isiT
theorem fldK {e : Expr} {f : Str} {pos : Pos} {ta : TE} (h : X.K = K) (he : PE X e ta) (hb : attributeBase e f X.env (eval e X.env) = eval e X.env := by rfl) : PE X (.Attribute e f pos) (tFld K ta f) := by subst h; exact pe_fld he hb
theorem piLK {tg l : Expr} {tl : TE} (h : X.K = K) (hl : PE X l tl) : PI X tg l (iList K tl) := by subst h; exact pi_list hl
theorem piTK {tg l : Expr} {tl : TE} (h : X.K = K) (hl : PE X l tl) : PI X tg l (iTup K tl) := by subst h; exact pi_tup hl
theorem eqDK (h : X.K = K) (hu : X.A.units + 64 < cLine) : OpR X (compareOp .Eq) (rEqD K) := by subst h; exact op_eqD hu
theorem neDK (h : X.K = K) (hu : X.A.units + 64 < cLine) : OpR X (compareOp .NotEq) (rNeD K) := by subst h; exact op_neD hu
end
end L2

set_option Elab.async false
set_option linter.all false
set_option maxRecDepth 100000
set_option maxHeartbeats 1000000
namespace L2
open PySem
/-! data: tuples of ints -/
def tI (ns : List Int) : PyData := .tuple (ns.map PyData.int)
theorem dp_ints {K : PySem.W.Frag} {H : Hp} : ∀ ns : List Int, DpAll K H (ns.map V.int) (ns.map PyData.int)
  | [] => .nil
  | n :: r => .cons (.int n) (dp_ints r)
theorem dp_tI {K : PySem.W.Frag} {H : Hp} {a : Addr} {ns : List Int} (h : H a = some (.tup (ns.map V.int))) : Dp K H (.ref a) (tI ns) := .tup (SqT.of h) (dp_ints ns)
theorem eqv_ints : ∀ ns ms : List Int, PyData.eqvAll (ns.map PyData.int) (ms.map PyData.int) = decide (ns = ms)
  | [], [] => rfl
  | [], m :: r => by simp [PyData.eqvAll]
  | n :: r, [] => by simp [PyData.eqvAll]
  | n :: r, m :: s => by
    show (n == m && PyData.eqvAll (r.map PyData.int) (s.map PyData.int)) = _
    rw [eqv_ints r s]
    by_cases h : n = m <;> by_cases h2 : r = s <;> simp [h, h2]
theorem eqv_tI (ns ms : List Int) : PyData.eqv (tI ns) (tI ms) = decide (ns = ms) := eqv_ints ns ms
theorem lay_ints : ∀ ns : List Int, PyData.canLayAll0 (ns.map PyData.int) = true
  | [] => rfl
  | n :: r => by
    show (PyData.canLay0 (.int n) && PyData.canLayAll0 (r.map PyData.int)) = true
    rw [lay_ints r]; rfl
theorem depth_ints : ∀ ns : List Int, PyData.depthAll (ns.map PyData.int) = 0
  | [] => rfl
  | n :: r => by
    show max (PyData.depth (.int n)) (PyData.depthAll (r.map PyData.int)) = 0
    rw [depth_ints r]; rfl
theorem depth_tI (ns : List Int) : (tI ns).depth = 1 := by
  show PyData.depthAll (ns.map PyData.int) + 1 = 1
  rw [depth_ints]
theorem shaped_tI (ns : List Int) : SeqAt.shaped (tI ns) = true := by
  unfold SeqAt.shaped
  rw [depth_tI]
  show (PyData.canLayAll0 (ns.map PyData.int) && _) = true
  rw [lay_ints]; rfl
theorem noDict_ints : ∀ ns : List Int, PyData.hasDictAll (ns.map PyData.int) = false
  | [] => rfl
  | n :: r => by
    show (PyData.hasDict (.int n) || PyData.hasDictAll (r.map PyData.int)) = false
    rw [noDict_ints r]; rfl
theorem noDict_tI (ns : List Int) : (tI ns).hasDict = false := noDict_ints ns
theorem show_ints : ∀ ns : List Int, (∀ n ∈ ns, n.natAbs ≤ 1000000) → PyData.showableAll (ns.map PyData.int) = true
  | [], _ => rfl
  | n :: r, h => by
    show (decide (n.natAbs.log2 < 1920) && PyData.showableAll (r.map PyData.int)) = true
    rw [show_ints r fun m hm => h m (List.mem_cons_of_mem _ hm)]
    have h1 := h n (List.mem_cons_self ..)
    have h2 : n.natAbs.log2 < 1920 := by
      by_cases z : n.natAbs = 0
      · rw [z]; decide
      · have : n.natAbs.log2 < 20 := (Nat.log2_lt z).mpr (by omega)
        omega
    rw [decide_eq_true h2]; rfl
end L2

set_option Elab.async false
set_option linter.all false
set_option maxRecDepth 100000
set_option maxHeartbeats 1000000
namespace L2
open PySem PySem.Spec PyProof.Rows
theorem viaT {t : TT} {σ : L2.St} {H : Hp} {Q : Bool → Hp → Prop} (Post : Bool → Hp → Prop) (a : ∀ b H2, Post b H2 → Q b H2) (b : ∀ Q' : Bool → Hp → Prop, (∀ b H2, Post b H2 → Q' b H2) → t σ H Q') : t σ H Q := b Q a
/-- q[i], q a list or a tuple -/
def rIxQ (K : PySem.W.Frag) : R2 := fun x y H Q => ∃ p xs i v, x = .ref p ∧ y = .int i ∧ (SqL K H p xs ∨ SqT K H p xs) ∧ atI xs i = some v ∧ Q v H
theorem ixQK {X : Cx} {K : PySem.W.Frag} (h : X.K = K) : IxR X (rIxQ K) := by
  subst h
  intro a b pins s σ H x y v u Q I rx ry q
  refine ix_seq a b pins s σ H x y v u Q I rx ry ?_
  obtain ⟨p, xs, i, z, e1, e2, hs, e3, q⟩ := q
  rcases hs with hs | hs
  · exact .inl ⟨p, xs, i, z, e1, e2, hs, e3, q⟩
  · exact .inr (.inl ⟨p, xs, i, z, e1, e2, hs, e3, q⟩)
theorem new_ex {H : Hp} {p : Addr} (n : H p = none) (o : HO) : ∃ H', upd H p o = H' ∧ Same H H' ∧ H' p = some o :=
  ⟨_, rfl, fun b x e => by rw [upd_ne (ne_of_none e n)]; exact e, upd_same⟩
theorem dInt (a b : Int) : decide (V.int a = V.int b) = decide (a = b) := by
  by_cases h : a = b
  · rw [h]; simp
  · rw [decide_eq_false h]; exact decide_eq_false fun w => h (V.int.inj w)
theorem dNat (a b : Nat) : decide (V.int (a : Int) = V.int (b : Int)) = decide (a = b) := by
  rw [dInt]
  by_cases h : a = b
  · rw [h]; simp
  · rw [decide_eq_false h]; exact decide_eq_false fun w => h (by omega)
theorem dStr (a b : Str) : decide (V.str a = V.str b) = decide (a = b) := by
  by_cases h : a = b
  · rw [h]; simp
  · rw [decide_eq_false h]; exact decide_eq_false fun w => h (V.str.inj w)
def rJoin (K : PySem.W.Frag) : V → List V → Hp → VK → Prop := fun x xs H Q => ∃ a p, ∃ ys : List Str, x = .str a ∧ xs = [.ref p] ∧ (SqL K H p (ys.map V.str) ∨ SqT K H p (ys.map V.str)) ∧ (ys.map (·.length)).sum + ys.length * a.length ≤ 16777216 ∧ Q (.str (Txt.join a ys)) H
theorem pe_joinK {X : Cx} {K : PySem.W.Frag} {o e : Expr} {to te : TE} {apos pos : Pos} (h : X.K = K) (ho : PE X o to) (he : PE X e te)
    (hbase : attributeBase o "join" X.env (eval o X.env) = eval o X.env := by rfl) (hst : starEach [e] X.env = (false, eval e X.env) :: starEach [] X.env := by rfl) (hline : (apos.endLine == pos.line) = true := by rfl) :
    PE X (.Call (.Attribute o "join" apos) [e] [] pos) (tM1 (rJoin K) to te) := by subst h; exact pe_join ho he (hs := hst) (hbase := hbase) (hline := hline)
/-! data: lists and tuples of texts -/
def lS (xs : List Str) : PyData := .list (xs.map PyData.str)
def tS (xs : List Str) : PyData := .tuple (xs.map PyData.str)
theorem dp_strs {K : PySem.W.Frag} {H : Hp} : ∀ ns : List Str, DpAll K H (ns.map V.str) (ns.map PyData.str)
  | [] => .nil
  | n :: r => .cons (.str n) (dp_strs r)
theorem dp_lS {K : PySem.W.Frag} {H : Hp} {a : Addr} {ns : List Str} (h : SqL K H a (ns.map V.str)) : Dp K H (.ref a) (lS ns) := .lst h (dp_strs ns)
theorem dp_tS {K : PySem.W.Frag} {H : Hp} {a : Addr} {ns : List Str} (h : SqT K H a (ns.map V.str)) : Dp K H (.ref a) (tS ns) := .tup h (dp_strs ns)
theorem eqv_strs : ∀ ns ms : List Str, PyData.eqvAll (ns.map PyData.str) (ms.map PyData.str) = decide (ns = ms)
  | [], [] => rfl
  | [], m :: r => by simp [PyData.eqvAll]
  | n :: r, [] => by simp [PyData.eqvAll]
  | n :: r, m :: s => by
    show (n == m && PyData.eqvAll (r.map PyData.str) (s.map PyData.str)) = _
    rw [eqv_strs r s]
    by_cases h : n = m <;> by_cases h2 : r = s <;> simp [h, h2]
theorem eqv_lS (ns ms : List Str) : PyData.eqv (lS ns) (lS ms) = decide (ns = ms) := eqv_strs ns ms
theorem eqv_tS (ns ms : List Str) : PyData.eqv (tS ns) (tS ms) = decide (ns = ms) := eqv_strs ns ms
/-- a text of code points -/
def LayS (x : Str) : Prop := PyData.canLay0 (.str x) = true
theorem lay_strs : ∀ ns : List Str, (∀ x ∈ ns, LayS x) → PyData.canLayAll0 (ns.map PyData.str) = true
  | [], _ => rfl
  | n :: r, h => by
    show (PyData.canLay0 (.str n) && PyData.canLayAll0 (r.map PyData.str)) = true
    rw [lay_strs r fun x hx => h x (List.mem_cons_of_mem _ hx), show PyData.canLay0 (.str n) = true from h n (List.mem_cons_self ..)]; rfl
theorem depth_strs : ∀ ns : List Str, PyData.depthAll (ns.map PyData.str) = 0
  | [] => rfl
  | n :: r => by
    show max (PyData.depth (.str n)) (PyData.depthAll (r.map PyData.str)) = 0
    rw [depth_strs r]; rfl
theorem depth_lS (ns : List Str) : (lS ns).depth = 1 := by
  show PyData.depthAll (ns.map PyData.str) + 1 = 1
  rw [depth_strs]
theorem depth_tS (ns : List Str) : (tS ns).depth = 1 := by
  show PyData.depthAll (ns.map PyData.str) + 1 = 1
  rw [depth_strs]
theorem shaped_lS (ns : List Str) (h : ∀ x ∈ ns, LayS x) : SeqAt.shaped (lS ns) = true := by
  unfold SeqAt.shaped
  rw [depth_lS]
  show (PyData.canLayAll0 (ns.map PyData.str) && _) = true
  rw [lay_strs _ h]; rfl
theorem shaped_tS (ns : List Str) (h : ∀ x ∈ ns, LayS x) : SeqAt.shaped (tS ns) = true := by
  unfold SeqAt.shaped
  rw [depth_tS]
  show (PyData.canLayAll0 (ns.map PyData.str) && _) = true
  rw [lay_strs _ h]; rfl
theorem cut_map {α : Type} (f : α → V) (xs : List α) (i j : Nat) (hi : i ≤ j) (hj : j ≤ xs.length) : cutV (xs.map f) (some (i : Int)) (some (j : Int)) = ((xs.drop i).take (j - i)).map f := by
  unfold cutV
  rw [HT.sIx_nat, HT.sIx_nat, List.length_map, Nat.min_eq_left hj, Nat.min_eq_left (Nat.le_trans hi hj), List.map_take, List.map_drop]
theorem cut_pre {α : Type} (f : α → V) (xs : List α) (j : Nat) (hj : j ≤ xs.length) : cutV (xs.map f) none (some (j : Int)) = (xs.take j).map f := by
  unfold cutV
  rw [HT.sIx_none, HT.sIx_nat, List.length_map, Nat.min_eq_left hj, List.drop_zero, Nat.sub_zero, List.map_take]
theorem cut_suf {α : Type} (f : α → V) (xs : List α) (i : Nat) : cutV (xs.map f) (some (i : Int)) none = (xs.drop i).map f := by
  unfold cutV
  rw [HT.sIx_none, HT.sIx_nat, List.length_map, List.map_drop]
  by_cases h : i ≤ xs.length
  · rw [Nat.min_eq_left h, List.take_of_length_le (by simp)]
  · rw [Nat.min_eq_right (by omega), List.drop_of_length_le (by simp), List.drop_of_length_le (by simp; omega)]
    simp
theorem layS_of {x : Str} (h : ∀ c ∈ x.cps.toList, c < 1114112) : LayS x := by
  show x.cps.all (· < 0x110000) = true
  rw [Array.all_eq_true']
  intro c hc
  exact decide_eq_true (h c (Array.mem_toList_iff.mpr hc))
end L2

set_option Elab.async false
set_option linter.all false
set_option maxRecDepth 100000
set_option maxHeartbeats 1000000
namespace L2
open PySem PySem.Spec PyProof.Rows
/-! list(text), tuple(text) -/
def signsV (x : Str) : List V := x.cps.toList.map fun c => V.str ⟨#[c]⟩
theorem vals_signs {x : Str} {acc : Array Value} (h : ItemsOf (SignAt x) acc x.cps.size) : Vals (signsV x) acc.toList := by
  refine vals_of_at ?_ fun j v u h1 h2 => ?_
  · unfold signsV
    rw [List.length_map, Array.length_toList, Array.length_toList, h.1]
  · rw [Array.getElem?_toList] at h2
    obtain ⟨c, t, e1, e2⟩ := h.2 j u h2
    unfold signsV at h1
    rw [List.getElem?_map, Array.getElem?_toList, e1] at h1
    cases h1
    exact ⟨t, e2⟩
section
variable {prog : Program} {w : World} {A : Around} {E : Value → Shared → Prop} {s : Shared}
theorem code_tuple_new_str {Q₁ : Value → Shared → Prop} (hh : A.handled = none) (x : Str) (t : Tok) (hn : x.cps.size ≤ sizeLine)
    (h : ∀ (h' : Heap) (tk : Nat) (acc : Array Value), (∀ b o, s.heap.get? b = some o → h'.get? b = some o) → ItemsOf (SignAt x) acc x.cps.size →
      Q₁ (.ref h'.objs.size) { s with heap := h'.push { cls := .type "tuple", data := .seq acc }, toks := tk }) :
    codeAny (model prog w) A (.call (.builtin "tuple.__new__") ⟨[.type "tuple", .str x t], []⟩) (wants Q₁ E) s := by
  refine codeAny_of_tree ?_
  show wpAny _ A.in1 (do checkBuiltinCall "tuple.__new__" ⟨[.type "tuple", .str x t], []⟩; again (.builtin "tuple.__new__" ⟨[.type "tuple", .str x t], []⟩)) _ _ s
  refine wpAny_bind (wpAny_of_eq (F.newCall_tuple_1 _) (wpAny_pure ⟨plainId_quiet F.plain_tuple_new _, codeAny_builtin F.entry_tuple_new ?_⟩))
  rw [Around.under_plainId F.plain_tuple_new _]
  have hsub := sub_tuple_self
  have hinit := init_tuple_lookup
  have hmh := madeHere_tuple
  have hTI : s.TypeIs (.str x t) "str" := rfl
  have hh1 : A.in1.handled = none := hh
  wp_walk using wpAny_typeOf hTI, wpAny_collect_str (A := A.in1) (hn := hn) hh1 x t
  intro s' acc hk e1 e2 e3 hacc
  show wpAny _ _ (Builtin.Tuple.tupleExact acc.toList.toArray >>= fun v => ret v) _ _ _
  unfold Builtin.Tuple.tupleExact
  refine wpAny_bind (wpAny_newObj_type ?_ (by show acc.toList.toArray.size ≤ sizeLine; simp only [Array.toArray_toList]; rw [hacc.1]; exact hn))
  refine wpAny_pure ?_
  have e : acc.toList.toArray = acc := by simp
  rw [e]
  have := h s'.heap s'.toks acc hk hacc
  obtain ⟨hp, g, dr, tk, os⟩ := s'
  obtain ⟨hp0, g0, dr0, tk0, os0⟩ := s
  cases e1; cases e2; cases e3
  exact this
theorem call_tuple_str {Q : Value → Shared → Prop} (hh : A.handled = none) (x : Str) (t : Tok) (hn : x.cps.size ≤ sizeLine)
    (hQ : ∀ (h' : Heap) (tk : Nat) (acc : Array Value), (∀ b o, s.heap.get? b = some o → h'.get? b = some o) → ItemsOf (SignAt x) acc x.cps.size →
      Q (.ref h'.objs.size) { s with heap := h'.push { cls := .type "tuple", data := .seq acc }, toks := tk }) :
    wpAny (model prog w) A (call (.type "tuple") [.str x t]) Q E s := by
  refine callType_codes (Q₁ := fun obj s₁ => s₁.TypeIs obj "tuple" ∧ Q obj s₁) F.called_tuple (F.typeCall_tuple_1 _) F.entry_object_init
    (code_tuple_new_str (A := A.in1) hh x t hn fun h' tk acc hk hacc => ⟨⟨_, Heap.get?_push_size _ rfl, rfl⟩, hQ h' tk acc hk hacc⟩) fun obj s₁ h₁ => ?_
  exact ⟨h₁.1, F.args_object_init_2 obj _, object_init_meets F.called_tuple.init.lookup F.called_tuple.made (by decide) prog w A.in1 _ s₁ ⟨h₁.1, rfl, h₁.2⟩⟩
end
section
variable {X : Cx}
def rListS : List V → Hp → VK → Prop := fun xs H Q => ∃ x : Str, xs = [.str x] ∧ x.cps.size ≤ sizeLine ∧ ∀ l, H l = none → Q (.ref l) (upd H l (.lst (signsV x)))
def rTupS : List V → Hp → VK → Prop := fun xs H Q => ∃ x : Str, xs = [.str x] ∧ x.cps.size ≤ sizeLine ∧ ∀ l, H l = none → Q (.ref l) (upd H l (.tup (signsV x)))
theorem call_listS (hc : X.calm = true) : CallR X (.type "list") rListS := by
  intro pins s σ H xs us Q I r h
  obtain ⟨x, e, hn, q⟩ := h
  subst e
  obtain ⟨u, eu, rx⟩ := vals1 r
  subst eu
  obtain ⟨t, rfl⟩ := rx
  refine call_list_str (hn := hn) (I.ok.hd hc) x t fun h' tk acc c' hk hD hacc => ?_
  refine ⟨.ref s.heap.objs.size, upd H s.heap.objs.size (.lst (signsV x)), I.laid (t' := tk) hk (Nat.le_refl _)
    (show ObjOk X.prog X.w _ _ _ (.lst (signsV x)) from ⟨by unfold signsV; rw [List.length_map, Array.length_toList]; exact hn, acc.toList, c', vals_signs hacc, by rw [Array.toArray_toList]; exact hD⟩), rfl, q _ (I.hok.fresh (Nat.le_refl _))⟩
theorem call_tupS (hc : X.calm = true) : CallR X (.type "tuple") rTupS := by
  intro pins s σ H xs us Q I r h
  obtain ⟨x, e, hn, q⟩ := h
  subst e
  obtain ⟨u, eu, rx⟩ := vals1 r
  subst eu
  obtain ⟨t, rfl⟩ := rx
  refine call_tuple_str (I.ok.hd hc) x t hn fun h' tk acc hk hacc => ?_
  have I2 : Inv X pins σ H { s with heap := h', toks := tk } := I.kept hk
  refine ⟨.ref h'.objs.size, upd H h'.objs.size (.tup (signsV x)), I2.laid (t' := tk) (fun c o e => Heap.get?_push_of_some _ e) (Nat.le_refl _) (show ObjOk X.prog X.w _ _ _ (.tup (signsV x)) from ⟨?_, acc.toList, vals_signs hacc, ?_⟩), rfl, q _ (I2.hok.fresh (Nat.le_refl _))⟩
  · unfold signsV; rw [List.length_map, Array.length_toList]; exact hn
  · rw [Array.toArray_toList]; exact IsTup.new _ _
/-! a token is out behind a written text -/
def PEg (X : Cx) (e : Expr) (t : TE) : Prop := ∀ (pins : List (Addr × Obj)) (s : Shared) (σ : St) (H : Hp) (Q : VK), Inv X pins σ H s → t σ H Q → wpAny (model X.prog X.w) X.A (eval e X.env) (fun v s' => 1 ≤ s'.toks ∧ EP X pins σ Q v s') X.xe s
theorem peg_opc {op : Operator} {r : R2} {a : Expr} {ta : TE} {x : Str} {j : Nat} {cp pos : Pos} (ho : OpR X (binaryOp op) r) (ha : PE X a ta) : PEg X (.BinOp a op (.Constant (.str x) j cp) pos) (tOp r ta (tC (.str x))) := by
  intro pins s σ H Q I h
  refine wpAny_BinOp (thn (ha.run pins s σ H _ I h) fun v s1 ⟨y, H1, I1, r1, q1⟩ => Calls.Constant_str ?_)
  exact wpAny_mono (PySem.wpAny_toks_of (n := 1) (by show 1 ≤ s1.toks + 1; omega) (ho pins { s1 with toks := s1.toks + 1 } σ H1 y (.str x) v _ Q (I1.tok _) r1 ⟨_, rfl⟩ q1)) (fun _ _ z => z) fun _ _ z => z.2
theorem peg_lst {e : Expr} {te : TE} {pos : Pos} (he : PEg X e te) (hs : starEach [e] X.env = (false, eval e X.env) :: starEach [] X.env := by rfl) : PEg X (.List [e] pos) (tLst (tCons te tNil)) := by
  intro pins s σ H Q I hq
  refine wpAny_List_spliced ?_
  rw [hs]
  show wpAny _ _ (spliced ((false, eval e X.env) :: backTo pos (starEach [] X.env))) _ _ s
  refine Calls.spliced_cons (thn (he pins s σ H _ I hq) fun u s1 ⟨hk, x, H1, I1, r1, q1⟩ => Calls.spliced_nil ?_)
  obtain ⟨z, q⟩ := q1
  refine ⟨z, hk, ?_⟩
  have hf : H1 s1.heap.objs.size = none := I1.hok.fresh (Nat.le_refl _)
  refine ⟨.ref s1.heap.objs.size, upd H1 s1.heap.objs.size (.lst [x]), I1.laid (t' := s1.toks) (fun b u e => Heap.get?_push_of_some _ e) (Nat.le_refl _) ?_, rfl, q _ hf⟩
  exact ⟨z, [u], 0, .cons r1 .nil, Heap.get?_push_size _ rfl⟩
theorem pa_consG {e : Expr} {es : List Expr} {te : TE} {t : TA} (ha : PEg X e te) (hr : PAT X es t) (hs : starEach (e :: es) X.env = (false, eval e X.env) :: starEach es X.env := by rfl) : PA X (e :: es) (tCons te t) := by
  refine ⟨fun pos pins s σ H Q I h => ?_⟩
  rw [hs]
  show wpAny _ _ (spliced ((false, eval e X.env) :: backTo pos (starEach es X.env))) _ _ s
  refine Calls.spliced_cons (thn (ha pins s σ H _ I h) fun u s1 ⟨hk, x, H1, I1, r1, q1⟩ => ?_)
  exact thn (hr pos pins s1 σ H1 _ hk I1 q1) fun us s2 ⟨xs, H2, I2, r2, q2⟩ => ⟨x :: xs, H2, I2, .cons r1 r2, q2⟩
end
/-! a for over a list or a tuple that stands at a name -/
theorem for_seqV {K : PySem.W.Frag} {a : Addr} {xs : List V} {g : TG} {tb : TS} {D : Ends} {σ : St} {H : Hp} {k : Nat} (hv : σ[k]? = some (some (.ref a))) (hl : SqL K H a xs ∨ SqT K H a xs) (Pv : Nat → St → Hp → Prop) (h0 : Pv 0 σ H)
    (hk : ∀ i σ H', i ≤ xs.length → Pv i σ H' → (SqL K H a xs → SqL K H' a xs) ∧ (SqT K H a xs → SqT K H' a xs))
    (hs : ∀ i x σ H, xs[i]? = some x → Pv i σ H → g x σ H fun σ2 H2 => tb { D with nx := Pv (i + 1), ct := Pv (i + 1), bk := D.nx } σ2 H2) (hd : ∀ σ H, Pv xs.length σ H → D.nx σ H) :
    tFor (iSeq K (tVar k)) g tb D σ H := by
  refine ⟨_, hv, a, xs, rfl, ?_⟩
  rcases hl with h | h
  · exact .inl ⟨h, for_list Pv h0 (fun i σ' H' hi hp => (hk i σ' H' hi hp).1 h) hs hd⟩
  · exact .inr ⟨h, for_tup Pv h0 (fun i σ' H' hi hp => (hk i σ' H' hi hp).2 h) hs hd⟩
theorem Same.seqT {K : PySem.W.Frag} {H H' : Hp} {a : Addr} {xs : List V} (s : Same H H') (h : SqT K H a xs) : SqT K H' a xs := by
  rcases h with (h | ⟨o, h⟩) | h
  · exact .inl (.inl (s _ _ h))
  · exact .inl (.inr ⟨o, s _ _ h⟩)
  · exact .inr h
end L2

set_option Elab.async false
set_option linter.all false
set_option maxRecDepth 100000
set_option maxHeartbeats 2000000
/-! zip over any number of texts of one length -/
namespace ZN
open PySem
structure Rw where
  it : Addr
  x : Str
  t : Tok
  ty : String
def StR (r : Rw) (i : Nat) (h : Heap) : Prop := (r.ty = "str_ascii_iterator" ∨ r.ty = "str_iterator") ∧ h.IsStrIter r.it r.ty r.x r.t i
def IsC (r : Rw) (i : Nat) (v : Value) : Prop := ∃ c u, r.x.cps[i]? = some c ∧ v = .str ⟨#[c]⟩ u
abbrev IsZ (h : Heap) (z TI TO : Addr) (f0 f1 : Value) : Prop := h.get? z = some { cls := .type "zip", data := .fields #[f0, f1, .bool false, .ref TI, .ref TO] }
abbrev IsT (h : Heap) (T : Addr) (xs : List Value) : Prop := h.get? T = some { cls := .type "tuple", data := .seq xs.toArray }
theorem StR.keep {r : Rw} {i : Nat} {h h' : Heap} (st : StR r i h) (k : ∀ o, h.get? r.it = some o → h'.get? r.it = some o) : StR r i h' := by
  obtain ⟨e, o, ho, q⟩ := st
  exact ⟨e, o, k o ho, q⟩
structure Ap (z TI TO : Addr) (R : List Rw) : Prop where
  zTI : z ≠ TI
  zTO : z ≠ TO
  TITO : TI ≠ TO
  iz : ∀ r ∈ R, r.it ≠ z
  iTI : ∀ r ∈ R, r.it ≠ TI
  iTO : ∀ r ∈ R, r.it ≠ TO
  nd : (R.map (·.it)).Nodup
inductive Cs (i : Nat) : List Rw → List Value → Prop
  | nil : Cs i [] []
  | cons {r : Rw} {v : Value} {R : List Rw} {us : List Value} (h : IsC r i v) (t : Cs i R us) : Cs i (r :: R) (v :: us)
theorem Cs.snoc {i : Nat} {R : List Rw} {us : List Value} {r : Rw} {v : Value} (h : Cs i R us) (q : IsC r i v) : Cs i (R ++ [r]) (us ++ [v]) := by
  induction h with
  | nil => exact .cons q .nil
  | cons h t ih => exact .cons h ih
theorem Cs.len {i : Nat} {R : List Rw} {us : List Value} (h : Cs i R us) : us.length = R.length := by
  induction h with
  | nil => rfl
  | cons h t ih => simp [ih]
section
variable {prog : Program} {w : World} {A : Around} {E : Value → Shared → Prop} {s : Shared}
theorem nx_item {r : Rw} {i : Nat} {Q : Value → Shared → Prop} (st : StR r i s.heap) (hi : i < r.x.cps.size) (hQ : ∀ v h' tk, IsC r i v → StR r (i + 1) h' → Heap.SameBut r.it s.heap h' → Q v { s with heap := h', toks := tk }) :
    wpAny (model prog w) A (Builtin.SmallTypes.nextOf (.ref r.it)) Q E s := by
  obtain ⟨e, q⟩ := st
  rcases e with e | e
  · rw [e] at q
    exact wpAny_nextOf_ascii_item q (c := r.x.cps[i]) (by simp [hi]) fun h' a b => hQ _ h' _ ⟨_, _, by simp [hi], rfl⟩ ⟨.inl e, by rw [e]; exact a⟩ b
  · rw [e] at q
    exact wpAny_nextOf_wide_item q (c := r.x.cps[i]) (by simp [hi]) fun h' a b => hQ _ h' _ ⟨_, _, by simp [hi], rfl⟩ ⟨.inr e, by rw [e]; exact a⟩ b
theorem nx_end {r : Rw} {i : Nat} {Q : Value → Shared → Prop} (hh : A.handled = none) (st : StR r i s.heap) (hi : r.x.cps.size ≤ i)
    (hE : ∀ h' e, Heap.ExtBut r.it s.heap h' → (∃ o, h'.get? e = some o ∧ o.cls = .type "StopIteration") → E (.ref e) { s with heap := h' }) :
    wpAny (model prog w) A (Builtin.SmallTypes.nextOf (.ref r.it)) Q E s := by
  obtain ⟨e, q⟩ := st
  rcases e with e | e
  · rw [e] at q
    exact wpAny_nextOf_ascii_end hh q (by simp [hi]) hE
  · rw [e] at q
    exact wpAny_nextOf_wide_end hh q (by simp [hi]) hE
theorem wpAny_ifAlive {a : Addr} {Q : Option Obj → Shared → Prop} (h : Q (s.heap.get? a) s) : wpAny (model prog w) A (loadIfAlive a) Q E s := fun _ _ _ => h
theorem free_or {z TI TO : Addr} {f0 f1 : Value} {Q : Bool → Shared → Prop} (hz : IsZ s.heap z TI TO f0 f1) (hf : f0 = .none ∨ ∃ a : Nat, f0 = rawInt a) (h1 : Q true s)
    (h2 : ∀ h' g1, IsZ h' z TI TO f0 g1 → Heap.SameBut z s.heap h' → Q false { s with heap := h' }) : wpAny (model prog w) A (Builtin.SmallTypes.ownedTupleIsFree (.ref z)) Q E s := by
  unfold Builtin.SmallTypes.ownedTupleIsFree
  rcases hf with rfl | ⟨a, rfl⟩
  · exact wpAny_bind (wpAny_field hz rfl (x := .none) rfl (wpAny_pure h1))
  · refine wpAny_bind (wpAny_field hz rfl (x := rawInt a) rfl ?_)
    show wpAny _ _ (loadIfAlive _ >>= _) _ _ _
    refine wpAny_bind (wpAny_ifAlive ?_)
    cases hq : s.heap.get? (Int.toNat (a : Int)) with
    | none => exact wpAny_pure h1
    | some o =>
      show wpAny _ _ (field (.ref z) 1 >>= _) _ _ _
      refine wpAny_bind (wpAny_field hz rfl (x := f1) rfl ?_)
      cases hb : (f1 != Value.bool true) with
      | true =>
        simp only [if_true]
        refine wpAny_bind (wpAny_setField_rec hz (by simp) fun h' e sb => wpAny_pure ?_)
        exact h2 h' _ e sb
      | false =>
        simp only [Bool.false_eq_true, if_false]
        exact wpAny_pure (h2 s.heap f1 hz (.refl ..))
theorem set_mid {us os : List Value} {a v : Value} : ((us ++ a :: os).toArray.setIfInBounds us.length v) = (us ++ [v] ++ os).toArray := by
  rw [List.setIfInBounds_toArray]
  congr 1
  simp
theorem zipN_item {z TI TO : Addr} {R : List Rw} {i : Nat} {f0 f1 : Value} {os : List Value} {Q : Value → Shared → Prop} (hR : R ≠ []) (D : Ap z TI TO R) (hz : IsZ s.heap z TI TO f0 f1) (hf : f0 = .none ∨ ∃ a : Nat, f0 = rawInt a)
    (hTI : IsT s.heap TI (R.map fun r => .ref r.it)) (hTO : IsT s.heap TO os) (hos : os.length = R.length) (hl : R.length ≤ 1000) (st : ∀ r ∈ R, StR r i s.heap) (hi : ∀ r ∈ R, i < r.x.cps.size)
    (hQ : ∀ us h' tk g0 g1 os', Cs i R us → IsZ h' z TI TO g0 g1 → (g0 = .none ∨ ∃ a : Nat, g0 = rawInt a) → IsT h' TO os' → os'.length = R.length → (∀ r ∈ R, StR r (i + 1) h') → IsT h' s.heap.objs.size us → h'.objs.size = s.heap.objs.size + 1 →
      (∀ c o, c ≠ z → c ≠ TO → (∀ r ∈ R, c ≠ r.it) → s.heap.get? c = some o → h'.get? c = some o) → Q (.ref s.heap.objs.size) { s with heap := h', toks := tk }) :
    wpAny (model prog w) A (Builtin.«zip.__next__» ⟨[.ref z], []⟩) (fun fin s' => ∃ v, fin = .done (.ret v) ∧ Q v s') E s := by
  show wpAny _ _ (field (.ref z) 2 >>= _) _ _ _
  refine wpAny_bind (wpAny_field hz rfl (x := .bool false) rfl ?_)
  show wpAny _ _ (field (.ref z) 3 >>= _) _ _ _
  refine wpAny_bind (wpAny_field hz rfl (x := .ref TI) rfl ?_)
  refine wpAny_bind (wpAny_seqItems hTI rfl ?_)
  have hne : ((R.map fun r => Value.ref r.it).toArray.isEmpty) = false := by
    cases R with
    | nil => exact absurd rfl hR
    | cons r R => rfl
  simp only [hne, Bool.false_eq_true, if_false]
  have szl : (1000 : Nat) ≤ sizeLine := by decide
  refine wpAny_bind (free_or hz hf ?_ ?_)
  · -- the owned tuple again
    simp only [if_true]
    refine wpAny_bind (wpAny_rule ?_)
    refine wpAny_bind (wpAny_field hz rfl (x := .ref TO) rfl ?_)
    refine wpAny_bind (wpAny_setField_rec hz (by simp) fun h₁ hz₁ hs₁ => ?_)
    replace hz₁ : IsZ h₁ z TI TO .ellipsis f1 := hz₁
    refine wpAny_bind ?_
    refine wpAny_forIn_list _ (fun l b s' => ∃ (R1 R2 : List Rw) (us os' : List Value) (h' : Heap) (tk : Nat), R = R1 ++ R2 ∧ l = (R2.map fun r => Value.ref r.it).zipIdx R1.length ∧ b = (none, ()) ∧ s' = { s with heap := h', toks := tk } ∧ Cs i R1 us ∧
      IsZ h' z TI TO .ellipsis f1 ∧ IsT h' TO (us ++ os') ∧ os'.length = R2.length ∧ (∀ r ∈ R1, StR r (i + 1) h') ∧ (∀ r ∈ R2, StR r i h') ∧ h'.objs.size = s.heap.objs.size ∧
      (∀ c o, c ≠ z → c ≠ TO → (∀ r ∈ R, c ≠ r.it) → s.heap.get? c = some o → h'.get? c = some o)) _ ?turn ?fin _ _ ?start
    case start =>
      refine ⟨[], R, [], os, h₁, s.toks, rfl, rfl, rfl, rfl, .nil, hz₁, ?_, hos, fun r hr => (by cases hr), fun r hr => (st r hr).keep fun o e => hs₁.extBut _ _ (D.iz r hr) e, hs₁.1, fun c o c1 _ _ e => hs₁.extBut _ _ c1 e⟩
      exact hs₁.extBut _ _ D.zTO.symm hTO
    case fin =>
      rintro b s' ⟨R1, R2, us, os', h', tk, eR, el, rfl, rfl, hc, z1, t1, lo, a1, a2, sz, fr⟩
      have e2 : R2 = [] := by
        cases R2 with
        | nil => rfl
        | cons r R2 => cases el
      subst e2
      rw [List.append_nil] at eR
      subst eR
      have e3 : os' = [] := List.eq_nil_of_length_eq_zero lo
      subst e3
      rw [List.append_nil] at t1
      show wpAny _ _ (seqItems? (.ref TO) >>= _) _ _ _
      refine wpAny_bind (wpAny_seqItems t1 rfl ?_)
      have hul := hc.len
      refine wpAny_bind (wpAny_newTuple ?_ (by rw [hul]; omega))
      have zlt : z < h'.objs.size := Heap.lt_size z1
      show wpAny _ _ (Builtin.SmallTypes.ownedTupleHandOut (.ref z) (.ref h'.objs.size) >>= _) _ _ _
      refine wpAny_bind ?_
      unfold Builtin.SmallTypes.ownedTupleHandOut
      have z2 : IsZ (h'.push { cls := .type "tuple", data := .seq us.toArray }) z TI TO .ellipsis f1 := Heap.get?_push_of_some _ z1
      refine wpAny_bind (wpAny_setField_rec z2 (by simp) fun h₇ z₇ s₇ => ?_)
      replace z₇ : IsZ h₇ z TI TO (rawInt h'.objs.size) f1 := z₇
      refine wpAny_setField_rec z₇ (by simp) fun h₈ z₈ s₈ => ?_
      replace z₈ : IsZ h₈ z TI TO (rawInt h'.objs.size) (.bool false) := z₈
      have up : ∀ c o, c ≠ z → h'.get? c = some o → h₈.get? c = some o := fun c o c1 e => s₈.extBut _ _ c1 (s₇.extBut _ _ c1 (Heap.get?_push_of_some _ e))
      have tN : IsT h₈ h'.objs.size us := s₈.extBut _ _ (Nat.ne_of_gt zlt) (s₇.extBut _ _ (Nat.ne_of_gt zlt) (Heap.get?_push_size _ rfl))
      have sz8 : h₈.objs.size = h'.objs.size + 1 := by rw [s₈.1, s₇.1, Heap.size_push]
      rw [sz] at tN sz8
      refine wpAny_pure ⟨_, rfl, ?_⟩
      show Q (.ref h'.objs.size) _
      rw [sz]
      exact hQ us h₈ tk _ _ us hc z₈ (.inr ⟨_, rfl⟩) (up _ _ D.zTO.symm t1) hul (fun r hr => (a1 r hr).keep fun o e => up _ _ (D.iz r hr) e) tN sz8 fun c o c1 c2 c3 e => up _ _ c1 (fr c o c1 c2 c3 e)
    case turn =>
      rintro x rest b s' ⟨R1, R2, us, os', h', tk, eR, el, rfl, rfl, hc, z1, t1, lo, a1, a2, sz, fr⟩
      cases R2 with
      | nil => cases el
      | cons r R2 =>
        cases el
        cases os' with
        | nil => cases lo
        | cons a os' =>
          have hrR : r ∈ R := by rw [eR]; simp
          refine wpAny_bind (wpAny_onRaise ?_)
          show wpAny _ _ (Builtin.SmallTypes.nextOf (.ref r.it) >>= _) _ _ _
          refine wpAny_bind (nx_item (a2 r (by simp)) (hi r hrR) fun v h2 tk2 hv st2 sb2 => wpAny_pure ?_)
          have t2 : IsT h2 TO (us ++ a :: os') := sb2.extBut _ _ (D.iTO r hrR).symm t1
          show wpAny _ _ (seqItems? (.ref TO) >>= _) _ _ _
          refine wpAny_bind (wpAny_seqItems t2 rfl ?_)
          have hul := hc.len
          have lenR : R.length = R1.length + (R2.length + 1) := by rw [eR]; simp
          have lo' : os'.length = R2.length := by simpa using lo
          refine wpAny_bind (wpAny_updateSeq t2 rfl ?_ (by simp; omega) (by simp; omega))
          have t3 : IsT (h2.update TO (Obj.mapSeq fun x => x.setIfInBounds R1.length v)) TO (us ++ [v] ++ os') := by
            show Heap.get? _ _ = _
            rw [Heap.get?_update_self _ t2 rfl]
            rw [← hul]
            have e := set_mid (us := us) (os := os') (a := a) (v := v)
            simp only [Obj.mapSeq, e]
            simp
          have sb3 : Heap.SameBut TO h2 (h2.update TO (Obj.mapSeq fun x => x.setIfInBounds R1.length v)) := Heap.SameBut.update ..
          refine wpAny_bind (wpAny_letGo (wpAny_pure ?_))
          have nodup := D.nd
          rw [eR, List.map_append, List.map_cons] at nodup
          have nd1 : ∀ q ∈ R1, q.it ≠ r.it := fun q hq e => by
            have := (List.nodup_append.mp nodup).2.2 q.it (List.mem_map_of_mem hq) r.it (by simp)
            exact this e
          have nd2 : ∀ q ∈ R2, q.it ≠ r.it := fun q hq e => by
            have h1 := (List.nodup_append.mp nodup).2.1
            rw [List.nodup_cons] at h1
            exact h1.1 (by rw [← e]; exact List.mem_map_of_mem hq)
          have inR1 : ∀ q ∈ R1, q ∈ R := fun q hq => by rw [eR]; simp [hq]
          have inR2 : ∀ q ∈ R2, q ∈ R := fun q hq => by rw [eR]; simp [hq]
          refine ⟨R1 ++ [r], R2, us ++ [v], os', _, tk2, by rw [eR]; simp, by simp, rfl, rfl, hc.snoc hv, ?_, t3, lo', ?_, ?_, ?_, ?_⟩
          · exact sb3.extBut _ _ D.zTO (sb2.extBut _ _ (D.iz r hrR).symm z1)
          · intro q hq
            rcases List.mem_append.mp hq with hq | hq
            · exact (a1 q hq).keep fun o e => sb3.extBut _ _ (D.iTO q (inR1 q hq)) (sb2.extBut _ _ (nd1 q hq) e)
            · rw [List.mem_singleton.mp hq]
              exact st2.keep fun o e => sb3.extBut _ _ (D.iTO r hrR) e
          · intro q hq
            exact (a2 q (by simp [hq])).keep fun o e => sb3.extBut _ _ (D.iTO q (inR2 q hq)) (sb2.extBut _ _ (nd2 q hq) e)
          · rw [sb3.1, sb2.1]; exact sz
          · exact fun c o c1 c2 c3 e => sb3.extBut _ _ c2 (sb2.extBut _ _ (c3 r hrR) (fr c o c1 c2 c3 e))
  · -- a new tuple
    intro h₁ g1 hz₁ hs₁
    simp only [Bool.false_eq_true, if_false]
    refine wpAny_bind ?_
    refine MeetsSeq2.wpAny_forIn_array _ (fun l b s' => ∃ (R1 R2 : List Rw) (us : List Value) (h' : Heap) (tk : Nat), R = R1 ++ R2 ∧ l = (R2.map fun r => Value.ref r.it) ∧ b = (none, us.toArray) ∧ s' = { s with heap := h', toks := tk } ∧ Cs i R1 us ∧
      IsZ h' z TI TO f0 g1 ∧ IsT h' TO os ∧ (∀ r ∈ R1, StR r (i + 1) h') ∧ (∀ r ∈ R2, StR r i h') ∧ h'.objs.size = s.heap.objs.size ∧
      (∀ c o, c ≠ z → c ≠ TO → (∀ r ∈ R, c ≠ r.it) → s.heap.get? c = some o → h'.get? c = some o)) _ ?turn ?fin _ _ ?start
    case start =>
      refine ⟨[], R, [], h₁, s.toks, rfl, by simp, rfl, rfl, .nil, hz₁, hs₁.extBut _ _ D.zTO.symm hTO, fun r hr => (by cases hr), fun r hr => (st r hr).keep fun o e => hs₁.extBut _ _ (D.iz r hr) e, hs₁.1, fun c o c1 _ _ e => hs₁.extBut _ _ c1 e⟩
    case fin =>
      rintro b s' ⟨R1, R2, us, h', tk, eR, el, rfl, rfl, hc, z1, t1, a1, a2, sz, fr⟩
      have e2 : R2 = [] := by
        cases R2 with
        | nil => rfl
        | cons r R2 => cases el
      subst e2
      rw [List.append_nil] at eR
      subst eR
      have hul := hc.len
      show wpAny _ _ (newTuple us.toArray.toList >>= _) _ _ _
      refine wpAny_bind (wpAny_newTuple ?_ (by simp; omega))
      refine wpAny_pure ⟨_, rfl, ?_⟩
      show Q (.ref h'.objs.size) _
      have tN : IsT (h'.push { cls := .type "tuple", data := .seq us.toArray }) h'.objs.size us := Heap.get?_push_size _ rfl
      have sz8 : (h'.push { cls := .type "tuple", data := .seq us.toArray }).objs.size = h'.objs.size + 1 := Heap.size_push ..
      rw [sz] at tN sz8
      rw [sz]
      exact hQ us _ tk _ _ os hc (Heap.get?_push_of_some _ z1) hf (Heap.get?_push_of_some _ t1) hos (fun r hr => (a1 r hr).keep fun o e => Heap.get?_push_of_some _ e) tN sz8 fun c o c1 c2 c3 e => Heap.get?_push_of_some _ (fr c o c1 c2 c3 e)
    case turn =>
      rintro x rest b s' ⟨R1, R2, us, h', tk, eR, el, rfl, rfl, hc, z1, t1, a1, a2, sz, fr⟩
      cases R2 with
      | nil => cases el
      | cons r R2 =>
        cases el
        have hrR : r ∈ R := by rw [eR]; simp
        refine wpAny_bind (wpAny_holding ?_)
        show wpAny _ _ (Builtin.SmallTypes.nextOf (.ref r.it) >>= _) _ _ _
        refine wpAny_bind (nx_item (a2 r (by simp)) (hi r hrR) fun v h2 tk2 hv st2 sb2 => wpAny_pure ?_)
        refine wpAny_pure ?_
        have nodup := D.nd
        rw [eR, List.map_append, List.map_cons] at nodup
        have nd1 : ∀ q ∈ R1, q.it ≠ r.it := fun q hq e => by
          have := (List.nodup_append.mp nodup).2.2 q.it (List.mem_map_of_mem hq) r.it (by simp)
          exact this e
        have nd2 : ∀ q ∈ R2, q.it ≠ r.it := fun q hq e => by
          have h1 := (List.nodup_append.mp nodup).2.1
          rw [List.nodup_cons] at h1
          exact h1.1 (by rw [← e]; exact List.mem_map_of_mem hq)
        refine ⟨R1 ++ [r], R2, us ++ [v], _, tk2, by rw [eR]; simp, rfl, by simp, rfl, hc.snoc hv, ?_, ?_, ?_, ?_, ?_, ?_⟩
        · exact sb2.extBut _ _ (D.iz r hrR).symm z1
        · exact sb2.extBut _ _ (D.iTO r hrR).symm t1
        · intro q hq
          rcases List.mem_append.mp hq with hq | hq
          · exact (a1 q hq).keep fun o e => sb2.extBut _ _ (nd1 q hq) e
          · rw [List.mem_singleton.mp hq]
            exact st2
        · intro q hq
          exact (a2 q (by simp [hq])).keep fun o e => sb2.extBut _ _ (nd2 q hq) e
        · rw [sb2.1]; exact sz
        · exact fun c o c1 c2 c3 e => sb2.extBut _ _ (c3 r hrR) (fr c o c1 c2 c3 e)
end
end ZN

set_option Elab.async false
set_option linter.all false
set_option maxRecDepth 100000
set_option maxHeartbeats 2000000
namespace ZN
open PySem
theorem typeCall_n (vs : List Value) : checkTypeCall "zip" ⟨vs, []⟩ = pure () := by kernel_rfl
theorem newCall_n (v : Value) (vs : List Value) : checkBuiltinCall "zip.__new__" ⟨.type "zip" :: v :: vs, []⟩ = pure () := by kernel_rfl
theorem init_n (a : Value) (vs : List Value) : argsOk "object.__init__" ⟨a :: vs, []⟩ := by
  unfold argsOk; rw [signature?_of (id := "object.__init__") (n := ['_', '_', 't', 'i', 'n', 'i', '_', '_']) (o := ['t', 'c', 'e', 'j', 'b', 'o']) (by kernel_rfl) F.owner_object]; kernel_rfl
def mkR (b : Nat) : List (Str × Tok) → List Rw
  | [] => []
  | p :: r => ⟨b, p.1, p.2, if p.1.cps.all (· < 128) = true then "str_ascii_iterator" else "str_iterator"⟩ :: mkR (b + 1) r
theorem mkR_app (xs ys : List (Str × Tok)) : ∀ b, mkR b (xs ++ ys) = mkR b xs ++ mkR (b + xs.length) ys := by
  induction xs with
  | nil => intro b; rfl
  | cons p r ih =>
    intro b
    show _ :: mkR (b + 1) (r ++ ys) = _ :: (mkR (b + 1) r ++ mkR (b + (r.length + 1)) ys)
    rw [ih (b + 1), show b + 1 + r.length = b + (r.length + 1) by omega]
theorem mkR_len (xs : List (Str × Tok)) : ∀ b, (mkR b xs).length = xs.length := by
  induction xs with
  | nil => intro b; rfl
  | cons p r ih => intro b; show (mkR (b + 1) r).length + 1 = _; rw [ih]; rfl
theorem mkR_it {xs : List (Str × Tok)} : ∀ {b : Nat} {r : Rw}, r ∈ mkR b xs → b ≤ (r.it : Nat) ∧ (r.it : Nat) < b + xs.length := by
  induction xs with
  | nil => intro b r h; cases h
  | cons p q ih =>
    intro b r h
    rcases List.mem_cons.mp (show r ∈ _ :: mkR (b + 1) q from h) with h | h
    · rw [h]; show b ≤ b ∧ b < b + (q.length + 1); omega
    · obtain ⟨h1, h2⟩ := ih h
      exact ⟨Nat.le_of_succ_le h1, Nat.lt_of_lt_of_le h2 (by rw [List.length_cons]; omega)⟩
theorem mkR_nd (xs : List (Str × Tok)) : ∀ b, ((mkR b xs).map (·.it)).Nodup := by
  induction xs with
  | nil => intro b; exact List.nodup_nil
  | cons p q ih =>
    intro b
    show (b :: (mkR (b + 1) q).map (·.it)).Nodup
    refine List.nodup_cons.mpr ⟨fun h => ?_, ih (b + 1)⟩
    obtain ⟨r, hr, e⟩ := List.mem_map.mp h
    have := (mkR_it hr).1
    omega
theorem mkR_x {xs : List (Str × Tok)} : ∀ {b : Nat}, (mkR b xs).map (·.x) = xs.map (·.1) := by
  induction xs with
  | nil => intro b; rfl
  | cons p q ih => intro b; show p.1 :: (mkR (b + 1) q).map (·.x) = _; rw [ih]; rfl
section
variable {prog : Program} {w : World} {A : Around} {E : Value → Shared → Prop} {s : Shared}
theorem iterAll_strs {xs : List (Str × Tok)} {Q : List Value → Shared → Prop}
    (hQ : ∀ h', (∀ r ∈ mkR s.heap.objs.size xs, StR r 0 h') → h'.objs.size = s.heap.objs.size + xs.length → (∀ c o, s.heap.get? c = some o → h'.get? c = some o) →
      Q ((mkR s.heap.objs.size xs).map fun r => .ref r.it) { s with heap := h' }) :
    wpAny (model prog w) A (Builtin.SmallTypes.iterAll (xs.map fun p => .str p.1 p.2)) Q E s := by
  unfold Builtin.SmallTypes.iterAll
  refine wpAny_bind ?_
  refine wpAny_forIn_list _ (fun l b s' => ∃ (x1 x2 : List (Str × Tok)) (h' : Heap), xs = x1 ++ x2 ∧ l = (x2.map fun p => Value.str p.1 p.2) ∧ b = ((mkR s.heap.objs.size x1).map fun r => Value.ref r.it).toArray ∧ s' = { s with heap := h' } ∧
    (∀ r ∈ mkR s.heap.objs.size x1, StR r 0 h') ∧ h'.objs.size = s.heap.objs.size + x1.length ∧ (∀ c o, s.heap.get? c = some o → h'.get? c = some o)) _ ?turn ?fin _ _ ⟨[], xs, s.heap, rfl, rfl, rfl, rfl, fun r hr => (by cases hr), rfl, fun c o e => e⟩
  case fin =>
    rintro b s' ⟨x1, x2, h', e1, e2, rfl, rfl, a1, sz, kp⟩
    have e3 : x2 = [] := by
      cases x2 with
      | nil => rfl
      | cons p q => cases e2
    subst e3
    rw [List.append_nil] at e1
    subst e1
    exact wpAny_pure (hQ h' a1 sz kp)
  case turn =>
    rintro x rest b s' ⟨x1, x2, h', e1, e2, rfl, rfl, a1, sz, kp⟩
    cases x2 with
    | nil => cases e2
    | cons p q =>
      cases e2
      refine wpAny_bind (wpAny_holding ?_)
      have fin : ∀ (ty : String), (ty = if p.1.cps.all (· < 128) = true then "str_ascii_iterator" else "str_iterator") → wpAny (model prog w) A (pure (ForInStep.yield ((((mkR s.heap.objs.size x1).map fun r => Value.ref r.it).toArray.push (.ref h'.objs.size))))) (fun r s'' => match r with
          | .yield b' => ∃ (x1 x2 : List (Str × Tok)) (h' : Heap), xs = x1 ++ x2 ∧ (q.map fun p => Value.str p.1 p.2) = (x2.map fun p => Value.str p.1 p.2) ∧ b' = ((mkR s.heap.objs.size x1).map fun r => Value.ref r.it).toArray ∧ s'' = { s with heap := h' } ∧ (∀ r ∈ mkR s.heap.objs.size x1, StR r 0 h') ∧ h'.objs.size = s.heap.objs.size + x1.length ∧ (∀ c o, s.heap.get? c = some o → h'.get? c = some o)
          | .done b' => wpAny (model prog w) A (pure b'.toList) Q E s'') E { s with heap := h'.push { cls := .type ty, data := .fields #[.str p.1 p.2, .int 0 0] } } := fun ty ht => by
        refine wpAny_pure ⟨x1 ++ [p], q, _, by rw [e1]; simp, rfl, ?_, rfl, fun r hr => ?_, ?_, fun c o e => Heap.get?_push_of_some _ (kp c o e)⟩
        · rw [mkR_app, sz]
          simp [mkR]
        · rw [mkR_app] at hr
          rcases List.mem_append.mp hr with hr | hr
          · exact (a1 r hr).keep fun o e => Heap.get?_push_of_some _ e
          · rw [List.mem_singleton.mp (show r ∈ [_] from hr)]
            refine ⟨?_, { cls := .type ty, data := .fields #[.str p.1 p.2, .int 0 0] }, ?_, by rw [ht], rfl⟩
            · show (if _ then _ else _) = _ ∨ (if _ then _ else _) = _
              split
              · exact .inl rfl
              · exact .inr rfl
            · show Heap.get? _ (s.heap.objs.size + x1.length) = _
              rw [← sz]
              exact Heap.get?_push_size _ rfl
        · rw [Heap.size_push, sz]; simp; omega
      cases ha : p.1.cps.all (· < 128) with
      | false => exact wpAny_pyIter_wide ha (fin "str_iterator" (by rw [ha]; rfl))
      | true => exact wpAny_pyIter_ascii ha (fin "str_ascii_iterator" (by rw [ha]; rfl))
abbrev zH (h : Heap) (its : List Value) : Heap := ((h.push { cls := .type "tuple", data := .seq its.toArray }).push { cls := .type "tuple", data := .seq (its.map fun _ => Value.none).toArray }).push
  { cls := .type "zip", data := .fields #[.none, .bool false, .bool false, .ref h.objs.size, .ref (h.objs.size + 1)] }
theorem z_tail {its : List Value} {Q : Fin → Shared → Prop} (hl : its.length ≤ 1000) (h : Q (.done (.ret (.ref (s.heap.objs.size + 2)))) { s with heap := zH s.heap its }) :
    wpAny (model prog w) A (newTuple its >>= fun a => newTuple (its.map fun _ => Value.none) >>= fun b => Builtin.SmallTypes.newRecord (.type "zip") (Builtin.SmallTypes.ownedTupleFields ++ [Value.bool false, a, b]) >>= fun r => ret r) Q E s := by
  have szl : (1000 : Nat) ≤ sizeLine := by decide
  refine wpAny_bind (wpAny_newTuple ?_ (by omega))
  refine wpAny_bind (wpAny_newTuple ?_ (by rw [List.length_map]; omega))
  refine wpAny_bind ?_
  unfold Builtin.SmallTypes.newRecord
  refine wpAny_newObj_type (wpAny_pure ?_) (by show 5 ≤ sizeLine + 2; decide)
  have z1 : (s.heap.push { cls := .type "tuple", data := .seq its.toArray }).objs.size = s.heap.objs.size + 1 := Heap.size_push ..
  have z2 : ((s.heap.push { cls := .type "tuple", data := .seq its.toArray }).push { cls := .type "tuple", data := .seq (its.map fun _ => Value.none).toArray }).objs.size = s.heap.objs.size + 2 := by rw [Heap.size_push, z1]
  show Q (.done (.ret (.ref ((s.heap.push { cls := .type "tuple", data := .seq its.toArray }).push { cls := .type "tuple", data := .seq (its.map fun _ => Value.none).toArray }).objs.size))) { s with heap := ((s.heap.push { cls := .type "tuple", data := .seq its.toArray }).push { cls := .type "tuple", data := .seq (its.map fun _ => Value.none).toArray }).push ({ cls := .type "zip", data := .fields #[.none, .bool false, .bool false, .ref s.heap.objs.size, .ref (s.heap.push { cls := .type "tuple", data := .seq its.toArray }).objs.size] } : Obj) }
  rw [z2, z1]
  exact h
/-- a zip stands, all at the start -/
structure ZAt (h h' : Heap) (xs : List (Str × Tok)) : Prop where
  zp : IsZ h' (h.objs.size + xs.length + 2) (h.objs.size + xs.length) (h.objs.size + xs.length + 1) .none (.bool false)
  ti : IsT h' (h.objs.size + xs.length) ((mkR h.objs.size xs).map fun r => .ref r.it)
  tu : ∃ os, IsT h' (h.objs.size + xs.length + 1) os ∧ os.length = xs.length
  st : ∀ r ∈ mkR h.objs.size xs, StR r 0 h'
  sz : h'.objs.size = h.objs.size + xs.length + 3
  kp : ∀ c o, h.get? c = some o → h'.get? c = some o
theorem meets_new (xs : List (Str × Tok)) (hl : xs.length ≤ 1000) : Meets (Builtin.«zip.__new__» ⟨.type "zip" :: xs.map (fun p => .str p.1 p.2), []⟩) (fun _ R s => ∀ h', ZAt s.heap h' xs → R (.ok (.ret (.ref (s.heap.objs.size + xs.length + 2)))) { s with heap := h' }) :=
  .of_wp fun prog w A R s h => by
    obtain ⟨hp, g, d, tk, os⟩ := s
    have hsub := sub_zip
    have szl : (1000 : Nat) ≤ sizeLine := by decide
    have ll := mkR_len xs hp.objs.size
    wp_walk using iterAll_strs (xs := xs)
    intro h1 a1 sz kp
    change h1.objs.size = hp.objs.size + xs.length at sz
    have lt : ((mkR hp.objs.size xs).map fun r => Value.ref r.it).length = xs.length := by rw [List.length_map, ll]
    refine z_tail (s := ⟨h1, g, d, tk, os⟩) (its := (mkR hp.objs.size xs).map fun r => Value.ref r.it) (by omega) ?_
    refine ⟨_, rfl, ?_⟩
    show R (Except.ok (Flow.ret (.ref (h1.objs.size + 2)))) ⟨zH h1 _, g, d, tk, os⟩
    have z1 : (h1.push { cls := .type "tuple", data := .seq ((mkR hp.objs.size xs).map fun r => Value.ref r.it).toArray }).objs.size = h1.objs.size + 1 := Heap.size_push ..
    have z2 : ((h1.push { cls := .type "tuple", data := .seq ((mkR hp.objs.size xs).map fun r => Value.ref r.it).toArray }).push { cls := .type "tuple", data := .seq (((mkR hp.objs.size xs).map fun r => Value.ref r.it).map fun _ => Value.none).toArray }).objs.size = h1.objs.size + 2 := by rw [Heap.size_push, z1]
    have g3 : (zH h1 ((mkR hp.objs.size xs).map fun r => Value.ref r.it)).get? (h1.objs.size + 2) = some { cls := .type "zip", data := .fields #[.none, .bool false, .bool false, .ref h1.objs.size, .ref (h1.objs.size + 1)] } := by
      rw [← z2]; exact Heap.get?_push_size _ rfl
    have g2 : (zH h1 ((mkR hp.objs.size xs).map fun r => Value.ref r.it)).get? (h1.objs.size + 1) = some { cls := .type "tuple", data := .seq (((mkR hp.objs.size xs).map fun r => Value.ref r.it).map fun _ => Value.none).toArray } := by
      refine Heap.get?_push_of_some _ ?_
      rw [← z1]; exact Heap.get?_push_size _ rfl
    have g1 : (zH h1 ((mkR hp.objs.size xs).map fun r => Value.ref r.it)).get? h1.objs.size = some { cls := .type "tuple", data := .seq ((mkR hp.objs.size xs).map fun r => Value.ref r.it).toArray } := Heap.get?_push_of_some _ (Heap.get?_push_of_some _ (Heap.get?_push_size _ rfl))
    have z3 : (zH h1 ((mkR hp.objs.size xs).map fun r => Value.ref r.it)).objs.size = h1.objs.size + 3 := by rw [Heap.size_push, z2]
    have k3 : ∀ c o, h1.get? c = some o → (zH h1 ((mkR hp.objs.size xs).map fun r => Value.ref r.it)).get? c = some o := fun c o e => Heap.get?_push_of_some _ (Heap.get?_push_of_some _ (Heap.get?_push_of_some _ e))
    generalize zH h1 ((mkR hp.objs.size xs).map fun r => Value.ref r.it) = hz at g1 g2 g3 z3 k3 ⊢
    rw [sz] at g1 g2 g3 z3 ⊢
    exact h hz ⟨g3, g1, ⟨_, g2, by rw [List.length_map]; exact lt⟩, fun r hr => (a1 r hr).keep fun o e => k3 _ _ e, z3, fun c o e => k3 _ _ (kp c o e)⟩
end
end ZN

set_option Elab.async false
set_option linter.all false
set_option maxRecDepth 100000
set_option maxHeartbeats 2000000
namespace ZN
open PySem
section
variable {prog : Program} {w : World} {A : Around} {E : Value → Shared → Prop} {s : Shared}
theorem zipN_end {z TI TO : Addr} {r : Rw} {R : List Rw} {i : Nat} {f0 f1 : Value} {os : List Value} {Q : Fin → Shared → Prop} (hh : A.handled = none) (D : Ap z TI TO (r :: R)) (hz : IsZ s.heap z TI TO f0 f1) (hf : f0 = .none ∨ ∃ a : Nat, f0 = rawInt a)
    (hTI : IsT s.heap TI ((r :: R).map fun r => .ref r.it)) (hTO : IsT s.heap TO os) (st : StR r i s.heap) (hi : r.x.cps.size ≤ i)
    (hE : ∀ h' e, (∀ c o, c ≠ z → c ≠ TO → c ≠ r.it → s.heap.get? c = some o → h'.get? c = some o) → (∃ o, h'.get? e = some o ∧ o.cls = .type "StopIteration") → E (.ref e) { s with heap := h' }) :
    wpAny (model prog w) A (Builtin.«zip.__next__» ⟨[.ref z], []⟩) Q E s := by
  show wpAny _ _ (field (.ref z) 2 >>= _) _ _ _
  refine wpAny_bind (wpAny_field hz rfl (x := .bool false) rfl ?_)
  show wpAny _ _ (field (.ref z) 3 >>= _) _ _ _
  refine wpAny_bind (wpAny_field hz rfl (x := .ref TI) rfl ?_)
  refine wpAny_bind (wpAny_seqItems hTI rfl ?_)
  have hne : (((r :: R).map fun r => Value.ref r.it).toArray.isEmpty) = false := rfl
  simp only [hne, Bool.false_eq_true, if_false]
  have rz : r.it ≠ z := D.iz r (List.mem_cons_self ..)
  refine wpAny_bind (free_or hz hf ?_ ?_)
  · simp only [if_true]
    refine wpAny_bind (wpAny_rule ?_)
    refine wpAny_bind (wpAny_field hz rfl (x := .ref TO) rfl ?_)
    refine wpAny_bind (wpAny_setField_rec hz (by simp) fun h₁ hz₁ hs₁ => ?_)
    replace hz₁ : IsZ h₁ z TI TO .ellipsis f1 := hz₁
    refine wpAny_bind ?_
    simp only [List.map_cons, List.zipIdx_cons, List.forIn_cons]
    refine wpAny_bind (wpAny_bind (wpAny_onRaise ?_))
    show wpAny _ _ (Builtin.SmallTypes.nextOf (.ref r.it) >>= _) _ _ _
    refine wpAny_bind (nx_end hh (st.keep fun o e => hs₁.extBut _ _ rz e) hi fun h₂ e hs₂ he => ?_)
    obtain ⟨oe, hoe, hce⟩ := he
    have hz₂ : IsZ h₂ z TI TO .ellipsis f1 := hs₂ _ _ rz.symm hz₁
    have hez : e ≠ z := fun x => by subst x; rw [hz₂] at hoe; cases hoe; simp at hce
    exact wpAny_setField_rec hz₂ (by simp) fun h₃ _ hs₃ => hE h₃ e (fun c o c1 _ c3 x => hs₃.extBut _ _ c1 (hs₂ _ _ c3 (hs₁.extBut _ _ c1 x))) ⟨oe, hs₃.extBut _ _ hez hoe, hce⟩
  · intro h₁ g1 hz₁ hs₁
    simp only [Bool.false_eq_true, if_false]
    refine wpAny_bind ?_
    rw [← Array.forIn_toList]
    simp only [List.map_cons, List.forIn_cons]
    refine wpAny_bind (wpAny_bind (wpAny_holding ?_))
    show wpAny _ _ (Builtin.SmallTypes.nextOf (.ref r.it) >>= _) _ _ _
    refine wpAny_bind (nx_end hh (st.keep fun o e => hs₁.extBut _ _ rz e) hi fun h₂ e hs₂ he => ?_)
    exact hE h₂ e (fun c o c1 _ c3 x => hs₂ _ _ c3 (hs₁.extBut _ _ c1 x)) he
theorem pyNext_item {z TI TO : Addr} {R : List Rw} {i : Nat} {f0 f1 : Value} {os : List Value} {Q : Option Value → Shared → Prop} (hR : R ≠ []) (D : Ap z TI TO R) (hz : IsZ s.heap z TI TO f0 f1) (hf : f0 = .none ∨ ∃ a : Nat, f0 = rawInt a)
    (hTI : IsT s.heap TI (R.map fun r => .ref r.it)) (hTO : IsT s.heap TO os) (hos : os.length = R.length) (hl : R.length ≤ 1000) (st : ∀ r ∈ R, StR r i s.heap) (hi : ∀ r ∈ R, i < r.x.cps.size)
    (hQ : ∀ us h' tk g0 g1 os', Cs i R us → IsZ h' z TI TO g0 g1 → (g0 = .none ∨ ∃ a : Nat, g0 = rawInt a) → IsT h' TO os' → os'.length = R.length → (∀ r ∈ R, StR r (i + 1) h') → IsT h' s.heap.objs.size us → h'.objs.size = s.heap.objs.size + 1 →
      (∀ c o, c ≠ z → c ≠ TO → (∀ r ∈ R, c ≠ r.it) → s.heap.get? c = some o → h'.get? c = some o) → Q (some (.ref s.heap.objs.size)) { s with heap := h', toks := tk }) :
    wpAny (model prog w) A (pyNext (.ref z)) Q E s := by
  have hT : s.TypeIs (.ref z) "zip" := ⟨_, hz, rfl⟩
  unfold pyNext
  exact wpAny_bind (wpAny_attempt (wpAny_callSpecial?_slot (name := Str.ofString "__next__") hT F.slot_zip_next
    (wpAny_call_entry F.slot_zip_next hT F.entry_zip_next
      (zipN_item hR D hz hf hTI hTO hos hl st hi fun us h' tk g0 g1 os' a1 a2 a3 a4 a5 a6 a7 a8 a9 => wpAny_pure (hQ us h' tk g0 g1 os' a1 a2 a3 a4 a5 a6 a7 a8 a9)) (F.args_zip_next_1 _))))
theorem pyNext_end {z TI TO : Addr} {r : Rw} {R : List Rw} {i : Nat} {f0 f1 : Value} {os : List Value} {Q : Option Value → Shared → Prop} (hh : A.handled = none) (D : Ap z TI TO (r :: R)) (hz : IsZ s.heap z TI TO f0 f1) (hf : f0 = .none ∨ ∃ a : Nat, f0 = rawInt a)
    (hTI : IsT s.heap TI ((r :: R).map fun r => .ref r.it)) (hTO : IsT s.heap TO os) (st : StR r i s.heap) (hi : r.x.cps.size ≤ i)
    (hQ : ∀ h', (∀ c o, c ≠ z → c ≠ TO → c ≠ r.it → s.heap.get? c = some o → h'.get? c = some o) → Q none { s with heap := h' }) : wpAny (model prog w) A (pyNext (.ref z)) Q E s := by
  have hT : s.TypeIs (.ref z) "zip" := ⟨_, hz, rfl⟩
  unfold pyNext
  refine wpAny_bind (wpAny_attempt (wpAny_callSpecial?_slot (name := Str.ofString "__next__") hT F.slot_zip_next
    (wpAny_call_entry F.slot_zip_next hT F.entry_zip_next (zipN_end hh D hz hf hTI hTO st hi fun h' e hk he => ?_) (F.args_zip_next_1 _))))
  obtain ⟨o, ho, hc⟩ := he
  refine wpAny_bind (wpAny_isInstance (T := "StopIteration") (b := true) ⟨o, ho, hc⟩ isSubtype_stop ?_)
  exact wpAny_pure (hQ _ hk)
theorem call_zipN {x : Str × Tok} {xs : List (Str × Tok)} {Q : Value → Shared → Prop} (hl : (x :: xs).length ≤ 1000) (h : ∀ h', ZAt s.heap h' (x :: xs) → Q (.ref (s.heap.objs.size + (x :: xs).length + 2)) { s with heap := h' }) :
    wpAny (model prog w) A (call (.type "zip") ((x :: xs).map fun p => .str p.1 p.2)) Q E s := by
  refine callType_new F.called_zip (by decide) (typeCall_n _) (newCall_n _ _) (fun obj => init_n obj _) F.entry_zip_new (meets_new (x :: xs) hl) fun h' z => ?_
  exact ⟨⟨_, z.zp, rfl⟩, h h' z⟩
end
end ZN

set_option Elab.async false
set_option linter.all false
set_option maxRecDepth 100000
set_option maxHeartbeats 2000000
namespace L2
open PySem PySem.Spec PyProof.Rows ZN
/-- the i-th sign of a text, as a text -/
def signS (x : Str) (i : Nat) : Str := ⟨#[x.cps.getD i 0]⟩
/-- the i-th signs of all -/
def colV (xs : List Str) (i : Nat) : List V := xs.map fun x => .str (signS x i)
/-- texts of m signs each walked side by side: a new tuple each turn -/
def ItS (xs : List Str) (m : Nat) : It := ⟨fun i _ => i < m, fun i H v H' => ∃ T, v = .ref T ∧ H T = none ∧ H' = upd H T (.tup (colV xs i)), fun i _ => m ≤ i⟩
theorem cs_vals {i : Nat} {R : List Rw} {us : List Value} (h : Cs i R us) : Vals (colV (R.map (·.x)) i) us := by
  induction h with
  | nil => exact .nil
  | cons h t ih =>
    obtain ⟨c, u, hc, rfl⟩ := h
    refine .cons ⟨u, ?_⟩ ih
    show Value.str ⟨#[c]⟩ u = Value.str (signS _ i) u
    unfold signS
    rw [Array.getD_eq_getD_getElem?, hc]
    rfl
/-- what stands of a zip at its i-th turn -/
def ZTn (z TI TO : Addr) (R : List Rw) (i : Nat) (h : Heap) : Prop := ∃ (f0 f1 : Value) (os : List Value), IsZ h z TI TO f0 f1 ∧ (f0 = .none ∨ ∃ a : Nat, f0 = rawInt a) ∧ IsT h TI (R.map fun r => .ref r.it) ∧ IsT h TO os ∧ os.length = R.length ∧ ∀ r ∈ R, StR r i h
theorem mem_fp {z TI TO b : Addr} {R : List Rw} (h : b ∈ z :: TI :: TO :: R.map (·.it)) : b = z ∨ b = TI ∨ b = TO ∨ ∃ r ∈ R, b = r.it := by
  simp only [List.mem_cons, List.mem_map] at h
  rcases h with h | h | h | ⟨r, hr, e⟩
  · exact .inl h
  · exact .inr (.inl h)
  · exact .inr (.inr (.inl h))
  · exact .inr (.inr (.inr ⟨r, hr, e.symm⟩))
theorem turn_zipS {P : Program} {w : World} {K : PySem.W.Frag} {n : Str} {npos : Pos} {z TI TO : Addr} {R : List Rw} {m : Nat} (hR : R ≠ []) (hl : R.length ≤ 1000) (hm : ∀ r ∈ R, r.x.cps.size = m) (D : Ap z TI TO R) :
    Turn P w K (.Name n npos) (ItS (R.map (·.x)) m) (z :: TI :: TO :: R.map (·.it)) z (ZTn z TI TO R) where
  mem := by simp
  obj := fun i h st c hc => by
    obtain ⟨f0, f1, os, hz, _, hTI, hTO, _, hs⟩ := st
    rcases mem_fp hc with rfl | rfl | rfl | ⟨r, hr, rfl⟩
    · exact ⟨_, hz, fun v q => nomatch q⟩
    · exact ⟨_, hTI, fun v q => nomatch q⟩
    · exact ⟨_, hTO, fun v q => nomatch q⟩
    · obtain ⟨_, o, e, _, d⟩ := hs r hr
      exact ⟨o, e, fun v q => by rw [d] at q; cases q⟩
  keep := fun i h h' st k => by
    obtain ⟨f0, f1, os, hz, hf, hTI, hTO, ho, hs⟩ := st
    exact ⟨f0, f1, os, k z (by simp) _ hz, hf, k TI (by simp) _ hTI, k TO (by simp) _ hTO, ho, fun r hr => (hs r hr).keep fun o e => k r.it (by simp; exact .inr (.inr (.inr ⟨r, hr, rfl⟩))) o e⟩
  item := by
    intro X hP hw hK hc i pins s σ H E I hf st hg
    subst hP hw hK
    obtain ⟨f0, f1, os, hz, hff, hTI, hTO, ho, hs⟩ := st
    have hzl : z < s.heap.objs.size := Heap.lt_size hz
    refine pyNext_item hR D hz hff hTI hTO ho hl hs (fun r hr => by rw [hm r hr]; exact hg) fun us h' tk g0 g1 os' cs z' gf TO' lo' st' tN sz' kp => ?_
    refine ⟨_, rfl, wpAny_pure ?_⟩
    have rv := cs_vals cs
    have new : ObjOk X.prog X.w (upd H s.heap.objs.size (.tup (colV (R.map (·.x)) i))) h' s.heap.objs.size (.tup (colV (R.map (·.x)) i)) :=
      ⟨by unfold colV; rw [List.length_map, List.length_map]; exact Nat.le_trans hl (by decide), us, rv, ⟨_, tN, rfl, _, rfl⟩⟩
    have I1 : Inv X pins σ (upd H s.heap.objs.size (.tup (colV (R.map (·.x)) i))) { s with heap := h', toks := tk } :=
      I.turnedNew (t' := tk) (ch := z :: TI :: TO :: R.map (·.it)) (fun c o hb q => kp c o (fun e => hb (by simp [e])) (fun e => hb (by simp [e])) (fun r hr e => hb (by simp; exact .inr (.inr (.inr ⟨r, hr, e.symm⟩)))) q) hf (Nat.le_refl _) new
    refine ⟨.ref s.heap.objs.size, _, I1, rfl, ⟨_, rfl, I.hok.fresh (Nat.le_refl _), rfl⟩, ⟨g0, g1, os', z', gf, ?_, TO', lo', st'⟩, fun c hcm => ?_⟩
    · exact kp _ _ D.zTI.symm D.TITO (fun r hr => (D.iTI r hr).symm) hTI
    · have hlt : c < s.heap.objs.size := by
        rcases mem_fp hcm with rfl | rfl | rfl | ⟨r, hr, rfl⟩
        · exact hzl
        · exact Heap.lt_size hTI
        · exact Heap.lt_size hTO
        · obtain ⟨_, o, e, _⟩ := hs r hr
          exact Heap.lt_size e
      rw [upd_ne (Nat.ne_of_lt hlt)]
      exact (hf c hcm).1
  done := by
    intro X hP hw hK hc i pins s σ H E I hf st hg
    subst hP hw hK
    obtain ⟨f0, f1, os, hz, hff, hTI, hTO, ho, hs⟩ := st
    cases R with
    | nil => exact absurd rfl hR
    | cons r R =>
      refine pyNext_end (I.ok.hd hc) D hz hff hTI hTO (hs r (by simp)) (by rw [hm r (by simp)]; exact hg) fun h' hk => ⟨rfl, ?_⟩
      exact I.turnedL (t' := s.toks) (ch := z :: TI :: TO :: (r :: R).map (·.it)) (fun c o hb q => hk c o (fun e => hb (by simp [e])) (fun e => hb (by simp [e])) (fun e => hb (by simp [e])) q) hf
  self := fun A i s Q E st h => by
    obtain ⟨f0, f1, os, hz, _⟩ := st
    have hT : s.TypeIs (.ref z) "zip" := ⟨_, hz, rfl⟩
    refine wpAny_pyIter_slot hT F.slot_zip_iter (wpAny_call_entry F.slot_zip_iter hT F.entry_zip_iter ?_ (F.args_zip_iter_1 _))
    show wpAny _ _ (ret (.ref z)) _ _ s
    exact wpAny_pure ⟨_, rfl, "zip", _, hT, F.slot_zip_next.lookup, h⟩
theorem strs_vals : ∀ {xs : List Str} {us : List Value}, Vals (xs.map V.str) us → ∃ ps : List (Str × Tok), us = ps.map (fun p => .str p.1 p.2) ∧ ps.map (·.1) = xs
  | [], _, .nil => ⟨[], rfl, rfl⟩
  | x :: xs, _, .cons r t => by
    obtain ⟨k, rfl⟩ := r
    obtain ⟨ps, rfl, e⟩ := strs_vals t
    exact ⟨(x, k) :: ps, rfl, by simp [e]⟩
def iZipS (K : PySem.W.Frag) (te : TE) : TI := fun σ H R => te σ H fun y H1 => ∃ (a : Addr) (xs : List Str) (m : Nat), y = .ref a ∧ (SqT K H1 a (xs.map V.str) ∨ SqL K H1 a (xs.map V.str)) ∧ xs ≠ [] ∧ xs.length ≤ 1000 ∧ (∀ x ∈ xs, x.length = m) ∧ R (ItS xs m) H1
theorem pi_zipS {X : Cx} {n : Str} {e : Expr} {te : TE} {p sp pos npos : Pos} (hg : Gl X "zip") (hm : X.mg "zip" = none) (he : PE X e te) (hst : starEach [.Starred e sp] X.env = [(true, eval e X.env)] := by rfl) :
    PI X (.Name n npos) (.Call (.Name "zip" p) [.Starred e sp] [] pos) (iZipS X.K te) := by
  refine ⟨fun pins s σ H R I h => ?_⟩
  refine Call_ (ld_blt I hg hm boot_zip ?_)
  rw [hst]
  refine PySem.W.ks_call (P := fun _ => True) rfl (fun h _ => ⟨.machine, .inr (.inl rfl), PySem.W.Looks.of_pure rfl⟩) (PySem.W.ks_lone (thn (he.run pins s σ H _ I h) fun v s1 ⟨y, H1, I1, ry, a, xs, m, ey, hxs, hne, hl, hlen, q⟩ => ?_))
  subst ey
  obtain rfl : v = Value.ref a := ry
  refine StX.star_any I1 hxs fun us s2 I2 rv => ⟨trivial, ?_⟩
  obtain ⟨ps, rfl, eps⟩ := strs_vals rv
  cases ps with
  | nil => exact absurd eps.symm hne
  | cons x ps =>
    have hpl : (x :: ps).length = xs.length := by rw [← eps, List.length_map]
    refine call_zipN (by rw [hpl]; exact hl) fun h' Z => ?_
    have hz := Z.zp
    have hT : Shared.TypeIs ⟨h', s2.gens, s2.drawn, s2.toks, s2.os⟩ (.ref (s2.heap.objs.size + (x :: ps).length + 2)) "zip" := ⟨_, hz, rfl⟩
    refine wpAny_pyIter_slot hT F.slot_zip_iter (wpAny_call_entry F.slot_zip_iter hT F.entry_zip_iter ?_ (F.args_zip_iter_1 _))
    show wpAny _ _ (ret (.ref _)) _ _ _
    refine wpAny_pure ⟨_, rfl, "zip", _, hT, F.slot_zip_next.lookup, ?_⟩
    have I3 : Inv X pins σ H1 { s2 with heap := h' } := I2.kept (t' := s2.toks) Z.kp
    have bnd : ∀ r ∈ mkR s2.heap.objs.size (x :: ps), s2.heap.objs.size ≤ (r.it : Nat) ∧ (r.it : Nat) < s2.heap.objs.size + (x :: ps).length := fun r hr => mkR_it hr
    have D : Ap (s2.heap.objs.size + (x :: ps).length + 2) (s2.heap.objs.size + (x :: ps).length) (s2.heap.objs.size + (x :: ps).length + 1) (mkR s2.heap.objs.size (x :: ps)) :=
      ⟨Nat.ne_of_gt (by omega), Nat.ne_of_gt (by omega), Nat.ne_of_lt (by omega), fun r hr => Nat.ne_of_lt (Nat.lt_trans (bnd r hr).2 (by omega)), fun r hr => Nat.ne_of_lt (bnd r hr).2, fun r hr => Nat.ne_of_lt (Nat.lt_trans (bnd r hr).2 (by omega)), mkR_nd _ _⟩
    have ex : (mkR s2.heap.objs.size (x :: ps)).map (·.x) = xs := by rw [mkR_x, eps]
    have fresh : ∀ c, c ∈ (s2.heap.objs.size + (x :: ps).length + 2) :: (s2.heap.objs.size + (x :: ps).length) :: (s2.heap.objs.size + (x :: ps).length + 1) :: (mkR s2.heap.objs.size (x :: ps)).map (·.it) → FpOk X pins H1 c := fun c hcm => by
      have hle : s2.heap.objs.size ≤ c := by
        rcases mem_fp hcm with rfl | rfl | rfl | ⟨r, hr, rfl⟩
        · omega
        · omega
        · omega
        · exact (bnd r hr).1
      exact I2.fpOk hle (I2.hok.fresh hle)
    obtain ⟨os, hos, los⟩ := Z.tu
    refine ⟨_, _, ZTn _ _ _ (mkR s2.heap.objs.size (x :: ps)), ItS xs m, H1, rfl, I3, ?_, ⟨_, _, os, hz, .inl rfl, Z.ti, hos, by rw [los, mkR_len], Z.st⟩, fresh, q⟩
    have tt := turn_zipS (P := X.prog) (w := X.w) (K := X.K) (n := n) (npos := npos) (m := m) (R := mkR s2.heap.objs.size (x :: ps)) (by intro z; cases z) (by rw [mkR_len, hpl]; exact hl) (fun r hr => by
      have : r.x ∈ xs := by rw [← ex]; exact List.mem_map_of_mem hr
      exact hlen _ this) D
    rw [ex] at tt
    exact tt
end L2

set_option Elab.async false
set_option linter.all false
set_option maxRecDepth 100000
set_option maxHeartbeats 1000000
namespace L2
open PySem
/-! comprehensions over a text, over texts side by side -/
section
variable {g : TG} {tt : TT} {te : TE} {vs : List Nat} {σ : St} {H1 : Hp} {D : Addr} {Qd : Hp → Prop}
theorem lc_fmS {x : Str} (nD : H1 D = none) (hz : x.cps.size < 100000) (o : Nat → Option V)
    (hs : ∀ (i ch : Nat) (H : Hp) (Nx : Hp → Prop), x.cps[i]? = some ch → Same H1 H → (∀ H' y, Same H H' → o ch = some y → ∃ acc, H' D = some (.lst acc) ∧ acc.length < sizeLine ∧ Nx (upd H' D (.lst (acc ++ [y])))) → (∀ H', Same H H' → o ch = none → Nx H') →
      g (.str ⟨#[ch]⟩) (wipe σ vs) H fun σ2 H2 => wipe σ2 vs = wipe σ vs ∧ tt σ2 H2 fun b H3 => if b = true then te σ2 H3 fun y H4 => ∃ acc, H4 D = some (.lst acc) ∧ acc.length < sizeLine ∧ Nx (upd H4 D (.lst (acc ++ [y]))) else Nx H3)
    (hd : ∀ H, Same H1 H → H D = some (.lst (x.cps.toList.filterMap o)) → Qd H) :
    ∃ W : Nat → Nat → Hp → Prop, (∃ m, W 0 m (upd H1 D (.lst []))) ∧ ∀ i m H, W i m H →
      ((Its x).stop i H ∧ Qd H) ∨ ((Its x).go i H ∧ ∃ Nx : Hp → Prop, (∀ H', Nx H' → ∃ m', m' < m ∧ W (i + 1) m' H') ∧ ∀ v H', (Its x).yld i H v H' → g v (wipe σ vs) H' fun σ2 H2 => wipe σ2 vs = wipe σ vs ∧ tt σ2 H2 fun b H3 =>
        if b = true then te σ2 H3 fun y H4 => ∃ acc, H4 D = some (.lst acc) ∧ acc.length < sizeLine ∧ Nx (upd H4 D (.lst (acc ++ [y]))) else Nx H3) := by
  have sm : Same H1 (upd H1 D (.lst [])) := fun b x e => by rw [upd_ne (ne_of_none e nD)]; exact e
  refine ⟨fun i m H => m = x.cps.size - i ∧ i ≤ x.cps.size ∧ Same H1 H ∧ H D = some (.lst ((x.cps.toList.take i).filterMap o)), ⟨x.cps.size, by simp, Nat.zero_le _, sm, upd_same⟩, ?_⟩
  rintro i m H ⟨rfl, hi, h1, h2⟩
  by_cases hlt : i < x.cps.size
  · refine .inr ⟨hlt, fun H' => Same H1 H' ∧ H' D = some (.lst ((x.cps.toList.take (i + 1)).filterMap o)), fun H' p => ⟨x.cps.size - (i + 1), by omega, rfl, hlt, p.1, p.2⟩, fun v H' y => ?_⟩
    obtain ⟨rfl, ch, hc, rfl⟩ := y
    have hx : x.cps.toList[i]? = some ch := by rw [Array.getElem?_toList]; exact hc
    refine hs i ch H' _ hc h1 (fun H2 y s e => ⟨_, s _ _ h2, ?_, fun b z q => ?_, ?_⟩) (fun H2 s e => ⟨h1.trans s, ?_⟩)
    · exact Nat.lt_of_le_of_lt (fm_len o _ i) (by rw [Array.length_toList]; exact Nat.lt_trans hz (by decide))
    · rw [upd_ne (ne_of_none q nD)]
      exact s _ _ (h1 _ _ q)
    · rw [upd_same, take_fm o hx, e]
      rfl
    · rw [s _ _ h2, take_fm o hx, e]
      simp
  · have e : i = x.cps.size := by omega
    refine .inl ⟨by rw [e]; exact Nat.le_refl _, hd H h1 ?_⟩
    rw [h2, List.take_of_length_le (by rw [Array.length_toList]; omega)]
theorem lc_zipS {xs : List Str} {n : Nat} (nD : H1 D = none) (hz : n < 100000) (o : Nat → Option V)
    (hs : ∀ (i : Nat) (T : Addr) (H : Hp) (Nx : Hp → Prop), i < n → Same H1 H → H T = none → (∀ H' y, Same H H' → o i = some y → ∃ acc, H' D = some (.lst acc) ∧ acc.length < sizeLine ∧ Nx (upd H' D (.lst (acc ++ [y])))) → (∀ H', Same H H' → o i = none → Nx H') →
      g (.ref T) (wipe σ vs) (upd H T (.tup (colV xs i))) fun σ2 H2 => wipe σ2 vs = wipe σ vs ∧ tt σ2 H2 fun b H3 => if b = true then te σ2 H3 fun y H4 => ∃ acc, H4 D = some (.lst acc) ∧ acc.length < sizeLine ∧ Nx (upd H4 D (.lst (acc ++ [y]))) else Nx H3)
    (hd : ∀ H, Same H1 H → H D = some (.lst ((List.range n).filterMap o)) → Qd H) :
    ∃ W : Nat → Nat → Hp → Prop, (∃ m, W 0 m (upd H1 D (.lst []))) ∧ ∀ i m H, W i m H →
      ((ItS xs n).stop i H ∧ Qd H) ∨ ((ItS xs n).go i H ∧ ∃ Nx : Hp → Prop, (∀ H', Nx H' → ∃ m', m' < m ∧ W (i + 1) m' H') ∧ ∀ v H', (ItS xs n).yld i H v H' → g v (wipe σ vs) H' fun σ2 H2 => wipe σ2 vs = wipe σ vs ∧ tt σ2 H2 fun b H3 =>
        if b = true then te σ2 H3 fun y H4 => ∃ acc, H4 D = some (.lst acc) ∧ acc.length < sizeLine ∧ Nx (upd H4 D (.lst (acc ++ [y]))) else Nx H3) := by
  have sm : Same H1 (upd H1 D (.lst [])) := fun b x e => by rw [upd_ne (ne_of_none e nD)]; exact e
  have rg : ∀ i, i < n → (List.range n)[i]? = some i := fun i hi => by simp [hi]
  refine ⟨fun i m H => m = n - i ∧ i ≤ n ∧ Same H1 H ∧ H D = some (.lst (((List.range n).take i).filterMap o)), ⟨n, by simp, Nat.zero_le _, sm, upd_same⟩, ?_⟩
  rintro i m H ⟨rfl, hi, h1, h2⟩
  by_cases hlt : i < n
  · refine .inr ⟨hlt, fun H' => Same H1 H' ∧ H' D = some (.lst (((List.range n).take (i + 1)).filterMap o)), fun H' p => ⟨n - (i + 1), by omega, rfl, hlt, p.1, p.2⟩, fun v H' y => ?_⟩
    obtain ⟨T, rfl, hT, rfl⟩ := y
    refine hs i T H _ hlt h1 hT (fun H2 y s e => ⟨_, s _ _ h2, ?_, fun b z q => ?_, ?_⟩) (fun H2 s e => ⟨h1.trans s, ?_⟩)
    · exact Nat.lt_of_le_of_lt (fm_len o _ i) (by rw [List.length_range]; exact Nat.lt_trans hz (by decide))
    · rw [upd_ne (ne_of_none q nD)]
      exact s _ _ (h1 _ _ q)
    · rw [upd_same, take_fm o (rg i hlt), e]
      rfl
    · rw [s _ _ h2, take_fm o (rg i hlt), e]
      simp
  · have e : i = n := by omega
    refine .inl ⟨by rw [e]; exact Nat.le_refl _, hd H h1 ?_⟩
    rw [h2, List.take_of_length_le (by simp; omega)]
end
end L2

set_option Elab.async false
set_option linter.all false
set_option maxRecDepth 100000
set_option maxHeartbeats 2000000
namespace L2
open PySem PySem.Spec PyProof.Rows ZN
section
variable {prog : Program} {w : World} {A : Around} {E : Value → Shared → Prop} {s : Shared}
theorem letGo_z {elts : List Expr} {kk : Nat} {tpos : Pos} {z TI TO a : Addr} {f0 f1 : Value} {Q : Unit → Shared → Prop} (hz : IsZ s.heap z TI TO f0 f1)
    (h : ∀ h' g0, (g0 = f0 ∨ g0 = .none) → IsZ h' z TI TO g0 f1 → Heap.SameBut z s.heap h' → Q () { s with heap := h' }) : wpAny (model prog w) A (letOwnedTupleGo (.Tuple elts kk tpos) (.ref z) (.ref a)) Q E s := by
  unfold letOwnedTupleGo
  refine wpAny_bind (wpAny_load hz ?_)
  show wpAny _ _ (if (["enumerate", "zip", "dict_itemiterator", "dict_reverseitemiterator", "odict_iterator", "itertools.zip_longest", "itertools.pairwise"].contains "zip" &&
      (#[f0, f1, .bool false, .ref TI, .ref TO] : Array Value)[0]? == some (rawInt a)) = true then _ else _) Q E s
  split
  · refine wpAny_bind (wpAny_rule ?_)
    show wpAny _ _ (setField (.ref z) 0 .none) Q E s
    exact wpAny_setField_rec hz (by simp) fun h' hz' hs' => h h' .none (.inr rfl) hz' hs'
  · exact wpAny_pure (h s.heap f0 (.inl rfl) hz (.refl ..))
end
theorem turn_zipS2 {P : Program} {w : World} {K : PySem.W.Frag} {elts : List Expr} {kk : Nat} {tpos : Pos} {z TI TO : Addr} {R : List Rw} {m : Nat} (hR : R ≠ []) (hl : R.length ≤ 1000) (hm : ∀ r ∈ R, r.x.cps.size = m) (D : Ap z TI TO R) :
    Turn P w K (.Tuple elts kk tpos) (ItS (R.map (·.x)) m) (z :: TI :: TO :: R.map (·.it)) z (ZTn z TI TO R) where
  mem := by simp
  obj := fun i h st c hc => by
    obtain ⟨f0, f1, os, hz, _, hTI, hTO, _, hs⟩ := st
    rcases mem_fp hc with rfl | rfl | rfl | ⟨r, hr, rfl⟩
    · exact ⟨_, hz, fun v q => nomatch q⟩
    · exact ⟨_, hTI, fun v q => nomatch q⟩
    · exact ⟨_, hTO, fun v q => nomatch q⟩
    · obtain ⟨_, o, e, _, d⟩ := hs r hr
      exact ⟨o, e, fun v q => by rw [d] at q; cases q⟩
  keep := fun i h h' st k => by
    obtain ⟨f0, f1, os, hz, hf, hTI, hTO, ho, hs⟩ := st
    exact ⟨f0, f1, os, k z (by simp) _ hz, hf, k TI (by simp) _ hTI, k TO (by simp) _ hTO, ho, fun r hr => (hs r hr).keep fun o e => k r.it (by simp; exact .inr (.inr (.inr ⟨r, hr, rfl⟩))) o e⟩
  item := by
    intro X hP hw hK hc i pins s σ H E I hf st hg
    subst hP hw hK
    obtain ⟨f0, f1, os, hz, hff, hTI, hTO, ho, hs⟩ := st
    have hzl : z < s.heap.objs.size := Heap.lt_size hz
    refine pyNext_item hR D hz hff hTI hTO ho hl hs (fun r hr => by rw [hm r hr]; exact hg) fun us h' tk g0 g1 os' cs z' gf TO' lo' st' tN sz' kp => ?_
    refine ⟨_, rfl, letGo_z z' fun h2 k0 hk0 z2 sb => ?_⟩
    have rv := cs_vals cs
    have tN2 : IsT h2 s.heap.objs.size us := (sb.2 _ (Nat.ne_of_gt hzl)).trans tN
    have new : ObjOk X.prog X.w (upd H s.heap.objs.size (.tup (colV (R.map (·.x)) i))) h2 s.heap.objs.size (.tup (colV (R.map (·.x)) i)) :=
      ⟨by unfold colV; rw [List.length_map, List.length_map]; exact Nat.le_trans hl (by decide), us, rv, ⟨_, tN2, rfl, _, rfl⟩⟩
    have I1 : Inv X pins σ (upd H s.heap.objs.size (.tup (colV (R.map (·.x)) i))) { s with heap := h2, toks := tk } :=
      I.turnedNew (t' := tk) (ch := z :: TI :: TO :: R.map (·.it)) (fun c o hb q => (sb.2 c (fun e => hb (by simp [e]))).trans (kp c o (fun e => hb (by simp [e])) (fun e => hb (by simp [e])) (fun r hr e => hb (by simp; exact .inr (.inr (.inr ⟨r, hr, e.symm⟩)))) q)) hf (Nat.le_refl _) new
    refine ⟨.ref s.heap.objs.size, _, I1, rfl, ⟨_, rfl, I.hok.fresh (Nat.le_refl _), rfl⟩, ⟨k0, g1, os', z2, ?_, ?_, (sb.2 _ D.zTO.symm).trans TO', lo', fun r hr => (st' r hr).keep fun o e => (sb.2 _ (D.iz r hr)).trans e⟩, fun c hcm => ?_⟩
    · rcases hk0 with rfl | rfl
      · exact gf
      · exact .inl rfl
    · exact (sb.2 _ D.zTI.symm).trans (kp _ _ D.zTI.symm D.TITO (fun r hr => (D.iTI r hr).symm) hTI)
    · have hlt : c < s.heap.objs.size := by
        rcases mem_fp hcm with rfl | rfl | rfl | ⟨r, hr, rfl⟩
        · exact hzl
        · exact Heap.lt_size hTI
        · exact Heap.lt_size hTO
        · obtain ⟨_, o, e, _⟩ := hs r hr
          exact Heap.lt_size e
      rw [upd_ne (Nat.ne_of_lt hlt)]
      exact (hf c hcm).1
  done := by
    intro X hP hw hK hc i pins s σ H E I hf st hg
    subst hP hw hK
    obtain ⟨f0, f1, os, hz, hff, hTI, hTO, ho, hs⟩ := st
    cases R with
    | nil => exact absurd rfl hR
    | cons r R =>
      refine pyNext_end (I.ok.hd hc) D hz hff hTI hTO (hs r (by simp)) (by rw [hm r (by simp)]; exact hg) fun h' hk => ⟨rfl, ?_⟩
      exact I.turnedL (t' := s.toks) (ch := z :: TI :: TO :: (r :: R).map (·.it)) (fun c o hb q => hk c o (fun e => hb (by simp [e])) (fun e => hb (by simp [e])) (fun e => hb (by simp [e])) q) hf
  self := fun A i s Q E st h => by
    obtain ⟨f0, f1, os, hz, _⟩ := st
    have hT : s.TypeIs (.ref z) "zip" := ⟨_, hz, rfl⟩
    refine wpAny_pyIter_slot hT F.slot_zip_iter (wpAny_call_entry F.slot_zip_iter hT F.entry_zip_iter ?_ (F.args_zip_iter_1 _))
    show wpAny _ _ (ret (.ref z)) _ _ s
    exact wpAny_pure ⟨_, rfl, "zip", _, hT, F.slot_zip_next.lookup, h⟩
def iZip2S (ta : TA) : TI := fun σ H R => ta σ H fun vs H1 => ∃ (x y : Str) (m : Nat), vs = [.str x, .str y] ∧ x.length = m ∧ y.length = m ∧ R (ItS [x, y] m) H1
theorem pi_zip2S {X : Cx} {elts : List Expr} {kk : Nat} {tpos : Pos} {e e2 : Expr} {ta : TA} {p pos : Pos} (hg : Gl X "zip") (hm : X.mg "zip" = none) (ha : PA X [e, e2] ta)
    (hs : starEach [e, e2] X.env = (false, eval e X.env) :: starEach [e2] X.env := by rfl) (hpl : (backTo pos (starEach [e2] X.env)).any (·.1) = false := by rfl) :
    PI X (.Tuple elts kk tpos) (.Call (.Name "zip" p) [e, e2] [] pos) (iZip2S ta) := by
  refine ⟨fun pins s σ H R I h => ?_⟩
  refine Call_ (ld_blt I hg hm PyProof.Rows.boot_zip (PyProof.Rows.callWith_type1 (thn (ha.run pos pins s σ H _ I h) fun us s2 ⟨vs, H1, I2, rv, q1⟩ => ?_) hs hpl))
  obtain ⟨x0, y0, m, ex0, hx0, hy0, q⟩ := q1
  obtain ⟨xs, exs⟩ : ∃ xs : List Str, xs = [x0, y0] := ⟨_, rfl⟩
  have ev : vs = xs.map V.str := by rw [exs]; exact ex0
  have hne : xs ≠ [] := by rw [exs]; intro z; cases z
  have hl : xs.length ≤ 1000 := by rw [exs]; show 2 ≤ 1000; decide
  have hlen : ∀ z ∈ xs, z.length = m := by
    rw [exs]
    intro z hz
    simp only [List.mem_cons, List.not_mem_nil, or_false] at hz
    rcases hz with rfl | rfl
    · exact hx0
    · exact hy0
  rw [← exs] at q
  subst ev
  obtain ⟨ps, rfl, eps⟩ := strs_vals rv
  cases ps with
  | nil => exact absurd eps.symm hne
  | cons x ps =>
    have hpl : (x :: ps).length = xs.length := by rw [← eps, List.length_map]
    refine call_zipN (by rw [hpl]; exact hl) fun h' Z => ?_
    have hz := Z.zp
    have hT : Shared.TypeIs ⟨h', s2.gens, s2.drawn, s2.toks, s2.os⟩ (.ref (s2.heap.objs.size + (x :: ps).length + 2)) "zip" := ⟨_, hz, rfl⟩
    refine wpAny_pyIter_slot hT F.slot_zip_iter (wpAny_call_entry F.slot_zip_iter hT F.entry_zip_iter ?_ (F.args_zip_iter_1 _))
    show wpAny _ _ (ret (.ref _)) _ _ _
    refine wpAny_pure ⟨_, rfl, "zip", _, hT, F.slot_zip_next.lookup, ?_⟩
    have I3 : Inv X pins σ H1 { s2 with heap := h' } := I2.kept (t' := s2.toks) Z.kp
    have bnd : ∀ r ∈ mkR s2.heap.objs.size (x :: ps), s2.heap.objs.size ≤ (r.it : Nat) ∧ (r.it : Nat) < s2.heap.objs.size + (x :: ps).length := fun r hr => mkR_it hr
    have D : Ap (s2.heap.objs.size + (x :: ps).length + 2) (s2.heap.objs.size + (x :: ps).length) (s2.heap.objs.size + (x :: ps).length + 1) (mkR s2.heap.objs.size (x :: ps)) :=
      ⟨Nat.ne_of_gt (by omega), Nat.ne_of_gt (by omega), Nat.ne_of_lt (by omega), fun r hr => Nat.ne_of_lt (Nat.lt_trans (bnd r hr).2 (by omega)), fun r hr => Nat.ne_of_lt (bnd r hr).2, fun r hr => Nat.ne_of_lt (Nat.lt_trans (bnd r hr).2 (by omega)), mkR_nd _ _⟩
    have ex : (mkR s2.heap.objs.size (x :: ps)).map (·.x) = xs := by rw [mkR_x, eps]
    have fresh : ∀ c, c ∈ (s2.heap.objs.size + (x :: ps).length + 2) :: (s2.heap.objs.size + (x :: ps).length) :: (s2.heap.objs.size + (x :: ps).length + 1) :: (mkR s2.heap.objs.size (x :: ps)).map (·.it) → FpOk X pins H1 c := fun c hcm => by
      have hle : s2.heap.objs.size ≤ c := by
        rcases mem_fp hcm with rfl | rfl | rfl | ⟨r, hr, rfl⟩
        · omega
        · omega
        · omega
        · exact (bnd r hr).1
      exact I2.fpOk hle (I2.hok.fresh hle)
    obtain ⟨os, hos, los⟩ := Z.tu
    refine ⟨_, _, ZTn _ _ _ (mkR s2.heap.objs.size (x :: ps)), ItS xs m, H1, rfl, I3, ?_, ⟨_, _, os, hz, .inl rfl, Z.ti, hos, by rw [los, mkR_len], Z.st⟩, fresh, q⟩
    have tt := turn_zipS2 (P := X.prog) (w := X.w) (K := X.K) (elts := elts) (kk := kk) (tpos := tpos) (m := m) (R := mkR s2.heap.objs.size (x :: ps)) (by intro z; cases z) (by rw [mkR_len, hpl]; exact hl) (fun r hr => by
      have : r.x ∈ xs := by rw [← ex]; exact List.mem_map_of_mem hr
      exact hlen _ this) D
    rw [ex] at tt
    exact tt
end L2

set_option Elab.async false
set_option linter.all false
set_option maxRecDepth 100000
set_option maxHeartbeats 1000000
namespace L2
open PySem
theorem passF {X : Cx} {P : Program} {w : World} : Passes (L2.CX P w) X E0 := fun _ _ _ _ _ _ _ h => by
  obtain ⟨_, _, _, _, _, _, _, _, _, _, _, _, z⟩ := h
  exact z.elim
/-! comprehensions over two lists, or two tuples, side by side -/
section
variable {K : PySem.W.Frag} {a b : Addr} {xs ys : List V} {g : TG} {tt : TT} {te : TE} {vs : List Nat} {σ : St} {H1 : Hp} {D : Addr} {Qd : Hp → Prop}
theorem lc_zip2L (nD : H1 D = none) (hx : SqL K H1 a xs) (hy : SqL K H1 b ys) (hl : xs.length = ys.length) (hz : xs.length < 100000) (o : V → V → Option V)
    (hs : ∀ (i : Nat) (x y : V) (T : Addr) (H : Hp) (Nx : Hp → Prop), xs[i]? = some x → ys[i]? = some y → Same H1 H → H T = none → (∀ H' z, Same H H' → o x y = some z → ∃ acc, H' D = some (.lst acc) ∧ acc.length < sizeLine ∧ Nx (upd H' D (.lst (acc ++ [z])))) → (∀ H', Same H H' → o x y = none → Nx H') →
      g (.ref T) (wipe σ vs) (upd H T (.tup [x, y])) fun σ2 H2 => wipe σ2 vs = wipe σ vs ∧ tt σ2 H2 fun b H3 => if b = true then te σ2 H3 fun y H4 => ∃ acc, H4 D = some (.lst acc) ∧ acc.length < sizeLine ∧ Nx (upd H4 D (.lst (acc ++ [y]))) else Nx H3)
    (hd : ∀ H, Same H1 H → H D = some (.lst ((xs.zip ys).filterMap fun p => o p.1 p.2)) → Qd H) :
    ∃ W : Nat → Nat → Hp → Prop, (∃ m, W 0 m (upd H1 D (.lst []))) ∧ ∀ i m H, W i m H →
      ((Itz K a b).stop i H ∧ Qd H) ∨ ((Itz K a b).go i H ∧ ∃ Nx : Hp → Prop, (∀ H', Nx H' → ∃ m', m' < m ∧ W (i + 1) m' H') ∧ ∀ v H', (Itz K a b).yld i H v H' → g v (wipe σ vs) H' fun σ2 H2 => wipe σ2 vs = wipe σ vs ∧ tt σ2 H2 fun b H3 =>
        if b = true then te σ2 H3 fun y H4 => ∃ acc, H4 D = some (.lst acc) ∧ acc.length < sizeLine ∧ Nx (upd H4 D (.lst (acc ++ [y]))) else Nx H3) := by
  have sm : Same H1 (upd H1 D (.lst [])) := fun b x e => by rw [upd_ne (ne_of_none e nD)]; exact e
  have zl : (xs.zip ys).length = xs.length := by rw [List.length_zip]; omega
  refine ⟨fun i m H => m = xs.length - i ∧ i ≤ xs.length ∧ Same H1 H ∧ H D = some (.lst (((xs.zip ys).take i).filterMap fun p => o p.1 p.2)), ⟨xs.length, by simp, Nat.zero_le _, sm, upd_same⟩, ?_⟩
  rintro i m H ⟨rfl, hi, h1, h2⟩
  by_cases hlt : i < xs.length
  · have ex : xs[i]? = some xs[i] := List.getElem?_eq_getElem hlt
    have ey : ys[i]? = some (ys[i]'(by omega)) := List.getElem?_eq_getElem (by omega)
    have ez : (xs.zip ys)[i]? = some (xs[i], ys[i]'(by omega)) := by rw [List.getElem?_zip_eq_some]; exact ⟨ex, ey⟩
    refine .inr ⟨⟨xs, ys, _, _, h1.seq hx, h1.seq hy, ex, ey⟩, fun H' => Same H1 H' ∧ H' D = some (.lst (((xs.zip ys).take (i + 1)).filterMap fun p => o p.1 p.2)), fun H' p => ⟨xs.length - (i + 1), by omega, rfl, hlt, p.1, p.2⟩, fun v H' y => ?_⟩
    obtain ⟨T, x, y, rfl, hT, rfl, q1, q2⟩ := y
    have e1 := q1 xs (h1.seq hx)
    have e2 := q2 ys (h1.seq hy)
    rw [ex] at e1; rw [ey] at e2
    cases e1; cases e2
    refine hs i _ _ T H _ ex ey h1 hT (fun H2 z s e => ⟨_, s _ _ h2, ?_, fun b z q => ?_, ?_⟩) (fun H2 s e => ⟨h1.trans s, ?_⟩)
    · exact Nat.lt_of_le_of_lt (fm_len _ _ i) (by rw [zl]; exact Nat.lt_trans hz (by decide))
    · rw [upd_ne (ne_of_none q nD)]
      exact s _ _ (h1 _ _ q)
    · rw [upd_same, take_fm _ ez, e]
      rfl
    · rw [s _ _ h2, take_fm _ ez, e]
      simp
  · have e : i = xs.length := by omega
    refine .inl ⟨⟨xs, ys, h1.seq hx, h1.seq hy, .inl (by omega)⟩, hd H h1 ?_⟩
    rw [h2, List.take_of_length_le (by omega)]
theorem lc_zip2T (nD : H1 D = none) (hx : SqT K H1 a xs) (hy : SqT K H1 b ys) (hl : xs.length = ys.length) (hz : xs.length < 100000) (o : V → V → Option V)
    (hs : ∀ (i : Nat) (x y : V) (T : Addr) (H : Hp) (Nx : Hp → Prop), xs[i]? = some x → ys[i]? = some y → Same H1 H → H T = none → (∀ H' z, Same H H' → o x y = some z → ∃ acc, H' D = some (.lst acc) ∧ acc.length < sizeLine ∧ Nx (upd H' D (.lst (acc ++ [z])))) → (∀ H', Same H H' → o x y = none → Nx H') →
      g (.ref T) (wipe σ vs) (upd H T (.tup [x, y])) fun σ2 H2 => wipe σ2 vs = wipe σ vs ∧ tt σ2 H2 fun b H3 => if b = true then te σ2 H3 fun y H4 => ∃ acc, H4 D = some (.lst acc) ∧ acc.length < sizeLine ∧ Nx (upd H4 D (.lst (acc ++ [y]))) else Nx H3)
    (hd : ∀ H, Same H1 H → H D = some (.lst ((xs.zip ys).filterMap fun p => o p.1 p.2)) → Qd H) :
    ∃ W : Nat → Nat → Hp → Prop, (∃ m, W 0 m (upd H1 D (.lst []))) ∧ ∀ i m H, W i m H →
      ((RZ.ItzT K a b).stop i H ∧ Qd H) ∨ ((RZ.ItzT K a b).go i H ∧ ∃ Nx : Hp → Prop, (∀ H', Nx H' → ∃ m', m' < m ∧ W (i + 1) m' H') ∧ ∀ v H', (RZ.ItzT K a b).yld i H v H' → g v (wipe σ vs) H' fun σ2 H2 => wipe σ2 vs = wipe σ vs ∧ tt σ2 H2 fun b H3 =>
        if b = true then te σ2 H3 fun y H4 => ∃ acc, H4 D = some (.lst acc) ∧ acc.length < sizeLine ∧ Nx (upd H4 D (.lst (acc ++ [y]))) else Nx H3) := by
  have sm : Same H1 (upd H1 D (.lst [])) := fun b x e => by rw [upd_ne (ne_of_none e nD)]; exact e
  have zl : (xs.zip ys).length = xs.length := by rw [List.length_zip]; omega
  refine ⟨fun i m H => m = xs.length - i ∧ i ≤ xs.length ∧ Same H1 H ∧ H D = some (.lst (((xs.zip ys).take i).filterMap fun p => o p.1 p.2)), ⟨xs.length, by simp, Nat.zero_le _, sm, upd_same⟩, ?_⟩
  rintro i m H ⟨rfl, hi, h1, h2⟩
  by_cases hlt : i < xs.length
  · have ex : xs[i]? = some xs[i] := List.getElem?_eq_getElem hlt
    have ey : ys[i]? = some (ys[i]'(by omega)) := List.getElem?_eq_getElem (by omega)
    have ez : (xs.zip ys)[i]? = some (xs[i], ys[i]'(by omega)) := by rw [List.getElem?_zip_eq_some]; exact ⟨ex, ey⟩
    refine .inr ⟨⟨xs, ys, _, _, h1.seqT hx, h1.seqT hy, ex, ey⟩, fun H' => Same H1 H' ∧ H' D = some (.lst (((xs.zip ys).take (i + 1)).filterMap fun p => o p.1 p.2)), fun H' p => ⟨xs.length - (i + 1), by omega, rfl, hlt, p.1, p.2⟩, fun v H' y => ?_⟩
    obtain ⟨T, x, y, rfl, hT, rfl, q1, q2⟩ := y
    have e1 := q1 xs (h1.seqT hx)
    have e2 := q2 ys (h1.seqT hy)
    rw [ex] at e1; rw [ey] at e2
    cases e1; cases e2
    refine hs i _ _ T H _ ex ey h1 hT (fun H2 z s e => ⟨_, s _ _ h2, ?_, fun b z q => ?_, ?_⟩) (fun H2 s e => ⟨h1.trans s, ?_⟩)
    · exact Nat.lt_of_le_of_lt (fm_len _ _ i) (by rw [zl]; exact Nat.lt_trans hz (by decide))
    · rw [upd_ne (ne_of_none q nD)]
      exact s _ _ (h1 _ _ q)
    · rw [upd_same, take_fm _ ez, e]
      rfl
    · rw [s _ _ h2, take_fm _ ez, e]
      simp
  · have e : i = xs.length := by omega
    refine .inl ⟨⟨xs, ys, h1.seqT hx, h1.seqT hy, .inl (by omega)⟩, hd H h1 ?_⟩
    rw [h2, List.take_of_length_le (by omega)]
end
/-- for i, x in enumerate(xs) -/
theorem for_enumL {K : PySem.W.Frag} {a : Addr} {xs : List V} {g : TG} {tb : TS} {D : Ends} {σ : St} {H : Hp} (Pv : Nat → St → Hp → Prop) (h0 : Pv 0 σ H) (hq : ∀ i σ H, i ≤ xs.length → Pv i σ H → SqL K H a xs)
    (hs : ∀ (i : Nat) (x : V) (T : Addr) (σ : St) (H : Hp), xs[i]? = some x → Pv i σ H → H T = none → g (.ref T) σ (upd H T (.tup [.int (i : Nat), x])) fun σ2 H2 => tb { D with nx := Pv (i + 1), ct := Pv (i + 1), bk := D.nx } σ2 H2) (hd : ∀ σ H, Pv xs.length σ H → D.nx σ H) :
    ∃ W : Nat → Nat → St → Hp → Prop, (∃ m, W 0 m σ H) ∧ ∀ i m σ H, W i m σ H →
      ((Ite K a).stop i H ∧ D.nx σ H) ∨ ((Ite K a).go i H ∧ ∃ N : St → Hp → Prop, (∀ σ' H', N σ' H' → ∃ m', m' < m ∧ W (i + 1) m' σ' H') ∧ ∀ x H', (Ite K a).yld i H x H' → g x σ H' fun σ2 H2 => tb { D with nx := N, ct := N, bk := D.nx } σ2 H2) := by
  refine ⟨fun i m σ H => m = xs.length - i ∧ i ≤ xs.length ∧ Pv i σ H, ⟨xs.length, by simp, Nat.zero_le _, h0⟩, ?_⟩
  rintro i m σ H ⟨rfl, hi, p⟩
  have q := hq i σ H hi p
  by_cases hlt : i < xs.length
  · have ex : xs[i]? = some xs[i] := List.getElem?_eq_getElem hlt
    refine .inr ⟨⟨xs, xs[i], q, ex⟩, Pv (i + 1), fun σ' H' p' => ⟨xs.length - (i + 1), by omega, rfl, hlt, p'⟩, fun v H' y => ?_⟩
    obtain ⟨T, x, rfl, hT, rfl, e⟩ := y
    exact hs i x T σ H (e xs q) p hT
  · have e : i = xs.length := by omega
    subst e
    exact .inl ⟨⟨xs, q, Nat.le_refl _⟩, hd σ H p⟩
end L2

set_option linter.all false
/-! eventually periodic sequences: the least period and the least start (plain) -/
namespace Pr
variable {α β : Type}
def Per (f : Nat → α) (s q : Nat) : Prop := ∀ n, s ≤ n → f (n + q) = f n
structure Lst (f : Nat → α) (a q : Nat) : Prop where
  pos : 0 < q
  per : Per f a q
  least : ∀ a' q', 0 < q' → Per f a' q' → q ≤ q'
  first : ∀ a', Per f a' q → a ≤ a'
theorem Lst.uniq {f : Nat → α} {a q a' q' : Nat} (h : Lst f a q) (g : Lst f a' q') : a = a' ∧ q = q' := by
  have e : q = q' := Nat.le_antisymm (h.least a' q' g.pos g.per) (g.least a q h.pos h.per)
  subst e
  exact ⟨Nat.le_antisymm (h.first _ g.per) (g.first _ h.per), rfl⟩
theorem Per.later {f : Nat → α} {s s' q : Nat} (h : Per f s q) (l : s ≤ s') : Per f s' q := fun n hn => h n (Nat.le_trans l hn)
theorem Per.zero {f : Nat → α} {s : Nat} : Per f s 0 := fun n _ => rfl
theorem Per.mul {f : Nat → α} {s q : Nat} (h : Per f s q) : ∀ m, Per f s (m * q)
  | 0 => by rw [Nat.zero_mul]; exact Per.zero
  | m + 1 => fun n hn => by
    rw [Nat.succ_mul, ← Nat.add_assoc, h _ (Nat.le_trans hn (Nat.le_add_right _ _)), Per.mul h m n hn]
theorem Per.of {f : Nat → α} {s p s' q : Nat} (hp : 0 < p) (h : Per f s p) (g : Per f s' q) : Per f s q := fun n hn => by
  have e1 := h.mul s' (n + q) (Nat.le_trans hn (Nat.le_add_right _ _))
  have e2 := h.mul s' n hn
  have l : s' ≤ n + s' * p := Nat.le_trans (Nat.le_mul_of_pos_right s' hp) (Nat.le_add_left _ _)
  have e3 := g (n + s' * p) l
  rw [← e1, ← e2, ← e3, Nat.add_right_comm]
theorem Per.mod {f : Nat → α} {s p q : Nat} (h : Per f s p) (g : Per f s q) : Per f s (p % q) := fun n hn => by
  have e1 := g.mul (p / q) (n + p % q) (Nat.le_trans hn (Nat.le_add_right _ _))
  have e2 : n + p % q + p / q * q = n + p := by
    have := Nat.mod_add_div p q
    rw [Nat.mul_comm] at this
    omega
  rw [← e1, e2]
  exact h n hn
theorem Per.gcd {f : Nat → α} {s : Nat} (m n : Nat) : Per f s m → Per f s n → Per f s (Nat.gcd m n) := by
  induction m, n using Nat.gcd.induction with
  | H0 n => intro _ h; rw [Nat.gcd_zero_left]; exact h
  | H1 m n hm ih =>
    intro h g
    rw [Nat.gcd_rec]
    exact ih (g.mod h) h
theorem Lst.eqv {f : Nat → α} {g : Nat → β} (e : ∀ n m, f n = f m ↔ g n = g m) {a q : Nat} (h : Lst f a q) : Lst g a q := by
  have pe : ∀ s q, Per g s q → Per f s q := fun s q k n hn => (e _ _).mpr (k n hn)
  exact ⟨h.pos, fun n hn => (e _ _).mp (h.per n hn), fun a' q' hq k => h.least a' q' hq (pe _ _ k), fun a' k => h.first a' (pe _ _ k)⟩
/-- where a number is looked up -/
def spot (n s p : Nat) : Nat := if n < s then n else s + (n - s) % p
theorem spot_lt {n s p : Nat} (hp : 0 < p) : spot n s p < s + p := by
  unfold spot
  split
  · omega
  · have := Nat.mod_lt (n - s) hp
    omega
theorem spot_id {n s p : Nat} (h : n < s + p) : spot n s p = n := by
  unfold spot
  split
  · rfl
  · rw [Nat.mod_eq_of_lt (by omega)]
    omega
theorem spot_per {s p : Nat} : Per (fun n => spot n s p) s p := fun n hn => by
  show spot (n + p) s p = spot n s p
  unfold spot
  rw [if_neg (by omega), if_neg (by omega), show n + p - s = (n - s) + p by omega, Nat.add_mod_right]
theorem Per.spot {f : Nat → α} {s p : Nat} (h : Per f s p) (n : Nat) : f (spot n s p) = f n := by
  unfold Pr.spot
  split
  · rfl
  · have e := h.mul ((n - s) / p) (s + (n - s) % p) (Nat.le_add_right _ _)
    rw [← e]
    congr 1
    have := Nat.mod_add_div (n - s) p
    rw [Nat.mul_comm] at this
    omega
theorem getElem?_rep {l : List α} {i : Nat} : ∀ {m : Nat}, i < m * l.length → (List.replicate m l).flatten[i]? = l[i % l.length]?
  | 0, h => by simp at h
  | m + 1, h => by
    rw [List.replicate_succ, List.flatten_cons]
    by_cases hi : i < l.length
    · rw [List.getElem?_append_left hi, Nat.mod_eq_of_lt hi]
    · have h' : i - l.length < m * l.length := by rw [Nat.succ_mul] at h; omega
      rw [List.getElem?_append_right (by omega), getElem?_rep h', Nat.mod_eq_sub_mod (a := i) (by omega)]
theorem rep_iff {tail : List α} {p sz : Nat} (hl : tail.length = p) (h0 : 0 < sz) (hd : p % sz = 0) : tail = (List.replicate (p / sz) (tail.take sz)).flatten ↔ ∀ i, i < p → tail[i]? = tail[i % sz]? := by
  by_cases hp : p = 0
  · subst hp
    have : tail = [] := List.length_eq_zero_iff.mp hl
    subst this
    simp
  have hsz : sz ≤ p := Nat.le_of_dvd (by omega) (Nat.dvd_of_mod_eq_zero hd)
  have hm : p / sz * sz = p := Nat.div_mul_cancel (Nat.dvd_of_mod_eq_zero hd)
  have htl : (tail.take sz).length = sz := by rw [List.length_take]; omega
  have key : ∀ i, i < p → (List.replicate (p / sz) (tail.take sz)).flatten[i]? = tail[i % sz]? := fun i hi => by
    rw [getElem?_rep (by rw [htl, hm]; exact hi), htl, List.getElem?_take, if_pos (Nat.mod_lt _ h0)]
  constructor
  · intro e i hi
    rw [← key i hi, ← e]
  · intro h
    apply List.ext_getElem?
    intro i
    by_cases hi : i < p
    · rw [key i hi]; exact h i hi
    · rw [List.getElem?_eq_none (by omega), List.getElem?_eq_none]
      rw [List.length_flatten, List.map_replicate, List.sum_replicate_nat, htl, hm]
      omega
/-- a list of rows that come again from a start on, as a sequence -/
def seqR (rows : List α) (s p : Nat) : Nat → Option α := fun n => rows[spot n s p]?
theorem seqR_per (rows : List α) (s p : Nat) : Per (seqR rows s p) s p := fun n hn => congrArg (fun i => rows[i]?) (spot_per n hn)
theorem seqR_tail {rows : List α} {s p i : Nat} (hi : i < p) : seqR rows s p (s + i) = ((rows.drop s).take p)[i]? := by
  unfold seqR
  rw [spot_id (by omega), List.getElem?_take, if_pos hi, List.getElem?_drop]
theorem per_iff {rows : List α} {s p sz : Nat} (hp : 0 < p) (hl : rows.length = s + p) (h0 : 0 < sz) (hd : p % sz = 0) :
    (rows.drop s).take p = (List.replicate (p / sz) (((rows.drop s).take p).take sz)).flatten ↔ Per (seqR rows s p) s sz := by
  have tl : ((rows.drop s).take p).length = p := by rw [List.length_take, List.length_drop]; omega
  rw [rep_iff tl h0 hd]
  have dv := Nat.dvd_of_mod_eq_zero hd
  have hsz : sz ≤ p := Nat.le_of_dvd hp dv
  have any : ∀ i, seqR rows s p (s + i) = ((rows.drop s).take p)[i % p]? := fun i => by
    rw [← seqR_tail (Nat.mod_lt i hp)]
    have e := (seqR_per rows s p).mul (i / p) (s + i % p) (Nat.le_add_right _ _)
    rw [← e]
    congr 1
    have := Nat.mod_add_div i p
    rw [Nat.mul_comm] at this
    omega
  constructor
  · intro h n hn
    obtain ⟨i, rfl⟩ : ∃ i, n = s + i := ⟨n - s, by omega⟩
    rw [Nat.add_assoc, any, any, h _ (Nat.mod_lt _ hp), h (i % p) (Nat.mod_lt _ hp), Nat.mod_mod_of_dvd _ dv, Nat.mod_mod_of_dvd _ dv, Nat.add_mod_right]
  · intro h i hi
    have h2 : i % sz < p := Nat.lt_of_lt_of_le (Nat.mod_lt _ h0) hsz
    rw [← seqR_tail hi, ← seqR_tail h2]
    have e := h.mul (i / sz) (s + i % sz) (Nat.le_add_right _ _)
    rw [← e]
    congr 1
    have := Nat.mod_add_div i sz
    rw [Nat.mul_comm] at this
    omega
end Pr

set_option Elab.async false
set_option linter.all false
set_option maxRecDepth 100000
set_option maxHeartbeats 1000000
namespace FH
open PySem L2
local macro_rules | `(tactic| walk_at "seq") => `(tactic| first | assumption | exact SqL.of (by assumption) | exact SqT.of (by assumption) | exact SqL.of upd_same | exact SqT.of upd_same)
local macro_rules | `(tactic| walk_at "at") => `(tactic| first | exact atI_nat (j := 0) rfl | exact atI_nat (j := 1) rfl | exact atI_nat (j := 2) rfl | exact atI_nat (by assumption) | assumption)
local macro_rules | `(tactic| walk_at "ar") => `(tactic| first | omega | exact ⟨by omega, by omega⟩ | exact Or.inl ⟨by omega, by omega⟩ | exact Or.inr ⟨by omega, by omega⟩ | exact ⟨by decide, by decide⟩ | exact Or.inr ⟨by decide, by decide⟩ | exact Or.inl ⟨by decide, by decide⟩ | exact ⟨by decide, by decide, by omega⟩ | exact ⟨by decide, by decide, by decide⟩)
local macro_rules | `(tactic| walk_at "r") => `(tactic| repeat (first
  | refine ⟨_, rfl, ?_⟩
  | refine ⟨_, _, rfl, rfl, ?_⟩
  | refine ⟨_, _, _, _, rfl, rfl, by walk_at "seq", by walk_at "at", ?_⟩
  | refine ⟨_, _, _, _, rfl, rfl, by assumption, rfl, ?_⟩
  | refine ⟨_, _, rfl, Or.inl (by walk_at "seq"), ?_⟩
  | refine Or.inl ⟨_, rfl, ?_⟩
  | refine Or.inr ⟨_, rfl, ?_⟩
  | refine And.intro (by walk_at "ar") ?_))
def topS (i : Nat) : Stmt := PySem.Challenge.pw_foreheads_k10_great_crowds.main.body.getD i (.Pass ⟨0, 0, 0, 0⟩)
/-- names that the top leaves to the built-ins -/
structure Bt (mg : Str → Option Value) : Prop where
  m_int : mg "int" = none
  m_len : mg "len" = none
  m_range : mg "range" = none
  m_list : mg "list" = none
  m_tuple : mg "tuple" = none
  m_all : mg "all" = none
  m_any : mg "any" = none
  m_isinstance : mg "isinstance" = none
  m_bool : mg "bool" = none
  m_str : mg "str" = none
  m_abs : mg "abs" = none
  m_zip : mg "zip" = none
  m_repr : mg "repr" = none
  m_enumerate : mg "enumerate" = none
  m_max : mg "max" = none
  m_min : mg "min" = none
  m_sum : mg "sum" = none
/-! ### heaps -/
/-- all but d and c is kept -/
def Xt (d c : Addr) (H H' : Hp) : Prop := ∀ a o, a ≠ d → a ≠ c → H a = some o → H' a = some o
theorem Xt.refl (d c : Addr) (H : Hp) : Xt d c H H := fun _ _ _ _ h => h
theorem Xt.trans {d c : Addr} {H H1 H2 : Hp} (x : Xt d c H H1) (y : Xt d c H1 H2) : Xt d c H H2 := fun a o n m h => y a o n m (x a o n m h)
theorem Xt.of {d c : Addr} {H H' : Hp} (x : Same H H') : Xt d c H H' := fun a o _ _ h => x a o h
theorem same_new {H : Hp} {p : Addr} {o : HO} (h : H p = none) : Same H (upd H p o) := fun b x e => by
  rw [upd_ne (ne_of_none e h)]; exact e
/-- the deal at d, its digits at c -/
def BoxAt (H : Hp) (d c : Addr) : Prop := ∃ (ns : List Int) (m : Int), H d = some (.lst [.ref c, .int m]) ∧ H c = some (.lst (ns.map V.int)) ∧ (∀ n ∈ ns, 0 ≤ n) ∧ ns.length ≤ 100 ∧ 0 ≤ m ∧ m < 4294967296
theorem BoxAt.same {H H' : Hp} {d c : Addr} (x : Same H H') (h : BoxAt H d c) : BoxAt H' d c := by
  obtain ⟨ns, m, e, f, r⟩ := h
  exact ⟨ns, m, x _ _ e, x _ _ f, r⟩
theorem BoxAt.ne {H : Hp} {d c : Addr} (h : BoxAt H d c) : d ≠ c := fun z => by
  obtain ⟨ns, m, e, f, _⟩ := h
  rw [z, f] at e
  have e2 := Option.some.inj e
  cases ns with
  | nil => cases e2
  | cons n r => cases e2
theorem BoxAt.nd {H : Hp} {d c p : Addr} (h : BoxAt H d c) (n : H p = none) : p ≠ d ∧ p ≠ c := by
  obtain ⟨ns, m, e, f, _⟩ := h
  exact ⟨fun z => (by rw [z, e] at n; cases n), fun z => (by rw [z, f] at n; cases n)⟩
/-! data: lists of ints -/
def lI (ns : List Int) : PyData := .list (ns.map PyData.int)
theorem dp_lI {K : PySem.W.Frag} {H : Hp} {a : Addr} {ns : List Int} (h : H a = some (.lst (ns.map V.int))) : Dp K H (.ref a) (lI ns) := .lst (SqL.of h) (dp_ints ns)
theorem depth_lI (ns : List Int) : (lI ns).depth = 1 := by
  show PyData.depthAll (ns.map PyData.int) + 1 = 1
  rw [depth_ints]
theorem shaped_lI (ns : List Int) : SeqAt.shaped (lI ns) = true := by
  unfold SeqAt.shaped
  rw [depth_lI]
  show (PyData.canLayAll0 (ns.map PyData.int) && _) = true
  rw [lay_ints]; rfl
theorem eqv_lI (ns ms : List Int) : PyData.eqv (lI ns) (lI ms) = decide (ns = ms) := eqv_ints ns ms
theorem cut_ints (ns : List Int) (lo hi : Option Int) : ∃ ms : List Int, cutV (ns.map V.int) lo hi = ms.map V.int ∧ ms.length ≤ ns.length := by
  unfold cutV
  exact ⟨(ns.drop (HT.sIx (ns.map V.int).length 0 lo)).take (HT.sIx (ns.map V.int).length (ns.map V.int).length hi - HT.sIx (ns.map V.int).length 0 lo), by rw [List.map_take, List.map_drop], by rw [List.length_take, List.length_drop]; omega⟩
def spDraw : Sp := fun vs H Q _ => ∃ (d c : Addr) (n : Int), vs = [.ref d, .int n] ∧ BoxAt H d c ∧ 0 < n ∧ n < 2000000 ∧
  ∀ (r : Int) (H' : Hp), 0 ≤ r → r < n → Xt d c H H' → BoxAt H' d c → Q (.int r) H'
def spPick (K : PySem.W.Frag) : Sp := fun vs H Q _ => ∃ (d c l : Addr) (xs : List V), vs = [.ref d, .ref l] ∧ BoxAt H d c ∧ SqL K H l xs ∧ l ≠ d ∧ l ≠ c ∧ 0 < xs.length ∧ xs.length < 1000 ∧
  ∀ (x : V) (H' : Hp), x ∈ xs → Xt d c H H' → BoxAt H' d c → Q x H'
def spDeal (K : PySem.W.Frag) : Sp := fun vs H Q _ => ∃ (a : Addr) (ns : List Int), vs = [.ref a, .int 0] ∧ SqL K H a (ns.map V.int) ∧ ns.length ≤ 63 ∧
  ∀ (d c : Addr) (H' : Hp), Same H H' → H d = none → H c = none → BoxAt H' d c → Q (.ref d) H'
section
variable {P : Program} {w : World} {K : PySem.W.Frag} {mg : Str → Option Value} {base : Heap}
theorem sc__law_draw : FnScope ["_law_deal_here", "_law_many", "_law_left"] ["_law_deal_here", "_law_many"] (defScope (topS 27)) := ⟨rfl, rfl, rfl, by decide +kernel, rfl, by decide +kernel, by decide +kernel⟩
theorem ok_draw {f : Addr} {fd : FuncData} {k : Nat} (F : Fun K "_law_draw" "_law_draw" (topS 27) f fd) (T : Bt mg) : FnOk P w K mg base CX0 (k + 1) f fd ["_law_deal_here", "_law_many"] spDraw := by
  refine F.ok sc__law_draw (fun vs H Q E h => ?_) (fun cdv A outer s H vs Q E hr h => ?_)
  · obtain ⟨d, c, n, rfl, _⟩ := h
    rfl
  · obtain ⟨d, c, n, rfl, hb, n0, n1, q⟩ := h
    have hu := hr.units
    refine ⟨_, (pss_cons (ps_while PassesOwn.never (PW.pt (pw_and (pt_cmpR (neDK (K := K) rfl hu) (pe_ix (ixLK (K := K) rfl) (pv 0) pe_int (fun _ _ => rfl)) (pe_lst pa_nil) (nomark _)) (pw_and1 (pt_cmpR op_eq (pe_ix (ixLK (K := K) rfl) (pe_ix (ixLK (K := K) rfl) (pv 0) pe_int (fun _ _ => rfl)) (pe_un un_neg pe_int) (fun _ _ => rfl)) pe_int (nomark _))))) (pss_one (ps_expr (pe_bm0 PySem.F.plainAttrs_list PySem.F.slot_list_pop PySem.F.type_list_pop mt_pop (pe_ix (ixLK (K := K) rfl) (pv 0) pe_int (fun _ _ => rfl))))))
  (pss_cons (ps_if (pt_cmpR (neDK (K := K) rfl hu) (pe_ix (ixLK (K := K) rfl) (pv 0) pe_int (fun _ _ => rfl)) (pe_lst pa_nil) (nomark _)) (pss_cons (ps_set (i := 2) sc__law_draw.nd rfl (by first | exact Or.inl rfl | exact Or.inr rfl) (pe_bm0 PySem.F.plainAttrs_list PySem.F.slot_list_pop PySem.F.type_list_pop mt_pop (pe_ix (ixLK (K := K) rfl) (pv 0) pe_int (fun _ _ => rfl))))
  (pss_cons (ps_expr (pe_bm PySem.F.plainAttrs_list PySem.F.slot_list_append PySem.F.type_list_append mt_append (pe_ix (ixLK (K := K) rfl) (pv 0) pe_int (fun _ _ => rfl)) (pa_cons (pe_op op_fdiv (pv 2) (pv 1)) pa_nil)))
  (pss_one (ps_ret (pe_op op_mod (pe_callTy call_int1 (by rfl) T.m_int (by decide +kernel) (pa_cons (pv 2) pa_nil)) (pv 1)))))) pss_nil)
  (pss_cons (ps_asg (pe_op op_mod (pe_callTy call_int1 (by rfl) T.m_int (by decide +kernel) (pa_cons (pe_op op_mul (pe_ix (ixLK (K := K) rfl) (pv 0) pe_int (fun _ _ => rfl)) pe_int) pa_nil)) pe_int) (pg_sub (pv 0) pe_int set_list))
  (pss_one (ps_ret (pe_op op_mod (pe_callTy call_int1 (by rfl) T.m_int (by decide +kernel) (pa_cons (pe_op op_fdiv (pe_ix (ixLK (K := K) rfl) (pv 0) pe_int (fun _ _ => rfl)) pe_int) pa_nil)) (pv 1))))))), ?_⟩
    obtain ⟨ns, mm, hd, hc, h0, hl, m0, m1⟩ := hb
    have nil_eq : ∀ ns : List Int, (!PyData.eqv (lI ns) (lI [])) = decide (ns ≠ []) := fun ns => by
      rw [eqv_lI]
      cases ns <;> simp
    refine ⟨fun m σ H1 => ∃ (ns : List Int) (mm : Int), σ = [some (.ref d), some (.int n), none] ∧ m = ns.length ∧ Xt d c H H1 ∧ H1 d = some (.lst [.ref c, .int mm]) ∧ H1 c = some (.lst (ns.map V.int)) ∧ (∀ n ∈ ns, 0 ≤ n) ∧ ns.length ≤ 100 ∧ 0 ≤ mm ∧ mm < 4294967296,
      ⟨_, ns, mm, rfl, rfl, Xt.refl _ _ _, hd, hc, h0, hl, m0, m1⟩, fun m σ H1 hW => ?_⟩
    obtain ⟨ns, mm, rfl, rfl, x1, hd, hc, h0, hl, m0, m1⟩ := hW
    refine ⟨_, rfl, d, _, 0, .ref c, rfl, rfl, SqL.of hd, atI_nat (j := 0) rfl, Nat.zero_le _, fun b nb => ?_⟩
    have s2 := same_new (o := .lst []) nb
    have hd2 := s2 _ _ hd
    have hc2 := s2 _ _ hc
    have x2 : Xt d c H (upd H1 b (.lst [])) := x1.trans (Xt.of s2)
    refine ⟨lI ns, lI [], dp_lI hc2, dp_lI (ns := []) upd_same, shaped_lI _, shaped_lI _, _, rfl, ?_⟩
    rw [nil_eq]
    generalize upd H1 b (.lst []) = H2 at hd2 hc2 x2 ⊢
    have fin : ∀ H3, Xt d c H H3 → H3 d = some (.lst [.ref c, .int mm]) → H3 c = some (.lst (ns.map V.int)) → (∀ v r, ns = r ++ [v] → v ≠ 0) → tSeq (tIfS (tTest (tOp (rNeD K) (tOp (rIxL K) (tVar 0) (tC (V.int 0))) (tLst tNil)))
        (tSeq (tAsg (tBM0 K "list" rPop (tOp (rIxL K) (tVar 0) (tC (V.int 0)))) (gName 2))
          (tSeq (tDrop (tBM K "list" rAppend (tOp (rIxL K) (tVar 0) (tC (V.int 0))) (tCons (tOp (rI CDiv fun i j => V.int (i / j)) (tVar 2) (tVar 1)) tNil)))
            (tRet (tOp (rI (fun x j => 0 < j) fun i j => V.int (i % j)) (tCB (fun xs H Q => (∃ i, xs = [V.int i] ∧ Q (V.int i) H) ∨ ∃ k, xs = [V.bl k] ∧ Q (V.int (if k = true then 1 else 0)) H) (tCons (tVar 2) tNil)) (tVar 1)))))
        tNext)
      (tSeq (tAsg (tOp (rI (fun x j => 0 < j) fun i j => V.int (i % j)) (tCB (fun xs H Q => (∃ i, xs = [V.int i] ∧ Q (V.int i) H) ∨ ∃ k, xs = [V.bl k] ∧ Q (V.int (if k = true then 1 else 0)) H)
              (tCons (tOp (rI CMul fun i j => V.int (i * j)) (tOp (rIxL K) (tVar 0) (tC (V.int 1))) (tC (V.int 48271))) tNil)) (tC (V.int 2147483647)))
          (gSub (tVar 0) (tC (V.int 1)) rSetL))
        (tRet (tOp (rI (fun x j => 0 < j) fun i j => V.int (i % j)) (tCB (fun xs H Q => (∃ i, xs = [V.int i] ∧ Q (V.int i) H) ∨ ∃ k, xs = [V.bl k] ∧ Q (V.int (if k = true then 1 else 0)) H)
              (tCons (tOp (rI CDiv fun i j => V.int (i / j)) (tOp (rIxL K) (tVar 0) (tC (V.int 1))) (tC (V.int 8))) tNil)) (tVar 1))))
      { nx := fun x H' => Q V.non H', rt := Q } [some (.ref d), some (.int n), none] H3 := by
      intro H3 x3 hd3 hc3 hlast
      have ndc : d ≠ c := BoxAt.ne ⟨ns, mm, hd3, hc3, h0, hl, m0, m1⟩
      refine ⟨_, rfl, d, _, 0, .ref c, rfl, rfl, SqL.of hd3, atI_nat (j := 0) rfl, Nat.zero_le _, fun b nb => ?_⟩
      have s4 := same_new (o := .lst []) nb
      have hd4 := s4 _ _ hd3
      have hc4 := s4 _ _ hc3
      have x4 : Xt d c H (upd H3 b (.lst [])) := x3.trans (Xt.of s4)
      refine ⟨lI ns, lI [], dp_lI hc4, dp_lI (ns := []) upd_same, shaped_lI _, shaped_lI _, _, rfl, ?_⟩
      rw [nil_eq]
      generalize upd H3 b (.lst []) = H4 at hd4 hc4 x4 ⊢
      by_cases hne : ns = []
      · subst hne
        refine iteF ?_
        refine ⟨_, rfl, d, _, 1, .int mm, rfl, rfl, SqL.of hd4, atI_nat (j := 1) rfl, _, _, rfl, rfl, .inr ⟨by decide, by decide⟩, .inl ⟨_, rfl, _, _, rfl, rfl, by show (0 : Int) < 2147483647; decide, ?_⟩⟩
        refine ⟨_, rfl, d, _, 1, 1, rfl, rfl, hd4, rfl, ?_⟩
        have b1 := Int.emod_nonneg (mm * 48271) (b := 2147483647) (by decide)
        have b2 := Int.emod_lt_of_pos (mm * 48271) (b := 2147483647) (by decide)
        refine ⟨_, rfl, d, _, 1, .int (mm * 48271 % 2147483647), rfl, rfl, SqL.of upd_same, atI_nat (j := 1) rfl, _, _, rfl, rfl, ⟨by decide, by decide⟩, .inl ⟨_, rfl, _, rfl, _, _, rfl, rfl, n0, ?_⟩⟩
        refine q _ _ (Int.emod_nonneg _ (by omega)) (Int.emod_lt_of_pos _ n0) ?_ ⟨[], _, upd_same, by rw [upd_ne ndc.symm]; exact hc4, h0, hl, b1, by omega⟩
        intro a o n1 n2 e
        rw [upd_ne n1]
        exact x4 _ _ n1 n2 e
      · obtain ⟨r, v, rfl⟩ : ∃ r v, ns = r ++ [v] := ⟨ns.dropLast, ns.getLast hne, (List.dropLast_concat_getLast hne).symm⟩
        have hv0 : 0 ≤ v := h0 v (by simp)
        have el : ((r ++ [v]).map V.int) = r.map V.int ++ [.int v] := by simp
        rw [el] at hc4
        rw [decide_eq_true hne]
        refine iteT ?_
        refine ⟨_, rfl, d, _, 0, .ref c, rfl, rfl, SqL.of hd4, atI_nat (j := 0) rfl, .inl ⟨rfl, _, SqL.of hc4⟩, c, _, .int v, rfl, rfl, hc4, by simp, ?_⟩
        rw [List.dropLast_concat]
        refine ⟨_, rfl, d, _, 0, .ref c, rfl, rfl, SqL.of (by rw [upd_ne ndc]; exact hd4), atI_nat (j := 0) rfl, .inl ⟨rfl, _, SqL.of upd_same⟩, _, rfl, _, rfl, _, _, rfl, rfl, ⟨n0, by omega⟩, c, _, _, rfl, rfl, upd_same, by rw [List.length_map]; exact small1000 (by simp at hl; omega), ?_⟩
        rw [upd_upd]
        refine ⟨_, rfl, .inl ⟨_, rfl, _, rfl, _, _, rfl, rfl, n0, ?_⟩⟩
        refine q _ _ (Int.emod_nonneg _ (by omega)) (Int.emod_lt_of_pos _ n0) ?_ ⟨r ++ [v / n], mm, by rw [upd_ne ndc]; exact hd4, by rw [upd_same, List.map_append]; rfl, ?_, by simp at hl ⊢; omega, m0, m1⟩
        · intro a o n1 n2 e
          rw [upd_ne n2]
          exact x4 _ _ n1 n2 e
        · intro x hx
          rcases List.mem_append.mp hx with hx | hx
          · exact h0 x (by simp [hx])
          · rw [List.mem_singleton.mp hx]
            exact Int.ediv_nonneg hv0 (by omega)
    have ndc : d ≠ c := BoxAt.ne ⟨ns, mm, hd2, hc2, h0, hl, m0, m1⟩
    by_cases hne : ns = []
    · subst hne
      exact iteF (iteF (fin H2 x2 hd2 hc2 (fun v r e => by simp at e)))
    · obtain ⟨r, v, rfl⟩ : ∃ r v, ns = r ++ [v] := ⟨ns.dropLast, ns.getLast hne, (List.dropLast_concat_getLast hne).symm⟩
      have el : ((r ++ [v]).map V.int) = r.map V.int ++ [.int v] := by simp
      rw [decide_eq_true hne]
      have hc2' := hc2
      rw [el] at hc2'
      refine iteT ⟨_, rfl, d, _, 0, .ref c, rfl, rfl, SqL.of hd2, atI_nat (j := 0) rfl, _, rfl, c, _, -1, .int v, rfl, rfl, SqL.of hc2', atI_last _ _, rfl, _, rfl, ?_⟩
      by_cases hv : v = 0
      · subst hv
        refine iteT ?_
        refine ⟨fun σ' H' => ∃ m', m' < (r ++ [(0 : Int)]).length ∧ ∃ (ns : List Int) (mm : Int), σ' = [some (.ref d), some (.int n), none] ∧ m' = ns.length ∧ Xt d c H H' ∧ H' d = some (.lst [.ref c, .int mm]) ∧ H' c = some (.lst (ns.map V.int)) ∧ (∀ n ∈ ns, 0 ≤ n) ∧ ns.length ≤ 100 ∧ 0 ≤ mm ∧ mm < 4294967296, fun σ' H' h => h, ?_⟩
        refine ⟨_, rfl, d, _, 0, .ref c, rfl, rfl, SqL.of hd2, atI_nat (j := 0) rfl, .inl ⟨rfl, _, SqL.of hc2'⟩, c, _, .int 0, rfl, rfl, hc2', by simp, ?_⟩
        rw [List.dropLast_concat]
        refine ⟨r.length, by simp, r, mm, rfl, rfl, ?_, by rw [upd_ne ndc]; exact hd2, upd_same, fun x hx => h0 x (by simp [hx]), by simp at hl; omega, m0, m1⟩
        intro a o n1 n2 e
        rw [upd_ne n2]
        exact x2 _ _ n1 n2 e
      · have : decide (V.int v = V.int 0) = false := decide_eq_false fun z => hv (by cases z; rfl)
        rw [this]
        exact iteF (fin H2 x2 hd2 hc2 (fun v' r' e => by
          have := List.append_inj' e rfl
          cases this.2
          exact hv))
theorem sc__law_deal : FnScope ["_law_script", "_law_base", "_law_cells", "_law_cell", "_law_mixed"] ["_law_script", "_law_base"] (defScope (topS 26)) := ⟨rfl, rfl, rfl, by decide +kernel, rfl, by decide +kernel, by decide +kernel⟩
theorem ok_deal {f : Addr} {fd : FuncData} {k : Nat} (F : Fun K "_law_deal" "_law_deal" (topS 26) f fd) (T : Bt mg) : FnOk P w K mg base CX0 (k + 1) f fd ["_law_script", "_law_base"] (spDeal K) := by
  refine F.ok sc__law_deal (fun vs H Q E h => ?_) (fun cdv A outer s H vs Q E hr h => ?_)
  · obtain ⟨a, ns, rfl, _⟩ := h
    rfl
  · obtain ⟨a, ns, rfl, ha, hl, q⟩ := h
    refine ⟨_, (pss_cons (ps_setLc (i := 2) (own := [("_law_cell", 3)]) (g := (gName 3)) (tt := tYes) rfl sc__law_deal.nd rfl rfl (sw_true rfl rfl rfl (by decide +kernel)) (piLK (K := K) rfl (pe_slice (slLK (K := K) rfl) (pv 0) (po_some (pv 1)) (po_some pe_int))) (blkOk_by (own := [("_law_cell", 3)]) (N := ["_law_script", "_law_base", "_law_cells", "_law_cell", "_law_mixed"]) (sc := defScope (topS 26)) (by decide +kernel)) (fun _ _ _ _ _ => (pg_name (i := 3) sc__law_deal.nd rfl (by first | exact Or.inl rfl | exact Or.inr rfl))) (fun _ _ _ _ _ => pts_nil) (fun _ _ _ _ _ => (pe_callB call_abs (by rfl) T.m_abs (by decide +kernel) (pa_cons (pv 3) pa_nil))))
  (pss_cons (ps_set (i := 4) sc__law_deal.nd rfl (by first | exact Or.inl rfl | exact Or.inr rfl) (pe_op op_add pe_int (pe_op op_mul pe_int (pv 1))))
  (pss_cons (ps_for PassesOwn.never rfl (piLK (K := K) rfl (pv 2)) (pg_name (i := 3) sc__law_deal.nd rfl (by first | exact Or.inl rfl | exact Or.inr rfl)) (pss_one (ps_set (i := 4) sc__law_deal.nd rfl (by first | exact Or.inl rfl | exact Or.inr rfl) (pe_op op_mod (pe_callTy call_int1 (by rfl) T.m_int (by decide +kernel) (pa_cons (pe_op op_add (pe_op op_mul (pv 4) pe_int) (pe_op op_mod (pe_callTy call_int1 (by rfl) T.m_int (by decide +kernel) (pa_cons (pv 3) pa_nil)) pe_int)) pa_nil)) pe_int))))
  (pss_one (ps_ret (pe_lst (pa_cons (pe_revL (pe_lc (own := [("_law_cell", 3)]) (g := (gName 3)) rfl sc__law_deal.nd (piLK (K := K) rfl (pv 2)) (blkOk_by (own := [("_law_cell", 3)]) (N := ["_law_script", "_law_base", "_law_cells", "_law_cell", "_law_mixed"]) (sc := defScope (topS 26)) (by decide +kernel)) (fun _ _ _ _ _ => (pg_name (i := 3) sc__law_deal.nd rfl (by first | exact Or.inl rfl | exact Or.inr rfl))) (fun _ _ _ _ _ => (pts_one (pt_cmpR op_ge (pv 3) (pe_op op_pow pe_int pe_int) (nomark _)))) (fun _ _ _ _ _ => (pv 3)))) (pa_cons (pe_op op_add (pe_op op_mod (pe_callTy call_int1 (by rfl) T.m_int (by decide +kernel) (pa_cons (pv 4) pa_nil)) pe_int) pe_int) pa_nil)))))))), ?_⟩
    obtain ⟨ms, ems, lms⟩ : ∃ ms : List Int, cutV (ns.map V.int) (some 0) (some 63) = ms.map V.int ∧ ms.length ≤ ns.length := cut_ints ns _ _
    refine ⟨_, rfl, _, rfl, _, rfl, _, rfl, a, _, rfl, ha, fun b nb => ?_⟩
    rw [ems]
    have s1 := same_new (o := .lst (ms.map V.int)) nb
    refine ⟨b, rfl, ⟨_, SqL.of upd_same⟩, fun D nD => lc_fmL nD (SqL.of upd_same) (by rw [List.length_map]; omega) (fun v => match v with | .int z => some (.int (if z < 0 then -z else z)) | _ => none) (fun i v H4 Nx hv s4 tk nt => ?_) (fun H4 s4 hD => ?_)⟩
    · obtain ⟨z, _, rfl⟩ := List.mem_map.mp (List.mem_of_getElem? hv)
      exact ⟨rfl, _, rfl, z, rfl, tk _ _ (fun _ _ q => q) rfl⟩
    have ea : ∀ l : List Int, (l.map V.int).filterMap (fun v => match v with | .int z => some (V.int (if z < 0 then -z else z)) | _ => none) = (l.map fun z => if z < 0 then -z else z).map V.int := fun l => by
      induction l with
      | nil => rfl
      | cons x r ih => simp [ih]
    rw [ea] at hD
    have an : ∀ z ∈ (ms.map fun z => if z < 0 then -z else z), 0 ≤ z := fun z hz => by
      obtain ⟨y, _, rfl⟩ := List.mem_map.mp hz
      split <;> omega
    have al : (ms.map fun z => if z < 0 then -z else z).length ≤ 63 := by rw [List.length_map]; omega
    generalize (ms.map fun z => if z < 0 then -z else z) = cs at hD an al
    have s04 : Same H H4 := s1.trans s4
    have nDH : H D = none := s1.free nD
    dsimp only [tSeq, tAsg, gName]
    refine ⟨_, rfl, _, _, rfl, rfl, .inr ⟨by decide, by decide⟩, _, _, rfl, rfl, ?_⟩
    refine ⟨_, rfl, D, rfl, ⟨_, SqL.of hD⟩, for_list (K := K) (a := D) (xs := cs.map V.int) (fun i σ H5 => H5 = H4 ∧ ∃ (o3 : Option V) (m : Int), σ = [some (.ref a), some (.int 0), some (.ref D), o3, some (.int m)] ∧ 0 ≤ m ∧ m < 4294967296)
      ⟨rfl, _, _, rfl, by decide, by decide⟩ (fun i σ H5 hi hp => by rw [hp.1]; exact SqL.of hD) (fun i v σ H5 hv hp => ?_) (fun σ H5 hp => ?_)⟩
    · obtain ⟨rfl, o3, m, rfl, m0, m1⟩ := hp
      obtain ⟨z, _, rfl⟩ := List.mem_map.mp (List.mem_of_getElem? hv)
      refine ⟨_, rfl, _, _, rfl, rfl, .inr ⟨by decide, by decide⟩, _, rfl, .inl ⟨_, rfl, _, _, rfl, rfl, by show (0 : Int) < 2147483629; decide, _, _, rfl, rfl, .inl ⟨_, rfl, _, _, rfl, rfl, by show (0 : Int) < 2147483647; decide, ?_⟩⟩⟩
      exact ⟨rfl, _, _, rfl, Int.emod_nonneg _ (by decide), Int.lt_trans (Int.emod_lt_of_pos _ (by decide)) (by decide)⟩
    · obtain ⟨rfl, o3, m, rfl, m0, m1⟩ := hp
      refine ⟨_, rfl, D, rfl, ⟨_, SqL.of hD⟩, fun D2 nD2 => lc_fmL nD2 (SqL.of hD) (by rw [List.length_map]; omega) (fun v => match v with | .int z => if (10 : Int) ^ Int.toNat 18 ≤ z then some (.int z) else none | _ => none) (fun i v H6 Nx hv s6 tk nt => ?_) (fun H6 s6 hD2 => ?_)⟩
      · obtain ⟨z, _, rfl⟩ := List.mem_map.mp (List.mem_of_getElem? hv)
        refine ⟨rfl, _, rfl, _, _, rfl, rfl, ⟨by decide, by decide, by decide⟩, _, _, rfl, rfl, _, rfl, ite2 (fun e => ?_) (fun e => ?_)⟩
        · exact ⟨_, rfl, tk _ _ (fun _ _ q => q) (if_pos (of_decide_eq_true e))⟩
        · exact nt _ (fun _ _ q => q) (if_neg (fun z => e (decide_eq_true z)))
      · have eb : ∀ l : List Int, (l.map V.int).filterMap (fun v => match v with | .int z => if (10 : Int) ^ Int.toNat 18 ≤ z then some (V.int z) else none | _ => none) = (l.filter fun z => decide ((10 : Int) ^ Int.toNat 18 ≤ z)).map V.int := fun l => by
          induction l with
          | nil => rfl
          | cons x r ih =>
            by_cases hx : (10 : Int) ^ Int.toNat 18 ≤ x
            · rw [List.map_cons, List.filterMap_cons, List.filter_cons, decide_eq_true hx]
              simp only [hx, if_true, List.map_cons]
              rw [ih]
            · rw [List.map_cons, List.filterMap_cons, List.filter_cons, decide_eq_false hx]
              simp only [hx, if_false]
              exact ih
        rw [eb] at hD2
        refine ⟨D2, _, rfl, SqL.of hD2, fun p np => ?_⟩
        have s7 := same_new (o := .lst ((cs.filter fun z => decide ((10 : Int) ^ Int.toNat 18 ≤ z)).map V.int).reverse) np
        refine ⟨_, rfl, .inl ⟨_, rfl, _, _, rfl, rfl, by show (0 : Int) < 2147483646; decide, _, _, rfl, rfl, ?_⟩⟩
        refine ⟨by show 2 ≤ sizeLine; decide, fun d nd => ?_⟩
        have s8 := same_new (o := .lst [.ref p, .int (m % 2147483646 + 1)]) nd
        have s06 := s04.trans s6
        refine q d p _ ((s06.trans s7).trans s8) ((s06.trans s7).free nd) (s06.free np) ⟨(cs.filter fun z => decide ((10 : Int) ^ Int.toNat 18 ≤ z)).reverse, m % 2147483646 + 1, upd_same, ?_, ?_, ?_, ?_, ?_⟩
        · rw [s8 _ _ upd_same, List.map_reverse]
        · intro z hz
          exact an z (List.mem_filter.mp (List.mem_reverse.mp hz)).1
        · rw [List.length_reverse]
          exact Nat.le_trans (List.length_filter_le _ _) (by omega)
        · have := Int.emod_nonneg m (b := 2147483646) (by decide)
          omega
        · have := Int.emod_lt_of_pos m (b := 2147483646) (by decide)
          omega
theorem xt_l {K : PySem.W.Frag} {d c a : Addr} {H H' : Hp} {xs : List V} (x : Xt d c H H') (n : a ≠ d) (n2 : a ≠ c) (h : SqL K H a xs) : SqL K H' a xs := by
  rcases h with (h | ⟨o, h⟩) | h
  · exact .inl (.inl (x _ _ n n2 h))
  · exact .inl (.inr ⟨o, x _ _ n n2 h⟩)
  · exact .inr h
theorem atI_mem {xs : List V} {r : Int} (h0 : 0 ≤ r) (h1 : r < xs.length) : ∃ v, atI xs r = some v ∧ v ∈ xs := by
  obtain ⟨n, rfl⟩ := Int.eq_ofNat_of_zero_le h0
  have hn : n < xs.length := by omega
  exact ⟨xs[n], atI_nat (List.getElem?_eq_getElem hn), List.getElem_mem hn⟩
theorem sc__law_pick : FnScope ["_law_deal_here", "_law_some"] ["_law_deal_here", "_law_some"] (defScope (topS 28)) := ⟨rfl, rfl, rfl, by decide +kernel, rfl, by decide +kernel, by decide +kernel⟩
theorem ok_pick {f fD : Addr} {fd fdD : FuncData} {k : Nat} (F : Fun K "_law_pick" "_law_pick" (topS 28) f fd) (T : Bt mg) (FD : Fun K "_law_draw" "_law_draw" (topS 27) fD fdD) (bD : Binds K fdD ["_law_deal_here", "_law_many"] []) (gD : mg "_law_draw" = some (.ref fD)) :
    FnOk P w K mg base CX0 (k + 2) f fd ["_law_deal_here", "_law_some"] (spPick K) := by
  have GD : FnOk P w K mg base CX0 (k + 1) fD fdD ["_law_deal_here", "_law_many"] spDraw := ok_draw FD T
  refine F.ok sc__law_pick (fun vs H Q E h => ?_) (fun cdv A outer s H vs Q E hr h => ?_)
  · obtain ⟨d, c, l, xs, rfl, _⟩ := h
    rfl
  · obtain ⟨d, c, l, xs, rfl, hb, hl, n1, n2, h0, h1, q⟩ := h
    refine ⟨_, (pss_one (ps_ret (pe_ix (ixLK (K := K) rfl) (pv 1) (pe_call GD hr (by rfl) gD FD.kp bD .nil pass0 (pa_cons (pv 0) (pa_cons (pe_callB (lenK (K := K) rfl) (by rfl) T.m_len PySem.boot_len (pa_cons (pv 1) pa_nil)) pa_nil))) (fun _ _ => rfl)))), ?_⟩
    refine ⟨_, rfl, _, rfl, _, rfl, l, xs, rfl, .inl hl, d, c, xs.length, rfl, hb, by omega, by omega, fun r H' r0 r1 x hb' => ?_⟩
    obtain ⟨v, ev, hv⟩ := atI_mem r0 r1
    exact ⟨l, xs, r, v, rfl, rfl, xt_l x n1 n2 hl, ev, q v H' hv x hb'⟩
end
end FH

set_option Elab.async false
set_option linter.all false
set_option maxRecDepth 100000
set_option maxHeartbeats 1000000
namespace FH
open PySem L2
local macro_rules | `(tactic| walk_at "seq") => `(tactic| first | assumption | exact SqL.of (by assumption) | exact SqT.of (by assumption) | exact SqL.of upd_same | exact SqT.of upd_same)
local macro_rules | `(tactic| walk_at "at") => `(tactic| first | exact atI_nat (j := 0) rfl | exact atI_nat (j := 1) rfl | exact atI_nat (j := 2) rfl | exact atI_nat (by assumption) | assumption)
local macro_rules | `(tactic| walk_at "ar") => `(tactic| first | omega | exact ⟨by omega, by omega⟩ | exact Or.inl ⟨by omega, by omega⟩ | exact Or.inr ⟨by omega, by omega⟩ | exact ⟨by decide, by decide⟩ | exact Or.inr ⟨by decide, by decide⟩ | exact Or.inl ⟨by decide, by decide⟩ | exact ⟨by decide, by decide, by omega⟩ | exact ⟨by decide, by decide, by decide⟩)
local macro_rules | `(tactic| walk_at "r") => `(tactic| repeat (first
  | refine ⟨_, rfl, ?_⟩
  | refine ⟨_, _, rfl, rfl, ?_⟩
  | refine ⟨_, _, _, _, rfl, rfl, by walk_at "seq", by walk_at "at", ?_⟩
  | refine ⟨_, _, _, _, rfl, rfl, by assumption, rfl, ?_⟩
  | refine ⟨_, _, rfl, Or.inl (by walk_at "seq"), ?_⟩
  | refine Or.inl ⟨_, rfl, ?_⟩
  | refine Or.inr ⟨_, rfl, ?_⟩
  | refine And.intro (by walk_at "ar") ?_))
/-! ### texts of signs -/
def tlS (x : Str) : List Nat := x.cps.toList
def Sg (x : Str) : Prop := ∀ ch ∈ tlS x, ch = 43 ∨ ch = 45
def ones (cs : List Nat) : List Str := cs.map fun ch => ⟨#[ch]⟩
theorem join_ones (cs : List Nat) : tlS (Txt.join (Str.ofString "") (ones cs)) = cs := by
  have e1 : Txt.join (Str.ofString "") (ones cs) = Str.join (Str.ofString "") (ones cs) := TL.join_eq _ _
  rw [e1]
  have e2 := TL.tl_join (Str.ofString "") (ones cs)
  have e3 : ∀ l : List (List Nat), TL.joinL [] l = l.flatten := fun l => by
    induction l with
    | nil => rfl
    | cons a r ih =>
      cases r with
      | nil => simp [TL.joinL]
      | cons b r => show a ++ ([] ++ TL.joinL [] (b :: r)) = _; rw [ih]; rfl
  have e4 : ∀ cs : List Nat, ((ones cs).map tlS).flatten = cs := fun cs => by
    induction cs with
    | nil => rfl
    | cons a r ih => show [a] ++ ((ones r).map tlS).flatten = _; rw [ih]; rfl
  have e5 : TL.tl (Str.ofString "") = [] := rfl
  rw [e5, e3] at e2
  exact e2.trans (e4 cs)
theorem len_tl (x : Str) : x.length = (tlS x).length := by
  show x.cps.size = x.cps.toList.length
  rw [Array.length_toList]
def spSigns : Sp := fun vs H Q _ => ∃ (d c : Addr) (n : Int), vs = [.ref d, .int n] ∧ BoxAt H d c ∧ 0 ≤ n ∧ n ≤ 100 ∧
  ∀ (x : Str) (H' : Hp), x.length = n.toNat → Sg x → Xt d c H H' → BoxAt H' d c → Q (.str x) H'
theorem sum_ones (cs : List Nat) : ((ones cs).map (·.length)).sum = cs.length := by
  induction cs with
  | nil => rfl
  | cons x r ih => show 1 + ((ones r).map (·.length)).sum = _; rw [ih]; simp; omega
theorem ones_len (cs : List Nat) : (ones cs).length = cs.length := by unfold ones; rw [List.length_map]
section
variable {P : Program} {w : World} {K : PySem.W.Frag} {mg : Str → Option Value} {base : Heap}
theorem sc__law_signs : FnScope ["_law_deal_here", "_law_wide", "_law_form", "_law_first", "_law_turn", "_law_at"] ["_law_deal_here", "_law_wide"] (defScope (topS 29)) := ⟨rfl, rfl, rfl, by decide +kernel, rfl, by decide +kernel, by decide +kernel⟩
theorem ok_signs {f fD : Addr} {fd fdD : FuncData} {k : Nat} (F : Fun K "_law_signs" "_law_signs" (topS 29) f fd) (T : Bt mg) (FD : Fun K "_law_draw" "_law_draw" (topS 27) fD fdD) (bD : Binds K fdD ["_law_deal_here", "_law_many"] []) (gD : mg "_law_draw" = some (.ref fD)) :
    FnOk P w K mg base CX0 (k + 2) f fd ["_law_deal_here", "_law_wide"] spSigns := by
  have GD : FnOk P w K mg base CX0 (k + 1) fD fdD ["_law_deal_here", "_law_many"] spDraw := ok_draw FD T
  refine F.ok sc__law_signs (fun vs H Q E h => ?_) (fun cdv A outer s H vs Q E hr h => ?_)
  · obtain ⟨d, c, n, rfl, _⟩ := h
    rfl
  · obtain ⟨d, c, n, rfl, hb, n0, n1, q⟩ := h
    refine ⟨_, (pss_cons (ps_asg (pe_tup (pa_cons (pe_call GD hr (by rfl) gD FD.kp bD .nil pass0 (pa_cons (pv 0) (pa_cons pe_int pa_nil))) (pa_cons (pe_call GD hr (by rfl) gD FD.kp bD .nil pass0 (pa_cons (pv 0) (pa_cons pe_int pa_nil))) pa_nil))) (pg_tup rfl (pgs_cons (pg_name (i := 2) sc__law_signs.nd rfl (by first | exact Or.inl rfl | exact Or.inr rfl)) (pgs_cons (pg_name (i := 3) sc__law_signs.nd rfl (by first | exact Or.inl rfl | exact Or.inr rfl)) pgs_nil))))
  (pss_cons (ps_if (pt_cmpR op_lt (pv 2) pe_int (nomark _)) (pss_one (ps_ret (pe_join pe_str (pe_lc (own := [("_law_turn", 4)]) (g := (gName 4)) (tt := tYes) rfl sc__law_signs.nd (pi_range1 (by rfl) T.m_range (pa_cons (pv 1) pa_nil)) (blkOk_by (own := [("_law_turn", 4)]) (N := ["_law_deal_here", "_law_wide", "_law_form", "_law_first", "_law_turn", "_law_at"]) (sc := defScope (topS 29)) (by decide +kernel)) (fun _ _ _ _ _ => (pg_name (i := 4) sc__law_signs.nd rfl (by first | exact Or.inl rfl | exact Or.inr rfl))) (fun _ _ _ _ _ => pts_nil) (fun _ _ _ _ _ => (pe_ix ix_str pe_str (pe_call GD hr (by rfl) gD FD.kp bD .nil pass0 (pa_cons (pv 0) (pa_cons pe_int pa_nil))) (fun _ _ => rfl))))))) pss_nil)
  (pss_one (ps_ret (pe_join pe_str (pe_lc (own := [("_law_at", 5)]) (g := (gName 5)) (tt := tYes) rfl sc__law_signs.nd (pi_range1 (by rfl) T.m_range (pa_cons (pv 1) pa_nil)) (blkOk_by (own := [("_law_at", 5)]) (N := ["_law_deal_here", "_law_wide", "_law_form", "_law_first", "_law_turn", "_law_at"]) (sc := defScope (topS 29)) (by decide +kernel)) (fun _ _ _ _ _ => (pg_name (i := 5) sc__law_signs.nd rfl (by first | exact Or.inl rfl | exact Or.inr rfl))) (fun _ _ _ _ _ => pts_nil) (fun _ _ _ _ _ => (pe_ix ix_str pe_str (pe_op op_mod (pe_callTy call_int1 (by rfl) T.m_int (by decide +kernel) (pa_cons (pe_op op_add (pv 3) (pe_op op_mul (pv 5) (pe_op op_sub (pv 2) pe_int))) pa_nil)) pe_int) (fun _ _ => rfl))))))))), ?_⟩
    have mp : ∀ r : Int, 0 ≤ r → r < 2 → ∃ ch, atI (Str.ofString "-+").cps.toList r = some ch ∧ (ch = 43 ∨ ch = 45) := fun r r0 r1 => by
      have : r = 0 ∨ r = 1 := by omega
      rcases this with rfl | rfl
      · exact ⟨45, atI_nat (j := 0) rfl, .inr rfl⟩
      · exact ⟨43, atI_nat (j := 1) rfl, .inl rfl⟩
    refine ⟨_, rfl, d, c, 4, rfl, hb, by omega, by omega, fun fm H1 f0 f1 x1 hb1 => ⟨_, rfl, d, c, 2, rfl, hb1, by omega, by omega, fun fs H2 s0 s1 x2 hb2 => ⟨by show 2 ≤ sizeLine; decide, fun t nt => ?_⟩⟩⟩
    have st := same_new (o := .tup [.int fm, .int fs]) nt
    have hb3 := hb2.same st
    have x3 : Xt d c H _ := (x1.trans x2).trans (Xt.of st)
    refine ⟨t, _, rfl, SqT.of upd_same, rfl, _, _, rfl, _, _, rfl, rfl, ?_⟩
    generalize upd H2 t (.tup [.int fm, .int fs]) = H3 at hb3 x3 ⊢
    clear hb1 hb2 x1 x2 st nt
    have fin : ∀ (D : Addr) (cs : List Nat) (H4 : Hp), cs.length = n.toNat → (∀ ch ∈ cs, ch = 43 ∨ ch = 45) → Xt d c H3 H4 → BoxAt H4 d c → H4 D = some (.lst ((ones cs).map V.str)) →
        ∃ a p ys, V.str (Str.ofString "") = V.str a ∧ [V.ref D] = [V.ref p] ∧ (SqL K H4 p (List.map V.str ys) ∨ SqT K H4 p (List.map V.str ys)) ∧ (List.map (fun x => x.length) ys).sum + ys.length * a.length ≤ 16777216 ∧ Q (V.str (Txt.join a ys)) H4 := by
      intro D cs H4 hl hs x4 hb4 hD
      refine ⟨_, D, ones cs, rfl, rfl, .inl (SqL.of hD), ?_, q _ _ ?_ ?_ (x3.trans x4) hb4⟩
      · rw [sum_ones, ones_len]
        show cs.length + cs.length * 0 ≤ _
        omega
      · rw [len_tl, join_ones, hl]
      · intro ch hch
        rw [join_ones] at hch
        exact hs ch hch
    have step : ∀ (D : Addr) (i : Nat) (H4 H5 : Hp) (ch : Nat) (cs : List Nat), H3 D = none → cs.length = i → i < n.toNat → (∀ ch ∈ cs, ch = 43 ∨ ch = 45) → Xt d c H3 H4 → H4 D = some (.lst ((ones cs).map V.str)) → Xt d c H4 H5 → BoxAt H5 d c → (ch = 43 ∨ ch = 45) →
        ∃ acc, H5 D = some (.lst acc) ∧ acc.length < sizeLine ∧ ∃ cs' : List Nat, cs'.length = i + 1 ∧ (∀ ch ∈ cs', ch = 43 ∨ ch = 45) ∧ Xt d c H3 (upd H5 D (.lst (acc ++ [.str ⟨#[ch]⟩]))) ∧ BoxAt (upd H5 D (.lst (acc ++ [.str ⟨#[ch]⟩]))) d c ∧ (upd H5 D (.lst (acc ++ [.str ⟨#[ch]⟩]))) D = some (.lst ((ones cs').map V.str)) := by
      intro D i H4 H5 ch cs nD hl hi hs x4 hD x5 hb5 hch
      obtain ⟨nd, nc⟩ := hb3.nd nD
      refine ⟨_, x5 _ _ nd nc hD, by rw [List.length_map, ones_len]; exact small1000 (by omega), cs ++ [ch], by simp [hl], ?_, ?_, ?_, ?_⟩
      · intro z hz
        rcases List.mem_append.mp hz with hz | hz
        · exact hs z hz
        · rw [List.mem_singleton.mp hz]; exact hch
      · intro a o n1 n2 e
        have na : a ≠ D := fun z => by rw [z, nD] at e; cases e
        rw [upd_ne na]
        exact x5 _ _ n1 n2 (x4 _ _ n1 n2 e)
      · obtain ⟨ns, m, e1, e2, r⟩ := hb5
        exact ⟨ns, m, by rw [upd_ne nd.symm]; exact e1, by rw [upd_ne nc.symm]; exact e2, r⟩
      · rw [upd_same]
        unfold ones
        rw [List.map_append, List.map_append]
        rfl
    refine ⟨_, rfl, _, _, rfl, rfl, _, rfl, ite2 (fun e => ?_) (fun e => ?_)⟩
    · refine ⟨⟨_, rfl⟩, _, rfl, n, rfl, by omega, by omega, fun D nD => lc_range (fun i H4 => ∃ cs : List Nat, cs.length = i ∧ (∀ ch ∈ cs, ch = 43 ∨ ch = 45) ∧ Xt d c H3 H4 ∧ BoxAt H4 d c ∧ H4 D = some (.lst ((ones cs).map V.str))) ⟨[], rfl, fun ch h => (by cases h), Xt.of (same_new nD), hb3.same (same_new nD), upd_same⟩ (fun i H4 hi hP => ?_) (fun H4 hP => ?_)⟩
      · obtain ⟨cs, hl, hs, x4, hb4, hD⟩ := hP
        refine ⟨rfl, _, rfl, d, c, 2, rfl, hb4, by omega, by omega, fun r H5 r0 r1 x5 hb5 => ?_⟩
        obtain ⟨ch, e1, e2⟩ := mp r r0 r1
        exact ⟨_, r, ch, rfl, rfl, by decide, e1, step D i H4 H5 ch cs nD hl (by omega) hs x4 hD x5 hb5 e2⟩
      · obtain ⟨cs, hl, hs, x4, hb4, hD⟩ := hP
        exact fin D cs H4 hl hs x4 hb4 hD
    · refine ⟨⟨_, rfl⟩, _, rfl, n, rfl, by omega, by omega, fun D nD => lc_range (fun i H4 => ∃ cs : List Nat, cs.length = i ∧ (∀ ch ∈ cs, ch = 43 ∨ ch = 45) ∧ Xt d c H3 H4 ∧ BoxAt H4 d c ∧ H4 D = some (.lst ((ones cs).map V.str))) ⟨[], rfl, fun ch h => (by cases h), Xt.of (same_new nD), hb3.same (same_new nD), upd_same⟩ (fun i H4 hi hP => ?_) (fun H4 hP => ?_)⟩
      · obtain ⟨cs, hl, hs, x4, hb4, hD⟩ := hP
        have hin : i < n.toNat := by omega
        refine ⟨rfl, _, rfl, _, rfl, _, rfl, _, _, rfl, rfl, _, _, rfl, rfl, .inl ⟨by omega, by omega⟩, _, _, rfl, rfl, .inl ⟨_, rfl, _, _, rfl, rfl, by show (0 : Int) < 2; decide, ?_⟩⟩
        obtain ⟨ch, e1, e2⟩ := mp ((fs + (0 + (i : Int)) * (fm - 2)) % 2) (Int.emod_nonneg _ (by decide)) (Int.emod_lt_of_pos _ (by decide))
        exact ⟨_, _, ch, rfl, rfl, by decide, e1, step D i H4 H4 ch cs nD hl hin hs x4 hD (Xt.refl _ _ _) hb4 e2⟩
      · obtain ⟨cs, hl, hs, x4, hb4, hD⟩ := hP
        exact fin D cs H4 hl hs x4 hb4 hD
def spTable : Sp := fun vs H Q _ => ∃ (d c : Addr) (m f : Int), vs = [.ref d, .int m, .int f] ∧ BoxAt H d c ∧ 0 ≤ m ∧ m ≤ 20 ∧ 0 < f ∧ f ≤ 20 ∧
  ∀ (t ts tp tr : Addr) (s0 s1 p0 p1 : Int) (rows : List Str) (H' : Hp), Xt d c H H' → BoxAt H' d c → H' t = some (.tup [.ref ts, .ref tp, .ref tr]) → H' ts = some (.tup [.int s0, .int s1]) → H' tp = some (.tup [.int p0, .int p1]) → H' tr = some (.lst (rows.map V.str)) → tr ≠ d → tr ≠ c →
    0 ≤ s0 → s0 ≤ m → 0 ≤ s1 → s1 ≤ m → 0 < p0 → p0 ≤ f → 0 < p1 → p1 ≤ f → rows.length = (s0 + p0).toNat → (∀ x ∈ rows, x.length = (s1 + p1).toNat ∧ Sg x) → Q (.ref t) H'
theorem sc__law_table : FnScope ["_law_deal_here", "_law_most", "_law_far", "_law_starts", "_law_periods", "_law_some", "_law_turn"] ["_law_deal_here", "_law_most", "_law_far"] (defScope (topS 30)) := ⟨rfl, rfl, rfl, by decide +kernel, rfl, by decide +kernel, by decide +kernel⟩
theorem ok_table {f fD fG fP : Addr} {fd fdD fdG fdP : FuncData} {k : Nat} (F : Fun K "_law_table" "_law_table" (topS 30) f fd) (T : Bt mg) (FD : Fun K "_law_draw" "_law_draw" (topS 27) fD fdD) (bD : Binds K fdD ["_law_deal_here", "_law_many"] []) (gD : mg "_law_draw" = some (.ref fD))
    (FG : Fun K "_law_signs" "_law_signs" (topS 29) fG fdG) (bG : Binds K fdG ["_law_deal_here", "_law_wide"] []) (gG : mg "_law_signs" = some (.ref fG))
    (FP : Fun K "_law_pick" "_law_pick" (topS 28) fP fdP) (bP : Binds K fdP ["_law_deal_here", "_law_some"] []) (gP : mg "_law_pick" = some (.ref fP)) :
    FnOk P w K mg base CX0 (k + 3) f fd ["_law_deal_here", "_law_most", "_law_far"] spTable := by
  have GD : FnOk P w K mg base CX0 (k + 2) fD fdD ["_law_deal_here", "_law_many"] spDraw := ok_draw FD T
  have GG : FnOk P w K mg base CX0 (k + 2) fG fdG ["_law_deal_here", "_law_wide"] spSigns := ok_signs FG T FD bD gD
  have GP : FnOk P w K mg base CX0 (k + 2) fP fdP ["_law_deal_here", "_law_some"] (spPick K) := ok_pick FP T FD bD gD
  refine F.ok sc__law_table (fun vs H Q E h => ?_) (fun cdv A outer s H vs Q E hr h => ?_)
  · obtain ⟨d, c, m, f, rfl, _⟩ := h
    rfl
  · obtain ⟨d, c, m, ff, rfl, hb, m0, m1, f0, f1, q⟩ := h
    refine ⟨_, (pss_cons (ps_set (i := 3) sc__law_table.nd rfl (by first | exact Or.inl rfl | exact Or.inr rfl) (pe_tup (pa_cons (pe_call GD hr (by rfl) gD FD.kp bD .nil pass0 (pa_cons (pv 0) (pa_cons (pe_op op_add (pv 1) pe_int) pa_nil))) (pa_cons (pe_call GD hr (by rfl) gD FD.kp bD .nil pass0 (pa_cons (pv 0) (pa_cons (pe_op op_add (pv 1) pe_int) pa_nil))) pa_nil))))
  (pss_cons (ps_set (i := 4) sc__law_table.nd rfl (by first | exact Or.inl rfl | exact Or.inr rfl) (pe_tup (pa_cons (pe_op op_add pe_int (pe_call GD hr (by rfl) gD FD.kp bD .nil pass0 (pa_cons (pv 0) (pa_cons (pv 2) pa_nil)))) (pa_cons (pe_op op_add pe_int (pe_call GD hr (by rfl) gD FD.kp bD .nil pass0 (pa_cons (pv 0) (pa_cons (pv 2) pa_nil)))) pa_nil))))
  (pss_cons (ps_set (i := 5) sc__law_table.nd rfl (by first | exact Or.inl rfl | exact Or.inr rfl) (pe_lc (own := [("_law_turn", 6)]) (g := (gName 6)) (tt := tYes) rfl sc__law_table.nd (pi_range1 (by rfl) T.m_range (pa_cons (pe_op op_add pe_int (pe_call GD hr (by rfl) gD FD.kp bD .nil pass0 (pa_cons (pv 0) (pa_cons pe_int pa_nil)))) pa_nil)) (blkOk_by (own := [("_law_turn", 6)]) (N := ["_law_deal_here", "_law_most", "_law_far", "_law_starts", "_law_periods", "_law_some", "_law_turn"]) (sc := defScope (topS 30)) (by decide +kernel)) (fun _ _ _ _ _ => (pg_name (i := 6) sc__law_table.nd rfl (by first | exact Or.inl rfl | exact Or.inr rfl))) (fun _ _ _ _ _ => pts_nil) (fun _ _ _ _ _ => (pe_call GG hr (by rfl) gG FG.kp bG .nil pass0 (pa_cons (pv 0) (pa_cons (pe_op op_add (pe_ix (ixTK (K := K) rfl) (pv 3) pe_int (fun _ _ => rfl)) (pe_ix (ixTK (K := K) rfl) (pv 4) pe_int (fun _ _ => rfl))) pa_nil))))))
  (pss_one (ps_ret (pe_tup (pa_cons (pv 3) (pa_cons (pv 4) (pa_cons (pe_lc (own := [("_law_turn", 6)]) (g := (gName 6)) (tt := tYes) rfl sc__law_table.nd (pi_range1 (by rfl) T.m_range (pa_cons (pe_op op_add (pe_ix (ixTK (K := K) rfl) (pv 3) pe_int (fun _ _ => rfl)) (pe_ix (ixTK (K := K) rfl) (pv 4) pe_int (fun _ _ => rfl))) pa_nil)) (blkOk_by (own := [("_law_turn", 6)]) (N := ["_law_deal_here", "_law_most", "_law_far", "_law_starts", "_law_periods", "_law_some", "_law_turn"]) (sc := defScope (topS 30)) (by decide +kernel)) (fun _ _ _ _ _ => (pg_name (i := 6) sc__law_table.nd rfl (by first | exact Or.inl rfl | exact Or.inr rfl))) (fun _ _ _ _ _ => pts_nil) (fun _ _ _ _ _ => (pe_call GP hr (by rfl) gP FP.kp bP .nil pass0 (pa_cons (pv 0) (pa_cons (pv 5) pa_nil))))) pa_nil))))))))), ?_⟩
    refine ⟨_, rfl, _, rfl, _, _, rfl, rfl, d, c, m + 1, rfl, hb, by omega, by omega, fun a0 H1 a00 a01 x1 hb1 => ?_⟩
    refine ⟨_, rfl, _, rfl, _, _, rfl, rfl, d, c, m + 1, rfl, hb1, by omega, by omega, fun a1 H2 a10 a11 x2 hb2 => ⟨by show 2 ≤ sizeLine; decide, fun ts nts => ?_⟩⟩
    have st1 := same_new (o := .tup [.int a0, .int a1]) nts
    obtain ⟨tsd, tsc⟩ := hb2.nd nts
    have hb3 := hb2.same st1
    have x3 : Xt d c H _ := (x1.trans x2).trans (Xt.of st1)
    have hts3 := upd_same (H := H2) (a := ts) (o := .tup [.int a0, .int a1])
    generalize upd H2 ts (.tup [.int a0, .int a1]) = H3 at hb3 x3 hts3 ⊢
    clear hb1 hb2 x1 x2 st1 nts
    refine ⟨_, rfl, _, rfl, d, c, ff, rfl, hb3, by omega, by omega, fun b0 H4 b00 b01 x4 hb4 => ⟨_, _, rfl, rfl, ?_⟩⟩
    refine ⟨_, rfl, _, rfl, d, c, ff, rfl, hb4, by omega, by omega, fun b1 H5 b10 b11 x5 hb5 => ⟨_, _, rfl, rfl, by show 2 ≤ sizeLine; decide, fun tp ntp => ?_⟩⟩
    have st2 := same_new (o := .tup [.int (1 + b0), .int (1 + b1)]) ntp
    obtain ⟨tpd, tpc⟩ := hb5.nd ntp
    have hb6 := hb5.same st2
    have x6 : Xt d c H _ := ((x3.trans x4).trans x5).trans (Xt.of st2)
    have hts6 := st2 _ _ (x5 _ _ tsd tsc (x4 _ _ tsd tsc hts3))
    have htp6 := upd_same (H := H5) (a := tp) (o := .tup [.int (1 + b0), .int (1 + b1)])
    generalize upd H5 tp (.tup [.int (1 + b0), .int (1 + b1)]) = H6 at hb6 x6 hts6 htp6 ⊢
    clear hb3 hb4 hb5 x3 x4 x5 st2 ntp hts3
    -- some rows
    refine ⟨_, rfl, d, c, 3, rfl, hb6, by omega, by omega, fun e H7 e0 e1 x7 hb7 => ⟨_, _, rfl, rfl, 2 + e, rfl, by omega, by omega, fun D nD => ?_⟩⟩
    obtain ⟨Dd, Dc⟩ := hb7.nd nD
    have hts7 := x7 _ _ tsd tsc hts6
    have htp7 := x7 _ _ tpd tpc htp6
    refine lc_range (fun i H8 => ∃ xs : List Str, xs.length = i ∧ (∀ x ∈ xs, x.length = (a1 + (1 + b1)).toNat ∧ Sg x) ∧ Xt d c H7 H8 ∧ BoxAt H8 d c ∧ H8 D = some (.lst (xs.map V.str))) ⟨[], rfl, fun x h => (by cases h), Xt.of (same_new nD), hb7.same (same_new nD), upd_same⟩ (fun i H8 hi hP => ?_) (fun H8 hP => ?_)
    · obtain ⟨xs, hl, hs, x8, hb8, hD⟩ := hP
      refine ⟨rfl, _, rfl, _, rfl, ts, _, 1, .int a1, rfl, rfl, SqT.of (x8 _ _ tsd tsc hts7), atI_nat (j := 1) rfl, _, rfl, tp, _, 1, .int (1 + b1), rfl, rfl, SqT.of (x8 _ _ tpd tpc htp7), atI_nat (j := 1) rfl, _, _, rfl, rfl, d, c, a1 + (1 + b1), rfl, hb8, by omega, by omega, fun x H9 xl xs9 x9 hb9 => ?_⟩
      refine ⟨_, x9 _ _ Dd Dc hD, by rw [List.length_map]; exact small1000 (by omega), xs ++ [x], by simp [hl], ?_, ?_, ?_, ?_⟩
      · intro z hz
        rcases List.mem_append.mp hz with hz | hz
        · exact hs z hz
        · rw [List.mem_singleton.mp hz]; exact ⟨xl, xs9⟩
      · intro a o n1 n2 e
        have na : a ≠ D := fun z => by rw [z, nD] at e; cases e
        rw [upd_ne na]
        exact x9 _ _ n1 n2 (x8 _ _ n1 n2 e)
      · obtain ⟨ns, mm, e1, e2, r⟩ := hb9
        exact ⟨ns, mm, by rw [upd_ne Dd.symm]; exact e1, by rw [upd_ne Dc.symm]; exact e2, r⟩
      · rw [upd_same, List.map_append]; rfl
    · obtain ⟨xs, hl, hs, x8, hb8, hD⟩ := hP
      have hts8 := x8 _ _ tsd tsc hts7
      have htp8 := x8 _ _ tpd tpc htp7
      have x08 : Xt d c H H8 := (x6.trans x7).trans x8
      have xne : 0 < xs.length := by omega
      refine ⟨_, rfl, _, rfl, _, rfl, ts, _, 0, .int a0, rfl, rfl, SqT.of hts8, atI_nat (j := 0) rfl, _, rfl, tp, _, 0, .int (1 + b0), rfl, rfl, SqT.of htp8, atI_nat (j := 0) rfl, _, _, rfl, rfl, a0 + (1 + b0), rfl, by omega, by omega, fun D2 nD2 => ?_⟩
      obtain ⟨D2d, D2c⟩ := hb8.nd nD2
      refine lc_range (fun i H9 => ∃ ys : List Str, ys.length = i ∧ (∀ x ∈ ys, x.length = (a1 + (1 + b1)).toNat ∧ Sg x) ∧ Xt d c H8 H9 ∧ BoxAt H9 d c ∧ H9 D2 = some (.lst (ys.map V.str))) ⟨[], rfl, fun x h => (by cases h), Xt.of (same_new nD2), hb8.same (same_new nD2), upd_same⟩ (fun i H9 hi hP => ?_) (fun H9 hP => ?_)
      · obtain ⟨ys, hl9, hs9, x9, hb9, hD9⟩ := hP
        refine ⟨rfl, _, rfl, _, rfl, d, c, D, xs.map V.str, rfl, hb9, SqL.of (x9 _ _ Dd Dc hD), Dd, Dc, by rw [List.length_map]; exact xne, by rw [List.length_map]; omega, fun v H10 hv x10 hb10 => ?_⟩
        obtain ⟨x, hx, rfl⟩ := List.mem_map.mp hv
        refine ⟨_, x10 _ _ D2d D2c hD9, by rw [List.length_map]; exact small1000 (by omega), ys ++ [x], by simp [hl9], ?_, ?_, ?_, ?_⟩
        · intro z hz
          rcases List.mem_append.mp hz with hz | hz
          · exact hs9 z hz
          · rw [List.mem_singleton.mp hz]; exact hs x hx
        · intro a o n1 n2 e
          have na : a ≠ D2 := fun z => by rw [z, nD2] at e; cases e
          rw [upd_ne na]
          exact x10 _ _ n1 n2 (x9 _ _ n1 n2 e)
        · obtain ⟨ns, mm, e1, e2, r⟩ := hb10
          exact ⟨ns, mm, by rw [upd_ne D2d.symm]; exact e1, by rw [upd_ne D2c.symm]; exact e2, r⟩
        · rw [upd_same, List.map_append]; rfl
      · obtain ⟨ys, hl9, hs9, x9, hb9, hD9⟩ := hP
        refine ⟨by show 3 ≤ sizeLine; decide, fun t nt => ?_⟩
        have s10 := same_new (o := .tup [.ref ts, .ref tp, .ref D2]) nt
        exact q t ts tp D2 a0 a1 (1 + b0) (1 + b1) ys _ ((x08.trans x9).trans (Xt.of s10)) (hb9.same s10) upd_same (s10 _ _ (x9 _ _ tsd tsc hts8)) (s10 _ _ (x9 _ _ tpd tpc htp8)) (s10 _ _ hD9) D2d D2c a00 (by omega) a10 (by omega) (by omega) (by omega) (by omega) (by omega) hl9 hs9
end
end FH

set_option Elab.async false
set_option linter.all false
set_option maxRecDepth 100000
set_option maxHeartbeats 1000000
namespace FH
open PySem L2
/-! ### values as data -/
mutual
inductive Dv (H : Hp) : V → PyData → Prop
  | non : Dv H .non .none
  | bl (b : Bool) : Dv H (.bl b) (.bool b)
  | int (i : Int) : Dv H (.int i) (.int i)
  | str (x : Str) (h : x.length ≤ 1000) (l : LayS x) : Dv H (.str x) (.str x)
  | lst {a : Addr} {xs : List V} {ds : List PyData} (h : H a = some (.lst xs)) (hl : xs.length ≤ 1000) (l : DvAll H xs ds) : Dv H (.ref a) (.list ds)
  | tup {a : Addr} {xs : List V} {ds : List PyData} (h : H a = some (.tup xs)) (hl : xs.length ≤ 1000) (l : DvAll H xs ds) : Dv H (.ref a) (.tuple ds)
inductive DvAll (H : Hp) : List V → List PyData → Prop
  | nil : DvAll H [] []
  | cons {v : V} {e : PyData} {vs : List V} {es : List PyData} (h : Dv H v e) (t : DvAll H vs es) : DvAll H (v :: vs) (e :: es)
end
theorem DvAll.len {H : Hp} : ∀ {vs : List V} {es : List PyData}, DvAll H vs es → vs.length = es.length
  | _, _, .nil => rfl
  | _, _, .cons h t => by simp [DvAll.len t]
theorem DvAll.snoc {H : Hp} {v : V} {e : PyData} : ∀ {vs : List V} {es : List PyData}, DvAll H vs es → Dv H v e → DvAll H (vs ++ [v]) (es ++ [e])
  | _, _, .nil, q => .cons q .nil
  | _, _, .cons h t, q => .cons h (t.snoc q)
theorem DvAll.get {H : Hp} : ∀ {vs : List V} {es : List PyData} {i : Nat} {v : V}, DvAll H vs es → vs[i]? = some v → ∃ e, es[i]? = some e ∧ Dv H v e
  | _, _, _, _, .nil, h => by simp at h
  | _, _, 0, _, .cons (e := e) h t, q => ⟨e, rfl, by simp at q; rw [← q]; exact h⟩
  | _, _, i + 1, _, .cons h t, q => by
    obtain ⟨e, e1, e2⟩ := DvAll.get (i := i) t (by simpa using q)
    exact ⟨e, by simpa using e1, e2⟩
/-- data, whatever becomes of the deal -/
def DvS (d c : Addr) (H : Hp) (v : V) (e : PyData) : Prop := ∀ H', Xt d c H H' → Dv H' v e
def DvSAll (d c : Addr) (H : Hp) (vs : List V) (es : List PyData) : Prop := ∀ H', Xt d c H H' → DvAll H' vs es
theorem DvS.now {d c : Addr} {H : Hp} {v : V} {e : PyData} (h : DvS d c H v e) : Dv H v e := h H (Xt.refl _ _ _)
theorem DvS.xt {d c : Addr} {H H' : Hp} {v : V} {e : PyData} (h : DvS d c H v e) (x : Xt d c H H') : DvS d c H' v e := fun H2 y => h H2 (x.trans y)
theorem DvSAll.xt {d c : Addr} {H H' : Hp} {v : List V} {e : List PyData} (h : DvSAll d c H v e) (x : Xt d c H H') : DvSAll d c H' v e := fun H2 y => h H2 (x.trans y)
theorem DvSAll.nil {d c : Addr} {H : Hp} : DvSAll d c H [] [] := fun _ _ => .nil
theorem DvSAll.cons {d c : Addr} {H : Hp} {v : V} {e : PyData} {vs : List V} {es : List PyData} (h : DvS d c H v e) (t : DvSAll d c H vs es) : DvSAll d c H (v :: vs) (e :: es) := fun H' x => .cons (h H' x) (t H' x)
theorem DvS.non {d c : Addr} {H : Hp} : DvS d c H .non .none := fun _ _ => .non
theorem DvS.bl {d c : Addr} {H : Hp} (b : Bool) : DvS d c H (.bl b) (.bool b) := fun _ _ => .bl b
theorem DvS.int {d c : Addr} {H : Hp} (i : Int) : DvS d c H (.int i) (.int i) := fun _ _ => .int i
theorem DvS.str {d c : Addr} {H : Hp} (x : Str) (h : x.length ≤ 1000) (l : LayS x) : DvS d c H (.str x) (.str x) := fun _ _ => .str x h l
theorem DvS.lst {d c a : Addr} {H : Hp} {xs : List V} {ds : List PyData} (n1 : a ≠ d) (n2 : a ≠ c) (h : H a = some (.lst xs)) (hl : xs.length ≤ 1000) (l : DvSAll d c H xs ds) : DvS d c H (.ref a) (.list ds) := fun H' x => .lst (x _ _ n1 n2 h) hl (l H' x)
theorem DvS.tup {d c a : Addr} {H : Hp} {xs : List V} {ds : List PyData} (n1 : a ≠ d) (n2 : a ≠ c) (h : H a = some (.tup xs)) (hl : xs.length ≤ 1000) (l : DvSAll d c H xs ds) : DvS d c H (.ref a) (.tuple ds) := fun H' x => .tup (x _ _ n1 n2 h) hl (l H' x)
/-- data that stands on what came after H alone -/
def DvN (H H' : Hp) (v : V) (e : PyData) : Prop := ∀ H2, (∀ a o, H a = none → H' a = some o → H2 a = some o) → Dv H2 v e
def DvNAll (D : Addr) (H H' : Hp) (vs : List V) (es : List PyData) : Prop := ∀ H2, (∀ a o, H a = none → a ≠ D → H' a = some o → H2 a = some o) → DvAll H2 vs es
theorem DvN.s {H H' : Hp} {d c : Addr} {v : V} {e : PyData} (hb : BoxAt H d c) (h : DvN H H' v e) : DvS d c H' v e := fun H2 x => h H2 fun a o n q => x a o (hb.nd n).1 (hb.nd n).2 q
theorem dom {H H' : Hp} {d c a : Addr} (x : Xt d c H H') (hb : BoxAt H' d c) (n : H' a = none) : H a = none := by
  cases q : H a with
  | none => rfl
  | some o =>
    obtain ⟨h1, h2⟩ := hb.nd n
    rw [x _ _ h1 h2 q] at n
    cases n
end FH

set_option Elab.async false
set_option linter.all false
set_option maxRecDepth 100000
set_option maxHeartbeats 1000000
namespace FH
open PySem L2
local macro_rules | `(tactic| walk_at "seq") => `(tactic| first | assumption | exact SqL.of (by assumption) | exact SqT.of (by assumption) | exact SqL.of upd_same | exact SqT.of upd_same)
local macro_rules | `(tactic| walk_at "at") => `(tactic| first | exact atI_nat (j := 0) rfl | exact atI_nat (j := 1) rfl | exact atI_nat (j := 2) rfl | exact atI_nat (by assumption) | assumption)
local macro_rules | `(tactic| walk_at "ar") => `(tactic| first | omega | exact ⟨by omega, by omega⟩ | exact Or.inl ⟨by omega, by omega⟩ | exact Or.inr ⟨by omega, by omega⟩ | exact ⟨by decide, by decide⟩ | exact Or.inr ⟨by decide, by decide⟩ | exact Or.inl ⟨by decide, by decide⟩ | exact ⟨by decide, by decide, by omega⟩ | exact ⟨by decide, by decide, by decide⟩)
local macro_rules | `(tactic| walk_at "r") => `(tactic| repeat (first
  | refine ⟨_, rfl, ?_⟩
  | refine ⟨_, _, rfl, rfl, ?_⟩
  | refine ⟨_, _, _, _, rfl, rfl, by walk_at "seq", by walk_at "at", ?_⟩
  | refine ⟨_, _, _, _, rfl, rfl, by assumption, rfl, ?_⟩
  | refine ⟨_, _, rfl, Or.inl (by walk_at "seq"), ?_⟩
  | refine Or.inl ⟨_, rfl, ?_⟩
  | refine Or.inr ⟨_, rfl, ?_⟩
  | refine And.intro (by walk_at "ar") ?_))
/-! ### what the checks answer, on data -/
mutual
theorem Dv.same {H H' : Hp} (x : Same H H') : ∀ {v : V} {e : PyData}, Dv H v e → Dv H' v e
  | _, _, .non => .non
  | _, _, .bl b => .bl b
  | _, _, .int i => .int i
  | _, _, .str y h l => .str y h l
  | _, _, .lst h hl l => .lst (x _ _ h) hl (DvAll.same x l)
  | _, _, .tup h hl l => .tup (x _ _ h) hl (DvAll.same x l)
theorem DvAll.same {H H' : Hp} (x : Same H H') : ∀ {v : List V} {e : List PyData}, DvAll H v e → DvAll H' v e
  | _, _, .nil => .nil
  | _, _, .cons h t => .cons (Dv.same x h) (DvAll.same x t)
end
theorem DvAll.fm {H : Hp} {f : PyData → Bool} {o : V → Option V} : ∀ {vs : List V} {es : List PyData}, DvAll H vs es → (∀ v e, v ∈ vs → e ∈ es → Dv H v e → o v = some (.bl (f e))) → vs.filterMap o = (es.map f).map V.bl
  | _, _, .nil, _ => rfl
  | _, _, .cons (v := v) (e := e) (vs := vs) (es := es) h t, q => by
    rw [List.filterMap_cons, q v e (by simp) (by simp) h]
    show V.bl (f e) :: vs.filterMap o = V.bl (f e) :: (es.map f).map V.bl
    rw [t.fm fun v' e' h1 h2 h3 => q v' e' (by simp [h1]) (by simp [h2]) h3]
theorem allMap {es : List PyData} {f : PyData → Bool} : (es.map f).all id = es.all f := by rw [List.all_map]; rfl
def tyD : PyData → String
  | .none => "NoneType" | .bool _ => "bool" | .int _ => "int" | .str _ => "str" | .list _ => "list" | .tuple _ => "tuple" | .dict _ => "dict"
theorem Dv.tyx {K : PySem.W.Frag} {H : Hp} {v : V} {e : PyData} (h : Dv H v e) : TyX K H v (.type (tyD e)) := by
  cases h with
  | non => exact .base .non
  | bl b => exact .base (.bl b)
  | int i => exact .base (.int i)
  | str x _ _ => exact .base (.str x)
  | lst h _ _ => exact .base (.lst h)
  | tup h _ _ => exact .base (.tup h)
def isIntD : PyData → Bool | .int _ => true | _ => false
def isBoolD : PyData → Bool | .bool _ => true | _ => false
def isStrD : PyData → Bool | .str _ => true | _ => false
def isNumD : PyData → Bool | .int i => decide (0 ≤ i) | _ => false
def isSeqD : PyData → Bool | .list _ => true | .tuple _ => true | _ => false
def isItD (e : PyData) : Bool := match e with | .dict _ => false | _ => true
theorem kitI {K : PySem.W.Frag} {H : Hp} {v : V} {e : PyData} (h : Dv H v e) : PySem.W.kitOne K (.type (tyD e)) (.type "int") = some (isIntD e || isBoolD e) := by
  cases h with
  | non => exact kit_ty (a := "NoneType") (b := "int") (r := false) (by decide +kernel)
  | bl b => exact kit_ty (a := "bool") (b := "int") (r := true) (by decide +kernel)
  | int i => exact kit_ty (a := "int") (b := "int") (r := true) (by decide +kernel)
  | str x _ _ => exact kit_ty (a := "str") (b := "int") (r := false) (by decide +kernel)
  | lst _ _ _ => exact kit_ty (a := "list") (b := "int") (r := false) (by decide +kernel)
  | tup _ _ _ => exact kit_ty (a := "tuple") (b := "int") (r := false) (by decide +kernel)
theorem kitB' {K : PySem.W.Frag} {H : Hp} {v : V} {e : PyData} (h : Dv H v e) : PySem.W.kitOne K (.type (tyD e)) (.type "bool") = some (isBoolD e) := by
  cases h with
  | non => exact kit_ty (a := "NoneType") (b := "bool") (r := false) (by decide +kernel)
  | bl b => exact kit_ty (a := "bool") (b := "bool") (r := true) (by decide +kernel)
  | int i => exact kit_ty (a := "int") (b := "bool") (r := false) (by decide +kernel)
  | str x _ _ => exact kit_ty (a := "str") (b := "bool") (r := false) (by decide +kernel)
  | lst _ _ _ => exact kit_ty (a := "list") (b := "bool") (r := false) (by decide +kernel)
  | tup _ _ _ => exact kit_ty (a := "tuple") (b := "bool") (r := false) (by decide +kernel)
theorem kitS {K : PySem.W.Frag} {H : Hp} {v : V} {e : PyData} (h : Dv H v e) : PySem.W.kitOne K (.type (tyD e)) (.type "str") = some (isStrD e) := by
  cases h with
  | non => exact kit_ty (a := "NoneType") (b := "str") (r := false) (by decide +kernel)
  | bl b => exact kit_ty (a := "bool") (b := "str") (r := false) (by decide +kernel)
  | int i => exact kit_ty (a := "int") (b := "str") (r := false) (by decide +kernel)
  | str x _ _ => exact kit_ty (a := "str") (b := "str") (r := true) (by decide +kernel)
  | lst _ _ _ => exact kit_ty (a := "list") (b := "str") (r := false) (by decide +kernel)
  | tup _ _ _ => exact kit_ty (a := "tuple") (b := "str") (r := false) (by decide +kernel)
theorem kitLs {K : PySem.W.Frag} {H : Hp} {v : V} {e : PyData} (h : Dv H v e) : PySem.W.kitOne K (.type (tyD e)) (.type "list") = some (match e with | .list _ => true | _ => false) := by
  cases h with
  | non => exact kit_ty (a := "NoneType") (b := "list") (r := false) (by decide +kernel)
  | bl b => exact kit_ty (a := "bool") (b := "list") (r := false) (by decide +kernel)
  | int i => exact kit_ty (a := "int") (b := "list") (r := false) (by decide +kernel)
  | str x _ _ => exact kit_ty (a := "str") (b := "list") (r := false) (by decide +kernel)
  | lst _ _ _ => exact kit_ty (a := "list") (b := "list") (r := true) (by decide +kernel)
  | tup _ _ _ => exact kit_ty (a := "tuple") (b := "list") (r := false) (by decide +kernel)
theorem kitTp {K : PySem.W.Frag} {H : Hp} {v : V} {e : PyData} (h : Dv H v e) : PySem.W.kitOne K (.type (tyD e)) (.type "tuple") = some (match e with | .tuple _ => true | _ => false) := by
  cases h with
  | non => exact kit_ty (a := "NoneType") (b := "tuple") (r := false) (by decide +kernel)
  | bl b => exact kit_ty (a := "bool") (b := "tuple") (r := false) (by decide +kernel)
  | int i => exact kit_ty (a := "int") (b := "tuple") (r := false) (by decide +kernel)
  | str x _ _ => exact kit_ty (a := "str") (b := "tuple") (r := false) (by decide +kernel)
  | lst _ _ _ => exact kit_ty (a := "list") (b := "tuple") (r := false) (by decide +kernel)
  | tup _ _ _ => exact kit_ty (a := "tuple") (b := "tuple") (r := true) (by decide +kernel)
theorem kitL {K : PySem.W.Frag} {H : Hp} {v : V} {e : PyData} (h : Dv H v e) : PySem.W.kitAny K (.type (tyD e)) [.type "list", .type "tuple"] = some (isSeqD e) := by
  have h1 := kitLs (K := K) h
  have h2 := kitTp (K := K) h
  show (match PySem.W.kitOne K (.type (tyD e)) (.type "list") with | some true => some true | some false => (match PySem.W.kitOne K (.type (tyD e)) (.type "tuple") with | some true => some true | some false => some false | none => none) | none => none) = _
  rw [h1, h2]
  cases e <;> rfl
theorem eq_sign (k ch : Nat) : eqV (.str ⟨#[k]⟩) (.str ⟨#[ch]⟩) = decide (ch = k) := by
  by_cases h : ch = k
  · subst h
    simp [eqV]
  · have h2 : ¬ k = ch := fun z => h z.symm
    simp [eqV, h, h2]
theorem in_signs (ch : Nat) : (decide (ch = 43) || decide (ch = 45)) = inV (.str ⟨#[ch]⟩) [.str (Str.ofString "+"), .str (Str.ofString "-")] := by
  have e1 : Str.ofString "+" = ⟨#[43]⟩ := by decide +kernel
  have e2 : Str.ofString "-" = ⟨#[45]⟩ := by decide +kernel
  rw [e1, e2]
  show _ = (eqV (.str ⟨#[43]⟩) (.str ⟨#[ch]⟩) || (eqV (.str ⟨#[45]⟩) (.str ⟨#[ch]⟩) || false))
  rw [eq_sign, eq_sign, Bool.or_false]
def spInt (r : PyData → Bool) : Sp := fun vs H Q _ => ∃ (v : V) (e : PyData), vs = [v] ∧ Dv H v e ∧ Q (.bl (r e)) H
def spSeq : Sp := fun vs H Q _ => ∃ (v : V) (e : PyData), vs = [v] ∧ Dv H v e ∧ ∀ H', Same H H' → Q (.bl (isSeqD e)) H'
section
variable {P : Program} {w : World} {K : PySem.W.Frag} {mg : Str → Option Value} {base : Heap}
theorem sc_is_integer : FnScope ["value"] ["value"] (defScope (topS 5)) := ⟨rfl, rfl, rfl, by decide +kernel, rfl, by decide +kernel, by decide +kernel⟩
theorem ok_isInt {f : Addr} {fd : FuncData} {k : Nat} (F : Fun K "is_integer" "is_integer" (topS 5) f fd) (T : Bt mg) : FnOk P w K mg base CX0 (k + 1) f fd ["value"] (spInt isIntD) := by
  refine F.ok sc_is_integer (fun vs H Q E h => ?_) (fun cdv A outer s H vs Q E hr h => ?_)
  · obtain ⟨v, e, rfl, _⟩ := h
    rfl
  · obtain ⟨v, e, rfl, hv, q⟩ := h
    refine ⟨_, (pss_one (ps_ret (pe_and (pe_callB (isiK (K := K) rfl) (by rfl) T.m_isinstance (by decide +kernel) (pa_cons (pv 0) (pa_cons (pe_bltn (v := .ty "int") (by rfl) T.m_int (by decide +kernel) rfl) pa_nil))) (pe_one (pe_not (pe_callB (isiK (K := K) rfl) (by rfl) T.m_isinstance (by decide +kernel) (pa_cons (pv 0) (pa_cons (pe_bltn (v := .ty "bool") (by rfl) T.m_bool (by decide +kernel) rfl) pa_nil)))))))), ?_⟩
    refine ⟨_, rfl, _, _, _, _, _, rfl, .ty _, hv.tyx, kitI hv, _, rfl, ?_⟩
    cases hi : isIntD e with
    | true =>
      have hb : isBoolD e = false := by cases e <;> first | rfl | cases hi
      rw [hi] at q
      refine iteT ⟨_, rfl, _, _, _, _, _, rfl, .ty _, hv.tyx, kitB' hv, _, rfl, ?_⟩
      rw [hb]
      exact q
    | false =>
      rw [hi] at q
      cases hb : isBoolD e with
      | true =>
        refine iteT ⟨_, rfl, _, _, _, _, _, rfl, .ty _, hv.tyx, kitB' hv, _, rfl, ?_⟩
        rw [hb]
        exact q
      | false => exact iteF q
theorem sc_is_number : FnScope ["value"] ["value"] (defScope (topS 6)) := ⟨rfl, rfl, rfl, by decide +kernel, rfl, by decide +kernel, by decide +kernel⟩
theorem ok_isNum {f fI : Addr} {fd fdI : FuncData} {k : Nat} (F : Fun K "is_number" "is_number" (topS 6) f fd) (T : Bt mg) (FI : Fun K "is_integer" "is_integer" (topS 5) fI fdI) (bI : Binds K fdI ["value"] []) (gI : mg "is_integer" = some (.ref fI)) :
    FnOk P w K mg base CX0 (k + 2) f fd ["value"] (spInt isNumD) := by
  have GI : FnOk P w K mg base CX0 (k + 1) fI fdI ["value"] (spInt isIntD) := ok_isInt FI T
  refine F.ok sc_is_number (fun vs H Q E h => ?_) (fun cdv A outer s H vs Q E hr h => ?_)
  · obtain ⟨v, e, rfl, _⟩ := h
    rfl
  · obtain ⟨v, e, rfl, hv, q⟩ := h
    refine ⟨_, (pss_one (ps_ret (pe_and (pe_call GI hr (by rfl) gI FI.kp bI .nil pass0 (pa_cons (pv 0) pa_nil)) (pe_one (pe_cmpR op_ge (pv 0) pe_int (nomark _)))))), ?_⟩
    refine ⟨_, rfl, v, e, rfl, hv, _, rfl, ?_⟩
    cases hv with
    | int i => exact iteT ⟨_, rfl, _, _, rfl, rfl, q⟩
    | _ => exact iteF q
theorem sc_is_sequence : FnScope ["value"] ["value"] (defScope (topS 7)) := ⟨rfl, rfl, rfl, by decide +kernel, rfl, by decide +kernel, by decide +kernel⟩
theorem ok_isSeq {f : Addr} {fd : FuncData} {k : Nat} (F : Fun K "is_sequence" "is_sequence" (topS 7) f fd) (T : Bt mg) : FnOk P w K mg base CX0 (k + 1) f fd ["value"] spSeq := by
  refine F.ok sc_is_sequence (fun vs H Q E h => ?_) (fun cdv A outer s H vs Q E hr h => ?_)
  · obtain ⟨v, e, rfl, _⟩ := h
    rfl
  · obtain ⟨v, e, rfl, hv, q⟩ := h
    refine ⟨_, (pss_one (ps_ret (pe_callB (isiTK (K := K) rfl) (by rfl) T.m_isinstance (by decide +kernel) (pa_cons (pv 0) (pa_cons (pe_tup (pa_cons (pe_bltn (v := .ty "list") (by rfl) T.m_list (by decide +kernel) rfl) (pa_cons (pe_bltn (v := .ty "tuple") (by rfl) T.m_tuple (by decide +kernel) rfl) pa_nil))) pa_nil))))), ?_⟩
    refine ⟨_, rfl, by show 2 ≤ sizeLine; decide, fun p np => ?_⟩
    have sp := same_new (o := .tup [.ty "list", .ty "tuple"]) np
    exact ⟨v, p, _, _, _, _, rfl, upd_same, .cons (.ty _) (.cons (.ty _) .nil), (hv.same sp).tyx, kitL hv, q _ sp⟩
/-- a row of signs, so wide -/
def isRowD (wide : Int) : PyData → Bool
  | .str x => decide ((x.length : Int) = wide) && (tlS x).all fun ch => decide (ch = 43) || decide (ch = 45)
  | _ => false
def itemsD : PyData → List PyData | .list ds => ds | .tuple ds => ds | _ => []
def isTableD (e : PyData) (tall wide : Int) : Bool := isSeqD e && (decide (((itemsD e).length : Int) = tall) && (itemsD e).all (isRowD wide))
def spTab : Sp := fun vs H Q _ => ∃ (v : V) (e : PyData) (tall wide : Int), vs = [v, .int tall, .int wide] ∧ Dv H v e ∧ ∀ H', Same H H' → Q (.bl (isTableD e tall wide)) H'
theorem sc_is_table : FnScope ["rows", "tall", "wide", "row", "sign"] ["rows", "tall", "wide"] (defScope (topS 13)) := ⟨rfl, rfl, rfl, by decide +kernel, rfl, by decide +kernel, by decide +kernel⟩
theorem ok_isTable {f fS : Addr} {fd fdS : FuncData} {k : Nat} {t1 t2 : Tok} (F : Fun K "is_table" "is_table" (topS 13) f fd) (T : Bt mg) (FS : Fun K "is_sequence" "is_sequence" (topS 7) fS fdS) (bS : Binds K fdS ["value"] []) (gS : mg "is_sequence" = some (.ref fS))
    (gIN : mg "IN" = some (.str "+" t1)) (gNO : mg "NOT_IN" = some (.str "-" t2)) :
    FnOk P w K mg base CX0 (k + 2) f fd ["rows", "tall", "wide"] spTab := by
  have GS : FnOk P w K mg base CX0 (k + 1) fS fdS ["value"] spSeq := ok_isSeq FS T
  refine F.ok sc_is_table (fun vs H Q E h => ?_) (fun cdv A outer s H vs Q E hr h => ?_)
  · obtain ⟨v, e, tall, wide, rfl, _⟩ := h
    rfl
  · obtain ⟨v, e, tall, wide, rfl, hv, q⟩ := h
    refine ⟨_, (pss_cons (ps_if (PW.pt (pw_or (pt_not (pt_val (pe_call GS hr (by rfl) gS FS.kp bS .nil pass0 (pa_cons (pv 0) pa_nil)))) (pw_or (pt_cmpR op_ne (pe_callB (lenK (K := K) rfl) (by rfl) T.m_len PySem.boot_len (pa_cons (pv 0) pa_nil)) (pv 1) (nomark _)) (pw_or1 (pt_not (pt_val (pe_callB (allK (K := K) rfl rfl) (by rfl) T.m_all (by decide +kernel) (pa_cons (pe_lc (own := [("row", 3)]) (g := (gName 3)) (tt := tYes) rfl sc_is_table.nd (piSK (K := K) rfl (pv 0)) (blkOk_by (own := [("row", 3)]) (N := ["rows", "tall", "wide", "row", "sign"]) (sc := defScope (topS 13)) (by decide +kernel)) (fun _ _ _ _ _ => (pg_name (i := 3) sc_is_table.nd rfl (by first | exact Or.inl rfl | exact Or.inr rfl))) (fun _ _ _ _ _ => pts_nil) (fun _ _ _ _ _ => (pe_callB (isiK (K := K) rfl) (by rfl) T.m_isinstance (by decide +kernel) (pa_cons (pv 3) (pa_cons (pe_bltn (v := .ty "str") (by rfl) T.m_str (by decide +kernel) rfl) pa_nil))))) pa_nil)))))))) (pss_one (ps_ret pe_bl)) pss_nil)
  (pss_one (ps_ret (pe_callB (allK (K := K) rfl rfl) (by rfl) T.m_all (by decide +kernel) (pa_cons (pe_lc (own := [("row", 3)]) (g := (gName 3)) (tt := tYes) rfl sc_is_table.nd (piSK (K := K) rfl (pv 0)) (blkOk_by (own := [("row", 3)]) (N := ["rows", "tall", "wide", "row", "sign"]) (sc := defScope (topS 13)) (by decide +kernel)) (fun _ _ _ _ _ => (pg_name (i := 3) sc_is_table.nd rfl (by first | exact Or.inl rfl | exact Or.inr rfl))) (fun _ _ _ _ _ => pts_nil) (fun _ _ _ _ _ => (pe_and (pe_cmpR op_eq (pe_callB call_len_str (by rfl) T.m_len PySem.boot_len (pa_cons (pv 3) pa_nil)) (pv 2) (nomark _)) (pe_one (pe_callB (allK (K := K) rfl rfl) (by rfl) T.m_all (by decide +kernel) (pa_cons (pe_lc (own := [("sign", 4)]) (g := (gName 4)) (tt := tYes) rfl sc_is_table.nd (pi_str (pv 3)) (blkOk_by (own := [("sign", 4)]) (N := ["rows", "tall", "wide", "row", "sign"]) (by kernel_rfl)) (fun _ _ _ _ _ => (pg_name (i := 4) sc_is_table.nd rfl (by first | exact Or.inl rfl | exact Or.inr rfl))) (fun _ _ _ _ _ => pts_nil) (fun _ _ _ _ _ => (pe_cmpR (inK (K := K) rfl) (pv 4) (pe_tup (pa_cons (pe_glob (v := .str "+") (by rfl) gIN ⟨_, rfl⟩) (pa_cons (pe_glob (v := .str "-") (by rfl) gNO ⟨_, rfl⟩) pa_nil))) (by rfl)))) pa_nil)))))) pa_nil))))), ?_⟩
    refine ⟨_, rfl, v, e, rfl, hv, fun H1 s1 => ⟨_, rfl, ?_⟩⟩
    have no : isTableD e tall wide = false → ∀ H', Same H H' → Q (.bl false) H' := fun z H' s' => by
      have := q H' s'
      rw [z] at this
      exact this
    cases hq : isSeqD e with
    | false => exact iteT (iteT (no (by unfold isTableD; rw [hq]; rfl) H1 s1))
    | true =>
      have sq : ∃ a xs, v = .ref a ∧ xs.length ≤ 1000 ∧ (∀ H', Same H H' → SqL K H' a xs ∨ SqT K H' a xs) ∧ DvAll H xs (itemsD e) := by
        cases hv with
        | lst h hl l => exact ⟨_, _, rfl, hl, fun H' s' => .inl (SqL.of (s' _ _ h)), l⟩
        | tup h hl l => exact ⟨_, _, rfl, hl, fun H' s' => .inr (SqT.of (s' _ _ h)), l⟩
        | _ => cases hq
      obtain ⟨a, xs, rfl, hxl, hsq, hall⟩ := sq
      have hlen : xs.length = (itemsD e).length := hall.len
      refine iteF ⟨_, rfl, a, xs, rfl, hsq H1 s1, _, rfl, rfl, _, rfl, ?_⟩
      have two : ∀ b : Bool, isTableD e tall wide = (decide (((itemsD e).length : Int) = tall) && (itemsD e).all (isRowD wide)) := fun _ => by unfold isTableD; rw [hq]; rfl
      by_cases ht : ((xs.length : Nat) : Int) = tall
      · have e1 : (!decide (V.int ((xs.length : Nat) : Int) = V.int tall)) = false := by rw [ht]; simp
        rw [e1]
        refine iteF ?_
        dsimp only [tNot, tB, tCB, tCons, tNil]
        refine lc_seqV (k := 0) (by rfl) (hsq H1 s1) (by omega) (fun x => match x with | .str _ => some (.bl true) | _ => some (.bl false)) (fun D i x H2 Nx nD hx s2 tk nt => ?_) (fun D H2 nD s2 hD => ?_)
        · obtain ⟨ee, e2, hd⟩ := hall.get hx
          have hd2 := (hd.same s1).same s2
          refine ⟨rfl, _, rfl, _, _, _, _, _, rfl, .ty _, hd2.tyx, kitS hd2, tk _ _ (fun _ _ q => q) ?_⟩
          cases hd <;> rfl
        · have ef := hall.fm (f := isStrD) (o := fun x => match x with | .str _ => some (V.bl true) | _ => some (V.bl false)) (fun v' e' _ _ h => by cases h <;> rfl)
          rw [ef] at hD
          refine ⟨D, _, rfl, SqL.of hD, _, rfl, ?_⟩
          rw [allMap]
          have s02 := s1.trans s2
          cases hs : (itemsD e).all isStrD with
          | false =>
            refine iteT (no ?_ H2 s02)
            rw [two true]
            have : (itemsD e).all (isRowD wide) = false := by
              cases z : (itemsD e).all (isRowD wide) with
              | false => rfl
              | true =>
                rw [← hs]
                refine (List.all_eq_true.mpr fun r hr => ?_).symm
                have := List.all_eq_true.mp z r hr
                cases r <;> first | rfl | cases this
            rw [this, Bool.and_false]
          | true =>
            refine iteF ?_
            dsimp only [tNext, tRet, tCB, tCons, tNil]
            refine lc_seqV (k := 0) (by rfl) (hsq H2 s02) (by omega) (fun x => match x with | .str z => some (.bl (isRowD wide (.str z))) | _ => some (.bl false)) (fun D2 i x H3 Nx nD2 hx s3 tk nt => ?_) (fun D2 H3 nD2 s3 hD2 => ?_)
            · obtain ⟨ee, e2, hd⟩ := hall.get hx
              have hstr : isStrD ee = true := List.all_eq_true.mp hs ee (List.mem_of_getElem? e2)
              cases hd with
              | str z hz hzl =>
                refine ⟨rfl, _, rfl, z, rfl, Nat.le_trans hz (by decide), _, rfl, rfl, _, rfl, ?_⟩
                have ew : decide (V.int (z.length : Int) = V.int wide) = decide ((z.length : Int) = wide) := by
                  by_cases y : (z.length : Int) = wide
                  · rw [y]; simp
                  · rw [decide_eq_false y]
                    exact decide_eq_false fun w => y (by cases w; rfl)
                rw [ew]
                cases hw : decide ((z.length : Int) = wide) with
                | false =>
                  refine iteF (tk _ _ (fun _ _ q => q) ?_)
                  show some (V.bl (decide ((z.length : Int) = wide) && _)) = _
                  rw [hw]
                  rfl
                | true =>
                  refine iteT ⟨_, rfl, z, rfl, fun D3 nD3 => lc_fmS nD3 (by have : z.cps.size = z.length := rfl; omega) (fun ch => some (.bl (decide (ch = 43) || decide (ch = 45)))) (fun j ch H4 Nx2 hch s4 tk2 nt2 => ?_) (fun H4 s4 hD3 => ?_)⟩
                  · refine ⟨rfl, _, rfl, by show 2 ≤ sizeLine; decide, fun p np => ?_⟩
                    refine ⟨p, _, rfl, .inr (SqT.of upd_same), rfl, rfl, tk2 _ _ (same_new np) ?_⟩
                    exact congrArg (fun b => some (V.bl b)) (in_signs ch)
                  · have em : z.cps.toList.filterMap (fun ch => some (V.bl (decide (ch = 43) || decide (ch = 45)))) = ((tlS z).map fun ch => decide (ch = 43) || decide (ch = 45)).map V.bl := by
                      rw [List.filterMap_eq_map']
                      rw [List.map_map]
                      rfl
                    rw [em] at hD3
                    refine ⟨D3, _, rfl, SqL.of hD3, tk _ _ s4 ?_⟩
                    show some (V.bl (decide ((z.length : Int) = wide) && (tlS z).all _)) = _
                    rw [hw, List.all_map]
                    rfl
              | _ => cases hstr
            · have ef2 := hall.fm (f := isRowD wide) (o := fun x => match x with | .str z => some (V.bl (isRowD wide (.str z))) | _ => some (V.bl false)) (fun v' e' _ _ h => by cases h <;> rfl)
              rw [ef2] at hD2
              refine ⟨D2, _, rfl, SqL.of hD2, ?_⟩
              rw [allMap]
              have := q H3 (s02.trans s3)
              rw [two true, ← hlen, decide_eq_true ht, Bool.true_and] at this
              exact this
      · have e1 : (!decide (V.int ((xs.length : Nat) : Int) = V.int tall)) = true := by
          rw [decide_eq_false fun w => ht (by cases w; rfl)]; rfl
        rw [e1]
        refine iteT (iteT (no ?_ H1 s1))
        rw [two true, ← hlen, decide_eq_false ht, Bool.false_and]
end
end FH

set_option Elab.async false
set_option linter.all false
set_option maxRecDepth 100000
set_option maxHeartbeats 1000000
namespace FH
open PySem L2
local macro_rules | `(tactic| walk_at "seq") => `(tactic| first | assumption | exact SqL.of (by assumption) | exact SqT.of (by assumption) | exact SqL.of upd_same | exact SqT.of upd_same)
local macro_rules | `(tactic| walk_at "at") => `(tactic| first | exact atI_nat (j := 0) rfl | exact atI_nat (j := 1) rfl | exact atI_nat (j := 2) rfl | exact atI_nat (by assumption) | assumption)
local macro_rules | `(tactic| walk_at "ar") => `(tactic| first | omega | exact ⟨by omega, by omega⟩ | exact Or.inl ⟨by omega, by omega⟩ | exact Or.inr ⟨by omega, by omega⟩ | exact ⟨by decide, by decide⟩ | exact Or.inr ⟨by decide, by decide⟩ | exact Or.inl ⟨by decide, by decide⟩ | exact ⟨by decide, by decide, by omega⟩ | exact ⟨by decide, by decide, by decide⟩)
local macro_rules | `(tactic| walk_at "r") => `(tactic| repeat (first
  | refine ⟨_, rfl, ?_⟩
  | refine ⟨_, _, rfl, rfl, ?_⟩
  | refine ⟨_, _, _, _, rfl, rfl, by walk_at "seq", by walk_at "at", ?_⟩
  | refine ⟨_, _, _, _, rfl, rfl, by assumption, rfl, ?_⟩
  | refine ⟨_, _, rfl, Or.inl (by walk_at "seq"), ?_⟩
  | refine Or.inl ⟨_, rfl, ?_⟩
  | refine Or.inr ⟨_, rfl, ?_⟩
  | refine And.intro (by walk_at "ar") ?_))
/-! ### columns -/
def colS (xs : List Str) (i : Nat) : Str := Txt.join (Str.ofString "") (xs.map fun x => signS x i)
def colsS (xs : List Str) (m : Nat) : List Str := (List.range m).map (colS xs)
def spCols (K : PySem.W.Frag) : Sp := fun vs H Q _ => ∃ (a : Addr) (xs : List Str) (m : Nat), vs = [.ref a] ∧ (SqT K H a (xs.map V.str) ∨ SqL K H a (xs.map V.str)) ∧ xs ≠ [] ∧ xs.length ≤ 1000 ∧ m ≤ 1000 ∧ (∀ x ∈ xs, x.length = m) ∧
  ∀ (l : Addr) (H' : Hp), Same H H' → H l = none → H' l = some (.lst ((colsS xs m).map V.str)) → Q (.ref l) H'
/-! ### the least way -/
def perB (tail : List Str) (period size : Nat) : Bool := decide (period % size = 0) && decide (tail = (List.replicate (period / size) (tail.take size)).flatten)
def bestW (tail : List Str) (period : Nat) : Nat → Nat
  | 0 => period
  | i + 1 => if perB tail period (period - i) = true then period - i else bestW tail period i
def firstW (rows : List Str) (best : Nat) : Nat → Nat
  | 0 => 0
  | n + 1 => if rows[n]? = rows[n + best]? then firstW rows best n else n + 1
def bestL (rows : List Str) (start period : Nat) : Nat := bestW ((rows.drop start).take period) period period
def firstL (rows : List Str) (start period : Nat) : Nat := firstW rows (bestL rows start period) start
theorem bestW_le (tail : List Str) (period : Nat) : ∀ i, bestW tail period i ≤ period
  | 0 => Nat.le_refl _
  | i + 1 => by
    unfold bestW
    split
    · exact Nat.sub_le _ _
    · exact bestW_le tail period i
theorem bestW_pos (tail : List Str) (period : Nat) (h : 0 < period) : ∀ i, i ≤ period → 0 < bestW tail period i
  | 0, _ => h
  | i + 1, hi => by
    unfold bestW
    split
    · omega
    · exact bestW_pos tail period h i (by omega)
theorem firstW_le (rows : List Str) (best : Nat) : ∀ n, firstW rows best n ≤ n
  | 0 => Nat.le_refl _
  | n + 1 => by
    unfold firstW
    split
    · exact Nat.le_succ_of_le (firstW_le rows best n)
    · exact Nat.le_refl _
theorem bestL_le (rows : List Str) (s p : Nat) : bestL rows s p ≤ p := bestW_le _ _ _
theorem bestL_pos (rows : List Str) (s p : Nat) (h : 0 < p) : 0 < bestL rows s p := bestW_pos _ _ h _ (Nat.le_refl _)
theorem firstL_le (rows : List Str) (s p : Nat) : firstL rows s p ≤ s := firstW_le _ _ _
def spLeast : Sp := fun vs H Q _ => ∃ (a : Addr) (rows : List Str) (s p : Nat), vs = [.ref a, .int s, .int p] ∧ H a = some (.lst (rows.map V.str)) ∧ rows.length = s + p ∧ 0 < p ∧ s + p ≤ 1000 ∧ (∀ x ∈ rows, LayS x) ∧
  ∀ (t l : Addr) (H' : Hp), Same H H' → H' t = some (.tup [.int (firstL rows s p), .int (bestL rows s p), .ref l]) → H' l = some (.lst ((rows.take (firstL rows s p + bestL rows s p)).map V.str)) → Q (.ref t) H'
section
variable {P : Program} {w : World} {K : PySem.W.Frag} {mg : Str → Option Value} {base : Heap}
theorem sc_columns_of : FnScope ["rows", "signs"] ["rows"] (defScope (topS 16)) := ⟨rfl, rfl, rfl, by decide +kernel, rfl, by decide +kernel, by decide +kernel⟩
theorem ok_cols {f : Addr} {fd : FuncData} {k : Nat} (F : Fun K "columns_of" "columns_of" (topS 16) f fd) (T : Bt mg) : FnOk P w K mg base CX0 (k + 1) f fd ["rows"] (spCols K) := by
  refine F.ok sc_columns_of (fun vs H Q E h => ?_) (fun cdv A outer s H vs Q E hr h => ?_)
  · obtain ⟨a, xs, m, rfl, _⟩ := h
    rfl
  · obtain ⟨a, xs, m, rfl, ha, hne, hxl, hm, hall, q⟩ := h
    refine ⟨_, (pss_one (ps_ret (pe_lc (own := [("signs", 1)]) (g := (gName 1)) (tt := tYes) rfl sc_columns_of.nd (pi_zipS (by rfl) T.m_zip (pv 0)) (blkOk_by (own := [("signs", 1)]) (N := ["rows", "signs"]) (sc := defScope (topS 16)) (by decide +kernel)) (fun _ _ _ _ _ => (pg_name (i := 1) sc_columns_of.nd rfl (by first | exact Or.inl rfl | exact Or.inr rfl))) (fun _ _ _ _ _ => pts_nil) (fun _ _ _ _ _ => (pe_joinK (K := K) rfl pe_str (pv 1)))))), ?_⟩
    refine ⟨_, rfl, a, xs, m, rfl, ha, hne, hxl, hall, fun D nD => lc_zipS nD (by omega) (fun i => some (.str (colS xs i))) (fun i T H1 Nx hi s1 nT tk nt => ?_) (fun H1 s1 hD => ?_)⟩
    · refine ⟨rfl, ⟨_, rfl⟩, _, rfl, Str.ofString "", T, xs.map fun x => signS x i, rfl, rfl, .inr (SqT.of ?_), ?_, tk _ _ (same_new nT) rfl⟩
      · rw [upd_same]
        unfold colV
        rw [List.map_map]
        rfl
      · have e1 : ∀ ys : List Str, ((ys.map fun x => signS x i).map (·.length)).sum = ys.length := fun ys => by
          induction ys with
          | nil => rfl
          | cons y r ih =>
            show 1 + ((r.map fun x => signS x i).map (·.length)).sum = r.length + 1
            rw [ih]; omega
        rw [e1, List.length_map]
        show xs.length + xs.length * 0 ≤ 16777216
        omega
    · refine q D H1 s1 nD ?_
      rw [hD]
      unfold colsS
      rw [List.map_map, List.filterMap_eq_map']
      rfl
theorem sc_least_way : FnScope ["rows", "start", "period", "tail", "best", "first", "size"] ["rows", "start", "period"] (defScope (topS 15)) := ⟨rfl, rfl, rfl, by decide +kernel, rfl, by decide +kernel, by decide +kernel⟩
theorem ok_least {f : Addr} {fd : FuncData} {k : Nat} (F : Fun K "least_way" "least_way" (topS 15) f fd) (T : Bt mg) : FnOk P w K mg base CX0 (k + 1) f fd ["rows", "start", "period"] spLeast := by
  refine F.ok sc_least_way (fun vs H Q E h => ?_) (fun cdv A outer s H vs Q E hr h => ?_)
  · obtain ⟨a, rows, s, p, rfl, _⟩ := h
    rfl
  · obtain ⟨a, rows, st, p, rfl, ha, hl, hp, hb, hly, q⟩ := h
    have hu := hr.units
    refine ⟨_, (pss_cons (ps_par3 (i := 3) (j := 4) (l := 5) rfl sc_least_way.nd rfl rfl rfl (by decide) (by decide) (by decide) rfl rfl rfl (pa_cons (pe_slice (slLK (K := K) rfl) (pv 0) (po_some (pv 1)) (po_some (pe_op op_add (pv 1) (pv 2)))) (pa_cons (pv 2) (pa_cons (pv 1) pa_nil))) (by rfl))
  (pss_cons (ps_for PassesOwn.never rfl (pi_range3 (by rfl) T.m_range (pa_cons (pv 2) (pa_cons pe_int (pa_cons (pe_un un_neg pe_int) pa_nil)))) (pg_name (i := 6) sc_least_way.nd rfl (by first | exact Or.inl rfl | exact Or.inr rfl)) (pss_one (ps_if (PW.pt (pw_and (pt_cmpR op_eq (pe_op op_mod (pe_callTy call_int1 (by rfl) T.m_int (by decide +kernel) (pa_cons (pv 2) pa_nil)) (pv 6)) pe_int (nomark _)) (pw_and1 (pt_cmpR (eqDK (K := K) rfl hu) (pv 3) (pe_op op_rep (pe_slice (slLK (K := K) rfl) (pv 3) po_none (po_some (pv 6))) (pe_op op_fdiv (pv 2) (pv 6))) (nomark _))))) (pss_one (ps_set (i := 4) sc_least_way.nd rfl (by first | exact Or.inl rfl | exact Or.inr rfl) (pv 6))) pss_nil)))
  (pss_cons (ps_while PassesOwn.never (PW.pt (pw_and (pt_cmpR op_gt (pv 5) pe_int (nomark _)) (pw_and1 (pt_cmpR op_eq (pe_ix (ixLK (K := K) rfl) (pv 0) (pe_op op_sub (pv 5) pe_int) (fun _ _ => rfl)) (pe_ix (ixLK (K := K) rfl) (pv 0) (pe_op op_add (pe_op op_sub (pv 5) pe_int) (pv 4)) (fun _ _ => rfl)) (nomark _))))) (pss_one (ps_set (i := 5) sc_least_way.nd rfl (by first | exact Or.inl rfl | exact Or.inr rfl) (pe_op op_sub (pv 5) pe_int))))
  (pss_one (ps_ret (pe_tup (pa_cons (pv 5) (pa_cons (pv 4) (pa_cons (pe_slice (slLK (K := K) rfl) (pv 0) po_none (po_some (pe_op op_add (pv 5) (pv 4)))) pa_nil))))))))), ?_⟩
    refine ⟨_, rfl, _, rfl, _, rfl, _, rfl, _, rfl, _, _, rfl, rfl, _, rfl, a, _, rfl, SqL.of ha, fun b nb => ?_⟩
    have ecut : cutV (rows.map V.str) (some (st : Int)) (some ((st : Int) + (p : Int))) = ((rows.drop st).take p).map V.str := by
      have := cut_map V.str rows st (st + p) (by omega) (by omega)
      rw [show st + p - st = p by omega] at this
      rw [← this]
      congr 2
    rw [ecut]
    have s1 := same_new (o := .lst (((rows.drop st).take p).map V.str)) nb
    have hb1 := upd_same (H := H) (a := b) (o := .lst (((rows.drop st).take p).map V.str))
    have ha1 := s1 _ _ ha
    generalize upd H b (.lst (((rows.drop st).take p).map V.str)) = H1 at s1 hb1 ha1 ⊢
    refine ⟨_, rfl, _, rfl, _, _, _, rfl, ?_⟩
    have s2 := s1
    have hb2 := hb1
    have ha2 := ha1
    generalize H1 = H2 at s2 hb2 ha2 ⊢
    have tl : ((rows.drop st).take p).length = p := by rw [List.length_take, List.length_drop]; omega
    have htd : bestL rows st p = bestW ((rows.drop st).take p) p p := rfl
    have tly : ∀ x ∈ (rows.drop st).take p, LayS x := fun x hx => hly x (List.mem_of_mem_drop (List.mem_of_mem_take hx))
    generalize (rows.drop st).take p = tail at tl htd hb2 tly ⊢
    refine ⟨_, rfl, _, rfl, (p : Int), 0, -1, p, rfl, ?_, for_rangeC (lo := (p : Int)) (c := -1) (n := p) (fun i σ H3 => Same H2 H3 ∧ ∃ o6, σ = [some (.ref a), some (.int st), some (.int p), some (.ref b), some (.int (bestW tail p i)), some (.int st), o6])
      ⟨fun _ _ q => q, none, rfl⟩ (fun i σ H3 hi hP => ?_) (fun σ H3 hP => ?_)⟩
    · have := RgC.neg (i := (p : Int)) (j := 0) (by omega) (by omega) (by omega) (by omega)
      rw [show ((p : Int) - 0).toNat = p by omega] at this
      exact this
    · obtain ⟨s3, o6, rfl⟩ := hP
      rw [show ((p : Int) + (i : Nat) * (-1) : Int) = ((p - i : Nat) : Int) by omega]
      have hsz : 0 < p - i := by omega
      have hsp : p - i ≤ p := Nat.sub_le _ _
      have hbw : bestW tail p (i + 1) = if perB tail p (p - i) = true then p - i else bestW tail p i := rfl
      generalize p - i = sz at hsz hsp hbw ⊢
      have hmod : ((p : Int) % (sz : Int)) = ((p % sz : Nat) : Int) := (Int.natCast_emod p sz).symm
      refine ⟨_, rfl, .inl ⟨_, rfl, _, rfl, _, _, rfl, rfl, by show (0 : Int) < (sz : Int); omega, rfl, _, rfl, ?_⟩⟩
      have e0 : decide (V.int ((p : Int) % (sz : Int)) = V.int 0) = decide (p % sz = 0) := by
        rw [hmod]
        exact dNat _ 0
      rw [e0]
      by_cases hm : p % sz = 0
      · rw [decide_eq_true hm]
        refine iteT ⟨_, rfl, _, rfl, _, rfl, _, rfl, b, _, rfl, SqL.of (s3 _ _ hb2), fun c nc => ?_⟩
        rw [cut_pre V.str tail sz (by omega)]
        have s4 := same_new (o := .lst ((tail.take sz).map V.str)) nc
        have hc4 := upd_same (H := H3) (a := c) (o := .lst ((tail.take sz).map V.str))
        generalize upd H3 c (.lst ((tail.take sz).map V.str)) = H4 at s4 hc4 ⊢
        have hdiv : ((p : Int) / (sz : Int)) = ((p / sz : Nat) : Int) := (Int.natCast_ediv p sz).symm
        refine ⟨_, rfl, _, rfl, _, _, rfl, rfl, ⟨by omega, by omega⟩, c, (p : Int) / (sz : Int), (tail.take sz).map V.str, rfl, rfl, hc4, ?_, ?_, ?_, fun d nd => ?_⟩
        · rw [hdiv]; generalize p / sz = qd; omega
        · rw [hdiv]
          have : p / sz ≤ p := Nat.div_le_self _ _
          generalize p / sz = qd at this ⊢
          omega
        · rw [hdiv, List.length_map, List.length_take, tl, Int.toNat_natCast, Nat.min_eq_left hsp]
          have : sz * (p / sz) ≤ p := Nat.mul_div_le _ _
          exact Nat.le_trans this (Nat.le_trans (by omega) (show 1000 ≤ sizeLine by decide))
        · have er : (List.replicate ((p : Int) / (sz : Int)).toNat ((tail.take sz).map V.str)).flatten = ((List.replicate (p / sz) (tail.take sz)).flatten).map V.str := by
            rw [hdiv, Int.toNat_natCast, List.map_flatten, List.map_replicate]
          rw [er]
          have s5 := same_new (o := .lst (((List.replicate (p / sz) (tail.take sz)).flatten).map V.str)) nd
          refine ⟨lS tail, lS _, dp_lS (SqL.of (s5 _ _ (s4 _ _ (s3 _ _ hb2)))), dp_lS (SqL.of upd_same), shaped_lS _ tly, shaped_lS _ (fun x hx => ?_), _, rfl, ?_⟩
          · obtain ⟨l, hl1, hl2⟩ := List.mem_flatten.mp hx
            rw [List.eq_of_mem_replicate hl1] at hl2
            exact tly x (List.mem_of_mem_take hl2)
          rw [eqv_lS]
          refine ite2 (fun e => ?_) (fun e => ?_)
          · refine ⟨_, rfl, (s3.trans s4).trans s5, some (.int sz), ?_⟩
            rw [hbw, if_pos (by unfold perB; rw [decide_eq_true hm, e]; rfl)]
            rfl
          · refine ⟨(s3.trans s4).trans s5, some (.int sz), ?_⟩
            rw [hbw, if_neg (by unfold perB; rw [decide_eq_true hm]; simpa using e)]
            rfl
      · rw [decide_eq_false hm]
        refine iteF (iteF ⟨s3, some (.int sz), ?_⟩)
        rw [hbw, if_neg (by unfold perB; rw [decide_eq_false hm]; simp)]
        rfl
    · obtain ⟨s3, o6, rfl⟩ := hP
      have hbl : bestL rows st p ≤ p := bestL_le _ _ _
      have hb0 : 0 < bestL rows st p := bestL_pos _ _ _ hp
      rw [← htd]
      have hfl : firstL rows st p = firstW rows (bestL rows st p) st := rfl
      generalize bestL rows st p = best at hbl hb0 hfl q ⊢
      have ha3 := s3 _ _ ha2
      have s03 := s2.trans s3
      refine ⟨fun m σ H4 => H4 = H3 ∧ m ≤ st ∧ firstW rows best m = firstW rows best st ∧ σ = [some (.ref a), some (.int st), some (.int p), some (.ref b), some (.int best), some (.int m), o6],
        ⟨st, rfl, Nat.le_refl _, rfl, rfl⟩, fun m σ H4 hW => ?_⟩
      obtain ⟨rfl, hm, hf, rfl⟩ := hW
      refine viaT (fun b H2 => H2 = H4 ∧ b = decide (0 < m ∧ rows[m - 1]? = rows[m - 1 + best]?)) (fun b H2 hP => ?_) (fun Q' k' => ?_)
      rotate_left
      · refine ⟨_, rfl, _, _, rfl, rfl, _, rfl, ite2 (fun e => ?_) (fun e => ?_)⟩
        · have m0 : 0 < m := by have := of_decide_eq_true e; omega
          have h1 : m - 1 < rows.length := by omega
          have h2 : m - 1 + best < rows.length := by omega
          refine ⟨_, rfl, _, rfl, _, _, rfl, rfl, a, rows.map V.str, (m : Int) - 1, .str rows[m - 1], rfl, rfl, SqL.of ha3, ?_, ?_⟩
          · rw [show (m : Int) - 1 = ((m - 1 : Nat) : Int) by omega]
            exact atI_nat (by rw [List.getElem?_map, List.getElem?_eq_getElem h1]; rfl)
          refine ⟨_, rfl, _, rfl, _, _, rfl, rfl, _, rfl, _, _, rfl, rfl, a, rows.map V.str, (m : Int) - 1 + best, .str rows[m - 1 + best], rfl, rfl, SqL.of ha3, ?_, rfl, _, rfl, k' _ _ ⟨rfl, ?_⟩⟩
          · rw [show (m : Int) - 1 + best = ((m - 1 + best : Nat) : Int) by omega]
            exact atI_nat (by rw [List.getElem?_map, List.getElem?_eq_getElem h2]; rfl)
          · rw [List.getElem?_eq_getElem h1, List.getElem?_eq_getElem h2]
            rw [dStr]
            by_cases z : rows[m - 1] = rows[m - 1 + best]
            · rw [decide_eq_true z]; exact (decide_eq_true ⟨m0, by rw [z]⟩).symm
            · rw [decide_eq_false z]
              exact (decide_eq_false fun w => z (Option.some.inj w.2)).symm
        · refine k' _ _ ⟨rfl, ?_⟩
          exact (decide_eq_false fun w => e (decide_eq_true (by omega))).symm
      obtain ⟨rfl, rfl⟩ := hP
      by_cases hc : 0 < m ∧ rows[m - 1]? = rows[m - 1 + best]?
      · rw [decide_eq_true hc]
        refine iteT ⟨fun σ' H' => ∃ m', m' < m ∧ H' = H2 ∧ m' ≤ st ∧ firstW rows best m' = firstW rows best st ∧ σ' = [some (.ref a), some (.int st), some (.int p), some (.ref b), some (.int best), some (.int m'), o6], fun σ' H' h => h, ?_⟩
        refine ⟨_, rfl, _, _, rfl, rfl, m - 1, by omega, rfl, by omega, ?_, ?_⟩
        · rw [← hf]
          obtain ⟨n, rfl⟩ : ∃ n, m = n + 1 := ⟨m - 1, by omega⟩
          show firstW rows best n = (if rows[n]? = rows[n + best]? then firstW rows best n else n + 1)
          exact (if_pos hc.2).symm
        · show [some (V.ref a), some (V.int st), some (V.int p), some (V.ref b), some (V.int best), some (V.int ((m : Int) - 1)), o6] = _
          rw [show (m : Int) - 1 = ((m - 1 : Nat) : Int) by omega]
      · rw [decide_eq_false hc]
        have hfm : firstW rows best m = m := by
          cases m with
          | zero => rfl
          | succ n =>
            exact if_neg fun z => hc ⟨Nat.succ_pos _, z⟩
        refine iteF ⟨_, rfl, _, rfl, _, rfl, _, rfl, _, rfl, _, _, rfl, rfl, _, rfl, a, _, rfl, SqL.of ha3, fun l nl => ?_⟩
        have e1 : firstL rows st p = m := by rw [hfl, ← hf, hfm]
        rw [show ((m : Int) + (best : Int)) = ((m + best : Nat) : Int) by omega, cut_pre V.str rows (m + best) (by omega)]
        refine ⟨by show 3 ≤ sizeLine; decide, fun t2 nt2 => ?_⟩
        have s6 := same_new (o := .lst ((rows.take (m + best)).map V.str)) nl
        have s7 := same_new (o := .tup [.int m, .int best, .ref l]) nt2
        rw [e1] at q
        exact q t2 l _ ((s03.trans s6).trans s7) upd_same (s7 _ _ upd_same)
end
end FH

set_option Elab.async false
set_option linter.all false
set_option maxRecDepth 100000
set_option maxHeartbeats 1000000
namespace FH
open PySem L2
local macro_rules | `(tactic| walk_at "seq") => `(tactic| first | assumption | exact SqL.of (by assumption) | exact SqT.of (by assumption) | exact SqL.of upd_same | exact SqT.of upd_same)
local macro_rules | `(tactic| walk_at "at") => `(tactic| first | exact atI_nat (j := 0) rfl | exact atI_nat (j := 1) rfl | exact atI_nat (j := 2) rfl | exact atI_nat (by assumption) | assumption)
local macro_rules | `(tactic| walk_at "ar") => `(tactic| first | omega | exact ⟨by omega, by omega⟩ | exact Or.inl ⟨by omega, by omega⟩ | exact Or.inr ⟨by omega, by omega⟩ | exact ⟨by decide, by decide⟩ | exact Or.inr ⟨by decide, by decide⟩ | exact Or.inl ⟨by decide, by decide⟩ | exact ⟨by decide, by decide, by omega⟩ | exact ⟨by decide, by decide, by decide⟩)
local macro_rules | `(tactic| walk_at "r") => `(tactic| repeat (first
  | refine ⟨_, rfl, ?_⟩
  | refine ⟨_, _, rfl, rfl, ?_⟩
  | refine ⟨_, _, _, _, rfl, rfl, by walk_at "seq", by walk_at "at", ?_⟩
  | refine ⟨_, _, _, _, rfl, rfl, by assumption, rfl, ?_⟩
  | refine ⟨_, _, rfl, Or.inl (by walk_at "seq"), ?_⟩
  | refine Or.inl ⟨_, rfl, ?_⟩
  | refine Or.inr ⟨_, rfl, ?_⟩
  | refine And.intro (by walk_at "ar") ?_))
/-! ### what is refused, on data -/
def itemD (e : PyData) (i : Nat) : PyData := (itemsD e).getD i .none
def intD : PyData → Int | .int i => i | _ => 0
def isPosD : PyData → Bool | .int i => decide (0 < i) | _ => false
def okS (e : PyData) : Bool := isSeqD e && (decide ((itemsD e).length = 2) && (itemsD e).all isNumD)
def okP (e : PyData) : Bool := isSeqD e && (decide ((itemsD e).length = 2) && (itemsD e).all isPosD)
def okR (s p r : PyData) : Bool := isTableD r (intD (itemD s 0) + intD (itemD p 0)) (intD (itemD s 1) + intD (itemD p 1))
def checkR (s p r : PyData) : Option Str := if okS s = true then if okP p = true then if okR s p r = true then none else some "rows" else some "periods" else some "starts"
def spChecked (CE : Addr) : Sp := fun vs H Q E => ∃ (v1 v2 v3 : V) (s p r : PyData), vs = [v1, v2, v3] ∧ Dv H v1 s ∧ Dv H v2 p ∧ Dv H v3 r ∧
  (checkR s p r = none → ∀ (l : Addr) (xs : List V) (H' : Hp), Same H H' → DvAll H xs (itemsD r) → H' l = some (.lst xs) → Q (.ref l) H') ∧
  (∀ word : Str, checkR s p r = some word → ∀ (d : Addr) (H' : Hp), Same H H' → H d = none → H' d = some (.xd [(("word" : Str), .str word)]) → E (.ref CE) (some d) H')
/-- a list or tuple of data, where it stands -/
theorem Dv.seq {K : PySem.W.Frag} {H : Hp} {v : V} {e : PyData} (h : Dv H v e) (q : isSeqD e = true) : ∃ a xs, v = .ref a ∧ xs.length ≤ 1000 ∧ (∀ H', Same H H' → SqL K H' a xs ∨ SqT K H' a xs) ∧ DvAll H xs (itemsD e) := by
  cases h with
  | lst h hl l => exact ⟨_, _, rfl, hl, fun H' s' => .inl (SqL.of (s' _ _ h)), l⟩
  | tup h hl l => exact ⟨_, _, rfl, hl, fun H' s' => .inr (SqT.of (s' _ _ h)), l⟩
  | _ => cases q
theorem dec_len2 (n : Nat) : (!decide (V.int (n : Int) = V.int 2)) = !decide (n = 2) := by
  rw [show decide (V.int (n : Int) = V.int 2) = decide (n = 2) from dNat n 2]
section
variable {P : Program} {w : World} {K : PySem.W.Frag} {mg : Str → Option Value} {base : Heap} {CE fE : Addr}
theorem sc_checked : FnScope ["starts", "periods", "rows", "start", "period"] ["starts", "periods", "rows"] (defScope (topS 14)) := ⟨rfl, rfl, rfl, by decide +kernel, rfl, by decide +kernel, by decide +kernel⟩
theorem ok_checked {f fI fS fN fB : Addr} {fd fdI fdS fdN fdB : FuncData} {k : Nat} {t1 t2 : Tok} (F : Fun K "checked" "checked" (topS 14) f fd) (T : Bt mg) (XE : PySem.ErrX.ErrTxt P K mg "InvalidCrowds" CE fE)
    (FI : Fun K "is_integer" "is_integer" (topS 5) fI fdI) (bI : Binds K fdI ["value"] []) (gI : mg "is_integer" = some (.ref fI))
    (FS : Fun K "is_sequence" "is_sequence" (topS 7) fS fdS) (bS : Binds K fdS ["value"] []) (gS : mg "is_sequence" = some (.ref fS))
    (FN : Fun K "is_number" "is_number" (topS 6) fN fdN) (bN : Binds K fdN ["value"] []) (gN : mg "is_number" = some (.ref fN))
    (FB : Fun K "is_table" "is_table" (topS 13) fB fdB) (bB : Binds K fdB ["rows", "tall", "wide"] []) (gB : mg "is_table" = some (.ref fB))
    (gIN : mg "IN" = some (.str "+" t1)) (gNO : mg "NOT_IN" = some (.str "-" t2)) :
    FnOk P w K mg base (L2.CX P w) (k + 3) f fd ["starts", "periods", "rows"] (spChecked CE) := by
  have GI : FnOk P w K mg base CX0 (k + 2) fI fdI ["value"] (spInt isIntD) := ok_isInt FI T
  have GS : FnOk P w K mg base CX0 (k + 2) fS fdS ["value"] spSeq := ok_isSeq FS T
  have GN : FnOk P w K mg base CX0 (k + 2) fN fdN ["value"] (spInt isNumD) := ok_isNum FN T FI bI gI
  have GB : FnOk P w K mg base CX0 (k + 2) fB fdB ["rows", "tall", "wide"] spTab := ok_isTable FB T FS bS gS gIN gNO
  refine F.okX sc_checked (fun vs H Q E h => ?_) (fun cdv A outer s H vs Q E hr h => ?_)
  · obtain ⟨v1, v2, v3, s, p, r, rfl, _⟩ := h
    rfl
  · obtain ⟨v1, v2, v3, sd, pd, rd, rfl, h1, h2, h3, yes, no⟩ := h
    refine ⟨_, (pss_cons (ps_if (PT.nox (PW.pt (pw_or (pt_not (pt_val (pe_call GS hr (by rfl) gS FS.kp bS .nil pass0 (pa_cons (pv 0) pa_nil)))) (pw_or (pt_cmpR op_ne (pe_callB (lenK (K := K) rfl) (by rfl) T.m_len PySem.boot_len (pa_cons (pv 0) pa_nil)) pe_int (nomark _)) (pw_or1 (pt_not (pt_val (pe_callB (allK (K := K) rfl rfl) (by rfl) T.m_all (by decide +kernel) (pa_cons (pe_lc (own := [("start", 3)]) (g := (gName 3)) (tt := tYes) rfl sc_checked.nd (piSK (K := K) rfl (pv 0)) (blkOk_by (own := [("start", 3)]) (N := ["starts", "periods", "rows", "start", "period"]) (sc := defScope (topS 14)) (by decide +kernel)) (fun _ _ _ _ _ => (pg_name (i := 3) sc_checked.nd rfl (by first | exact Or.inl rfl | exact Or.inr rfl))) (fun _ _ _ _ _ => pts_nil) (fun _ _ _ _ _ => (pe_call GN hr (by rfl) gN FN.kp bN .nil pass0 (pa_cons (pv 3) pa_nil)))) pa_nil))))))))) (pss_one (ps_raiseErr rfl XE hr (takes_of rfl rfl rfl rfl) (pa_cons pe_str pa_nil) (by rfl))) pss_nil)
  (pss_cons (ps_if (PT.nox (PW.pt (pw_or (pt_not (pt_val (pe_call GS hr (by rfl) gS FS.kp bS .nil pass0 (pa_cons (pv 1) pa_nil)))) (pw_or1 (pt_cmpR op_ne (pe_callB (lenK (K := K) rfl) (by rfl) T.m_len PySem.boot_len (pa_cons (pv 1) pa_nil)) pe_int (nomark _)))))) (pss_one (ps_raiseErr rfl XE hr (takes_of rfl rfl rfl rfl) (pa_cons pe_str pa_nil) (by rfl))) pss_nil)
  (pss_cons (ps_if (PT.nox (pt_not (pt_val (pe_callB (allK (K := K) rfl rfl) (by rfl) T.m_all (by decide +kernel) (pa_cons (pe_lc (own := [("period", 4)]) (g := (gName 4)) (tt := tYes) rfl sc_checked.nd (piSK (K := K) rfl (pv 1)) (blkOk_by (own := [("period", 4)]) (N := ["starts", "periods", "rows", "start", "period"]) (sc := defScope (topS 14)) (by decide +kernel)) (fun _ _ _ _ _ => (pg_name (i := 4) sc_checked.nd rfl (by first | exact Or.inl rfl | exact Or.inr rfl))) (fun _ _ _ _ _ => pts_nil) (fun _ _ _ _ _ => (pe_and (pe_call GI hr (by rfl) gI FI.kp bI .nil pass0 (pa_cons (pv 4) pa_nil)) (pe_one (pe_cmpR op_gt (pv 4) pe_int (nomark _)))))) pa_nil))))) (pss_one (ps_raiseErr rfl XE hr (takes_of rfl rfl rfl rfl) (pa_cons pe_str pa_nil) (by rfl))) pss_nil)
  (pss_cons (ps_if (PT.nox (pt_not (pt_val (pe_call GB hr (by rfl) gB FB.kp bB .nil pass0 (pa_cons (pv 2) (pa_cons (pe_op op_add (pe_ix (ixQK (K := K) rfl) (pv 0) pe_int (fun _ _ => rfl)) (pe_ix (ixQK (K := K) rfl) (pv 1) pe_int (fun _ _ => rfl))) (pa_cons (pe_op op_add (pe_ix (ixQK (K := K) rfl) (pv 0) pe_int (fun _ _ => rfl)) (pe_ix (ixQK (K := K) rfl) (pv 1) pe_int (fun _ _ => rfl))) pa_nil))))))) (pss_one (ps_raiseErr rfl XE hr (takes_of rfl rfl rfl rfl) (pa_cons pe_str pa_nil) (by rfl))) pss_nil)
  (pss_one (ps_ret (PE.nox (pe_callTy (lstK (K := K) rfl) (by rfl) T.m_list (by decide +kernel) (pa_cons (pv 2) pa_nil))))))))), ?_⟩
    have rz : ∀ (word : Str) (H1 : Hp), checkR sd pd rd = some word → Same H H1 → ∀ d, H1 d = none → E (.ref CE) (some d) (upd H1 d (.xd [(("word" : Str), .str word)])) := fun word H1 hw s1 d nd =>
      no word hw d _ (s1.trans (same_new nd)) (s1.free nd) upd_same
    -- starts
    dsimp only [tSeq, tIfS]
    refine viaT (fun b H2 => Same H H2 ∧ b = !okS sd) (fun b H1 hP => ?_) (fun Q' k' => ?_)
    rotate_left
    · refine ⟨_, rfl, v1, sd, rfl, h1, fun H1 s1 => ⟨_, rfl, ?_⟩⟩
      cases hq : isSeqD sd with
      | false => exact iteT (k' _ _ ⟨s1, by unfold okS; rw [hq]; rfl⟩)
      | true =>
        obtain ⟨a, xs, rfl, hxl, hsq, hall⟩ := h1.seq (K := K) hq
        refine iteF ⟨_, rfl, a, xs, rfl, hsq H1 s1, rfl, _, rfl, ?_⟩
        rw [dec_len2, hall.len]
        by_cases hl : (itemsD sd).length = 2
        · rw [decide_eq_true hl]
          refine iteF ?_
          dsimp only [tNot, tB, tCB, tCons, tNil]
          refine lc_seqV (k := 0) (by rfl) (hsq H1 s1) (by omega) (fun x => match x with | .int i => some (.bl (decide (0 ≤ i))) | _ => some (.bl false)) (fun D i x H2 Nx nD hx s2 tk nt => ?_) (fun D H2 nD s2 hD => ?_)
          · obtain ⟨ee, e2, hd⟩ := hall.get hx
            refine ⟨rfl, _, rfl, x, ee, rfl, (hd.same s1).same s2, tk _ _ (fun _ _ q => q) ?_⟩
            cases hd <;> rfl
          · have ef := hall.fm (f := isNumD) (o := fun x => match x with | .int i => some (V.bl (decide (0 ≤ i))) | _ => some (V.bl false)) (fun v' e' _ _ h => by cases h <;> rfl)
            rw [ef] at hD
            refine ⟨D, _, rfl, SqL.of hD, _, rfl, k' _ _ ⟨s1.trans s2, ?_⟩⟩
            rw [allMap]
            unfold okS
            rw [hq, decide_eq_true hl]
            rfl
        · rw [decide_eq_false hl]
          exact iteT (k' _ _ ⟨s1, by unfold okS; rw [hq, decide_eq_false hl]; rfl⟩)
    obtain ⟨s1, rfl⟩ := hP
    cases hS : okS sd with
    | false => exact iteT ⟨_, rfl, fun d nd => rz "starts" H1 (by unfold checkR; rw [hS]; rfl) s1 d nd⟩
    | true =>
    refine iteF ?_
    try dsimp only [tNext, tSeq, tIfS]
    -- periods
    refine viaT (fun b H2 => Same H H2 ∧ b = !(isSeqD pd && decide ((itemsD pd).length = 2))) (fun b H2 hP => ?_) (fun Q' k' => ?_)
    rotate_left
    · refine ⟨_, rfl, v2, pd, rfl, h2.same s1, fun H2 s2 => ⟨_, rfl, ?_⟩⟩
      cases hq : isSeqD pd with
      | false => exact iteT (k' _ _ ⟨s1.trans s2, by rw [hq]; rfl⟩)
      | true =>
        obtain ⟨a, xs, rfl, hxl, hsq, hall⟩ := h2.seq (K := K) hq
        refine iteF ⟨_, rfl, a, xs, rfl, hsq H2 (s1.trans s2), rfl, _, rfl, k' _ _ ⟨s1.trans s2, ?_⟩⟩
        rw [dec_len2, hall.len, hq, Bool.true_and]
    obtain ⟨s2, rfl⟩ := hP
    cases hL : (isSeqD pd && decide ((itemsD pd).length = 2)) with
    | false =>
      refine iteT ⟨_, rfl, fun d nd => rz "periods" H2 ?_ s2 d nd⟩
      have : okP pd = false := by unfold okP; rw [← Bool.and_assoc, hL, Bool.false_and]
      unfold checkR
      rw [hS, this]
      rfl
    | true =>
    refine iteF ?_
    have hq : isSeqD pd = true := (Bool.and_eq_true _ _ ▸ hL).1
    have hl2 : (itemsD pd).length = 2 := of_decide_eq_true (Bool.and_eq_true _ _ ▸ hL).2
    obtain ⟨a2, xs2, rfl, hxl2, hsq2, hall2⟩ := h2.seq (K := K) hq
    try dsimp only [tNext, tSeq, tIfS]
    refine viaT (fun b H2 => Same H H2 ∧ b = !okP pd) (fun b H3 hP => ?_) (fun Q' k' => ?_)
    rotate_left
    · dsimp only [tNot, tB, tCB, tCons, tNil]
      refine lc_seqV (k := 1) (by rfl) (hsq2 H2 s2) (by omega) (fun x => match x with | .int i => some (.bl (decide (0 < i))) | _ => some (.bl false)) (fun D i x H3 Nx nD hx s3 tk nt => ?_) (fun D H3 nD s3 hD => ?_)
      · obtain ⟨ee, e2, hd⟩ := hall2.get hx
        refine ⟨rfl, _, rfl, x, ee, rfl, (hd.same s2).same s3, _, rfl, ?_⟩
        cases hd with
        | int i => exact iteT ⟨_, rfl, _, _, rfl, rfl, tk _ _ (fun _ _ q => q) rfl⟩
        | _ => exact iteF (tk _ _ (fun _ _ q => q) rfl)
      · have ef := hall2.fm (f := isPosD) (o := fun x => match x with | .int i => some (V.bl (decide (0 < i))) | _ => some (V.bl false)) (fun v' e' _ _ h => by cases h <;> rfl)
        rw [ef] at hD
        refine ⟨D, _, rfl, SqL.of hD, _, rfl, k' _ _ ⟨s2.trans s3, ?_⟩⟩
        rw [allMap]
        unfold okP
        rw [hq, decide_eq_true hl2]
        rfl
    obtain ⟨s3, rfl⟩ := hP
    cases hP : okP pd with
    | false => exact iteT ⟨_, rfl, fun d nd => rz "periods" H3 (by unfold checkR; rw [hS, hP]; rfl) s3 d nd⟩
    | true =>
    refine iteF ?_
    have hSq : isSeqD sd = true := by
      cases z : isSeqD sd with
      | true => rfl
      | false => unfold okS at hS; rw [z] at hS; cases hS
    obtain ⟨a1, xs1, rfl, hxl1, hsq1, hall1⟩ := h1.seq (K := K) hSq
    have two : ∀ (e : PyData) (xs : List V) (pr : PyData → Bool), (∀ x, pr x = true → ∃ i, x = .int i) → (isSeqD e && (decide ((itemsD e).length = 2) && (itemsD e).all pr)) = true → DvAll H xs (itemsD e) → xs = [.int (intD (itemD e 0)), .int (intD (itemD e 1))] := by
      intro e xs pr hpr hok hall
      have hl : (itemsD e).length = 2 ∧ (itemsD e).all pr = true := by
        rw [Bool.and_eq_true, Bool.and_eq_true] at hok
        exact ⟨of_decide_eq_true hok.2.1, hok.2.2⟩
      unfold itemD
      generalize itemsD e = es at hl hall ⊢
      obtain ⟨hl, ha⟩ := hl
      match es, hl with
      | [x, y], _ =>
        obtain ⟨i, rfl⟩ := hpr x (List.all_eq_true.mp ha x (by simp))
        obtain ⟨j, rfl⟩ := hpr y (List.all_eq_true.mp ha y (by simp))
        cases hall with
        | cons hx ht =>
          cases hx
          cases ht with
          | cons hy hn =>
            cases hy
            cases hn
            rfl
    have n1 : ∀ x, isNumD x = true → ∃ i, x = .int i := fun x h => by cases x <;> first | exact ⟨_, rfl⟩ | cases h
    have n2 : ∀ x, isPosD x = true → ∃ i, x = .int i := fun x h => by cases x <;> first | exact ⟨_, rfl⟩ | cases h
    obtain rfl := two sd xs1 isNumD n1 hS hall1
    obtain rfl := two pd xs2 isPosD n2 hP hall2
    refine ⟨_, rfl, _, rfl, a1, _, 0, _, rfl, rfl, hsq1 H3 s3, atI_nat (j := 0) rfl, _, rfl, a2, _, 0, _, rfl, rfl, hsq2 H3 s3, atI_nat (j := 0) rfl, _, _, rfl, rfl, ?_⟩
    refine ⟨_, rfl, a1, _, 1, _, rfl, rfl, hsq1 H3 s3, atI_nat (j := 1) rfl, _, rfl, a2, _, 1, _, rfl, rfl, hsq2 H3 s3, atI_nat (j := 1) rfl, _, _, rfl, rfl, ?_⟩
    refine ⟨v3, rd, _, _, rfl, h3.same s3, fun H4 s4 => ⟨_, rfl, ?_⟩⟩
    cases hR : okR sd pd rd with
    | false =>
      have hR' := hR
      unfold okR at hR'
      rw [hR']
      exact iteT ⟨_, rfl, fun d nd => rz "rows" H4 (by unfold checkR; rw [hS, hP, hR]; rfl) (s3.trans s4) d nd⟩
    | true =>
      have hR' := hR
      unfold okR at hR'
      rw [hR']
      refine iteF ?_
      have hRq : isSeqD rd = true := by
        cases z : isSeqD rd with
        | true => rfl
        | false => unfold isTableD at hR'; rw [z] at hR'; cases hR'
      obtain ⟨a3, xs3, rfl, hxl3, hsq3, hall3⟩ := h3.seq (K := K) hRq
      refine ⟨_, rfl, a3, xs3, rfl, hsq3 H4 (s3.trans s4), fun l nl => ?_⟩
      exact yes (by unfold checkR; rw [hS, hP, hR]; rfl) l xs3 _ ((s3.trans s4).trans (same_new nl)) hall3 upd_same
end
end FH

set_option Elab.async false
set_option linter.all false
set_option maxRecDepth 100000
set_option maxHeartbeats 1000000
namespace FH
open PySem L2
local macro_rules | `(tactic| walk_at "seq") => `(tactic| first | assumption | exact SqL.of (by assumption) | exact SqT.of (by assumption) | exact SqL.of upd_same | exact SqT.of upd_same)
local macro_rules | `(tactic| walk_at "at") => `(tactic| first | exact atI_nat (j := 0) rfl | exact atI_nat (j := 1) rfl | exact atI_nat (j := 2) rfl | exact atI_nat (by assumption) | assumption)
local macro_rules | `(tactic| walk_at "ar") => `(tactic| first | omega | exact ⟨by omega, by omega⟩ | exact Or.inl ⟨by omega, by omega⟩ | exact Or.inr ⟨by omega, by omega⟩ | exact ⟨by decide, by decide⟩ | exact Or.inr ⟨by decide, by decide⟩ | exact Or.inl ⟨by decide, by decide⟩ | exact ⟨by decide, by decide, by omega⟩ | exact ⟨by decide, by decide, by decide⟩)
local macro_rules | `(tactic| walk_at "r") => `(tactic| repeat (first
  | refine ⟨_, rfl, ?_⟩
  | refine ⟨_, _, rfl, rfl, ?_⟩
  | refine ⟨_, _, _, _, rfl, rfl, by walk_at "seq", by walk_at "at", ?_⟩
  | refine ⟨_, _, _, _, rfl, rfl, by assumption, rfl, ?_⟩
  | refine ⟨_, _, rfl, Or.inl (by walk_at "seq"), ?_⟩
  | refine Or.inl ⟨_, rfl, ?_⟩
  | refine Or.inr ⟨_, rfl, ?_⟩
  | refine And.intro (by walk_at "ar") ?_))
/-! ### a table -/
structure Tb where
  s0 : Nat
  s1 : Nat
  p0 : Nat
  p1 : Nat
  rows : List Str
/-- rows of signs, as many and as wide as told -/
structure Tb.Ok (t : Tb) : Prop where
  h0 : 0 < t.p0
  h1 : 0 < t.p1
  len : t.rows.length = t.s0 + t.p0
  row : ∀ x ∈ t.rows, x.length = t.s1 + t.p1 ∧ Sg x
def Tb.f0 (t : Tb) : Nat := firstL t.rows t.s0 t.p0
def Tb.b0 (t : Tb) : Nat := bestL t.rows t.s0 t.p0
def Tb.top (t : Tb) : List Str := t.rows.take (t.f0 + t.b0)
def Tb.cols (t : Tb) : List Str := colsS t.top (t.s1 + t.p1)
def Tb.f1 (t : Tb) : Nat := firstL t.cols t.s1 t.p1
def Tb.b1 (t : Tb) : Nat := bestL t.cols t.s1 t.p1
/-- the least table -/
def Tb.least (t : Tb) : Tb := ⟨t.f0, t.f1, t.b0, t.b1, colsS (t.cols.take (t.f1 + t.b1)) (t.f0 + t.b0)⟩
theorem tl_colS (xs : List Str) (i : Nat) : tlS (colS xs i) = xs.map fun x => x.cps.getD i 0 := by
  have := join_ones (xs.map fun x => x.cps.getD i 0)
  unfold ones at this
  rw [List.map_map] at this
  exact this
theorem len_colS (xs : List Str) (i : Nat) : (colS xs i).length = xs.length := by rw [len_tl, tl_colS, List.length_map]
theorem len_colsS (xs : List Str) (m : Nat) : (colsS xs m).length = m := by unfold colsS; rw [List.length_map, List.length_range]
theorem sg_lay {x : Str} (h : Sg x) : LayS x := layS_of fun c hc => by rcases h c hc with rfl | rfl <;> decide
theorem sg_colS {xs : List Str} {m i : Nat} (h : ∀ x ∈ xs, x.length = m ∧ Sg x) (hi : i < m) : Sg (colS xs i) := by
  intro c hc
  rw [tl_colS] at hc
  obtain ⟨x, hx, rfl⟩ := List.mem_map.mp hc
  obtain ⟨h1, h2⟩ := h x hx
  refine h2 _ ?_
  have hs : i < x.cps.size := by rw [← h1] at hi; exact hi
  show x.cps.getD i 0 ∈ x.cps.toList
  rw [Array.getD_eq_getD_getElem?, Array.getElem?_eq_getElem hs]
  simp
theorem row_colsS {xs : List Str} {m : Nat} (h : ∀ x ∈ xs, x.length = m ∧ Sg x) : ∀ c ∈ colsS xs m, c.length = xs.length ∧ Sg c := by
  intro c hc
  obtain ⟨i, hi, rfl⟩ := List.mem_map.mp hc
  exact ⟨len_colS xs i, sg_colS h (List.mem_range.mp hi)⟩
theorem Tb.Ok.top_len {t : Tb} (h : t.Ok) : t.top.length = t.f0 + t.b0 := by
  unfold Tb.top
  rw [List.length_take, h.len]
  have := firstL_le t.rows t.s0 t.p0
  have := bestL_le t.rows t.s0 t.p0
  unfold Tb.f0 Tb.b0
  omega
theorem Tb.Ok.b0_pos {t : Tb} (h : t.Ok) : 0 < t.b0 := bestL_pos _ _ _ h.h0
theorem Tb.Ok.b1_pos {t : Tb} (h : t.Ok) : 0 < t.b1 := bestL_pos _ _ _ h.h1
theorem Tb.Ok.top_row {t : Tb} (h : t.Ok) : ∀ x ∈ t.top, x.length = t.s1 + t.p1 ∧ Sg x := fun x hx => h.row x (List.mem_of_mem_take hx)
theorem Tb.Ok.cols_len {t : Tb} (h : t.Ok) : t.cols.length = t.s1 + t.p1 := len_colsS _ _
theorem Tb.Ok.cols_row {t : Tb} (h : t.Ok) : ∀ x ∈ t.cols, x.length = t.f0 + t.b0 ∧ Sg x := fun x hx => by
  have := row_colsS h.top_row x hx
  rw [h.top_len] at this
  exact this
theorem Tb.Ok.f1_le {t : Tb} (_ : t.Ok) : t.f1 ≤ t.s1 := firstL_le _ _ _
theorem Tb.Ok.b1_le {t : Tb} (_ : t.Ok) : t.b1 ≤ t.p1 := bestL_le _ _ _
theorem Tb.Ok.f0_le {t : Tb} (_ : t.Ok) : t.f0 ≤ t.s0 := firstL_le _ _ _
theorem Tb.Ok.b0_le {t : Tb} (_ : t.Ok) : t.b0 ≤ t.p0 := bestL_le _ _ _
theorem Tb.Ok.least {t : Tb} (h : t.Ok) : t.least.Ok := by
  have hc : ∀ x ∈ t.cols.take (t.f1 + t.b1), x.length = t.f0 + t.b0 ∧ Sg x := fun x hx => h.cols_row x (List.mem_of_mem_take hx)
  refine ⟨h.b0_pos, h.b1_pos, len_colsS _ _, fun x hx => ?_⟩
  have := row_colsS hc x hx
  rw [List.length_take, h.cols_len] at this
  refine ⟨this.1.trans ?_, this.2⟩
  have := h.f1_le
  have := h.b1_le
  show min (t.f1 + t.b1) _ = t.f1 + t.b1
  omega
def strD : PyData → Str | .str x => x | _ => Str.empty
def tabD (s p r : PyData) : Tb := ⟨(intD (itemD s 0)).toNat, (intD (itemD s 1)).toNat, (intD (itemD p 0)).toNat, (intD (itemD p 1)).toNat, (itemsD r).map strD⟩
/-- what the parts of a good table are -/
structure GoodT (s p r : PyData) (t : Tb) : Prop where
  eq : tabD s p r = t
  si : itemsD s = [.int t.s0, .int t.s1]
  pi : itemsD p = [.int t.p0, .int t.p1]
  ri : itemsD r = t.rows.map PyData.str
  sq : isSeqD s = true
  pq : isSeqD p = true
  rq : isSeqD r = true
  ok : t.Ok
theorem two_of {e : PyData} {pr : PyData → Bool} {lo : Int} (hpr : ∀ x, pr x = true → ∃ i : Int, x = .int i ∧ lo ≤ i) (h : (isSeqD e && (decide ((itemsD e).length = 2) && (itemsD e).all pr)) = true) : isSeqD e = true ∧ ∃ i j : Int, itemsD e = [.int i, .int j] ∧ lo ≤ i ∧ lo ≤ j := by
  rw [Bool.and_eq_true, Bool.and_eq_true] at h
  obtain ⟨h1, h2, h3⟩ := h
  refine ⟨h1, ?_⟩
  have h2 := of_decide_eq_true h2
  generalize itemsD e = es at h2 h3 ⊢
  match es, h2 with
  | [x, y], _ =>
    obtain ⟨i, rfl, hi⟩ := hpr x (List.all_eq_true.mp h3 x (by simp))
    obtain ⟨j, rfl, hj⟩ := hpr y (List.all_eq_true.mp h3 y (by simp))
    exact ⟨i, j, rfl, hi, hj⟩
theorem rows_of : ∀ {es : List PyData} {wide : Int}, es.all (isRowD wide) = true → es = (es.map strD).map PyData.str ∧ ∀ x ∈ es.map strD, (x.length : Int) = wide ∧ Sg x
  | [], _, _ => ⟨rfl, fun x hx => by cases hx⟩
  | e :: es, wide, h => by
    rw [List.all_cons, Bool.and_eq_true] at h
    obtain ⟨h1, h2⟩ := rows_of h.2
    cases e with
    | str z =>
      have hz : (decide ((z.length : Int) = wide) && (tlS z).all fun ch => decide (ch = 43) || decide (ch = 45)) = true := h.1
      rw [Bool.and_eq_true] at hz
      refine ⟨by rw [List.map_cons, List.map_cons, ← h1]; rfl, fun x hx => ?_⟩
      rcases List.mem_cons.mp hx with rfl | hx
      · refine ⟨of_decide_eq_true hz.1, fun c hc => ?_⟩
        have := List.all_eq_true.mp hz.2 c hc
        rcases Bool.or_eq_true_iff.mp this with q | q
        · exact .inl (of_decide_eq_true q)
        · exact .inr (of_decide_eq_true q)
      · exact h2 x hx
    | _ => cases h.1
theorem check_good {s p r : PyData} (h : checkR s p r = none) : GoodT s p r (tabD s p r) := by
  unfold checkR at h
  by_cases h1 : okS s = true
  · rw [if_pos h1] at h
    by_cases h2 : okP p = true
    · rw [if_pos h2] at h
      by_cases h3 : okR s p r = true
      · obtain ⟨sq, i, j, es, hi, hj⟩ := two_of (lo := 0) (fun x hx => by cases x <;> first | exact ⟨_, rfl, of_decide_eq_true hx⟩ | cases hx) h1
        obtain ⟨pq, k, l, ep, hk, hl⟩ := two_of (lo := 1) (fun x hx => by cases x <;> first | exact ⟨_, rfl, by have := of_decide_eq_true hx; omega⟩ | cases hx) h2
        obtain ⟨s0, rfl⟩ := Int.eq_ofNat_of_zero_le hi
        obtain ⟨s1, rfl⟩ := Int.eq_ofNat_of_zero_le hj
        obtain ⟨p0, rfl⟩ := Int.eq_ofNat_of_zero_le (Int.le_trans (by decide) hk)
        obtain ⟨p1, rfl⟩ := Int.eq_ofNat_of_zero_le (Int.le_trans (by decide) hl)
        have et : tabD s p r = ⟨s0, s1, p0, p1, (itemsD r).map strD⟩ := by
          unfold tabD itemD
          rw [es, ep]
          rfl
        have h3' : (isSeqD r && (decide (((itemsD r).length : Int) = (s0 : Int) + p0) && (itemsD r).all (isRowD ((s1 : Int) + p1)))) = true := by
          have := h3
          unfold okR isTableD itemD at this
          rw [es, ep] at this
          exact this
        rw [Bool.and_eq_true, Bool.and_eq_true] at h3'
        obtain ⟨rq, r2, r3⟩ := h3'
        have r2 := of_decide_eq_true r2
        obtain ⟨r4, r5⟩ := rows_of r3
        rw [et]
        refine ⟨et, es, ep, r4, sq, pq, rq, ⟨by show 0 < p0; omega, by show 0 < p1; omega, ?_, fun x hx => ?_⟩⟩
        · show ((itemsD r).map strD).length = s0 + p0
          rw [List.length_map]
          omega
        · have := r5 x hx
          exact ⟨by show x.length = s1 + p1; omega, this.2⟩
      · rw [if_neg h3] at h; cases h
    · rw [if_neg h2] at h; cases h
  · rw [if_neg h1] at h; cases h
/-! ### Crowds: its attributes -/
structure CrC (K : PySem.W.Frag) (mg : Str → Option Value) (C : Addr) : Prop where
  cl : Cls K C
  nS : NoAttr K C "starts"
  nP : NoAttr K C "periods"
  nR : NoAttr K C "rows"
  mgC : mg "Crowds" = some (.ref C)
def cf1 (s : V) : List (Str × V) := [("starts", s)]
def cf2 (s p : V) : List (Str × V) := [("starts", s), ("periods", p)]
def cf3 (s p r : V) : List (Str × V) := [("starts", s), ("periods", p), ("rows", r)]
theorem cput1 (s : V) : putF "starts" s [] = cf1 s := rfl
theorem cput2 (s p : V) : putF "periods" p (cf1 s) = cf2 s p := by
  show (if ("starts" : Str) = "periods" then _ else (("starts" : Str), s) :: putF "periods" p []) = _
  rw [if_neg (by decide +kernel)]; rfl
theorem cput3 (s p r : V) : putF "rows" r (cf2 s p) = cf3 s p r := by
  show (if ("starts" : Str) = "rows" then _ else (("starts" : Str), s) :: (if ("periods" : Str) = "rows" then _ else (("periods" : Str), p) :: putF "rows" r [])) = _
  rw [if_neg (by decide +kernel), if_neg (by decide +kernel)]; rfl
theorem cget_s (s p r : V) : (cf3 s p r).lookup ("starts" : Str) = some s := by simp [cf3, List.lookup]
theorem cget_p (s p r : V) : (cf3 s p r).lookup ("periods" : Str) = some p := by
  have h : (("periods" : Str) == "starts") = false := by decide +kernel
  simp [cf3, List.lookup, h]
theorem cget_r (s p r : V) : (cf3 s p r).lookup ("rows" : Str) = some r := by
  have h : (("rows" : Str) == "starts") = false := by decide +kernel
  have h2 : (("rows" : Str) == "periods") = false := by decide +kernel
  simp [cf3, List.lookup, h, h2]
/-- the set of a table, at x -/
def CrAt (C : Addr) (H : Hp) (x : Addr) (t : Tb) : Prop := ∃ (dx ts tp tr : Addr), H x = some (.ins C dx (cf3 (.ref ts) (.ref tp) (.ref tr))) ∧ H ts = some (.tup [.int t.s0, .int t.s1]) ∧ H tp = some (.tup [.int t.p0, .int t.p1]) ∧ H tr = some (.tup (t.rows.map V.str))
theorem CrAt.same {C : Addr} {H H' : Hp} {x : Addr} {t : Tb} (s : Same H H') (h : CrAt C H x t) : CrAt C H' x t := by
  obtain ⟨dx, ts, tp, tr, h1, h2, h3, h4⟩ := h
  exact ⟨dx, ts, tp, tr, s _ _ h1, s _ _ h2, s _ _ h3, s _ _ h4⟩
/-- all but x is kept -/
def Xo (x : Addr) (H H' : Hp) : Prop := ∀ a o, a ≠ x → H a = some o → H' a = some o
theorem Xo.of {x : Addr} {H H' : Hp} (h : Same H H') : Xo x H H' := fun a o _ e => h a o e
theorem Xo.trans {x : Addr} {H H1 H2 : Hp} (h : Xo x H H1) (g : Xo x H1 H2) : Xo x H H2 := fun a o n e => g a o n (h a o n e)
theorem Xo.put {x : Addr} {H : Hp} {o : HO} : Xo x H (upd H x o) := fun a u n e => by rw [upd_ne n]; exact e
def spInit (C CE : Addr) : Sp := fun vs H Q E => ∃ (x dx : Addr) (v1 v2 v3 : V) (s p r : PyData), vs = [.ref x, v1, v2, v3] ∧ H x = some (.ins C dx []) ∧ Dv H v1 s ∧ Dv H v2 p ∧ Dv H v3 r ∧
  (checkR s p r = none → ∀ H' : Hp, Xo x H H' → CrAt C H' x (tabD s p r).least → Q .non H') ∧
  (∀ word : Str, checkR s p r = some word → ∀ (d : Addr) (H' : Hp), Xo x H H' → H d = none → H' d = some (.xd [(("word" : Str), .str word)]) → E (.ref CE) (some d) H')
theorem DvAll.strs {H : Hp} : ∀ {vs : List V} {rows : List Str}, DvAll H vs (rows.map PyData.str) → vs = rows.map V.str ∧ ∀ x ∈ rows, x.length ≤ 1000
  | _, [], h => by cases h; exact ⟨rfl, fun x hx => by cases hx⟩
  | _, x :: rows, h => by
    cases h with
    | cons hx ht =>
      obtain ⟨h1, h2⟩ := DvAll.strs ht
      cases hx with
      | str _ hz hzl =>
        refine ⟨by rw [h1]; rfl, fun y hy => ?_⟩
        rcases List.mem_cons.mp hy with rfl | hy
        · exact hz
        · exact h2 y hy
section
variable {P : Program} {w : World} {K : PySem.W.Frag} {mg : Str → Option Value} {base : Heap} {C CE fE : Addr}
theorem sc_Crowds___init__ : FnScope ["self", "starts", "periods", "rows", "given", "first", "tall", "second", "wide", "columns"] ["self", "starts", "periods", "rows"] (defScope (inClass (topS 24) 0)) := ⟨rfl, rfl, rfl, by decide +kernel, rfl, by decide +kernel, by decide +kernel⟩
theorem ok_init {f fH fW fL : Addr} {fd fdH fdW fdL : FuncData} {k : Nat} (F : Fun K "__init__" "Crowds.__init__" (inClass (topS 24) 0) f fd) (T : Bt mg) (L : CrC K mg C)
    (FH : Fun K "checked" "checked" (topS 14) fH fdH) (bH : Binds K fdH ["starts", "periods", "rows"] []) (gH : mg "checked" = some (.ref fH)) (GH : FnOk P w K mg base (L2.CX P w) (k + 3) fH fdH ["starts", "periods", "rows"] (spChecked CE))
    (FW : Fun K "least_way" "least_way" (topS 15) fW fdW) (bW : Binds K fdW ["rows", "start", "period"] []) (gW : mg "least_way" = some (.ref fW))
    (FL : Fun K "columns_of" "columns_of" (topS 16) fL fdL) (bL : Binds K fdL ["rows"] []) (gL : mg "columns_of" = some (.ref fL)) :
    FnOk P w K mg base (L2.CX P w) (k + 4) f fd ["self", "starts", "periods", "rows"] (spInit C CE) := by
  have GW : FnOk P w K mg base CX0 (k + 3) fW fdW ["rows", "start", "period"] spLeast := ok_least FW T
  have GL : FnOk P w K mg base CX0 (k + 3) fL fdL ["rows"] (spCols K) := ok_cols FL T
  refine F.okX sc_Crowds___init__ (fun vs H Q E h => ?_) (fun cdv A outer s H vs Q E hr h => ?_)
  · obtain ⟨x, dx, v1, v2, v3, s, p, r, rfl, _⟩ := h
    rfl
  · obtain ⟨x, dx, v1, v2, v3, sd, pd, rd, rfl, hx, h1, h2, h3, yes, no⟩ := h
    refine ⟨_, (pss_cons (ps_set (i := 4) sc_Crowds___init__.nd rfl (by first | exact Or.inl rfl | exact Or.inr rfl) (pe_call GH hr (by rfl) gH FH.kp bH .nil (passes_call (takes_of rfl rfl rfl rfl) (W := fun cls d _ H => E cls d H) (fun _ _ _ _ h => h)) (pa_cons (pv 1) (pa_cons (pv 2) (pa_cons (pv 3) pa_nil)))))
  (pss_cons (ps_asg (PE.nox (pe_call GW hr (by rfl) gW FW.kp bW .nil pass0 (pa_cons (pv 4) (pa_cons (pe_ix (ixQK (K := K) rfl) (pv 1) pe_int (fun _ _ => rfl)) (pa_cons (pe_ix (ixQK (K := K) rfl) (pv 2) pe_int (fun _ _ => rfl)) pa_nil))))) (pg_tup rfl (pgs_cons (pg_name (i := 5) sc_Crowds___init__.nd rfl (by first | exact Or.inl rfl | exact Or.inr rfl)) (pgs_cons (pg_name (i := 6) sc_Crowds___init__.nd rfl (by first | exact Or.inl rfl | exact Or.inr rfl)) (pgs_cons (pg_name (i := 4) sc_Crowds___init__.nd rfl (by first | exact Or.inl rfl | exact Or.inr rfl)) pgs_nil)))))
  (pss_cons (ps_asg (PE.nox (pe_call GW hr (by rfl) gW FW.kp bW .nil pass0 (pa_cons (pe_call GL hr (by rfl) gL FL.kp bL .nil pass0 (pa_cons (pv 4) pa_nil)) (pa_cons (pe_ix (ixQK (K := K) rfl) (pv 1) pe_int (fun _ _ => rfl)) (pa_cons (pe_ix (ixQK (K := K) rfl) (pv 2) pe_int (fun _ _ => rfl)) pa_nil))))) (pg_tup rfl (pgs_cons (pg_name (i := 7) sc_Crowds___init__.nd rfl (by first | exact Or.inl rfl | exact Or.inr rfl)) (pgs_cons (pg_name (i := 8) sc_Crowds___init__.nd rfl (by first | exact Or.inl rfl | exact Or.inr rfl)) (pgs_cons (pg_name (i := 9) sc_Crowds___init__.nd rfl (by first | exact Or.inl rfl | exact Or.inr rfl)) pgs_nil)))))
  (pss_cons (ps_fld (pv 0) (PE.nox (pe_tup (pa_cons (pv 5) (pa_cons (pv 7) pa_nil)))) rfl)
  (pss_cons (ps_fld (pv 0) (PE.nox (pe_tup (pa_cons (pv 6) (pa_cons (pv 8) pa_nil)))) rfl)
  (pss_one (ps_fld (pv 0) (PE.nox (pe_callTy (tupK (K := K) rfl) (by rfl) T.m_tuple (by decide +kernel) (pa_cons (pe_call GL hr (by rfl) gL FL.kp bL .nil pass0 (pa_cons (pv 9) pa_nil)) pa_nil))) rfl))))))), ?_⟩
    refine ⟨_, rfl, _, rfl, _, rfl, v1, v2, v3, sd, pd, rd, rfl, h1, h2, h3, fun hc l xs H1 s1 hall hl => ?_, fun word hw d H1 s1 nd hd => no word hw d H1 (Xo.of s1) nd hd⟩
    have yes' := yes hc
    have G := check_good hc
    generalize tabD sd pd rd = t at G yes'
    obtain ⟨a1, xs1, rfl, _, hsq1, hall1⟩ := h1.seq (K := K) G.sq
    obtain ⟨a2, xs2, rfl, _, hsq2, hall2⟩ := h2.seq (K := K) G.pq
    have hrl : xs.length ≤ 1000 := by
      cases h3 with
      | lst h hl l => exact (hall.len.trans l.len.symm) ▸ hl
      | tup h hl l => exact (hall.len.trans l.len.symm) ▸ hl
      | _ => cases G.rq
    have e1 : xs1 = [.int t.s0, .int t.s1] := by
      rw [G.si] at hall1
      cases hall1 with
      | cons hx ht =>
        cases hx
        cases ht with
        | cons hy hn => cases hy; cases hn; rfl
    have e2 : xs2 = [.int t.p0, .int t.p1] := by
      rw [G.pi] at hall2
      cases hall2 with
      | cons hx ht =>
        cases hx
        cases ht with
        | cons hy hn => cases hy; cases hn; rfl
    subst e1 e2
    rw [G.ri] at hall
    obtain ⟨e3, hw3⟩ := hall.strs
    subst e3
    have O := G.ok
    have rl : t.rows.length ≤ 1000 := by rw [List.length_map] at hrl; exact hrl
    have wl : t.s1 + t.p1 ≤ 1000 := by
      have : 0 < t.rows.length := by rw [O.len]; have := O.h0; omega
      have hm : t.rows[0] ∈ t.rows := List.getElem_mem this
      rw [← (O.row _ hm).1]
      exact hw3 _ hm
    have b0 := O.b0_pos
    have b1 := O.b1_pos
    have f0l := O.f0_le
    have b0l := O.b0_le
    have f1l := O.f1_le
    have b1l := O.b1_le
    have rlen := O.len
    -- the least way of the rows
    refine ⟨_, rfl, _, rfl, a1, _, 0, _, rfl, rfl, hsq1 H1 s1, atI_nat (j := 0) rfl, _, rfl, a2, _, 0, _, rfl, rfl, hsq2 H1 s1, atI_nat (j := 0) rfl, ?_⟩
    refine ⟨l, t.rows, t.s0, t.p0, rfl, hl, O.len, O.h0, by omega, fun z hz => sg_lay (O.row z hz).2, fun t1 l1 H2 s2 ht1 hl1 => ?_⟩
    have ht1' : H2 t1 = some (.tup [.int t.f0, .int t.b0, .ref l1]) := ht1
    refine ⟨t1, _, rfl, SqT.of ht1', rfl, _, _, rfl, _, _, rfl, _, _, rfl, rfl, ?_⟩
    have hl1' : H2 l1 = some (.lst (t.top.map V.str)) := hl1
    have s02 := s1.trans s2
    -- the columns
    refine ⟨_, rfl, l1, t.top, t.s1 + t.p1, rfl, .inr (SqL.of hl1'), ?_, ?_, wl, fun z hz => (O.top_row z hz).1, fun l2 H3 s3 nl2 hl2 => ?_⟩
    · intro z
      have := O.top_len
      rw [z] at this
      simp at this
      omega
    · rw [O.top_len]; omega
    have hl2' : H3 l2 = some (.lst (t.cols.map V.str)) := hl2
    have s03 := s02.trans s3
    refine ⟨_, rfl, a1, _, 1, _, rfl, rfl, hsq1 H3 s03, atI_nat (j := 1) rfl, _, rfl, a2, _, 1, _, rfl, rfl, hsq2 H3 s03, atI_nat (j := 1) rfl, ?_⟩
    refine ⟨l2, t.cols, t.s1, t.p1, rfl, hl2', O.cols_len, O.h1, wl, fun z hz => sg_lay (O.cols_row z hz).2, fun t2 l3 H4 s4 ht2 hl3 => ?_⟩
    have ht2' : H4 t2 = some (.tup [.int t.f1, .int t.b1, .ref l3]) := ht2
    refine ⟨t2, _, rfl, SqT.of ht2', rfl, _, _, rfl, _, _, rfl, _, _, rfl, rfl, ?_⟩
    have hl3' : H4 l3 = some (.lst ((t.cols.take (t.f1 + t.b1)).map V.str)) := hl3
    have s04 := s03.trans s4
    have hx4 := s04 _ _ hx
    -- self.starts
    refine ⟨_, rfl, _, rfl, by show 2 ≤ sizeLine; decide, fun ts nts => ?_⟩
    have s5 := same_new (o := .tup [.int t.f0, .int t.f1]) nts
    refine ⟨_, rfl, x, C, dx, [], rfl, s5 _ _ hx4, L.cl, L.nS, by decide, ?_⟩
    rw [cput1]
    have nxs : ts ≠ x := fun z => by rw [z, hx4] at nts; cases nts
    have x5 : Xo x H _ := (Xo.of (s04.trans s5)).trans (Xo.put (o := .ins C dx (cf1 (.ref ts))))
    have hx5 := upd_same (H := upd H4 ts (.tup [.int t.f0, .int t.f1])) (a := x) (o := .ins C dx (cf1 (.ref ts)))
    have hts5 : (upd (upd H4 ts (.tup [.int t.f0, .int t.f1])) x (.ins C dx (cf1 (.ref ts)))) ts = some (.tup [.int t.f0, .int t.f1]) := by rw [upd_ne nxs, upd_same]
    have nl3x : l3 ≠ x := ne_of hl3' hx4 (by intro z; cases z)
    have hl35 : (upd (upd H4 ts (.tup [.int t.f0, .int t.f1])) x (.ins C dx (cf1 (.ref ts)))) l3 = some (.lst ((t.cols.take (t.f1 + t.b1)).map V.str)) := by rw [upd_ne nl3x]; exact s5 _ _ hl3'
    generalize upd (upd H4 ts (.tup [.int t.f0, .int t.f1])) x (.ins C dx (cf1 (.ref ts))) = H5 at x5 hx5 hts5 hl35 ⊢
    -- self.periods
    refine ⟨_, rfl, _, rfl, by show 2 ≤ sizeLine; decide, fun tp ntp => ?_⟩
    have s6 := same_new (o := .tup [.int t.b0, .int t.b1]) ntp
    refine ⟨_, rfl, x, C, dx, cf1 (.ref ts), rfl, s6 _ _ hx5, L.cl, L.nP, by show 1 < 1000; decide, ?_⟩
    rw [cput2]
    have nxp : tp ≠ x := fun z => by rw [z, hx5] at ntp; cases ntp
    have x6 : Xo x H _ := (x5.trans (Xo.of s6)).trans (Xo.put (o := .ins C dx (cf2 (.ref ts) (.ref tp))))
    have hx6 := upd_same (H := upd H5 tp (.tup [.int t.b0, .int t.b1])) (a := x) (o := .ins C dx (cf2 (.ref ts) (.ref tp)))
    have htp6 : (upd (upd H5 tp (.tup [.int t.b0, .int t.b1])) x (.ins C dx (cf2 (.ref ts) (.ref tp)))) tp = some (.tup [.int t.b0, .int t.b1]) := by rw [upd_ne nxp, upd_same]
    have hts6 : (upd (upd H5 tp (.tup [.int t.b0, .int t.b1])) x (.ins C dx (cf2 (.ref ts) (.ref tp)))) ts = some (.tup [.int t.f0, .int t.f1]) := by rw [upd_ne nxs]; exact s6 _ _ hts5
    have hl36 : (upd (upd H5 tp (.tup [.int t.b0, .int t.b1])) x (.ins C dx (cf2 (.ref ts) (.ref tp)))) l3 = some (.lst ((t.cols.take (t.f1 + t.b1)).map V.str)) := by rw [upd_ne nl3x]; exact s6 _ _ hl35
    generalize upd (upd H5 tp (.tup [.int t.b0, .int t.b1])) x (.ins C dx (cf2 (.ref ts) (.ref tp))) = H6 at x6 hx6 htp6 hts6 hl36 ⊢
    -- self.rows
    have clen : (t.cols.take (t.f1 + t.b1)).length = t.f1 + t.b1 := by rw [List.length_take, O.cols_len]; omega
    refine ⟨_, rfl, l3, t.cols.take (t.f1 + t.b1), t.f0 + t.b0, rfl, .inr (SqL.of hl36), ?_, by rw [clen]; omega, by omega, fun z hz => (O.cols_row z (List.mem_of_mem_take hz)).1, fun l4 H7 s7 nl4 hl4 => ?_⟩
    · intro z
      rw [z] at clen
      simp at clen
      omega
    refine ⟨l4, _, rfl, .inl ⟨SqL.of hl4, fun tr ntr => ?_⟩⟩
    have s8 := same_new (o := .tup ((colsS (t.cols.take (t.f1 + t.b1)) (t.f0 + t.b0)).map V.str)) ntr
    have hx7 := s8 _ _ (s7 _ _ hx6)
    have nxr : tr ≠ x := fun z => by rw [z, s7 _ _ hx6] at ntr; cases ntr
    refine ⟨_, rfl, x, C, dx, cf2 (.ref ts) (.ref tp), rfl, hx7, L.cl, L.nR, by show 2 < 1000; decide, ?_⟩
    rw [cput3]
    refine yes' _ (((x6.trans (Xo.of s7)).trans (Xo.of s8)).trans Xo.put) ⟨dx, ts, tp, tr, upd_same, ?_, ?_, ?_⟩
    · rw [upd_ne nxs]; exact s8 _ _ (s7 _ _ hts6)
    · rw [upd_ne nxp]; exact s8 _ _ (s7 _ _ htp6)
    · rw [upd_ne nxr]; exact upd_same
end
end FH

set_option Elab.async false
set_option linter.all false
set_option maxRecDepth 100000
set_option maxHeartbeats 1000000
namespace FH
open PySem L2
open Pr
/-! ### the least way is the least period and start -/
theorem perB_iff {rows : List Str} {s p sz : Nat} (hp : 0 < p) (hl : rows.length = s + p) (h0 : 0 < sz) : perB ((rows.drop s).take p) p sz = true ↔ p % sz = 0 ∧ Per (seqR rows s p) s sz := by
  unfold perB
  rw [Bool.and_eq_true]
  constructor
  · rintro ⟨h1, h2⟩
    exact ⟨of_decide_eq_true h1, (per_iff hp hl h0 (of_decide_eq_true h1)).mp (of_decide_eq_true h2)⟩
  · rintro ⟨h1, h2⟩
    exact ⟨decide_eq_true h1, decide_eq_true ((per_iff hp hl h0 h1).mpr h2)⟩
theorem bestW_inv {rows : List Str} {s p : Nat} (hp : 0 < p) (hl : rows.length = s + p) : ∀ i, i ≤ p →
    perB ((rows.drop s).take p) p (bestW ((rows.drop s).take p) p i) = true ∧ ∀ sz, p - i < sz → sz ≤ p → perB ((rows.drop s).take p) p sz = true → bestW ((rows.drop s).take p) p i ≤ sz
  | 0, _ => ⟨(perB_iff hp hl hp).mpr ⟨Nat.mod_self p, seqR_per rows s p⟩, fun sz h1 h2 _ => by
      show p ≤ sz
      omega⟩
  | i + 1, hi => by
    obtain ⟨h1, h2⟩ := bestW_inv hp hl i (by omega)
    unfold bestW
    by_cases h : perB ((rows.drop s).take p) p (p - i) = true
    · rw [if_pos h]
      exact ⟨h, fun sz h3 h4 h5 => by omega⟩
    · rw [if_neg h]
      refine ⟨h1, fun sz h3 h4 h5 => h2 sz ?_ h4 h5⟩
      have : sz ≠ p - i := fun z => h (z ▸ h5)
      omega
theorem firstW_spec (rows : List Str) (best : Nat) : ∀ n, (∀ m, firstW rows best n ≤ m → m < n → rows[m]? = rows[m + best]?) ∧ (0 < firstW rows best n → rows[firstW rows best n - 1]? ≠ rows[firstW rows best n - 1 + best]?)
  | 0 => ⟨fun m _ h => by omega, fun h => by have : firstW rows best 0 = 0 := rfl; omega⟩
  | n + 1 => by
    obtain ⟨h1, h2⟩ := firstW_spec rows best n
    unfold firstW
    by_cases h : rows[n]? = rows[n + best]?
    · rw [if_pos h]
      refine ⟨fun m h3 h4 => ?_, h2⟩
      by_cases e : m = n
      · subst e; exact h
      · exact h1 m h3 (by omega)
    · rw [if_neg h]
      exact ⟨fun m h3 h4 => by omega, fun _ => by rw [show n + 1 - 1 = n by omega]; exact h⟩
theorem least_lst {rows : List Str} {s p : Nat} (hp : 0 < p) (hl : rows.length = s + p) : Lst (seqR rows s p) (firstL rows s p) (bestL rows s p) := by
  obtain ⟨h1, h2⟩ := bestW_inv hp hl p (Nat.le_refl _)
  have b0 := bestL_pos rows s p hp
  have bl := bestL_le rows s p
  have hb := (perB_iff hp hl b0).mp h1
  obtain ⟨f1, f2⟩ := firstW_spec rows (bestL rows s p) s
  have fl := firstL_le rows s p
  change ∀ m, firstL rows s p ≤ m → m < s → rows[m]? = rows[m + bestL rows s p]? at f1
  change 0 < firstL rows s p → rows[firstL rows s p - 1]? ≠ rows[firstL rows s p - 1 + bestL rows s p]? at f2
  refine ⟨b0, fun n hn => ?_, fun a' q' hq' k => ?_, fun a' k => ?_⟩
  · by_cases hs : s ≤ n
    · exact hb.2 n hs
    · have := f1 n hn (by omega)
      unfold seqR
      rw [spot_id (by omega), spot_id (by omega)]
      exact this.symm
  · have k2 := Per.of hp (seqR_per rows s p) k
    have kg := Per.gcd q' p k2 (seqR_per rows s p)
    have gd : Nat.gcd q' p ∣ p := Nat.gcd_dvd_right _ _
    have g0 : 0 < Nat.gcd q' p := Nat.gcd_pos_of_pos_right _ hp
    have gl : Nat.gcd q' p ≤ p := Nat.le_of_dvd hp gd
    have gq : Nat.gcd q' p ≤ q' := Nat.le_of_dvd hq' (Nat.gcd_dvd_left _ _)
    have := h2 (Nat.gcd q' p) (by omega) gl ((perB_iff hp hl g0).mpr ⟨Nat.mod_eq_zero_of_dvd gd, kg⟩)
    exact Nat.le_trans this gq
  · by_cases hc : firstL rows s p ≤ a'
    · exact hc
    · exfalso
      refine f2 (by omega) ?_
      have := k (firstL rows s p - 1) (by omega)
      unfold seqR at this
      rw [spot_id (by omega), spot_id (by omega)] at this
      exact this.symm
/-! ### the set of a table -/
def chAt (x : Str) (i : Nat) : Nat := x.cps.getD i 0
def inB (x : Str) (i : Nat) : Bool := decide (chAt x i = 43)
def Tb.row (t : Tb) (k : Nat) : Str := t.rows.getD (spot k t.s0 t.p0) Str.empty
def Tb.has (t : Tb) (k l : Nat) : Bool := inB (t.row k) (spot l t.s1 t.p1)
theorem ch_sg {x : Str} (h : Sg x) {i : Nat} (hi : i < x.length) : chAt x i = if inB x i = true then 43 else 45 := by
  have hs : i < x.cps.size := hi
  have hm : chAt x i ∈ tlS x := by
    unfold chAt tlS
    rw [Array.getD_eq_getD_getElem?, Array.getElem?_eq_getElem hs]
    simp
  unfold inB
  rcases h _ hm with e | e
  · rw [e]; rfl
  · rw [e]; rfl
theorem str_ext {x y : Str} (hl : x.length = y.length) (h : ∀ i, i < x.length → chAt x i = chAt y i) : x = y := by
  cases x with | mk a =>
  cases y with | mk b =>
  have ha : a.size = b.size := hl
  have : a = b := Array.ext ha fun i h1 h2 => by
    have := h i h1
    unfold chAt at this
    rw [Array.getD_eq_getD_getElem?, Array.getD_eq_getD_getElem?, Array.getElem?_eq_getElem h1, Array.getElem?_eq_getElem h2] at this
    simpa using this
  rw [this]
theorem sg_ext {x y : Str} (hx : Sg x) (hy : Sg y) (hl : x.length = y.length) (h : ∀ i, i < x.length → inB x i = inB y i) : x = y :=
  str_ext hl fun i hi => by rw [ch_sg hx hi, ch_sg hy (hl ▸ hi), h i hi]
theorem ch_colS (xs : List Str) (i j : Nat) : chAt (colS xs i) j = (xs[j]?.map fun x => chAt x i).getD 0 := by
  have e := tl_colS xs i
  unfold chAt
  rw [Array.getD_eq_getD_getElem?, ← Array.getElem?_toList]
  show ((tlS (colS xs i))[j]?).getD 0 = _
  rw [e, List.getElem?_map]
  try rfl
section
variable {t : Tb}
theorem Tb.row_mem (h : t.Ok) (k : Nat) : t.rows[spot k t.s0 t.p0]? = some (t.row k) ∧ t.row k ∈ t.rows := by
  have hs : spot k t.s0 t.p0 < t.rows.length := by rw [h.len]; exact spot_lt h.h0
  have e : t.row k = t.rows[spot k t.s0 t.p0] := by unfold Tb.row; rw [List.getD_eq_getElem?_getD, List.getElem?_eq_getElem hs]; rfl
  rw [e]
  exact ⟨List.getElem?_eq_getElem hs, List.getElem_mem hs⟩
theorem Tb.row_ok (h : t.Ok) (k : Nat) : (t.row k).length = t.s1 + t.p1 ∧ Sg (t.row k) := h.row _ (t.row_mem h k).2
theorem Tb.has_row (h : t.Ok) (n m : Nat) : seqR t.rows t.s0 t.p0 n = seqR t.rows t.s0 t.p0 m ↔ t.has n = t.has m := by
  unfold seqR
  rw [(t.row_mem h n).1, (t.row_mem h m).1]
  constructor
  · intro e
    have e := Option.some.inj e
    funext l
    unfold Tb.has
    rw [e]
  · intro e
    refine congrArg some (sg_ext (t.row_ok h n).2 (t.row_ok h m).2 ((t.row_ok h n).1.trans (t.row_ok h m).1.symm) fun i hi => ?_)
    have := congrFun e i
    unfold Tb.has at this
    rw [(t.row_ok h n).1] at hi
    rw [spot_id hi] at this
    exact this
theorem Tb.lst_rows (h : t.Ok) : Lst t.has t.f0 t.b0 := (least_lst h.h0 h.len).eqv (t.has_row h)
theorem Tb.cols_at (h : t.Ok) {j : Nat} (hj : j < t.s1 + t.p1) : t.cols[j]? = some (colS t.top j) := by
  unfold Tb.cols colsS
  rw [List.getElem?_map, List.getElem?_range hj]
  rfl
theorem Tb.top_at (h : t.Ok) {i : Nat} (hi : i < t.f0 + t.b0) : t.top[i]? = some (t.row i) := by
  have h1 := h.f0_le
  have h2 := h.b0_le
  unfold Tb.top
  rw [List.getElem?_take, if_pos hi, ← (t.row_mem h i).1, spot_id (by omega)]
theorem Tb.col_ch (h : t.Ok) {i j : Nat} (hi : i < t.f0 + t.b0) : inB (colS t.top j) i = inB (t.row i) j := by
  unfold inB
  rw [ch_colS, t.top_at h hi]
  rfl
theorem Tb.has_col (h : t.Ok) (n m : Nat) : seqR t.cols t.s1 t.p1 n = seqR t.cols t.s1 t.p1 m ↔ (fun k => t.has k n) = (fun k => t.has k m) := by
  unfold seqR
  have sn := spot_lt (n := n) (s := t.s1) h.h1
  have sm := spot_lt (n := m) (s := t.s1) h.h1
  rw [t.cols_at h sn, t.cols_at h sm]
  constructor
  · intro e
    have e := Option.some.inj e
    funext k
    have L := t.lst_rows h
    have hk := spot_lt (n := k) (s := t.f0) L.pos
    have e1 := congrFun (L.per.spot k) n
    have e2 := congrFun (L.per.spot k) m
    rw [← e1, ← e2]
    unfold Tb.has
    rw [← t.col_ch h hk, ← t.col_ch h hk, e]
  · intro e
    have hc := fun j => row_colsS h.top_row (colS t.top j)
    have r1 := hc (spot n t.s1 t.p1) (List.mem_map.mpr ⟨_, List.mem_range.mpr sn, rfl⟩)
    have r2 := hc (spot m t.s1 t.p1) (List.mem_map.mpr ⟨_, List.mem_range.mpr sm, rfl⟩)
    refine congrArg some (sg_ext r1.2 r2.2 (r1.1.trans r2.1.symm) fun i hi => ?_)
    rw [r1.1, h.top_len] at hi
    rw [t.col_ch h hi, t.col_ch h hi]
    exact congrFun e i
theorem Tb.lst_cols (h : t.Ok) : Lst (fun l k => t.has k l) t.f1 t.b1 := (least_lst h.h1 h.cols_len).eqv (t.has_col h)
/-- a row of signs -/
def sgnS (bs : List Bool) : Str := ⟨(bs.map fun b => if b = true then 43 else 45).toArray⟩
theorem len_sgn (bs : List Bool) : (sgnS bs).length = bs.length := by
  show (List.toArray _).size = _
  simp
theorem sg_sgn (bs : List Bool) : Sg (sgnS bs) := by
  intro c hc
  have hc' : c ∈ bs.map fun b => if b = true then 43 else 45 := by simpa [sgnS, tlS] using hc
  obtain ⟨b, _, rfl⟩ := List.mem_map.mp hc'
  cases b
  · exact .inr rfl
  · exact .inl rfl
theorem in_sgn {bs : List Bool} {i : Nat} : inB (sgnS bs) i = bs.getD i false := by
  unfold inB chAt sgnS
  rw [Array.getD_eq_getD_getElem?, List.getElem?_toArray, List.getElem?_map, List.getD_eq_getElem?_getD]
  cases bs[i]? with
  | none => rfl
  | some b => cases b <;> rfl
def canR (h : Nat → Nat → Bool) (tall wide : Nat) : List Str := (List.range tall).map fun k => sgnS ((List.range wide).map fun l => h k l)
theorem Tb.least_rows (h : t.Ok) : t.least.rows = canR t.has (t.f0 + t.b0) (t.f1 + t.b1) := by
  show colsS (t.cols.take (t.f1 + t.b1)) (t.f0 + t.b0) = _
  unfold colsS canR
  refine List.map_congr_left fun i hi => ?_
  have hi := List.mem_range.mp hi
  have h1 := h.f1_le
  have h2 := h.b1_le
  have cl : (t.cols.take (t.f1 + t.b1)).length = t.f1 + t.b1 := by rw [List.length_take, h.cols_len]; omega
  have sg : Sg (colS (t.cols.take (t.f1 + t.b1)) i) := sg_colS (m := t.f0 + t.b0) (fun x hx => h.cols_row x (List.mem_of_mem_take hx)) hi
  refine sg_ext sg (sg_sgn _) ?_ fun j hj => ?_
  · rw [len_colS, cl, len_sgn, List.length_map, List.length_range]
  · rw [len_colS, cl] at hj
    rw [in_sgn, List.getD_eq_getElem?_getD, List.getElem?_map, List.getElem?_range hj]
    show _ = t.has i j
    unfold inB
    rw [ch_colS, List.getElem?_take, if_pos hj, t.cols_at h (by omega)]
    show decide (chAt (colS t.top j) i = 43) = _
    have := t.col_ch h (j := j) hi
    unfold inB at this
    rw [this]
    unfold Tb.has
    rw [spot_id (by omega)]
    rfl
theorem Tb.has_least (h : t.Ok) (k l : Nat) : t.least.has k l = t.has k l := by
  have hL := h.least
  have LR := t.lst_rows h
  have LC := t.lst_cols h
  have hk := spot_lt (n := k) (s := t.f0) LR.pos
  have hl := spot_lt (n := l) (s := t.f1) LC.pos
  have e0 : t.least.rows[spot k t.f0 t.b0]? = some (t.least.row k) := (t.least.row_mem hL k).1
  rw [t.least_rows h] at e0
  unfold canR at e0
  rw [List.getElem?_map, List.getElem?_range hk] at e0
  have e0 := Option.some.inj e0
  show inB (t.least.row k) (spot l t.f1 t.b1) = _
  rw [← e0, in_sgn, List.getD_eq_getElem?_getD, List.getElem?_map, List.getElem?_range hl]
  show t.has (spot k t.f0 t.b0) (spot l t.f1 t.b1) = t.has k l
  rw [congrFun (LC.per.spot l) (spot k t.f0 t.b0)]
  exact congrFun (LR.per.spot k) l
theorem Tb.least_eq {u : Tb} (h : t.Ok) (g : u.Ok) (e : ∀ k l, t.has k l = u.has k l) : t.least = u.least := by
  have ef : t.has = u.has := by funext k l; exact e k l
  have L1 := t.lst_rows h
  have L2 := u.lst_rows g
  rw [ef] at L1
  obtain ⟨e1, e2⟩ := L1.uniq L2
  have C1 := t.lst_cols h
  have C2 := u.lst_cols g
  rw [ef] at C1
  obtain ⟨e3, e4⟩ := C1.uniq C2
  have r1 := t.least_rows h
  have r2 := u.least_rows g
  rw [ef, e1, e2, e3, e4, ← r2] at r1
  have : t.least = ⟨t.f0, t.f1, t.b0, t.b1, t.least.rows⟩ := rfl
  rw [this, e1, e2, e3, e4, r1]
  rfl
theorem Tb.has_of_least {u : Tb} (h : t.Ok) (g : u.Ok) (e : t.least = u.least) (k l : Nat) : t.has k l = u.has k l := by
  rw [← t.has_least h, ← u.has_least g, e]
end
end FH

set_option Elab.async false
set_option linter.all false
set_option maxRecDepth 100000
set_option maxHeartbeats 1000000
namespace FH
open PySem L2
local macro_rules | `(tactic| walk_at "seq") => `(tactic| first | assumption | exact SqL.of (by assumption) | exact SqT.of (by assumption) | exact SqL.of upd_same | exact SqT.of upd_same)
local macro_rules | `(tactic| walk_at "at") => `(tactic| first | exact atI_nat (j := 0) rfl | exact atI_nat (j := 1) rfl | exact atI_nat (j := 2) rfl | exact atI_nat (by assumption) | assumption)
local macro_rules | `(tactic| walk_at "ar") => `(tactic| first | omega | exact ⟨by omega, by omega⟩ | exact Or.inl ⟨by omega, by omega⟩ | exact Or.inr ⟨by omega, by omega⟩ | exact ⟨by decide, by decide⟩ | exact Or.inr ⟨by decide, by decide⟩ | exact Or.inl ⟨by decide, by decide⟩ | exact ⟨by decide, by decide, by omega⟩ | exact ⟨by decide, by decide, by decide⟩)
local macro_rules | `(tactic| walk_at "r") => `(tactic| repeat (first
  | refine ⟨_, rfl, ?_⟩
  | refine ⟨_, _, rfl, rfl, ?_⟩
  | refine ⟨_, _, _, _, rfl, rfl, by walk_at "seq", by walk_at "at", ?_⟩
  | refine ⟨_, _, _, _, rfl, rfl, by assumption, rfl, ?_⟩
  | refine ⟨_, _, rfl, Or.inl (by walk_at "seq"), ?_⟩
  | refine Or.inl ⟨_, rfl, ?_⟩
  | refine Or.inr ⟨_, rfl, ?_⟩
  | refine And.intro (by walk_at "ar") ?_))
open Pr
/-! ### places, common multiples -/
def spPlace : Sp := fun vs H Q _ => ∃ n s p : Nat, vs = [.int n, .int s, .int p] ∧ 0 < p ∧ Q (.int (spot n s p : Nat)) H
def spMult : Sp := fun vs H Q _ => ∃ a b : Nat, vs = [.int a, .int b] ∧ 0 < a ∧ 0 < b ∧ a ≤ 1000 ∧ b ≤ 1000 ∧ Q (.int (Nat.lcm a b : Nat)) H
/-- a list or a tuple of two -/
def Sq2 (K : PySem.W.Frag) (H : Hp) (a : Addr) (i j : Nat) : Prop := SqL K H a [.int i, .int j] ∨ SqT K H a [.int i, .int j]
theorem Sq2.same {K : PySem.W.Frag} {H H' : Hp} {a : Addr} {i j : Nat} (s : Same H H') (h : Sq2 K H a i j) : Sq2 K H' a i j := h.elim (fun h => .inl (s.seq h)) (fun h => .inr (s.seqT h))
theorem sq_same {K : PySem.W.Frag} {H H' : Hp} {a : Addr} {xs : List V} (s : Same H H') (h : SqL K H a xs ∨ SqT K H a xs) : SqL K H' a xs ∨ SqT K H' a xs := h.elim (fun h => .inl (s.seq h)) (fun h => .inr (s.seqT h))
def spWid (K : PySem.W.Frag) : Sp := fun vs H Q _ => ∃ (ar as ap am ao : Addr) (t : Tb) (m0 m1 o0 o1 : Nat), vs = [.ref ar, .ref as, .ref ap, .ref am, .ref ao] ∧ (SqL K H ar (t.rows.map V.str) ∨ SqT K H ar (t.rows.map V.str)) ∧ Sq2 K H as t.s0 t.s1 ∧ Sq2 K H ap t.p0 t.p1 ∧ Sq2 K H am m0 m1 ∧ Sq2 K H ao o0 o1 ∧
  t.Ok ∧ t.s0 + t.p0 ≤ 1000 ∧ t.s1 + t.p1 ≤ 1000 ∧ m0 + o0 ≤ 1000 ∧ m1 + o1 ≤ 1000 ∧
  ∀ (l : Addr) (H' : Hp), Same H H' → H l = none → H' l = some (.lst ((canR t.has (m0 + o0) (m1 + o1)).map V.str)) → Q (.ref l) H'
/-- the sign that four signs tell of two -/
def pick4 (q : Bool → Bool → Bool) : Str := sgnS [q false false, q false true, q true false, q true true]
def spSof (K : PySem.W.Frag) : Sp := fun vs H Q _ => ∃ (a b : Addr) (f g : Nat → Nat → Bool) (tall wide : Nat) (q : Bool → Bool → Bool), vs = [.ref a, .ref b, .str (pick4 q)] ∧
  ((SqL K H a ((canR f tall wide).map V.str) ∧ SqL K H b ((canR g tall wide).map V.str)) ∨ (SqT K H a ((canR f tall wide).map V.str) ∧ SqT K H b ((canR g tall wide).map V.str))) ∧ tall ≤ 1000 ∧ wide ≤ 1000 ∧
  ∀ (l : Addr) (H' : Hp), Same H H' → H l = none → H' l = some (.lst ((canR (fun k l => q (f k l) (g k l)) tall wide).map V.str)) → Q (.ref l) H'
/-- a row looked up at places -/
def rowAt (x : Str) (s p wide : Nat) : Str := Txt.join (Str.ofString "") (ones ((List.range wide).map fun i => chAt x (spot i s p)))
theorem str_tl {x y : Str} (h : tlS x = tlS y) : x = y := by
  cases x; cases y
  have : _ = _ := h
  simp [tlS] at this
  rw [this]
theorem tl_sgn (bs : List Bool) : tlS (sgnS bs) = bs.map fun b => if b = true then 43 else 45 := by
  show (List.toArray _).toList = _
  simp
theorem rowAt_sgn {x : Str} {s p wide : Nat} (hp : 0 < p) (hl : x.length = s + p) (hs : Sg x) : rowAt x s p wide = sgnS ((List.range wide).map fun i => inB x (spot i s p)) := by
  refine str_tl ?_
  unfold rowAt
  rw [join_ones, tl_sgn, List.map_map]
  refine List.map_congr_left fun i _ => ?_
  exact ch_sg hs (by rw [hl]; exact spot_lt hp)
theorem len_canR (f : Nat → Nat → Bool) (tall wide : Nat) : (canR f tall wide).length = tall := by unfold canR; rw [List.length_map, List.length_range]
theorem canR_get (f : Nat → Nat → Bool) {tall wide k : Nat} (h : k < tall) : (canR f tall wide)[k]? = some (sgnS ((List.range wide).map fun l => f k l)) := by
  unfold canR
  rw [List.getElem?_map, List.getElem?_range h]
  rfl
theorem ch_sgn {bs : List Bool} {i : Nat} (h : i < bs.length) : (sgnS bs).cps[i]? = some (if bs[i] = true then 43 else 45) := by
  unfold sgnS
  rw [List.getElem?_toArray, List.getElem?_map, List.getElem?_eq_getElem h]
  rfl
theorem sgEq (x : Str) (i : Nat) : decide (V.str (signS x i) = V.str (Str.ofString "+")) = inB x i := by
  have e : Str.ofString "+" = ⟨#[43]⟩ := by decide +kernel
  rw [e, dStr]
  unfold inB chAt signS
  by_cases h : x.cps.getD i 0 = 43
  · rw [h]; simp
  · rw [decide_eq_false h]
    exact decide_eq_false fun z => h (by simpa using congrArg Str.cps z)
theorem at_pick4 (q : Bool → Bool → Bool) (b1 b2 : Bool) : atI (pick4 q).cps.toList ((2 : Int) * (if b1 = true then 1 else 0) + (if b2 = true then 1 else 0)) = some (if q b1 b2 = true then 43 else 45) := by
  have e : (pick4 q).cps.toList = [if q false false = true then 43 else 45, if q false true = true then 43 else 45, if q true false = true then 43 else 45, if q true true = true then 43 else 45] := by
    show (List.toArray _).toList = _
    simp
  rw [e]
  cases b1 <;> cases b2
  · exact atI_nat (j := 0) rfl
  · exact atI_nat (j := 1) rfl
  · exact atI_nat (j := 2) rfl
  · exact atI_nat (j := 3) rfl
section
variable {P : Program} {w : World} {K : PySem.W.Frag} {mg : Str → Option Value} {base : Heap}
theorem sc_place_of : FnScope ["number", "start", "period"] ["number", "start", "period"] (defScope (topS 17)) := ⟨rfl, rfl, rfl, by decide +kernel, rfl, by decide +kernel, by decide +kernel⟩
theorem ok_place {f : Addr} {fd : FuncData} {k : Nat} (F : Fun K "place_of" "place_of" (topS 17) f fd) (T : Bt mg) : FnOk P w K mg base CX0 (k + 1) f fd ["number", "start", "period"] spPlace := by
  refine F.ok sc_place_of (fun vs H Q E h => ?_) (fun cdv A outer s H vs Q E hr h => ?_)
  · obtain ⟨n, s, p, rfl, _⟩ := h
    rfl
  · obtain ⟨n, st, p, rfl, hp, q⟩ := h
    refine ⟨_, (pss_one (ps_ret (pe_ifExp (pt_cmpR op_lt (pv 0) (pe_op op_add (pv 1) (pv 2)) (nomark _)) (pv 0) (pe_op op_add (pv 1) (pe_op op_mod (pe_callTy call_int1 (by rfl) T.m_int (by decide +kernel) (pa_cons (pe_op op_sub (pv 0) (pv 1)) pa_nil)) (pv 2)))))), ?_⟩
    refine ⟨_, rfl, _, rfl, _, rfl, _, _, rfl, rfl, _, _, rfl, rfl, _, rfl, ite2 (fun e => ?_) (fun e => ?_)⟩
    · refine ⟨_, rfl, ?_⟩
      have := of_decide_eq_true e
      rw [spot_id (by omega)] at q
      exact q
    · refine ⟨_, rfl, _, rfl, _, rfl, _, _, rfl, rfl, .inl ⟨_, rfl, _, rfl, _, _, rfl, rfl, by show (0 : Int) < (p : Int); omega, _, _, rfl, rfl, ?_⟩⟩
      have hn : ¬ n < st + p := fun z => e (decide_eq_true (by omega))
      have : (spot n st p : Nat) = st + (n - st) % p := by unfold spot; rw [if_neg (by omega)]
      rw [this] at q
      have e1 : ((st : Int) + ((n : Int) - (st : Int)) % (p : Int)) = ((st + (n - st) % p : Nat) : Int) := by
        rw [show (n : Int) - (st : Int) = ((n - st : Nat) : Int) by omega, ← Int.natCast_emod, ← Int.natCast_add]
      show Q (.int ((st : Int) + ((n : Int) - (st : Int)) % (p : Int))) H
      rw [e1]
      exact q
theorem sc_common_multiple : FnScope ["one", "other", "first", "second"] ["one", "other"] (defScope (topS 9)) := ⟨rfl, rfl, rfl, by decide +kernel, rfl, by decide +kernel, by decide +kernel⟩
theorem ok_mult {f : Addr} {fd : FuncData} {k : Nat} (F : Fun K "common_multiple" "common_multiple" (topS 9) f fd) (T : Bt mg) : FnOk P w K mg base CX0 (k + 1) f fd ["one", "other"] spMult := by
  refine F.ok sc_common_multiple (fun vs H Q E h => ?_) (fun cdv A outer s H vs Q E hr h => ?_)
  · obtain ⟨a, b, rfl, _⟩ := h
    rfl
  · obtain ⟨a, b, rfl, a0, b0, a1, b1, q⟩ := h
    refine ⟨_, (pss_cons (ps_par (i := 2) (j := 3) rfl sc_common_multiple.nd rfl rfl (by decide) rfl rfl (pa_cons (pv 0) (pa_cons (pv 1) pa_nil)) (by rfl))
  (pss_cons (ps_while PassesOwn.never (pt_cmpR op_ne (pv 3) pe_int (nomark _)) (pss_one (ps_par (i := 2) (j := 3) rfl sc_common_multiple.nd rfl rfl (by decide) rfl rfl (pa_cons (pv 3) (pa_cons (pe_op op_mod (pe_callTy call_int1 (by rfl) T.m_int (by decide +kernel) (pa_cons (pv 2) pa_nil)) (pv 3)) pa_nil)) (by rfl))))
  (pss_one (ps_ret (pe_op op_mul (pe_op op_fdiv (pv 0) (pv 2)) (pv 1)))))), ?_⟩
    refine ⟨_, rfl, _, rfl, _, _, rfl, ?_⟩
    refine ⟨fun m σ H1 => H1 = H ∧ ∃ f : Nat, 0 < f ∧ f ≤ 1000 ∧ m ≤ 1000 ∧ Nat.gcd f m = Nat.gcd a b ∧ σ = [some (.int a), some (.int b), some (.int f), some (.int m)], ⟨b, rfl, a, a0, a1, b1, rfl, rfl⟩, fun m σ H1 hW => ?_⟩
    obtain ⟨rfl, f, f0, f1, m1, hg, rfl⟩ := hW
    refine ⟨_, rfl, rfl, _, rfl, ?_⟩
    rw [show decide (V.int (m : Int) = V.int 0) = decide (m = 0) from dNat m 0]
    by_cases hm : m = 0
    · subst hm
      refine iteF ⟨_, rfl, _, rfl, _, _, rfl, rfl, ⟨by omega, by omega⟩, _, rfl, _, _, rfl, rfl, .inr ⟨by omega, by omega⟩, ?_⟩
      rw [Nat.gcd_zero_right] at hg
      have e1 : ((a : Int) / (f : Int) * (b : Int)) = ((Nat.lcm a b : Nat) : Int) := by
        rw [hg]
        unfold Nat.lcm
        rw [← Nat.div_mul_right_comm (Nat.gcd_dvd_left a b) b, Int.natCast_mul, Int.natCast_ediv]
      show Q (.int ((a : Int) / (f : Int) * (b : Int))) H1
      rw [e1]
      exact q
    · rw [decide_eq_false hm]
      refine iteT ⟨fun σ' H' => ∃ m', m' < m ∧ H' = H1 ∧ ∃ f : Nat, 0 < f ∧ f ≤ 1000 ∧ m' ≤ 1000 ∧ Nat.gcd f m' = Nat.gcd a b ∧ σ' = [some (.int a), some (.int b), some (.int f), some (.int m')], fun σ' H' h => h, ?_⟩
      refine ⟨_, rfl, _, rfl, .inl ⟨_, rfl, _, rfl, _, _, rfl, rfl, by show (0 : Int) < (m : Int); omega, _, _, rfl, ?_⟩⟩
      have hlt : f % m < m := Nat.mod_lt _ (by omega)
      refine ⟨f % m, hlt, rfl, m, by omega, m1, by omega, ?_, ?_⟩
      · rw [← hg, Nat.gcd_comm f m, Nat.gcd_comm m (f % m)]
        exact (Nat.gcd_rec m f).symm
      · show [some (V.int a), some (V.int b), some (V.int m), some (V.int ((f : Int) % (m : Int)))] = _
        rw [← Int.natCast_emod]
theorem sc_widened : FnScope ["rows", "starts", "periods", "more", "others", "places", "number", "found", "place", "row"] ["rows", "starts", "periods", "more", "others"] (defScope (topS 18)) := ⟨rfl, rfl, rfl, by decide +kernel, rfl, by decide +kernel, by decide +kernel⟩
theorem ok_wid {f fP : Addr} {fd fdP : FuncData} {k : Nat} (F : Fun K "widened" "widened" (topS 18) f fd) (T : Bt mg) (FP : Fun K "place_of" "place_of" (topS 17) fP fdP) (bP : Binds K fdP ["number", "start", "period"] []) (gP : mg "place_of" = some (.ref fP)) :
    FnOk P w K mg base CX0 (k + 2) f fd ["rows", "starts", "periods", "more", "others"] (spWid K) := by
  have GP : FnOk P w K mg base CX0 (k + 1) fP fdP ["number", "start", "period"] spPlace := ok_place FP T
  refine F.ok sc_widened (fun vs H Q E h => ?_) (fun cdv A outer s H vs Q E hr h => ?_)
  · obtain ⟨ar, as, ap, am, ao, t, m0, m1, o0, o1, rfl, _⟩ := h
    rfl
  · obtain ⟨ar, as, ap, am, ao, t, m0, m1, o0, o1, rfl, hr0, hs0, hp0, hm0, ho0, O, l0, l1, l2, l3, q⟩ := h
    refine ⟨_, (pss_cons (ps_set (i := 5) sc_widened.nd rfl (by first | exact Or.inl rfl | exact Or.inr rfl) (pe_lc (own := [("number", 6)]) (g := (gName 6)) (tt := tYes) rfl sc_widened.nd (pi_range1 (by rfl) T.m_range (pa_cons (pe_op op_add (pe_ix (ixQK (K := K) rfl) (pv 3) pe_int (fun _ _ => rfl)) (pe_ix (ixQK (K := K) rfl) (pv 4) pe_int (fun _ _ => rfl))) pa_nil)) (blkOk_by (own := [("number", 6)]) (N := ["rows", "starts", "periods", "more", "others", "places", "number", "found", "place", "row"]) (sc := defScope (topS 18)) (by decide +kernel)) (fun _ _ _ _ _ => (pg_name (i := 6) sc_widened.nd rfl (by first | exact Or.inl rfl | exact Or.inr rfl))) (fun _ _ _ _ _ => pts_nil) (fun _ _ _ _ _ => (pe_call GP hr (by rfl) gP FP.kp bP .nil pass0 (pa_cons (pv 6) (pa_cons (pe_ix (ixQK (K := K) rfl) (pv 1) pe_int (fun _ _ => rfl)) (pa_cons (pe_ix (ixQK (K := K) rfl) (pv 2) pe_int (fun _ _ => rfl)) pa_nil)))))))
  (pss_cons (ps_set (i := 7) sc_widened.nd rfl (by first | exact Or.inl rfl | exact Or.inr rfl) (pe_lc (own := [("row", 9)]) (g := (gName 9)) (tt := tYes) rfl sc_widened.nd (piSK (K := K) rfl (pv 0)) (blkOk_by (own := [("row", 9)]) (N := ["rows", "starts", "periods", "more", "others", "places", "number", "found", "place", "row"]) (sc := defScope (topS 18)) (by decide +kernel)) (fun _ _ _ _ _ => (pg_name (i := 9) sc_widened.nd rfl (by first | exact Or.inl rfl | exact Or.inr rfl))) (fun _ _ _ _ _ => pts_nil) (fun _ _ _ _ _ => (pe_joinK (K := K) rfl pe_str (pe_lc (own := [("place", 8)]) (g := (gName 8)) (tt := tYes) rfl sc_widened.nd (piLK (K := K) rfl (pv 5)) (blkOk_by (own := [("place", 8)]) (N := ["rows", "starts", "periods", "more", "others", "places", "number", "found", "place", "row"]) (by kernel_rfl)) (fun _ _ _ _ _ => (pg_name (i := 8) sc_widened.nd rfl (by first | exact Or.inl rfl | exact Or.inr rfl))) (fun _ _ _ _ _ => pts_nil) (fun _ _ _ _ _ => (pe_ix ix_str (pv 9) (pv 8) (fun _ _ => rfl))))))))
  (pss_one (ps_ret (pe_lc (own := [("number", 6)]) (g := (gName 6)) (tt := tYes) rfl sc_widened.nd (pi_range1 (by rfl) T.m_range (pa_cons (pe_op op_add (pe_ix (ixQK (K := K) rfl) (pv 3) pe_int (fun _ _ => rfl)) (pe_ix (ixQK (K := K) rfl) (pv 4) pe_int (fun _ _ => rfl))) pa_nil)) (blkOk_by (own := [("number", 6)]) (N := ["rows", "starts", "periods", "more", "others", "places", "number", "found", "place", "row"]) (sc := defScope (topS 18)) (by decide +kernel)) (fun _ _ _ _ _ => (pg_name (i := 6) sc_widened.nd rfl (by first | exact Or.inl rfl | exact Or.inr rfl))) (fun _ _ _ _ _ => pts_nil) (fun _ _ _ _ _ => (pe_ix (ixLK (K := K) rfl) (pv 7) (pe_call GP hr (by rfl) gP FP.kp bP .nil pass0 (pa_cons (pv 6) (pa_cons (pe_ix (ixQK (K := K) rfl) (pv 1) pe_int (fun _ _ => rfl)) (pa_cons (pe_ix (ixQK (K := K) rfl) (pv 2) pe_int (fun _ _ => rfl)) pa_nil)))) (fun _ _ => rfl)))))))), ?_⟩
    have h0 := O.h0
    have h1 := O.h1
    -- places
    refine ⟨_, rfl, am, _, 1, _, rfl, rfl, hm0, atI_nat (j := 1) rfl, _, rfl, ao, _, 1, _, rfl, rfl, ho0, atI_nat (j := 1) rfl, _, _, rfl, rfl, (m1 : Int) + o1, rfl, by omega, by omega, fun D1 nD1 => ?_⟩
    rw [show ((m1 : Int) + (o1 : Int)).toNat = m1 + o1 by omega]
    refine lc_fmR nD1 (by omega) (fun i => some (.int (spot i t.s1 t.p1 : Nat))) (fun i H1 Nx hi s1 tk nt => ?_) (fun H1 s1 hD1 => ?_)
    · refine ⟨rfl, _, rfl, _, rfl, as, _, 1, _, rfl, rfl, hs0.same s1, atI_nat (j := 1) rfl, _, rfl, ap, _, 1, _, rfl, rfl, hp0.same s1, atI_nat (j := 1) rfl, i, t.s1, t.p1, ?_, h1, tk _ _ (fun _ _ q => q) rfl⟩
      rw [show (0 : Int) + (i : Int) = (i : Int) by omega]
      rfl
    have e1 : (List.range (m1 + o1)).filterMap (fun i => some (V.int (spot i t.s1 t.p1 : Nat))) = ((List.range (m1 + o1)).map fun i => spot i t.s1 t.p1).map fun (n : Nat) => V.int (n : Int) := by
      rw [List.filterMap_eq_map', List.map_map]; rfl
    rw [e1] at hD1
    -- the rows, looked up
    dsimp only [gName, tSeq]
    refine lc_seqV (k := 0) (by rfl) (sq_same s1 hr0) (by rw [List.length_map, O.len]; omega) (fun x => match x with | .str z => some (.str (rowAt z t.s1 t.p1 (m1 + o1))) | _ => none) (fun D2 i x H2 Nx nD2 hx s2 tk nt => ?_) (fun D2 H2 nD2 s2 hD2 => ?_)
    · obtain ⟨z, hz, rfl⟩ := List.mem_map.mp (List.mem_of_getElem? hx)
      have zl := (O.row z hz).1
      refine ⟨rfl, ⟨_, rfl⟩, _, rfl, D1, rfl, ⟨_, SqL.of (s2 _ _ hD1)⟩, fun D3 nD3 => lc_fmL nD3 (SqL.of (s2 _ _ hD1)) (by rw [List.length_map, List.length_map, List.length_range]; omega) (fun v => match v with | .int j => some (.str ⟨#[chAt z j.toNat]⟩) | _ => none) (fun j v H3 Nx3 hv s3 tk3 nt3 => ?_) (fun H3 s3 hD3 => ?_)⟩
      · obtain ⟨n, hn, rfl⟩ := List.mem_map.mp (List.mem_of_getElem? hv)
        obtain ⟨i', hi', rfl⟩ := List.mem_map.mp hn
        have hlt : spot i' t.s1 t.p1 < z.cps.size := by
          have := spot_lt (n := i') (s := t.s1) h1
          rw [← zl] at this
          exact this
        refine ⟨rfl, _, rfl, _, rfl, z, _, chAt z (spot i' t.s1 t.p1), rfl, rfl, ?_, ?_, tk3 _ _ (fun _ _ q => q) rfl⟩
        · rw [zl]; exact Nat.le_trans l1 (by decide)
        · refine atI_nat ?_
          rw [Array.getElem?_toList]
          unfold chAt
          rw [Array.getD_eq_getD_getElem?, Array.getElem?_eq_getElem hlt]
          rfl
      · have e3 : (((List.range (m1 + o1)).map fun i => spot i t.s1 t.p1).map fun (n : Nat) => V.int (n : Int)).filterMap (fun v => match v with | .int j => some (V.str ⟨#[chAt z j.toNat]⟩) | _ => none) = (ones ((List.range (m1 + o1)).map fun i => chAt z (spot i t.s1 t.p1))).map V.str := by
          unfold ones
          rw [List.map_map, List.map_map, List.map_map]
          generalize List.range (m1 + o1) = l
          induction l with
          | nil => rfl
          | cons a r ih => rw [List.map_cons, List.filterMap_cons, List.map_cons, ih]; rfl
        rw [e3] at hD3
        refine ⟨_, D3, _, rfl, rfl, .inl (SqL.of hD3), ?_, tk _ _ s3 rfl⟩
        rw [sum_ones, ones_len, List.length_map, List.length_range]
        show (m1 + o1) + (m1 + o1) * 0 ≤ 16777216
        omega
    have e2 : (t.rows.map V.str).filterMap (fun x => match x with | .str z => some (V.str (rowAt z t.s1 t.p1 (m1 + o1))) | _ => none) = (t.rows.map fun z => rowAt z t.s1 t.p1 (m1 + o1)).map V.str := by
      generalize t.rows = l
      induction l with
      | nil => rfl
      | cons a r ih => rw [List.map_cons, List.filterMap_cons, List.map_cons, ih]; rfl
    rw [e2] at hD2
    -- the places of the rows
    have s02 := s1.trans s2
    dsimp only [gName, tRet]
    refine ⟨_, rfl, am, _, 0, _, rfl, rfl, hm0.same s02, atI_nat (j := 0) rfl, _, rfl, ao, _, 0, _, rfl, rfl, ho0.same s02, atI_nat (j := 0) rfl, _, _, rfl, rfl, (m0 : Int) + o0, rfl, by omega, by omega, fun D4 nD4 => ?_⟩
    rw [show ((m0 : Int) + (o0 : Int)).toNat = m0 + o0 by omega]
    refine lc_fmR nD4 (by omega) (fun i => some (.str (rowAt (t.row i) t.s1 t.p1 (m1 + o1)))) (fun i H3 Nx hi s3 tk nt => ?_) (fun H3 s3 hD4 => ?_)
    · have s03 := s02.trans s3
      refine ⟨rfl, _, rfl, _, rfl, _, rfl, as, _, 0, _, rfl, rfl, hs0.same s03, atI_nat (j := 0) rfl, _, rfl, ap, _, 0, _, rfl, rfl, hp0.same s03, atI_nat (j := 0) rfl, i, t.s0, t.p0, ?_, h0, ?_⟩
      · rw [show (0 : Int) + (i : Int) = (i : Int) by omega]
        rfl
      refine ⟨D2, _, _, .str (rowAt (t.row i) t.s1 t.p1 (m1 + o1)), rfl, rfl, SqL.of (s3 _ _ hD2), atI_nat ?_, tk _ _ (fun _ _ q => q) rfl⟩
      rw [List.getElem?_map, List.getElem?_map, (t.row_mem O i).1]
      rfl
    refine q D4 H3 (s02.trans s3) (s02.free nD4) ?_
    rw [hD4]
    unfold canR
    rw [List.filterMap_eq_map', List.map_map]
    congr 2
    refine List.map_congr_left fun i _ => ?_
    show V.str (rowAt (t.row i) t.s1 t.p1 (m1 + o1)) = V.str _
    rw [rowAt_sgn h1 (t.row_ok O i).1 (t.row_ok O i).2]
    rfl
theorem sc_signs_of : FnScope ["some", "others", "signs", "one", "two", "row", "other"] ["some", "others", "signs"] (defScope (topS 20)) := ⟨rfl, rfl, rfl, by decide +kernel, rfl, by decide +kernel, by decide +kernel⟩
theorem ok_sof {f : Addr} {fd : FuncData} {k : Nat} {t1 : Tok} (F : Fun K "signs_of" "signs_of" (topS 20) f fd) (T : Bt mg) (gIN : mg "IN" = some (.str "+" t1)) : FnOk P w K mg base CX0 (k + 1) f fd ["some", "others", "signs"] (spSof K) := by
  refine F.ok sc_signs_of (fun vs H Q E h => ?_) (fun cdv A outer s H vs Q E hr h => ?_)
  · obtain ⟨a, b, f, g, tall, wide, q, rfl, _⟩ := h
    rfl
  · obtain ⟨a, b, f, g, tall, wide, q4, rfl, hab, ht, hw, q⟩ := h
    refine ⟨_, (pss_one (ps_ret (pe_lc (own := [("row", 5), ("other", 6)]) (g := (gTup K 2 (gCons (gName 5) (gCons (gName 6) gNil)))) (tt := tYes) rfl sc_signs_of.nd (RZ.pi_zipA (by rfl) T.m_zip (pa_cons (pv 0) (pa_cons (pv 1) pa_nil))) (blkOk_by (own := [("row", 5), ("other", 6)]) (N := ["some", "others", "signs", "one", "two", "row", "other"]) (sc := defScope (topS 20)) (by decide +kernel)) (fun _ _ _ _ _ => (pg_tup rfl (pgs_cons (pg_name (i := 5) sc_signs_of.nd rfl (by first | exact Or.inl rfl | exact Or.inr rfl)) (pgs_cons (pg_name (i := 6) sc_signs_of.nd rfl (by first | exact Or.inl rfl | exact Or.inr rfl)) pgs_nil)))) (fun _ _ _ _ _ => pts_nil) (fun _ _ _ _ _ => (pe_joinK (K := K) rfl pe_str (pe_lc (own := [("one", 3), ("two", 4)]) (g := (gTup K 2 (gCons (gName 3) (gCons (gName 4) gNil)))) (tt := tYes) rfl sc_signs_of.nd (pi_zip2S (by rfl) T.m_zip (pa_cons (pv 5) (pa_cons (pv 6) pa_nil))) (blkOk_by (own := [("one", 3), ("two", 4)]) (N := ["some", "others", "signs", "one", "two", "row", "other"]) (by kernel_rfl)) (fun _ _ _ _ _ => (pg_tup rfl (pgs_cons (pg_name (i := 3) sc_signs_of.nd rfl (by first | exact Or.inl rfl | exact Or.inr rfl)) (pgs_cons (pg_name (i := 4) sc_signs_of.nd rfl (by first | exact Or.inl rfl | exact Or.inr rfl)) pgs_nil)))) (fun _ _ _ _ _ => pts_nil) (fun _ _ _ _ _ => (pe_ix ix_str (pv 2) (pe_op op_add (pe_op op_mul pe_int (pe_callTy call_int1 (by rfl) T.m_int (by decide +kernel) (pa_cons (pe_cmpR op_eq (pv 3) (pe_glob (v := .str "+") (by rfl) gIN ⟨_, rfl⟩) (nomark _)) pa_nil))) (pe_callTy call_int1 (by rfl) T.m_int (by decide +kernel) (pa_cons (pe_cmpR op_eq (pv 4) (pe_glob (v := .str "+") (by rfl) gIN ⟨_, rfl⟩) (nomark _)) pa_nil))) (fun _ _ => rfl))))))))), ?_⟩
    let oo : V → V → Option V := fun x y => match x, y with | .str x, .str y => some (.str (Txt.join (Str.ofString "") (ones ((List.range wide).map fun i => if q4 (inB x i) (inB y i) = true then 43 else 45)))) | _, _ => none
    have ll : ((canR f tall wide).map V.str).length = ((canR g tall wide).map V.str).length := by rw [List.length_map, List.length_map, len_canR, len_canR]
    have hz : ((canR f tall wide).map V.str).length < 100000 := by rw [List.length_map, len_canR]; omega
    have fin : ∀ (D : Addr) (H1 : Hp), H D = none → Same H H1 → H1 D = some (.lst ((((canR f tall wide).map V.str).zip ((canR g tall wide).map V.str)).filterMap fun p => oo p.1 p.2)) → Q (.ref D) H1 := by
      intro D H1 nD s1 hD
      refine q D H1 s1 nD ?_
      rw [hD]
      congr 2
      have e0 : ∀ l : List Nat, (((l.map fun k => sgnS ((List.range wide).map fun l => f k l)).map V.str).zip ((l.map fun k => sgnS ((List.range wide).map fun l => g k l)).map V.str)).filterMap (fun p => oo p.1 p.2) = (l.map fun k => sgnS ((List.range wide).map fun l => q4 (f k l) (g k l))).map V.str := fun l => by
        induction l with
        | nil => rfl
        | cons k r ih =>
          rw [List.map_cons, List.map_cons, List.map_cons, List.map_cons, List.zip_cons_cons, List.filterMap_cons, List.map_cons, List.map_cons, ih]
          show V.str _ :: _ = V.str _ :: _
          congr 2
          refine str_tl ?_
          rw [join_ones, tl_sgn, List.map_map]
          refine List.map_congr_left fun i hi => ?_
          have hi := List.mem_range.mp hi
          rw [in_sgn, in_sgn, List.getD_eq_getElem?_getD, List.getD_eq_getElem?_getD, List.getElem?_map, List.getElem?_map, List.getElem?_range hi]
          rfl
      exact e0 (List.range tall)
    have shape : ∀ (i : Nat) (x y : V), ((canR f tall wide).map V.str)[i]? = some x → ((canR g tall wide).map V.str)[i]? = some y → ∃ x1 y1 : Str, x = .str x1 ∧ y = .str y1 ∧ x1.length = wide ∧ y1.length = wide := by
      intro i x y hx hy
      rw [List.getElem?_map] at hx hy
      have hi : i < tall := by
        by_cases z : i < tall
        · exact z
        · rw [List.getElem?_eq_none (by rw [len_canR]; omega)] at hx; cases hx
      rw [canR_get f hi] at hx
      rw [canR_get g hi] at hy
      cases hx; cases hy
      exact ⟨_, _, rfl, rfl, by rw [len_sgn, List.length_map, List.length_range], by rw [len_sgn, List.length_map, List.length_range]⟩
    refine ⟨_, rfl, _, rfl, a, b, (canR f tall wide).map V.str, (canR g tall wide).map V.str, rfl, ?_⟩
    rcases hab with ⟨ha, hb⟩ | ⟨ha, hb⟩
    · refine .inl ⟨ha, hb, fun D nD => lc_zip2L nD ha hb ll hz oo (fun i x y Tp H1 Nx hx hy s1 nT tk nt => ?_) (fun H1 s1 hD => fin D H1 nD s1 hD)⟩
      obtain ⟨x1, y1, rfl, rfl, lx, ly⟩ := shape i x y hx hy
      refine ⟨Tp, _, rfl, SqT.of upd_same, rfl, _, _, rfl, _, _, rfl, rfl, rfl, ⟨_, rfl⟩, _, rfl, _, rfl, x1, y1, wide, rfl, lx, ly, fun D3 nD3 => lc_zipS nD3 (by omega) (fun i => some (.str ⟨#[if q4 (inB x1 i) (inB y1 i) = true then 43 else 45]⟩)) (fun j T3 H3 Nx3 hj s3 nT3 tk3 nt3 => ?_) (fun H3 s3 hD3 => ?_)⟩
      · refine ⟨T3, _, rfl, SqT.of upd_same, rfl, _, _, rfl, _, _, rfl, rfl, rfl, _, rfl, _, rfl, rfl, .inr ⟨_, rfl, _, _, rfl, rfl, .inl ⟨by decide, by decide⟩, _, rfl, rfl, .inr ⟨_, rfl, _, _, rfl, rfl, pick4 q4, _, (if q4 (inB x1 j) (inB y1 j) = true then 43 else 45), rfl, rfl, ?_, ?_, tk3 _ _ (same_new nT3) rfl⟩⟩⟩
        · show (4 : Nat) ≤ sizeLine; decide
        · rw [sgEq, sgEq]
          exact at_pick4 q4 _ _
      · have e3 : (List.range wide).filterMap (fun i => some (V.str ⟨#[if q4 (inB x1 i) (inB y1 i) = true then 43 else 45]⟩)) = (ones ((List.range wide).map fun i => if q4 (inB x1 i) (inB y1 i) = true then 43 else 45)).map V.str := by
          unfold ones
          rw [List.filterMap_eq_map', List.map_map, List.map_map]; rfl
        rw [e3] at hD3
        refine ⟨_, D3, _, rfl, rfl, .inl (SqL.of hD3), ?_, tk _ _ ((same_new nT).trans s3) rfl⟩
        rw [sum_ones, ones_len, List.length_map, List.length_range]
        show wide + wide * 0 ≤ 16777216
        omega
    · refine .inr ⟨ha, hb, fun D nD => lc_zip2T nD ha hb ll hz oo (fun i x y Tp H1 Nx hx hy s1 nT tk nt => ?_) (fun H1 s1 hD => fin D H1 nD s1 hD)⟩
      obtain ⟨x1, y1, rfl, rfl, lx, ly⟩ := shape i x y hx hy
      refine ⟨Tp, _, rfl, SqT.of upd_same, rfl, _, _, rfl, _, _, rfl, rfl, rfl, ⟨_, rfl⟩, _, rfl, _, rfl, x1, y1, wide, rfl, lx, ly, fun D3 nD3 => lc_zipS nD3 (by omega) (fun i => some (.str ⟨#[if q4 (inB x1 i) (inB y1 i) = true then 43 else 45]⟩)) (fun j T3 H3 Nx3 hj s3 nT3 tk3 nt3 => ?_) (fun H3 s3 hD3 => ?_)⟩
      · refine ⟨T3, _, rfl, SqT.of upd_same, rfl, _, _, rfl, _, _, rfl, rfl, rfl, _, rfl, _, rfl, rfl, .inr ⟨_, rfl, _, _, rfl, rfl, .inl ⟨by decide, by decide⟩, _, rfl, rfl, .inr ⟨_, rfl, _, _, rfl, rfl, pick4 q4, _, (if q4 (inB x1 j) (inB y1 j) = true then 43 else 45), rfl, rfl, ?_, ?_, tk3 _ _ (same_new nT3) rfl⟩⟩⟩
        · show (4 : Nat) ≤ sizeLine; decide
        · rw [sgEq, sgEq]
          exact at_pick4 q4 _ _
      · have e3 : (List.range wide).filterMap (fun i => some (V.str ⟨#[if q4 (inB x1 i) (inB y1 i) = true then 43 else 45]⟩)) = (ones ((List.range wide).map fun i => if q4 (inB x1 i) (inB y1 i) = true then 43 else 45)).map V.str := by
          unfold ones
          rw [List.filterMap_eq_map', List.map_map, List.map_map]; rfl
        rw [e3] at hD3
        refine ⟨_, D3, _, rfl, rfl, .inl (SqL.of hD3), ?_, tk _ _ ((same_new nT).trans s3) rfl⟩
        rw [sum_ones, ones_len, List.length_map, List.length_range]
        show wide + wide * 0 ≤ 16777216
        omega
end
end FH

set_option Elab.async false
set_option linter.all false
set_option maxRecDepth 100000
set_option maxHeartbeats 1000000
namespace FH
open PySem L2
local macro_rules | `(tactic| walk_at "seq") => `(tactic| first | assumption | exact SqL.of (by assumption) | exact SqT.of (by assumption) | exact SqL.of upd_same | exact SqT.of upd_same)
local macro_rules | `(tactic| walk_at "at") => `(tactic| first | exact atI_nat (j := 0) rfl | exact atI_nat (j := 1) rfl | exact atI_nat (j := 2) rfl | exact atI_nat (by assumption) | assumption)
local macro_rules | `(tactic| walk_at "ar") => `(tactic| first | omega | exact ⟨by omega, by omega⟩ | exact Or.inl ⟨by omega, by omega⟩ | exact Or.inr ⟨by omega, by omega⟩ | exact ⟨by decide, by decide⟩ | exact Or.inr ⟨by decide, by decide⟩ | exact Or.inl ⟨by decide, by decide⟩ | exact ⟨by decide, by decide, by omega⟩ | exact ⟨by decide, by decide, by decide⟩)
local macro_rules | `(tactic| walk_at "r") => `(tactic| repeat (first
  | refine ⟨_, rfl, ?_⟩
  | refine ⟨_, _, rfl, rfl, ?_⟩
  | refine ⟨_, _, _, _, rfl, rfl, by walk_at "seq", by walk_at "at", ?_⟩
  | refine ⟨_, _, _, _, rfl, rfl, by assumption, rfl, ?_⟩
  | refine ⟨_, _, rfl, Or.inl (by walk_at "seq"), ?_⟩
  | refine Or.inl ⟨_, rfl, ?_⟩
  | refine Or.inr ⟨_, rfl, ?_⟩
  | refine And.intro (by walk_at "ar") ?_))
open Pr
/-- a table of the law's own, at a -/
def TbAt (H : Hp) (a : Addr) (t : Tb) : Prop := ∃ ts tp tr : Addr, H a = some (.tup [.ref ts, .ref tp, .ref tr]) ∧ H ts = some (.tup [.int t.s0, .int t.s1]) ∧ H tp = some (.tup [.int t.p0, .int t.p1]) ∧ H tr = some (.lst (t.rows.map V.str))
theorem TbAt.same {H H' : Hp} {a : Addr} {t : Tb} (s : Same H H') (h : TbAt H a t) : TbAt H' a t := by
  obtain ⟨ts, tp, tr, h1, h2, h3, h4⟩ := h
  exact ⟨ts, tp, tr, s _ _ h1, s _ _ h2, s _ _ h3, s _ _ h4⟩
/-- .. whatever becomes of the deal -/
def TbS (d c : Addr) (H : Hp) (a : Addr) (t : Tb) : Prop := ∀ H', Xt d c H H' → TbAt H' a t
theorem TbS.now {d c : Addr} {H : Hp} {a : Addr} {t : Tb} (h : TbS d c H a t) : TbAt H a t := h H (Xt.refl _ _ _)
theorem TbS.xt {d c : Addr} {H H' : Hp} {a : Addr} {t : Tb} (h : TbS d c H a t) (x : Xt d c H H') : TbS d c H' a t := fun H2 y => h H2 (x.trans y)
theorem TbS.same {d c : Addr} {H H' : Hp} {a : Addr} {t : Tb} (h : TbS d c H a t) (s : Same H H') : TbS d c H' a t := h.xt (Xt.of s)
theorem tbS_of {d c : Addr} {H : Hp} {a ts tp tr : Addr} {t : Tb} (hb : BoxAt H d c) (h1 : H a = some (.tup [.ref ts, .ref tp, .ref tr])) (h2 : H ts = some (.tup [.int t.s0, .int t.s1])) (h3 : H tp = some (.tup [.int t.p0, .int t.p1])) (h4 : H tr = some (.lst (t.rows.map V.str))) (n1 : tr ≠ d) (n2 : tr ≠ c) : TbS d c H a t := by
  have nTup : ∀ {z : Addr} {xs : List V}, H z = some (.tup xs) → z ≠ d ∧ z ≠ c := fun hz => by
    obtain ⟨ns, m, e1, e2, _⟩ := hb
    exact ⟨ne_of hz e1 (by intro z; cases z), ne_of hz e2 (by intro z; cases z)⟩
  exact fun H' x => ⟨ts, tp, tr, x _ _ (nTup h1).1 (nTup h1).2 h1, x _ _ (nTup h2).1 (nTup h2).2 h2, x _ _ (nTup h3).1 (nTup h3).2 h3, x _ _ n1 n2 h4⟩
def spSpot : Sp := fun vs H Q _ => ∃ n s p : Nat, vs = [.int n, .int s, .int p] ∧ 0 < p ∧ Q (.int (spot n s p : Nat)) H
def spHas : Sp := fun vs H Q _ => ∃ (a : Addr) (k l : Nat) (t : Tb), vs = [.ref a, .int k, .int l] ∧ TbAt H a t ∧ t.Ok ∧ t.s1 + t.p1 ≤ 1000 ∧ Q (.bl (t.has k l)) H
theorem chEq (x : Str) (i : Nat) : decide (V.str ⟨#[chAt x i]⟩ = V.str (Str.ofString "+")) = inB x i := by
  have e : Str.ofString "+" = ⟨#[43]⟩ := by decide +kernel
  rw [e, dStr]
  unfold inB
  by_cases h : chAt x i = 43
  · rw [h]; simp
  · rw [decide_eq_false h]
    exact decide_eq_false fun z => h (by simpa using congrArg Str.cps z)
section
variable {P : Program} {w : World} {K : PySem.W.Frag} {mg : Str → Option Value} {base : Heap}
theorem sc__law_spot : FnScope ["_law_number", "_law_start", "_law_period"] ["_law_number", "_law_start", "_law_period"] (defScope (topS 31)) := ⟨rfl, rfl, rfl, by decide +kernel, rfl, by decide +kernel, by decide +kernel⟩
theorem ok_spot {f : Addr} {fd : FuncData} {k : Nat} (F : Fun K "_law_spot" "_law_spot" (topS 31) f fd) (T : Bt mg) : FnOk P w K mg base CX0 (k + 1) f fd ["_law_number", "_law_start", "_law_period"] spSpot := by
  refine F.ok sc__law_spot (fun vs H Q E h => ?_) (fun cdv A outer s H vs Q E hr h => ?_)
  · obtain ⟨n, s, p, rfl, _⟩ := h
    rfl
  · obtain ⟨n, st, p, rfl, hp, q⟩ := h
    refine ⟨_, (pss_one (ps_ret (pe_ifExp (pt_cmpR op_lt (pv 0) (pv 1) (nomark _)) (pv 0) (pe_op op_add (pv 1) (pe_op op_mod (pe_callTy call_int1 (by rfl) T.m_int (by decide +kernel) (pa_cons (pe_op op_sub (pv 0) (pv 1)) pa_nil)) (pv 2)))))), ?_⟩
    refine ⟨_, rfl, _, rfl, _, _, rfl, rfl, _, rfl, ite2 (fun e => ?_) (fun e => ?_)⟩
    · refine ⟨_, rfl, ?_⟩
      have := of_decide_eq_true e
      have e1 : spot n st p = n := by unfold spot; rw [if_pos (by omega)]
      rw [e1] at q
      exact q
    · refine ⟨_, rfl, _, rfl, _, rfl, _, _, rfl, rfl, .inl ⟨_, rfl, _, rfl, _, _, rfl, rfl, by show (0 : Int) < (p : Int); omega, _, _, rfl, rfl, ?_⟩⟩
      have hn : ¬ n < st := fun z => e (decide_eq_true (by omega))
      have : (spot n st p : Nat) = st + (n - st) % p := by unfold spot; rw [if_neg hn]
      rw [this] at q
      have e1 : ((st : Int) + ((n : Int) - (st : Int)) % (p : Int)) = ((st + (n - st) % p : Nat) : Int) := by
        rw [show (n : Int) - (st : Int) = ((n - st : Nat) : Int) by omega, ← Int.natCast_emod, ← Int.natCast_add]
      show Q (.int ((st : Int) + ((n : Int) - (st : Int)) % (p : Int))) H
      rw [e1]
      exact q
theorem sc__law_has : FnScope ["_law_table_here", "_law_k", "_law_l", "_law_starts", "_law_periods", "_law_rows"] ["_law_table_here", "_law_k", "_law_l"] (defScope (topS 32)) := ⟨rfl, rfl, rfl, by decide +kernel, rfl, by decide +kernel, by decide +kernel⟩
theorem ok_has {f fS : Addr} {fd fdS : FuncData} {k : Nat} (F : Fun K "_law_has" "_law_has" (topS 32) f fd) (T : Bt mg) (FS : Fun K "_law_spot" "_law_spot" (topS 31) fS fdS) (bS : Binds K fdS ["_law_number", "_law_start", "_law_period"] []) (gS : mg "_law_spot" = some (.ref fS)) :
    FnOk P w K mg base CX0 (k + 2) f fd ["_law_table_here", "_law_k", "_law_l"] spHas := by
  have GS : FnOk P w K mg base CX0 (k + 1) fS fdS ["_law_number", "_law_start", "_law_period"] spSpot := ok_spot FS T
  refine F.ok sc__law_has (fun vs H Q E h => ?_) (fun cdv A outer s H vs Q E hr h => ?_)
  · obtain ⟨a, k, l, t, rfl, _⟩ := h
    rfl
  · obtain ⟨a, k, l, t, rfl, ht, O, hw, q⟩ := h
    refine ⟨_, (pss_cons (ps_asg (pv 0) (pg_tup rfl (pgs_cons (pg_name (i := 3) sc__law_has.nd rfl (by first | exact Or.inl rfl | exact Or.inr rfl)) (pgs_cons (pg_name (i := 4) sc__law_has.nd rfl (by first | exact Or.inl rfl | exact Or.inr rfl)) (pgs_cons (pg_name (i := 5) sc__law_has.nd rfl (by first | exact Or.inl rfl | exact Or.inr rfl)) pgs_nil)))))
  (pss_one (ps_ret (pe_cmpR op_eq (pe_ix ix_str (pe_ix (ixLK (K := K) rfl) (pv 5) (pe_call GS hr (by rfl) gS FS.kp bS .nil pass0 (pa_cons (pv 1) (pa_cons (pe_ix (ixTK (K := K) rfl) (pv 3) pe_int (fun _ _ => rfl)) (pa_cons (pe_ix (ixTK (K := K) rfl) (pv 4) pe_int (fun _ _ => rfl)) pa_nil)))) (fun _ _ => rfl)) (pe_call GS hr (by rfl) gS FS.kp bS .nil pass0 (pa_cons (pv 2) (pa_cons (pe_ix (ixTK (K := K) rfl) (pv 3) pe_int (fun _ _ => rfl)) (pa_cons (pe_ix (ixTK (K := K) rfl) (pv 4) pe_int (fun _ _ => rfl)) pa_nil)))) (fun _ _ => rfl)) pe_str (nomark _))))), ?_⟩
    obtain ⟨ts, tp, tr, h1, h2, h3, h4⟩ := ht
    refine ⟨_, rfl, a, _, rfl, SqT.of h1, rfl, _, _, rfl, _, _, rfl, _, _, rfl, rfl, ?_⟩
    refine ⟨_, rfl, _, rfl, _, rfl, ts, _, 0, _, rfl, rfl, SqT.of h2, atI_nat (j := 0) rfl, _, rfl, tp, _, 0, _, rfl, rfl, SqT.of h3, atI_nat (j := 0) rfl, k, t.s0, t.p0, rfl, O.h0, ?_⟩
    refine ⟨tr, _, _, .str (t.row k), rfl, rfl, SqL.of h4, atI_nat (by rw [List.getElem?_map, (t.row_mem O k).1]; rfl), ?_⟩
    refine ⟨_, rfl, _, rfl, ts, _, 1, _, rfl, rfl, SqT.of h2, atI_nat (j := 1) rfl, _, rfl, tp, _, 1, _, rfl, rfl, SqT.of h3, atI_nat (j := 1) rfl, l, t.s1, t.p1, rfl, O.h1, ?_⟩
    have hl := (t.row_ok O k).1
    have hlt : spot l t.s1 t.p1 < (t.row k).cps.size := by
      have := spot_lt (n := l) (s := t.s1) O.h1
      rw [← hl] at this
      exact this
    refine ⟨t.row k, _, chAt (t.row k) (spot l t.s1 t.p1), rfl, rfl, by rw [hl]; exact Nat.le_trans hw (by decide), atI_nat ?_, rfl, ?_⟩
    · rw [Array.getElem?_toList]
      unfold chAt
      rw [Array.getD_eq_getD_getElem?, Array.getElem?_eq_getElem hlt]
      rfl
    · rw [chEq]
      exact q
end
end FH

set_option Elab.async false
set_option linter.all false
set_option maxRecDepth 100000
set_option maxHeartbeats 1000000
namespace FH
open PySem L2
local macro_rules | `(tactic| walk_at "seq") => `(tactic| first | assumption | exact SqL.of (by assumption) | exact SqT.of (by assumption) | exact SqL.of upd_same | exact SqT.of upd_same)
local macro_rules | `(tactic| walk_at "at") => `(tactic| first | exact atI_nat (j := 0) rfl | exact atI_nat (j := 1) rfl | exact atI_nat (j := 2) rfl | exact atI_nat (by assumption) | assumption)
local macro_rules | `(tactic| walk_at "ar") => `(tactic| first | omega | exact ⟨by omega, by omega⟩ | exact Or.inl ⟨by omega, by omega⟩ | exact Or.inr ⟨by omega, by omega⟩ | exact ⟨by decide, by decide⟩ | exact Or.inr ⟨by decide, by decide⟩ | exact Or.inl ⟨by decide, by decide⟩ | exact ⟨by decide, by decide, by omega⟩ | exact ⟨by decide, by decide, by decide⟩)
local macro_rules | `(tactic| walk_at "r") => `(tactic| repeat (first
  | refine ⟨_, rfl, ?_⟩
  | refine ⟨_, _, rfl, rfl, ?_⟩
  | refine ⟨_, _, _, _, rfl, rfl, by walk_at "seq", by walk_at "at", ?_⟩
  | refine ⟨_, _, _, _, rfl, rfl, by assumption, rfl, ?_⟩
  | refine ⟨_, _, rfl, Or.inl (by walk_at "seq"), ?_⟩
  | refine Or.inl ⟨_, rfl, ?_⟩
  | refine Or.inr ⟨_, rfl, ?_⟩
  | refine And.intro (by walk_at "ar") ?_))
open Pr
/-! ### a set made of a table of the law's own -/
theorem made_same {H H' : Hp} {x dx : Addr} {o : HO} (nx : H x = none) (nd : H dx = none) (e : Xo x (upd (upd H dx (.own x)) x o) H') : Same H H' := fun b u h =>
  e b u (ne_of_none h nx) (by rw [upd_ne (ne_of_none h nx), upd_ne (ne_of_none h nd)]; exact h)
theorem made_up {H : Hp} {x dx : Addr} {o : HO} (nx : H x = none) (nd : H dx = none) : Same H (upd (upd H dx (.own x)) x o) := fun b u h => by
  rw [upd_ne (ne_of_none h nx), upd_ne (ne_of_none h nd)]; exact h
theorem dv_rows {H : Hp} : ∀ {rows : List Str}, (∀ x ∈ rows, x.length ≤ 1000 ∧ Sg x) → DvAll H (rows.map V.str) (rows.map PyData.str)
  | [], _ => .nil
  | x :: r, h => .cons (.str x (h x (by simp)).1 (sg_lay (h x (by simp)).2)) (dv_rows fun y hy => h y (List.mem_cons_of_mem _ hy))
theorem row_all {wide : Int} : ∀ {rows : List Str}, (∀ x ∈ rows, (x.length : Int) = wide ∧ Sg x) → (rows.map PyData.str).all (isRowD wide) = true
  | [], _ => rfl
  | x :: r, h => by
    rw [List.map_cons, List.all_cons, row_all fun y hy => h y (List.mem_cons_of_mem _ hy), Bool.and_true]
    obtain ⟨h1, h2⟩ := h x (by simp)
    show (decide ((x.length : Int) = wide) && (tlS x).all fun ch => decide (ch = 43) || decide (ch = 45)) = true
    rw [decide_eq_true h1, Bool.true_and, List.all_eq_true]
    intro c hc
    rcases h2 c hc with rfl | rfl <;> rfl
theorem check_tab {t : Tb} (O : t.Ok) {s p r : PyData} (hs : isSeqD s = true ∧ itemsD s = [.int t.s0, .int t.s1]) (hp : isSeqD p = true ∧ itemsD p = [.int t.p0, .int t.p1]) (hr : isSeqD r = true ∧ itemsD r = t.rows.map PyData.str) :
    checkR s p r = none ∧ tabD s p r = t := by
  have h0 := O.h0
  have h1 := O.h1
  have e1 : okS s = true := by
    unfold okS
    rw [hs.1, hs.2]
    show (true && (true && (decide ((0 : Int) ≤ (t.s0 : Int)) && (decide ((0 : Int) ≤ (t.s1 : Int)) && true)))) = true
    rw [decide_eq_true (by omega), decide_eq_true (by omega)]; rfl
  have e2 : okP p = true := by
    unfold okP
    rw [hp.1, hp.2]
    show (true && (true && (decide ((0 : Int) < (t.p0 : Int)) && (decide ((0 : Int) < (t.p1 : Int)) && true)))) = true
    rw [decide_eq_true (by omega), decide_eq_true (by omega)]; rfl
  have e3 : okR s p r = true := by
    unfold okR isTableD itemD
    rw [hs.2, hp.2, hr.1, hr.2]
    show (true && (decide (((t.rows.map PyData.str).length : Int) = (t.s0 : Int) + (t.p0 : Int)) && (t.rows.map PyData.str).all (isRowD ((t.s1 : Int) + (t.p1 : Int))))) = true
    rw [List.length_map, O.len, decide_eq_true (by omega), row_all fun x hx => ⟨by have := (O.row x hx).1; omega, (O.row x hx).2⟩]; rfl
  refine ⟨by unfold checkR; rw [if_pos e1, if_pos e2, if_pos e3], ?_⟩
  unfold tabD itemD
  rw [hs.2, hp.2, hr.2]
  show (⟨(t.s0 : Int).toNat, (t.s1 : Int).toNat, (t.p0 : Int).toNat, (t.p1 : Int).toNat, (t.rows.map PyData.str).map strD⟩ : Tb) = t
  have e4 : ∀ l : List Str, (l.map PyData.str).map strD = l := fun l => by
    induction l with
    | nil => rfl
    | cons a r ih => rw [List.map_cons, List.map_cons, ih]; rfl
  rw [e4]
  rfl
/-- a list or tuple of two numbers, as data -/
inductive D2 (H : Hp) (v : V) (i j : Nat) : PyData → Prop
  | tup {a : Addr} (e : v = .ref a) (h : H a = some (.tup [.int i, .int j])) : D2 H v i j (.tuple [.int i, .int j])
  | lst {a : Addr} (e : v = .ref a) (h : H a = some (.lst [.int i, .int j])) : D2 H v i j (.list [.int i, .int j])
theorem D2.dv {H : Hp} {v : V} {i j : Nat} {e : PyData} (h : D2 H v i j e) : Dv H v e := by
  cases h with
  | tup e h => subst e; exact .tup h (by show 2 ≤ 1000; decide) (.cons (.int _) (.cons (.int _) .nil))
  | lst e h => subst e; exact .lst h (by show 2 ≤ 1000; decide) (.cons (.int _) (.cons (.int _) .nil))
theorem D2.it {H : Hp} {v : V} {i j : Nat} {e : PyData} (h : D2 H v i j e) : isSeqD e = true ∧ itemsD e = [.int i, .int j] := by
  cases h <;> exact ⟨rfl, rfl⟩
theorem D2.same {H H' : Hp} {v : V} {i j : Nat} {e : PyData} (s : Same H H') (h : D2 H v i j e) : D2 H' v i j e := by
  cases h with
  | tup e h => exact .tup e (s _ _ h)
  | lst e h => exact .lst e (s _ _ h)
inductive DR (H : Hp) (v : V) (rows : List Str) : PyData → Prop
  | tup {a : Addr} (e : v = .ref a) (h : H a = some (.tup (rows.map V.str))) : DR H v rows (.tuple (rows.map PyData.str))
  | lst {a : Addr} (e : v = .ref a) (h : H a = some (.lst (rows.map V.str))) : DR H v rows (.list (rows.map PyData.str))
theorem DR.dv {H : Hp} {v : V} {rows : List Str} {e : PyData} (h : DR H v rows e) (hl : rows.length ≤ 1000) (hr : ∀ x ∈ rows, x.length ≤ 1000 ∧ Sg x) : Dv H v e := by
  cases h with
  | tup e h => subst e; exact .tup h (by rw [List.length_map]; exact hl) (dv_rows hr)
  | lst e h => subst e; exact .lst h (by rw [List.length_map]; exact hl) (dv_rows hr)
theorem DR.it {H : Hp} {v : V} {rows : List Str} {e : PyData} (h : DR H v rows e) : isSeqD e = true ∧ itemsD e = rows.map PyData.str := by
  cases h <;> exact ⟨rfl, rfl⟩
theorem DR.same {H H' : Hp} {v : V} {rows : List Str} {e : PyData} (s : Same H H') (h : DR H v rows e) : DR H' v rows e := by
  cases h with
  | tup e h => exact .tup e (s _ _ h)
  | lst e h => exact .lst e (s _ _ h)
/-- Crowds(starts, periods, rows) of a good table: what its maker is asked, and gives -/
theorem init_tab {C CE : Addr} {H : Hp} {x dx : Addr} {v1 v2 v3 : V} {e1 e2 e3 : PyData} {t : Tb} {Q : VK} (nx : H x = none) (ndx : H dx = none) (O : t.Ok) (l0 : t.s0 + t.p0 ≤ 1000) (l1 : t.s1 + t.p1 ≤ 1000)
    (h1 : D2 H v1 t.s0 t.s1 e1) (h2 : D2 H v2 t.p0 t.p1 e2) (h3 : DR H v3 t.rows e3) (q : ∀ H' : Hp, Same H H' → CrAt C H' x t.least → Q .non H') :
    spInit C CE [.ref x, v1, v2, v3] (upd (upd H dx (.own x)) x (.ins C dx [])) Q (fun _ _ _ => False) := by
  have su := made_up (o := .ins C dx []) nx ndx
  obtain ⟨c1, c2⟩ := check_tab O h1.it h2.it h3.it
  have rl : t.rows.length ≤ 1000 := by rw [O.len]; exact l0
  have rr : ∀ x ∈ t.rows, x.length ≤ 1000 ∧ Sg x := fun x hx => ⟨by rw [(O.row x hx).1]; exact l1, (O.row x hx).2⟩
  refine ⟨x, dx, v1, v2, v3, e1, e2, e3, rfl, upd_same, h1.dv.same su, h2.dv.same su, (h3.dv rl rr).same su, fun _ H' xt cr => ?_, fun word hw => by rw [c1] at hw; cases hw⟩
  rw [c2] at cr
  exact q H' (made_same nx ndx xt) cr
theorem TbAt.args {H : Hp} {a : Addr} {t : Tb} (h : TbAt H a t) : ∃ ts tp tr : Addr, H a = some (.tup [.ref ts, .ref tp, .ref tr]) ∧ D2 H (.ref ts) t.s0 t.s1 (.tuple [.int t.s0, .int t.s1]) ∧ D2 H (.ref tp) t.p0 t.p1 (.tuple [.int t.p0, .int t.p1]) ∧ DR H (.ref tr) t.rows (.list (t.rows.map PyData.str)) := by
  obtain ⟨ts, tp, tr, h1, h2, h3, h4⟩ := h
  exact ⟨ts, tp, tr, h1, .tup rfl h2, .tup rfl h3, .lst rfl h4⟩
end FH

set_option Elab.async false
set_option linter.all false
set_option maxRecDepth 100000
set_option maxHeartbeats 2000000
namespace PySem.W
open PySem PySem.Calls PyProof.Rows
section
variable {prog : Program} {w : World} {A : Around} {E : Value → Shared → Prop} {s : Shared} {K : Frag} {x C f L : Addr} {ox : Obj} {od : Option Obj} {h₀ : Heap} {m : Str → Option Value}
/-- bool(o) by the class's __bool__ -/
theorem kbo_call {Q : Value → Shared → Prop} (F : Fr h₀ L s.heap m) (X₀ : K.In h₀) (I : InstAt s.heap x ox C od) (hs : findIn K (.ref C) "__bool__" = some (some (.ref f))) (hf : isFn K (.ref f) = true)
    (h : wpAny (model prog w) A.in1.in1 (call (.ref f) [.ref x]) (fun v s' => ∃ b, v = .bool b ∧ Q (.bool b) s') E s) : wpAny (model prog w) A (call (.type "bool") [.ref x]) Q E s := by
  refine callType_codes (T := "bool") (Bi := Builtin.«object.__init__») (Q₁ := fun r s₁ => ∃ b, r = .bool b ∧ Q r s₁) PySem.F.called_bool (PySem.F.typeCall_bool_1 _) PySem.F.entry_object_init ?_ ?_
  · refine codeAny_of_tree ?_
    show wpAny _ A.in1.in1 (do checkBuiltinCall "bool.__new__" ⟨[.type "bool", .ref x], []⟩; again (.builtin "bool.__new__" ⟨[.type "bool", .ref x], []⟩)) _ _ s
    refine wpAny_bind (wpAny_of_eq (PySem.F.newCall_bool_1 _) (wpAny_pure ⟨plainId_quiet (by decide +kernel) _, codeAny_builtin PySem.F.entry_bool_new ?_⟩))
    rw [Around.under_plainId (by decide +kernel) _]
    have f1 := PySem.F.conv_sub_bool
    have tr : wpAny (model prog w) A.in1.in1 (truthy (.ref x)) (fun b s' => Q (.bool b) s') E s := by
      refine truthy_K F X₀ I hs hf (wpAny_mono h (fun v s' hv => ?_) fun _ _ e => e)
      obtain ⟨b, rfl, hq⟩ := hv
      exact hq
    obtain ⟨hp, g, d, tk, os⟩ := s
    repeat (any_goals (first | assumption | (with_reducible refine wpAny_mono tr ?_ ?_) | wp_step))
    · exact fun a s1 q => wpAny_pure ⟨a, rfl, q⟩
    · exact fun e s1 q => q
  · rintro obj s₁ ⟨b, rfl, hq⟩
    exact ⟨rfl, PySem.F.args_object_init_2 _ _, object_init_meets PySem.F.called_bool.init.lookup PySem.F.called_bool.made (by decide) prog w A.in1 _ s₁ ⟨rfl, rfl, hq⟩⟩
end
end PySem.W
/-! class methods without arguments; a class that a name of the def holds, called; bool by __bool__ -/
namespace L2
open PySem PySem.Spec PyProof.Rows ClX
section
variable {X : Cx} {CX : CXT} {k i : Nat} {f C p g : Addr} {mc : Value} {fd : FuncData} {ps : List Str} {ds : List Value} {dvs : List V} {sp : Sp} {x m : Str} {pp pos apos : Pos} {o e : Expr} {es : List Expr} {t : TA} {ta : TE} {E : XK} {pl : Sem Bool}
/-- C.m() -/
def tCMeth0 (C : Addr) (sp : Sp) (E : XK) (ta : TE) : TE := fun σ H Q => ta σ H fun x H1 => x = .ref C ∧ sp [.ref C] H1 Q E
theorem pe_cmeth0 (he : PE X o ta) (r : CRead X.K C mc) (c : CMet X.K C mc m p g) (F : FnR X.prog X.w X.K X.mg X.base CX k g sp) (hr : Room k X.A) (hx : Passes CX X E)
    (ht : eval (.Call (.Attribute o m apos) [] [] pos) X.env = (do
      let ov ← eval o X.env
      standAt apos.atName
      let (f, first) ← holding [ov] (getMethod ov m pl)
      callWith pos f first (backTo pos (starEach [] X.env)) (backToKw pos (keywordEach [] X.env))) := by rfl) :
    PE X (.Call (.Attribute o m apos) [] [] pos) (tCMeth0 C sp E ta) := by
  refine ⟨fun pins s σ H Q I h => ?_⟩
  refine PySem.W.methodCall_KW (pl := pl) (thn (he.run pins s σ H _ I h) fun u s1 ⟨x, H1, I1, rx, ex, q⟩ => ?_) ht
  subst ex
  obtain rfl : u = Value.ref C := rx
  refine getmethcm_ok I1 r c fun s2 I2 => ?_
  refine PySem.W.callWith_M0 (K := X.K) (first := []) ⟨pin_at I2, I2.kIn⟩ c.fi ?_
  exact run_cm (us := []) (vs := []) F hr hx I2 .nil q
/-- cls(e, ..), cls a name of the def that holds the class C -/
def tMakeV (i : Nat) (C : Addr) (sp : Sp) (dvs : List V) (E : XK) (t : TA) : TE := fun σ H Q => σ[i]? = some (some (.ref C)) ∧ t σ H fun vs H1 => ∀ x dx, H1 x = none → H1 dx = none → dx ≠ x →
  sp (.ref x :: (vs ++ dvs)) (upd (upd H1 dx (.own x)) x (.ins C dx [])) (fun v H2 => v = .non ∧ Q (.ref x) H2) E
theorem pe_makeV (M : Mk X.K C f) (F : FnOk X.prog X.w X.K X.mg X.base CX k f fd ps sp) (hr : Room (k + 1) X.A) (hN : X.N[i]? = some x) (hv : Vis X.env.scope x) (hb : Binds X.K fd ps ds) (hd : Vals dvs ds) (hx : Passes CX X E)
    (ha : PA X (e :: es) t) (hdb : (x == ("__debug__" : Str)) = false := by decide) (hcd : (x == ("__classdict__" : Str)) = false := by decide) (he : starEach (e :: es) X.env = (false, eval e X.env) :: starEach es X.env := by rfl) (hpl : (backTo pos (starEach es X.env)).any (·.1) = false := by rfl) :
    PE X (.Call (.Name x pp) (e :: es) [] pos) (tMakeV i C sp dvs E t) := by
  refine ⟨fun pins s0 σ H0 Q I0 h0 => ?_⟩
  obtain ⟨hs, ht⟩ := h0
  refine wpAny_Call_Name_kw (thn ((pe_var (pos := pp) hN hv hdb hcd).run pins s0 σ H0 (fun v H1 => v = .ref C ∧ H1 = H0) I0 ⟨.ref C, hs, rfl, rfl⟩) fun u s00 ⟨v, H00, I00, r00, q00⟩ => ?_)
  obtain ⟨rfl, rfl⟩ := q00
  cases r00
  refine PySem.W.callWith_K (h₀ := X.base) I00.ok.mod.kin M.kp (thn (ha.run pos pins s00 σ _ _ I00 ht) fun us s ⟨vs, H, I, r, h⟩ => ⟨I.kIn, ?_⟩) he hpl
  have hq := h (s.heap.objs.size + 1) s.heap.objs.size (I.hok.fresh (Nat.le_succ _)) (I.hok.fresh (Nat.le_refl _)) (Nat.ne_of_lt (Nat.lt_succ_self _))
  have I2 := Inv.made (C := C) I
  have r2 : Vals (V.ref (s.heap.objs.size + 1) :: (vs ++ dvs)) (Value.ref (s.heap.objs.size + 1) :: (us ++ ds)) := .cons rfl (r.append hd)
  have hl : (Value.ref (s.heap.objs.size + 1) :: us ++ ds).length = ps.length := r2.length.symm.trans (F.len _ _ _ _ hq)
  refine wpAny_call (make_map (f := f) I.kIn M.makes M.init (beq_iff_eq.mp M.fn) (codeAny_mono (F.run _ X.stack _ _ ⟨Value.ref (s.heap.objs.size + 1) :: us, []⟩ (Value.ref (s.heap.objs.size + 1) :: (us ++ ds)) _ _ E (hr.make C us [])
    (I2.env0.make C us []) (hb _ (Value.ref (s.heap.objs.size + 1) :: us) I2.kIn hl) r2 hq) fun r s' z => ?_))
  cases r with
  | error e => exact hx pins σ _ _ e s' I2 z
  | ok fl =>
    cases fl with
    | ret u =>
      obtain ⟨v, H', I3, rv, ev, q3⟩ := I2.after z
      subst ev
      exact ⟨rv, ⟨V.ref (s.heap.objs.size + 1), H', I3, rfl, q3⟩⟩
    | next => exact False.elim z
    | brk => exact False.elim z
    | cont => exact False.elim z
/-- bool(o) by the class's __bool__ -/
def rBoolOwn (C : Addr) (sp : Sp) : List V → Hp → VK → Prop := fun xs H Q => ∃ (a dx : Addr) (fs : List (Str × V)), xs = [.ref a] ∧ H a = some (.ins C dx fs) ∧ sp [.ref a] H (fun z H' => ∃ b, z = .bl b ∧ Q (.bl b) H') fun _ _ _ => False
theorem call_boolOwn (F : FnOk X.prog X.w X.K X.mg X.base CX k f fd ps sp) (hr : Room (k + 2) X.A) (hb : Binds X.K fd ps []) (hx : Passes CX X (fun _ _ _ => False))
    (hs : PySem.W.findIn X.K (.ref C) "__bool__" = some (some (.ref f))) (hf : PySem.W.isFn X.K (.ref f) = true) : CallR X (.type "bool") (rBoolOwn C sp) := by
  intro pins s σ H xs us Q I r h
  obtain ⟨a, dx, fs, e, ha, q⟩ := h
  subst e
  obtain ⟨u, eu, rx⟩ := vals1 r
  subst eu
  cases rx
  obtain ⟨mA, J, _⟩ := ins_get I.hok ha
  obtain ⟨od, J, _⟩ := J.look
  obtain ⟨m, hF⟩ := I.fr
  refine PySem.W.kbo_call hF I.ok.mod.kin J hs hf ?_
  refine wpAny_mono (run_ownL (A := X.A.in1.in1) F hr.in1.in1 rfl hb hx I (.cons (rref _) .nil) q) (fun z s' hz => ?_) fun _ _ e => e
  obtain ⟨z', H', I', rz, b, rfl, q'⟩ := hz
  cases rz
  exact ⟨b, rfl, .bl b, H', I', rfl, q'⟩
/-- a test of o by the class's __bool__ -/
def tTruOwn (C : Addr) (sp : Sp) (te : TE) : TT := fun σ H Q => te σ H fun x H1 => ∃ (a dx : Addr) (fs : List (Str × V)), x = .ref a ∧ H1 a = some (.ins C dx fs) ∧ sp [.ref a] H1 (fun z H' => ∃ b, z = .bl b ∧ Q b H') fun _ _ _ => False
end
end L2

set_option Elab.async false
set_option linter.all false
set_option maxRecDepth 100000
set_option maxHeartbeats 1000000
namespace FH
open PySem L2
open Pr
/-! ### the table of a test that comes again -/
def tabF (F : Nat → Nat → Bool) (s0 s1 p0 p1 : Nat) : Tb := ⟨s0, s1, p0, p1, canR F (s0 + p0) (s1 + p1)⟩
structure PerF (F : Nat → Nat → Bool) (s0 s1 p0 p1 : Nat) : Prop where
  a : Per F s0 p0
  b : Per (fun l k => F k l) s1 p1
section
variable {F : Nat → Nat → Bool} {s0 s1 p0 p1 : Nat}
theorem tabF_ok (h0 : 0 < p0) (h1 : 0 < p1) : (tabF F s0 s1 p0 p1).Ok := ⟨h0, h1, len_canR _ _ _, fun x hx => by
  obtain ⟨k, _, rfl⟩ := List.mem_map.mp hx
  exact ⟨by rw [len_sgn, List.length_map, List.length_range]; rfl, sg_sgn _⟩⟩
theorem PerF.spot (P : PerF F s0 s1 p0 p1) (k l : Nat) : F (Pr.spot k s0 p0) (Pr.spot l s1 p1) = F k l := by
  rw [congrFun (P.b.spot l) (Pr.spot k s0 p0)]
  exact congrFun (P.a.spot k) l
theorem tabF_has (h0 : 0 < p0) (h1 : 0 < p1) (P : PerF F s0 s1 p0 p1) (k l : Nat) : (tabF F s0 s1 p0 p1).has k l = F k l := by
  have hk := spot_lt (n := k) (s := s0) h0
  have hl := spot_lt (n := l) (s := s1) h1
  have e := ((tabF F s0 s1 p0 p1).row_mem (tabF_ok h0 h1) k).1
  have e' : (tabF F s0 s1 p0 p1).rows[Pr.spot k s0 p0]? = some (sgnS ((List.range (s1 + p1)).map fun l => F (Pr.spot k s0 p0) l)) := canR_get F hk
  have e := Option.some.inj (e.symm.trans e')
  show inB ((tabF F s0 s1 p0 p1).row k) (Pr.spot l s1 p1) = _
  rw [e, in_sgn, List.getD_eq_getElem?_getD, List.getElem?_map, List.getElem?_range hl]
  exact P.spot k l
theorem Tb.perF {t : Tb} (h : t.Ok) : PerF t.has t.s0 t.s1 t.p0 t.p1 := by
  refine ⟨fun n hn => ?_, fun n hn => ?_⟩
  · funext l
    unfold Tb.has Tb.row
    rw [show Pr.spot (n + t.p0) t.s0 t.p0 = Pr.spot n t.s0 t.p0 from spot_per n hn]
  · funext k
    show t.has k (n + t.p1) = t.has k n
    unfold Tb.has
    rw [show Pr.spot (n + t.p1) t.s1 t.p1 = Pr.spot n t.s1 t.p1 from spot_per n hn]
end
/-! ### the least period and start, by looking -/
section
variable {α : Type} {g : Nat → α} {s p sz st : Nat}
def Ag (g : Nat → α) (s p sz : Nat) : Prop := ∀ n, s ≤ n → n < s + p → g n = g (n + sz)
theorem ag_per (hp : 0 < p) (P : Per g s p) : Ag g s p sz ↔ Per g s sz := by
  constructor
  · intro h n hn
    have e : n = s + (n - s) % p + (n - s) / p * p := by
      have := Nat.mod_add_div (n - s) p
      rw [Nat.mul_comm] at this
      omega
    have hm := Nat.mod_lt (n - s) hp
    have h1 := P.mul ((n - s) / p) (s + (n - s) % p + sz) (by omega)
    have h2 := P.mul ((n - s) / p) (s + (n - s) % p) (by omega)
    have h3 := h (s + (n - s) % p) (by omega) (by omega)
    rw [← e] at h2
    rw [show s + (n - s) % p + sz + (n - s) / p * p = n + sz by omega] at h1
    rw [h1, h2, h3]
  · exact fun h n hn _ => (h n hn).symm
theorem lst_of (hp : 0 < p) (P : Per g s p) (h0 : 0 < sz) (h1 : Ag g s p sz) (h2 : ∀ z, 0 < z → z < sz → ¬ Ag g s p z) (hs : st ≤ s) (h3 : ∀ m, st ≤ m → m < s → g m = g (m + sz)) (h4 : 0 < st → g (st - 1) ≠ g (st - 1 + sz)) : Lst g st sz := by
  have hb := (ag_per hp P).mp h1
  refine ⟨h0, fun n hn => ?_, fun a' q' hq k => ?_, fun a' k => ?_⟩
  · by_cases h : s ≤ n
    · exact hb n h
    · exact (h3 n hn (by omega)).symm
  · refine Nat.le_of_not_lt fun z => h2 q' hq z ((ag_per hp P).mpr (Per.of hp P k))
  · by_cases hc : st ≤ a'
    · exact hc
    · exact absurd (k (st - 1) (by omega)).symm (h4 (by omega))
end
/-! ### rows and columns of a test -/
section
variable {F : Nat → Nat → Bool} {s0 s1 p0 p1 : Nat}
def rowF (F : Nat → Nat → Bool) (wide k : Nat) : Str := sgnS ((List.range wide).map fun l => F k l)
def colF (F : Nat → Nat → Bool) (tall l : Nat) : Str := sgnS ((List.range tall).map fun k => F k l)
theorem sgn_inj {a b : List Bool} (h : sgnS a = sgnS b) : a = b := by
  have hl : a.length = b.length := by rw [← len_sgn a, ← len_sgn b, h]
  refine List.ext_getElem hl fun i h1 h2 => ?_
  have e : inB (sgnS a) i = inB (sgnS b) i := by rw [h]
  rw [in_sgn, in_sgn, List.getD_eq_getElem?_getD, List.getD_eq_getElem?_getD, List.getElem?_eq_getElem h1, List.getElem?_eq_getElem h2] at e
  exact e
theorem rng_inj {f g : Nat → Bool} {n : Nat} (h : (List.range n).map f = (List.range n).map g) {i : Nat} (hi : i < n) : f i = g i := by
  have := congrArg (fun z => z[i]?) h
  simp only [List.getElem?_map, List.getElem?_range hi, Option.map_some, Option.some.injEq] at this
  exact this
theorem rowF_iff (P : PerF F s0 s1 p0 p1) (h1 : 0 < p1) {wide : Nat} (hw : s1 + p1 ≤ wide) (n m : Nat) : rowF F wide n = rowF F wide m ↔ F n = F m := by
  constructor
  · intro h
    have h := sgn_inj h
    funext l
    rw [← congrFun (P.b.spot l) n, ← congrFun (P.b.spot l) m]
    exact rng_inj h (Nat.lt_of_lt_of_le (spot_lt h1) hw)
  · intro h
    unfold rowF
    rw [h]
theorem colF_iff (P : PerF F s0 s1 p0 p1) (h0 : 0 < p0) {tall : Nat} (hw : s0 + p0 ≤ tall) (n m : Nat) : colF F tall n = colF F tall m ↔ (fun k => F k n) = (fun k => F k m) := by
  constructor
  · intro h
    have h := sgn_inj h
    funext k
    show F k n = F k m
    rw [← congrFun (P.a.spot k) n, ← congrFun (P.a.spot k) m]
    exact rng_inj (f := fun k => F k n) (g := fun k => F k m) h (Nat.lt_of_lt_of_le (spot_lt h0) hw)
  · intro h
    unfold colF
    rw [show (fun k => F k n) = (fun k => F k m) from h]
theorem rowF_per (P : PerF F s0 s1 p0 p1) (wide : Nat) : Per (rowF F wide) s0 p0 := fun n hn => by
  unfold rowF
  rw [P.a n hn]
theorem colF_per (P : PerF F s0 s1 p0 p1) (tall : Nat) : Per (colF F tall) s1 p1 := fun n hn => by
  have := P.b n hn
  unfold colF
  rw [show (fun k => F k (n + p1)) = (fun k => F k n) from this]
/-- what is found is the least table -/
theorem found_least (P : PerF F s0 s1 p0 p1) (h0 : 0 < p0) (h1 : 0 < p1) {wide tall a0 q0 a1 q1 : Nat} (hw : s1 + p1 ≤ wide) (ht : s0 + p0 ≤ tall) (L0 : Lst (rowF F wide) a0 q0) (L1 : Lst (colF F tall) a1 q1) :
    (tabF F s0 s1 p0 p1).least = ⟨a0, a1, q0, q1, canR F (a0 + q0) (a1 + q1)⟩ := by
  have O : (tabF F s0 s1 p0 p1).Ok := tabF_ok h0 h1
  have eh : (tabF F s0 s1 p0 p1).has = F := by funext k l; exact tabF_has h0 h1 P k l
  have R := (tabF F s0 s1 p0 p1).lst_rows O
  have C := (tabF F s0 s1 p0 p1).lst_cols O
  have rr := (tabF F s0 s1 p0 p1).least_rows O
  rw [eh] at R C rr
  obtain ⟨e1, e2⟩ := R.uniq (L0.eqv (rowF_iff P h1 hw))
  obtain ⟨e3, e4⟩ := C.uniq (L1.eqv (colF_iff P h0 ht))
  have : (tabF F s0 s1 p0 p1).least = ⟨(tabF F s0 s1 p0 p1).f0, (tabF F s0 s1 p0 p1).f1, (tabF F s0 s1 p0 p1).b0, (tabF F s0 s1 p0 p1).b1, (tabF F s0 s1 p0 p1).least.rows⟩ := rfl
  rw [this, rr, e1, e2, e3, e4]
end
end FH

set_option Elab.async false
set_option linter.all false
set_option maxRecDepth 100000
set_option maxHeartbeats 2000000
/-! lambdas of two numbers, handed to a def: the function and its cells are tracked while the def runs -/
namespace FH
open PySem PySem.Spec PyProof.Rows L2
/-- a thing known to the very object -/
def ObO (a : Addr) (o : Obj) : HO := .ext fun h => h.get? a = some o
def Lay (L : List (Addr × Obj)) (H : Hp) : Hp := fun b => match L.lookup b with
  | some o => some (ObO b o)
  | none => H b
def Off (L : List (Addr × Obj)) (H : Hp) : Hp := fun b => match L.lookup b with
  | some _ => none
  | none => H b
theorem lay_in {L : List (Addr × Obj)} {H : Hp} {b : Addr} {o : Obj} (h : L.lookup b = some o) : Lay L H b = some (ObO b o) := by unfold Lay; rw [h]
theorem lay_out {L : List (Addr × Obj)} {H : Hp} {b : Addr} (h : L.lookup b = none) : Lay L H b = H b := by unfold Lay; rw [h]
theorem off_in {L : List (Addr × Obj)} {H : Hp} {b : Addr} {o : Obj} (h : L.lookup b = some o) : Off L H b = none := by unfold Off; rw [h]
theorem off_out {L : List (Addr × Obj)} {H : Hp} {b : Addr} (h : L.lookup b = none) : Off L H b = H b := by unfold Off; rw [h]
theorem memL : ∀ {L : List (Addr × Obj)} {b : Addr} {o : Obj}, L.lookup b = some o → (b, o) ∈ L
  | [], _, _, h => by cases h
  | (c, u) :: L, b, o, h => by
    rw [List.lookup_cons] at h
    by_cases e : b = c
    · subst e
      simp at h
      rw [h]
      exact .head _
    · rw [show (b == c) = false by simpa using e] at h
      exact .tail _ (memL h)
theorem out_of {L : List (Addr × Obj)} {b : Addr} (h : ∀ p ∈ L, p.1 ≠ b) : L.lookup b = none := by
  cases e : L.lookup b with
  | none => rfl
  | some o => exact absurd rfl (h (b, o) (memL e))
theorem obO_ok {P : Program} {w : World} {H : Hp} {h : Heap} {a : Addr} {o : Obj} (e : h.get? a = some o) : ObjOk P w H h a (ObO a o) := ⟨e, ⟨o, e⟩, fun _ _ q k => k _ q⟩
theorem of_obO {P : Program} {w : World} {H : Hp} {h : Heap} {a : Addr} {o : Obj} (x : ObjOk P w H h a (ObO a o)) : h.get? a = some o := x.1
section
variable {P : Program} {w : World} {K : PySem.W.Frag} {mg : Str → Option Value} {base : Heap} {A : Around} {outer : List Env} {s s' : Shared} {H H' : Hp} {L : List (Addr × Obj)}
theorem nlay (hn : ∀ p ∈ L, H p.1 = none) {b : Addr} {u : HO} (e : H b = some u) : L.lookup b = none := out_of fun p hp z => by
  have := hn p hp
  rw [z, e] at this
  cases this
theorem noff (hn : ∀ p ∈ L, H p.1 = some (ObO p.1 p.2)) {b : Addr} {u : HO} (e : H b = some u) (nx : ∀ φ, u ≠ .ext φ) : L.lookup b = none := out_of fun p hp z => by
  have := hn p hp
  rw [z, e] at this
  exact nx _ (Option.some.inj this)
theorem env_lay (e : Env0 P w K mg base A outer s H) (hn : ∀ p ∈ L, H p.1 = none) (hg : ∀ p ∈ L, s.heap.get? p.1 = some p.2) (hb : ∀ p ∈ L, base.get? p.1 = none) (hf : ∀ p ∈ L, p.1 ∉ frs outer) : Env0 P w K mg base A outer s (Lay L H) := by
  refine ⟨e.frames, e.mod, fun b o q => ⟨(e.bs b o q).1, ?_⟩, e.bsz, e.funs, fun b q => ?_, fun b u q => ?_, e.bare⟩
  · rw [lay_out (out_of fun p hp z => ?_)]
    · exact (e.bs b o q).2
    · have := hb p hp
      rw [z, q] at this
      cases this
  · rw [lay_out (out_of fun p hp z => hf p hp (by rw [z]; exact q))]
    exact e.frf b q
  · cases l : L.lookup b with
    | some o =>
      rw [lay_in l] at q
      cases q
      exact obO_ok (hg (b, o) (memL l))
    | none =>
      rw [lay_out l] at q
      exact (e.hok b u q).stay (fun _ _ _ z => z) (fun c z => by rw [lay_out (nlay hn z)]; exact z) fun c xs z => by rw [lay_out (nlay hn z)]; exact z
theorem hok_off {h : Heap} (e : HOk P w H h) (hn : ∀ p ∈ L, H p.1 = some (ObO p.1 p.2)) : HOk P w (Off L H) h := fun b u q => by
  cases l : L.lookup b with
  | some o => rw [off_in l] at q; cases q
  | none =>
    rw [off_out l] at q
    exact (e b u q).stay (fun _ _ _ z => z) (fun c z => by rw [off_out (noff hn z fun φ y => by cases y)]; exact z) fun c xs z => by rw [off_out (noff hn z fun φ y => by cases y)]; exact z
theorem off_none {b : Addr} (n : H b = none) : Off L H b = none := by
  cases l : L.lookup b with
  | some o => exact off_in l
  | none => rw [off_out l]; exact n
theorem env_off (e : Env0 P w K mg base A outer s H) (hn : ∀ p ∈ L, H p.1 = some (ObO p.1 p.2)) : Env0 P w K mg base A outer s (Off L H) :=
  ⟨e.frames, e.mod, fun b o q => ⟨(e.bs b o q).1, off_none (e.bs b o q).2⟩, e.bsz, e.funs, fun b q => off_none (e.frf b q), hok_off e.hok hn, e.bare⟩
/-- the def's end: what was tracked for it is hidden again -/
theorem ce_back {Q Q' : VK} {u : Value} (h : CE outer P w (Lay L H) s Q u s') (hn : ∀ p ∈ L, H p.1 = none) (hg : ∀ p ∈ L, s.heap.get? p.1 = some p.2) (hq : ∀ v H', Q v H' → (∀ p ∈ L, H' p.1 = some (ObO p.1 p.2)) ∧ Q' v (Off L H')) : CE outer P w H s Q' u s' := by
  obtain ⟨v, H', os, bare, un, hok, r, q⟩ := h
  obtain ⟨hk, q'⟩ := hq v H' q
  refine ⟨v, Off L H', os, bare, ⟨fun b o e n hb hx => ?_, fun b o e n hb hx => ?_, fun b o e n hx => ?_, fun b o e hx => un.there b o e hx, fun b xs e => ?_, fun b o xs e => ?_, fun b ps e => ?_⟩, hok_off hok hk, r, q'⟩
  · cases l : L.lookup b with
    | some o' =>
      have m := memL l
      have z := hg _ m
      rw [e] at z
      cases z
      exact of_obO (hok b _ (hk _ m))
    | none => exact un.keep b o e (by rw [lay_out l]; exact n) hb hx
  · cases l : L.lookup b with
    | some o' =>
      have m := memL l
      have z := hg _ m
      rw [e] at z
      cases z
      exact ⟨o'.slots, of_obO (hok b _ (hk _ m))⟩
    | none => exact un.slot b o e (by rw [lay_out l]; exact n) hb hx
  · cases l : L.lookup b with
    | some o' => exact off_in l
    | none => rw [off_out l]; exact un.free b o e (by rw [lay_out l]; exact n) hx
  · have l := nlay hn e
    rw [off_out l]
    exact un.tups b xs (by rw [lay_out l]; exact e)
  · have l := nlay hn e
    rw [off_out l]
    exact un.frzs b o xs (by rw [lay_out l]; exact e)
  · have l := nlay hn e
    rw [off_out l]
    exact un.tbls b ps (by rw [lay_out l]; exact e)
/-- the lambda's end: its cells are tracked again -/
theorem ce_lam {Q Q' : VK} {u : Value} (h : CE outer P w (Off L H) s Q u s') (ho : HOk P w H s.heap) (hn : ∀ p ∈ L, H p.1 = some (ObO p.1 p.2)) (hf : ∀ p ∈ L, p.1 ∉ frs outer) (hq : ∀ v H', Q v H' → Q' v (Lay L H')) : CE outer P w H s Q' u s' := by
  obtain ⟨v, H', os, bare, un, hok, r, q⟩ := h
  have out : ∀ {b : Addr}, H b = none → L.lookup b = none := fun {b} n => out_of fun p hp z => by
    have := hn p hp
    rw [z, n] at this
    cases this
  have gone : ∀ p ∈ L, H' p.1 = none := fun p hp => by
    have e := of_obO (ho _ _ (hn p hp))
    refine un.free p.1 p.2 e ?_ (by simp)
    cases l : L.lookup p.1 with
    | some o => exact off_in l
    | none => exact absurd hp (by
        intro _
        have : (L.lookup p.1).isSome = true := by
          rw [List.lookup_isSome_iff]
          exact ⟨p, hp, by simp⟩
        rw [l] at this
        cases this)
  refine ⟨v, Lay L H', os, bare, ⟨fun b o e n hb hx => un.keep b o e (off_none n) hb hx, fun b o e n hb hx => un.slot b o e (off_none n) hb hx, fun b o e n hx => ?_, fun b o e hx => un.there b o e hx, fun b xs e => ?_, fun b o xs e => ?_, fun b ps e => ?_⟩, fun b u e => ?_, r, hq v H' q⟩
  · rw [lay_out (out n)]
    exact un.free b o e (off_none n) hx
  · have l := noff hn e (fun φ y => by cases y)
    rw [lay_out l]
    exact un.tups b xs (by rw [off_out l]; exact e)
  · have l := noff hn e (fun φ y => by cases y)
    rw [lay_out l]
    exact un.frzs b o xs (by rw [off_out l]; exact e)
  · have l := noff hn e (fun φ y => by cases y)
    rw [lay_out l]
    exact un.tbls b ps (by rw [off_out l]; exact e)
  · cases l : L.lookup b with
    | some o =>
      rw [lay_in l] at e
      cases e
      have m := memL l
      exact obO_ok (un.keep b o (of_obO (ho _ _ (hn _ m))) (off_in l) (hf _ m) (by simp))
    | none =>
      rw [lay_out l] at e
      exact (hok b u e).stay (fun _ _ _ z => z) (fun c z => by rw [lay_out (nlay gone z)]; exact z) fun c xs z => by rw [lay_out (nlay gone z)]; exact z
end
end FH

set_option Elab.async false
set_option linter.all false
set_option maxRecDepth 100000
set_option maxHeartbeats 2000000
namespace FH
open PySem PySem.Spec PyProof.Rows L2 LamX
/-- the promise of a test of two numbers -/
def spB (F : Nat → Nat → Bool) : Sp := fun vs H Q _ => ∃ k l : Nat, vs = [.int k, .int l] ∧ ∀ H', Same H H' → Q (.bl (F k l)) H'
/-- at f stands a test of two numbers: it may be called wherever nothing of H has changed -/
structure LamAt (P : Program) (w : World) (K : PySem.W.Frag) (mg : Str → Option Value) (base : Heap) (k : Nat) (H : Hp) (f : Addr) (F : Nat → Nat → Bool) : Prop where
  fn : ∃ oc od fd sl, H f = some (ObO f ⟨oc, od, .func fd, sl⟩)
  run : ∀ H2, Same H H2 → ∀ (A : Around) (outer : List Env) (s : Shared) (us : List Value) (vs : List V) (Q : VK), Room k A → Env0 P w K mg base A outer s H2 → Vals vs us → spB F vs H2 Q E0 → codeAny (model P w) A (.call (.ref f) ⟨us, []⟩) (CR CX0 outer P w H2 s Q E0) s
theorem LamAt.same {P : Program} {w : World} {K : PySem.W.Frag} {mg : Str → Option Value} {base : Heap} {k : Nat} {H H' : Hp} {f : Addr} {F : Nat → Nat → Bool} (h : LamAt P w K mg base k H f F) (s : Same H H') : LamAt P w K mg base k H' f F := by
  refine ⟨?_, fun H2 s2 => h.run H2 (s.trans s2)⟩
  obtain ⟨oc, od, fd, sl, e⟩ := h.fn
  exact ⟨oc, od, fd, sl, s _ _ e⟩
theorem LamAt.mono {P : Program} {w : World} {K : PySem.W.Frag} {mg : Str → Option Value} {base : Heap} {j k : Nat} {H : Hp} {f : Addr} {F : Nat → Nat → Bool} (h : LamAt P w K mg base j H f F) (l : j ≤ k) : LamAt P w K mg base k H f F :=
  ⟨h.fn, fun H2 s2 A outer s us vs Q hr => h.run H2 s2 A outer s us vs Q (hr.mono l)⟩
/-- what is seen of the lambda's names: a, b its parameters; cap, at the places ids of N, what it captures -/
structure LamP (N : List Str) (sc scope : Scope) (a b : Str) (ids : List Nat) (cap : List Str) : Prop where
  kind : scope.kind = .function
  co : scope.isCoroutine = false
  gen : scope.isGenerator = false
  ab : a ≠ b
  pa : scope.names.lookup a = some .local
  pb : scope.names.lookup b = some .local
  cell : ∀ y ∈ scope.names, y.2 ≠ .cell
  free : ∀ y ∈ scope.names, y.2 = .free → sc.names.lookup y.1 = some .cell ∨ sc.names.lookup y.1 = some .free
  caps : ∀ x ∈ cap, scope.names.lookup x = some .free
  ix : ids.map (fun i => N[i]?) = cap.map some
def lamPB (N : List Str) (sc scope : Scope) (a b : Str) (ids : List Nat) (cap : List Str) : Bool :=
  decide (scope.kind = .function) && !scope.isCoroutine && !scope.isGenerator && !decide (a = b) && decide (scope.names.lookup a = some .local) && decide (scope.names.lookup b = some .local) &&
  scope.names.all (fun y => !decide (y.2 = .cell) && (!decide (y.2 = .free) || decide (sc.names.lookup y.1 = some .cell) || decide (sc.names.lookup y.1 = some .free))) && cap.all (fun x => decide (scope.names.lookup x = some .free)) && decide (ids.map (fun i => N[i]?) = cap.map some)
theorem lamP_by {N : List Str} {sc scope : Scope} {a b : Str} {ids : List Nat} {cap : List Str} (h : lamPB N sc scope a b ids cap = true) : LamP N sc scope a b ids cap := by
  unfold lamPB at h
  simp only [Bool.and_eq_true, Bool.or_eq_true, Bool.not_eq_true', decide_eq_true_eq, decide_eq_false_iff_not, List.all_eq_true] at h
  obtain ⟨⟨⟨⟨⟨⟨⟨⟨h1, h2⟩, h3⟩, h4⟩, h5⟩, h6⟩, h7⟩, h8⟩, h9⟩ := h
  refine ⟨h1, h2, h3, h4, h5, h6, fun y hy => (h7 y hy).1, fun y hy e => ?_, h8, h9⟩
  rcases (h7 y hy).2 with (z | z) | z
  · exact absurd e z
  · exact .inl z
  · exact .inr z
abbrev envL (qual : Str) (scope : Scope) (L f : Addr) (cd : Value) (clos : List (Str × Addr)) : Env := PySem.W.envX qual scope L f cd clos
/-- the context of a lambda's body -/
def cxL (P : Program) (w : World) (K : PySem.W.Frag) (mg : Str → Option Value) (base : Heap) (N : List Str) (qual : Str) (scope : Scope) (f : Addr) (cd : Value) (clos : List (Str × Addr)) (A : Around) (outer : List Env) (s : Shared) (H : Hp) : Cx where
  prog := P
  w := w
  K := K
  mg := mg
  base := base
  A := A.deeper (envL qual scope s.heap.objs.size f cd clos)
  N := N
  s_0 := s
  H_0 := H
  env := envL qual scope s.heap.objs.size f cd clos
  outer := outer
  stack := envL qual scope s.heap.objs.size f cd clos :: outer
  ex := []
  calm := true
  fn := fun _ => false
  pn := []
  xe := fun _ _ => False
section
variable {P : Program} {w : World} {K : PySem.W.Frag} {mg : Str → Option Value} {base : Heap} {A : Around} {outer : List Env} {s : Shared} {H : Hp}
theorem lam_start {N : List Str} {σ : L2.St} {qual : Str} {scope : Scope} {f : Addr} {cd : Value} {clos : List (Str × Addr)} {h₁ : Heap} {m : Str → Option Value} {tk : Nat} (hl : σ.length = N.length) (kind : scope.kind = .function) (e0 : Env0 P w K mg base A outer s H) (hd : A.handled = none)
    (hinj : ∀ x y c, clos.lookup x = some c → clos.lookup y = some c → x = y) (hhas : ∀ x, (scope.names.lookup x = some .cell ∨ scope.names.lookup x = some .free) → ∃ c, clos.lookup x = some c) (hcell : ∀ x c, clos.lookup x = some c → ∃ v, h₁.IsCell c v) (hfc : ∀ x c, clos.lookup x = some c → H c = none)
    (hns : h₁.Ns s.heap.objs.size m) (kp : ∀ b o, s.heap.get? b = some o → h₁.get? b = some o) (hloc : ∀ (i : Nat) (x : Str) (v : V), N[i]? = some x → σ[i]? = some (some v) → ∃ u, RelV v u ∧ Look (envL qual scope s.heap.objs.size f cd clos) h₁ m x u) :
    Inv (cxL P w K mg base N qual scope f cd clos A outer s H) [] σ H { s with heap := h₁, toks := tk } := by
  have noA : ∀ b : Addr, b ∉ (cxL P w K mg base N qual scope f cd clos A outer s H).ex := fun b z => absurd (show b ∈ ([] : List Addr) from z) (by simp)
  refine ⟨⟨e0.mod, kind, rfl, rfl, Nat.le_refl _, hinj, hhas, fun y c z _ => ?_, fun _ => hd, Around.frames_deeper e0.frames, .inr ⟨rfl, rfl⟩, fun b z => absurd z (noA b), e0.bs, e0.bsz, fun b _ _ => noA b, fun b z => absurd z (noA b), e0.funs, e0.frf⟩,
    rfl, e0.bare, Un.kept kp, ⟨m, hns, fun i y v e1 e2 _ => hloc i y v e1 e2⟩, hcell, e0.hok.fresh (Nat.le_refl _), hfc, fun q hq => absurd (show q ∈ ([] : List (Addr × Obj)) ++ [] from hq) (by simp), e0.hok.kept kp, hl⟩
  have z : false = true := z
  cases z
end
section
variable {X : Cx} {pins : List (Addr × Obj)} {σ : L2.St} {H : Hp} {s : Shared}
/-- the lambda is made -/
theorem lam_mk {T : List (Addr × Str)} {c P : Addr} {params : Arguments} {body : Expr} {scope : Scope} {pos : Pos} {E : Value → Shared → Prop} {Q : Value → Shared → Prop} (I : Inv X pins σ H s) (TB : TabB X.base X.mg c P) (hcode : X.env.code = .ref c)
    (hm : (P, X.env.qual ++ "<lambda>") ∈ T) (hu : ∀ p ∈ T, p.1 = P → p.2 = X.env.qual ++ "<lambda>") (hT : Tabs T H) (hdef : defaultsOf params X.env = ([], [])) (hfree : ∀ y ∈ scope.names, y.2 = .free → ∃ c, X.env.cells.lookup y.1 = some c)
    (h : ∀ (f c' : Addr) (pm ctv : Value) (H1 : Hp) (s' : Shared), Inv X pins σ H1 s' → ExtN H H1 → Tabs T H1 → s'.heap.get? f = some (PySem.W.kla_obj "<lambda>" (X.env.qual ++ "<lambda>") params body scope (cloFrom X.env.cells scope.names []) pm c' ctv) →
      H1 f = none → s.heap.objs.size ≤ f → H1 c' = some (CodeO c' (X.env.qual ++ "<lambda>")) → Q (.ref f) s') :
    wpAny (model X.prog X.w) X.A (eval (.Lambda params body scope pos) X.env) Q E s := by
  obtain ⟨ps, hP, ht, ha⟩ := hT _ hm
  have gP : s.heap.get? P = some { cls := .none, data := .fields ps } := I.hok P _ hP
  have bP : s.heap.BuiltinsAt X.mg P := TB.bm.keeps I.bk
  refine PySem.W.kla_eval hdef ?_
  cases hc : codeAmong pos ps.toList with
  | some cv =>
    obtain ⟨c', rfl, hco⟩ := ha pos cv hc
    refine PySem.W.kla_makeFunctionHit (mg := X.mg) (closure_ok hfree) I.ok.glob (I.mod.glob.keeps I.bk) hcode (TB.code.keeps I.bk) gP ht hc bP fun ctv h' tk hx hsz => ?_
    exact h _ c' _ ctv H _ (I.kept fun b o e => Heap.get?_push_of_some _ (hx b o e)) (ExtN.refl H) hT (Heap.get?_push_size _ rfl) (I.hok.fresh hsz) hsz hco
  | none =>
    refine PySem.W.kla_makeFunction (mg := X.mg) (closure_ok hfree) I.ok.glob (I.mod.glob.keeps I.bk) hcode (TB.code.keeps I.bk) gP ht hc TB.gP bP fun c' ctv h' tk hx hge hlt hrec htb => ?_
    obtain ⟨c2, oc, vs, t, e2, hoc, hd, hv⟩ := hrec
    cases e2
    have hsz : s.heap.objs.size ≤ h'.objs.size := Nat.le_trans hge (Nat.le_of_lt hlt)
    have nC : H c' = none := I.hok.fresh hge
    let more : Array Value := #[rawInt pos.line, rawInt pos.col, .ref c']
    have hE : ExtN H (upd (upd H P (.tbl (ps ++ more))) c' (CodeO c' (X.env.qual ++ "<lambda>"))) := fun b o e n => by
      have h1 : b ≠ c' := ne_of_none e nC
      have h2 : b ≠ P := fun z => n ps (by rw [z, hP] at e; exact (Option.some.inj e).symm)
      rw [upd_ne h1, upd_ne h2]
      exact e
    refine h _ c' _ ctv _ _ (inv_table (t' := tk) (more := more) I hP (fun b o hb e => Heap.get?_push_of_some _ (hx b o hb e)) (Heap.get?_push_of_some _ htb) hge ⟨oc, vs, t, Heap.get?_push_of_some _ hoc, hd, hv⟩) hE (fun p hp => ?_) (Heap.get?_push_size _ rfl) ?_ hsz upd_same
    · have old : ∀ {cv : Value}, (∃ c, cv = .ref c ∧ H c = some (CodeO c p.2)) → ∃ c, cv = .ref c ∧ upd (upd H P (.tbl (ps ++ more))) c' (CodeO c' (X.env.qual ++ "<lambda>")) c = some (CodeO c p.2) := fun ⟨c, e1, e2⟩ => ⟨c, e1, hE _ _ e2 codeO_ne⟩
      by_cases hb : p.1 = P
      · have e2 := hu p hp hb
        have eL : (ps ++ more).toList = ps.toList ++ [rawInt pos.line, rawInt pos.col, .ref c'] := by simp [more]
        refine ⟨ps ++ more, by rw [hb, upd_ne (ne_of_none hP nC), upd_same], by rw [eL]; exact PySem.TriplesOk_snoc _ _ _ _ ht, fun p' cv hcv => ?_⟩
        rw [eL] at hcv
        rcases among_app _ ht hcv with z | z
        · exact old (by rw [e2]; exact ha p' cv z)
        · exact ⟨c', z, by rw [e2]; exact upd_same⟩
      · obtain ⟨ps', a1, a2, a3⟩ := hT p hp
        exact ⟨ps', by rw [upd_ne (ne_of_none a1 nC), upd_ne hb]; exact a1, a2, fun p' cv hcv => old (a3 p' cv hcv)⟩
    · rw [upd_ne (Nat.ne_of_gt hlt), upd_ne (Nat.ne_of_gt (Nat.lt_of_lt_of_le (Heap.lt_size gP) hsz))]
      exact I.hok.fresh hsz
/-- what is tracked for the def, and the lambda's promise there -/
theorem lam_at {k : Nat} {params : Arguments} {body : Expr} {scope : Scope} {a b : Str} {ids : List Nat} {cap : List Str} {f c' : Addr} {pm ctv : Value} {tb : TE} {F : Nat → Nat → Bool} (I : Inv X pins σ H s) (L : LamP X.N X.env.scope scope a b ids cap) (hfn : ∀ y, X.fn y = true)
    (hf : s.heap.get? f = some (PySem.W.kla_obj "<lambda>" (X.env.qual ++ "<lambda>") params body scope (cloFrom X.env.cells scope.names []) pm c' ctv)) (hf0 : H f = none) (hfr : f ∉ frs X.stack) (hfb : X.base.objs.size ≤ f) (hc : H c' = some (CodeO c' (X.env.qual ++ "<lambda>")))
    (hbind : ∀ (q : Str) (cl : List (Str × Addr)) (pm cv ctv u v : Value), bindArgs (PySem.W.kla_fn "<lambda>" q params body scope cl pm cv ctv) ⟨[u, v], []⟩ = pure [(a, u), (b, v)])
    (hbody : ∀ (A : Around) (outer : List Env) (s : Shared) (H : Hp), Room k (A.deeper (envL (X.env.qual ++ "<lambda>") scope s.heap.objs.size f (.ref c') (cloFrom X.env.cells scope.names []))) → PE (cxL X.prog X.w X.K X.mg X.base (a :: b :: cap) (X.env.qual ++ "<lambda>") scope f (.ref c') (cloFrom X.env.cells scope.names []) A outer s H) body tb)
    (hF : ∀ (HD : Hp) (k l : Nat) (Q : VK), Same H HD → (∀ H', Same HD H' → Q (.bl (F k l)) H') → tb (some (.int k) :: some (.int l) :: ids.map fun i => (σ[i]?).getD none) HD Q) :
    ∃ G : List (Addr × Obj), (∀ p ∈ G, H p.1 = none) ∧ (∀ p ∈ G, s.heap.get? p.1 = some p.2) ∧ (∀ p ∈ G, X.base.get? p.1 = none) ∧ (∀ p ∈ G, p.1 ∉ frs X.stack) ∧ LamAt X.prog X.w X.K X.mg X.base (k + 1) (Lay G H) f F := by
  have hfree : ∀ y ∈ scope.names, y.2 = .free → ∃ c, X.env.cells.lookup y.1 = some c := fun y hy e => by
    rcases L.free y hy e with z | z
    · exact I.ok.has _ (.inl z)
    · exact I.ok.has _ (.inr z)
  generalize hcl : cloFrom X.env.cells scope.names [] = clos at hf hbody
  have cmm : ∀ {y c}, (y, c) ∈ clos → X.env.cells.lookup y = some c := fun {y c} e => by
    rw [← hcl] at e
    rcases cloFrom_mem e with z | ⟨h1, h2⟩
    · cases z
    · obtain ⟨c1, h3⟩ := hfree _ h1 rfl
      rw [h2, show X.env.cells.lookup y = some c1 from h3]
      rfl
  have cm : ∀ {y c}, clos.lookup y = some c → X.env.cells.lookup y = some c := fun e => cmm (PySem.mem_of_lookup e)
  have look : ∀ {y}, scope.names.lookup y = some .free → ∃ c, clos.lookup y = some c := fun {y} h => by
    rw [← hcl]
    exact mem_lookup (cloFrom_has (cells := X.env.cells) (acc := []) (PySem.mem_of_lookup h))
  generalize hob : PySem.W.kla_obj "<lambda>" (X.env.qual ++ "<lambda>") params body scope clos pm c' ctv = ob at hf
  let C : List (Addr × Obj) := clos.map fun p => (p.2, (s.heap.get? p.2).getD ob)
  have inC : ∀ p ∈ C, ∃ y, (y, p.1) ∈ clos ∧ X.env.cells.lookup y = some p.1 ∧ s.heap.get? p.1 = some p.2 := fun p hp => by
    obtain ⟨q, hq, rfl⟩ := List.mem_map.mp hp
    have e := cmm (y := q.1) (c := q.2) hq
    obtain ⟨v, o, ho, _⟩ := I.cell _ _ e
    refine ⟨q.1, hq, e, ?_⟩
    show s.heap.get? q.2 = some ((s.heap.get? q.2).getD ob)
    rw [ho]
    rfl
  have hasC : ∀ {y c}, clos.lookup y = some c → ∃ o, C.lookup c = some o := fun {y c} e => by
    have : (C.lookup c).isSome = true := by
      rw [List.lookup_isSome_iff]
      exact ⟨(c, _), List.mem_map.mpr ⟨(y, c), PySem.mem_of_lookup e, rfl⟩, by simp⟩
    exact Option.isSome_iff_exists.mp this
  have cge : ∀ {y c}, X.env.cells.lookup y = some c → X.s_0.heap.objs.size ≤ c := fun {y c} e => I.ok.cab y c (hfn y) e
  have hH : ∀ p ∈ (f, ob) :: C, H p.1 = none := fun p hp => by
    rcases List.mem_cons.mp hp with rfl | hp
    · exact hf0
    · obtain ⟨y, _, e, _⟩ := inC p hp
      exact I.freeC y _ e
  have hg : ∀ p ∈ (f, ob) :: C, s.heap.get? p.1 = some p.2 := fun p hp => by
    rcases List.mem_cons.mp hp with rfl | hp
    · exact hf
    · obtain ⟨y, _, _, e⟩ := inC p hp
      exact e
  refine ⟨(f, ob) :: C, hH, hg, fun p hp => ?_, fun p hp => ?_, ⟨?_, fun H2 s2 A outer t2 us vs Q hr e0 hv hsp => ?_⟩⟩
  · rcases List.mem_cons.mp hp with rfl | hp
    · exact Heap.get?_none_of_le hfb
    · obtain ⟨y, _, e, _⟩ := inC p hp
      exact Heap.get?_none_of_le (Nat.le_trans I.ok.bsz (cge e))
  · rcases List.mem_cons.mp hp with rfl | hp
    · exact hfr
    · obtain ⟨y, _, e, _⟩ := inC p hp
      intro z
      rcases List.mem_cons.mp (I.stkSub _ z) with z | z
      · obtain ⟨v, o, ho, hd⟩ := I.cell _ _ e
        obtain ⟨m, ⟨o', es, ep, e1, e2, _⟩, _⟩ := I.loc
        rw [← z, ho] at e1
        cases e1
        rw [hd] at e2
        cases e2
      · obtain ⟨_, o, ho, _⟩ := I.ok.funs.mem z
        exact absurd (Nat.lt_of_lt_of_le (Heap.lt_size ho) (cge e)) (Nat.lt_irrefl _)
  · have e := lay_in (L := (f, ob) :: C) (H := H) (b := f) (o := ob) (by simp [List.lookup_cons])
    rw [← hob] at e
    rw [← hob]
    exact ⟨_, _, _, _, e⟩
  · obtain ⟨kk, l, rfl, hq⟩ := hsp
    obtain ⟨u1, us, rfl⟩ : ∃ u us', us = u :: us' := by cases hv; exact ⟨_, _, rfl⟩
    obtain ⟨u2, us, rfl⟩ : ∃ u us', us = u :: us' := by cases hv with | cons _ h => cases h; exact ⟨_, _, rfl⟩
    obtain rfl : us = [] := by cases hv with | cons _ h => cases h with | cons _ h => cases h; rfl
    have r1 : RelV (.int kk) u1 := by cases hv with | cons h _ => exact h
    have r2 : RelV (.int l) u2 := by cases hv with | cons _ h => cases h with | cons h _ => exact h
    have trk : ∀ p ∈ (f, ob) :: C, H2 p.1 = some (ObO p.1 p.2) := fun p hp => s2 _ _ (by
      have : (((f, ob) :: C).lookup p.1).isSome = true := by
        rw [List.lookup_isSome_iff]
        exact ⟨p, hp, by simp⟩
      obtain ⟨o, ho⟩ := Option.isSome_iff_exists.mp this
      rw [lay_in ho]
      have e1 := hg _ (memL ho)
      rw [hg p hp] at e1
      have e1 : p.2 = o := Option.some.inj e1
      rw [e1])
    have trkC : ∀ p ∈ C, H2 p.1 = some (ObO p.1 p.2) := fun p hp => trk p (.tail _ hp)
    have of2 : t2.heap.get? f = some ob := of_obO (e0.hok _ _ (trk (f, ob) (.head _)))
    have hc2 : H2 c' = some (CodeO c' (X.env.qual ++ "<lambda>")) := s2 _ _ (by rw [lay_out (nlay hH hc)]; exact hc)
    obtain ⟨⟨oc, vs, t, hoc, hdc, hvc⟩, _, _⟩ := e0.hok c' _ hc2
    rw [← hob] at of2
    refine PySem.W.kla_callFunE hr.depth of2 rfl L.co L.gen rfl ⟨c', oc, vs, t, rfl, hoc, hdc, hvc⟩ ?_
    rw [hbind]
    have lim : t2.heap.NoLimit := e0.mod.nolimit.keeps fun b o e => (e0.bs b o e).1
    refine wpAny_pure (wpAny_newFunctionEnv (fun y hy => L.cell y hy) (fun y hy => ?_) (fun h₁ hns hsb => ⟨lim.fresh _ hsb, ?_⟩) L.kind)
    · simp only [List.mem_cons, List.not_mem_nil, or_false] at hy
      rcases hy with rfl | rfl
      · exact L.pa
      · exact L.pb
    · show codeAny _ _ (.expr body (envL (X.env.qual ++ "<lambda>") scope t2.heap.objs.size f (.ref c') clos)) _ _
      have kp : ∀ b o, t2.heap.get? b = some o → h₁.get? b = some o := fun b o e => hsb.extBut b o (Nat.ne_of_lt (Heap.lt_size e)) (Heap.get?_push_of_some _ e)
      have cellK : ∀ {y c} {v : Option Value}, clos.lookup y = some c → s.heap.IsCell c v → h₁.IsCell c v := fun {y c v} e ⟨o, ho, hd⟩ => by
        obtain ⟨o', ho'⟩ := hasC e
        have m := memL ho'
        have e1 := hg _ (.tail _ m)
        rw [ho] at e1
        cases e1
        exact ⟨_, kp _ _ (of_obO (e0.hok _ _ (trkC _ m))), hd⟩
      have sHD : Same H (Off C H2) := fun b o e => by
        have l1 := nlay hH e
        have l2 : C.lookup b = none := nlay (fun p hp => hH p (.tail _ hp)) e
        rw [off_out l2]
        exact s2 _ _ (by rw [lay_out l1]; exact e)
      have J : Inv (cxL X.prog X.w X.K X.mg X.base (a :: b :: cap) (X.env.qual ++ "<lambda>") scope f (.ref c') clos A outer t2 (Off C H2)) [] (some (.int kk) :: some (.int l) :: ids.map fun i => (σ[i]?).getD none) (Off C H2) { t2 with heap := h₁, toks := t2.toks + 2 } := by
        refine lam_start ?_ L.kind (env_off e0 trkC) hr.hd (fun x y c h1 h2 => I.ok.inj x y c (cm h1) (cm h2)) (fun x hx => ?_) (fun x c h => ?_) (fun x c h => ?_) hns kp (fun i x v h1 h2 => ?_)
        · have := congrArg List.length L.ix
          simp at this
          simp [this]
        · rcases hx with hx | hx
          · exact absurd rfl (L.cell _ (PySem.mem_of_lookup hx))
          · exact look hx
        · obtain ⟨v, z⟩ := I.cell _ _ (cm h)
          exact ⟨v, cellK h z⟩
        · obtain ⟨o, ho⟩ := hasC h
          exact off_in ho
        · match i, h1, h2 with
          | 0, h1, h2 =>
            simp at h1 h2
            subst h1 h2
            refine ⟨u1, r1, .inl ⟨L.pa, ?_⟩⟩
            have : (a == b) = false := by simpa using L.ab
            simp [List.lookup_cons, this]
          | 1, h1, h2 =>
            simp at h1 h2
            subst h1 h2
            exact ⟨u2, r2, .inl ⟨L.pb, by simp [List.lookup_cons]⟩⟩
          | j + 2, h1, h2 =>
            simp only [List.getElem?_cons_succ] at h1 h2
            have hx := congrArg (fun z => z[j]?) L.ix
            simp only [List.getElem?_map, h1] at hx
            rw [List.getElem?_map] at h2
            cases hi : ids[j]? with
            | none => rw [hi] at h2; cases h2
            | some i0 =>
              rw [hi] at h2 hx
              simp only [Option.map_some, Option.some.injEq] at h2 hx
              have hs : σ[i0]? = some (some v) := by
                cases e : σ[i0]? with
                | none => rw [e] at h2; cases h2
                | some z => rw [e] at h2; exact congrArg some h2
              have hfr2 := L.caps x (List.mem_of_getElem? h1)
              have hk := L.free _ (PySem.mem_of_lookup hfr2) rfl
              obtain ⟨m, hn, hl⟩ := I.loc
              obtain ⟨u, ru, q⟩ := hl i0 x v hx hs (hk.elim (fun k => .inr (.inl k)) fun k => .inr (.inr k))
              obtain ⟨c2, hc2⟩ := look hfr2
              refine ⟨u, ru, .inr ⟨.inr hfr2, c2, hc2, ?_⟩⟩
              rcases q with ⟨k', _⟩ | ⟨_, c3, e3, z⟩
              · have k' : X.env.scope.names.lookup x = some .local := k'
                rcases hk with k2 | k2 <;> rw [show X.env.scope.names.lookup x = _ from k2] at k' <;> cases k'
              · rw [cm hc2] at e3
                cases e3
                exact cellK hc2 z
      have ht := hF (Off C H2) kk l (fun v H' => Q v (Lay C H')) sHD fun H' sH' => hq (Lay C H') fun b o e => by
        cases lk : C.lookup b with
        | some o' =>
          rw [lay_in lk]
          have e1 := trkC _ (memL lk)
          rw [e] at e1
          exact e1.symm
        | none =>
          rw [lay_out lk]
          exact sH' _ _ (by rw [off_out lk]; exact e)
      refine PySem.W.kla_codeExpr (wpAny_mono ((hbody A outer t2 (Off C H2) (hr.deeper _)).run [] _ _ _ _ J ht) (fun v s' h => ?_) fun e s' h => (show False from h).elim)
      obtain ⟨w', H', J', rv, q⟩ := h
      refine ce_lam (L := C) ⟨w', H', J'.os, J'.bare, J'.base, J'.hok, rv, q⟩ e0.hok trkC (fun p hp z => ?_) fun v H' q => q
      have := e0.frf _ z
      rw [trkC p hp] at this
      cases this
end
end FH

set_option Elab.async false
set_option linter.all false
set_option maxRecDepth 100000
set_option maxHeartbeats 2000000
namespace FH
open PySem PySem.Spec PyProof.Rows L2 LamX
section
variable {X : Cx} {pins : List (Addr × Obj)} {σ : L2.St} {H : Hp} {s : Shared}
theorem inv_pin {f : Addr} {o : Obj} (I : Inv X pins σ H s) (h1 : s.heap.get? f = some o) (h2 : H f = none) (h3 : f ≠ X.env.locals) (h4 : f ∉ X.fs) (h5 : ∀ v, o.data ≠ .cell v) : Inv X ((f, o) :: pins) σ H s :=
  ⟨I.ok, I.os, I.bare, I.base, I.loc, I.cell, I.free, I.freeC, fun p hp => (List.mem_append.mp hp).elim (fun hp => I.pin p (List.mem_append_left _ hp)) fun hp => (List.mem_cons.mp hp).elim (fun e => by rw [e]; exact ⟨h1, h2, h3, h4, h5⟩) fun hp => I.pin p (List.mem_append_right _ hp), I.hok, I.len⟩
theorem inv_unpin {p : Addr × Obj} (I : Inv X (p :: pins) σ H s) : Inv X pins σ H s :=
  ⟨I.ok, I.os, I.bare, I.base, I.loc, I.cell, I.free, I.freeC, fun q hq => I.pin q ((List.mem_append.mp hq).elim (fun h => List.mem_append_left _ h) fun h => List.mem_append_right _ (.tail _ h)), I.hok, I.len⟩
theorem lay_all {G : List (Addr × Obj)} (hg : ∀ p ∈ G, s.heap.get? p.1 = some p.2) : ∀ p ∈ G, Lay G H p.1 = some (ObO p.1 p.2) := fun p hp => by
  have : (G.lookup p.1).isSome = true := by
    rw [List.lookup_isSome_iff]
    exact ⟨p, hp, by simp⟩
  obtain ⟨o, ho⟩ := Option.isSome_iff_exists.mp this
  rw [lay_in ho]
  have e1 := hg _ (memL ho)
  rw [hg p hp] at e1
  have e1 : p.2 = o := Option.some.inj e1
  rw [e1]
end
abbrev TL := L2.St → Hp → (Addr → List V → Hp → Prop) → Prop
/-- arguments, one of them a lambda -/
structure PL (X : Cx) (es : List Expr) (params : Arguments) (body : Expr) (scope : Scope) (t : TL) : Prop where
  run : ∀ (pos : Pos) (pins : List (Addr × Obj)) (s : Shared) (σ : L2.St) (H : Hp) (Q : Addr → List V → Hp → Prop), Inv X pins σ H s → t σ H Q → wpAny (model X.prog X.w) X.A (spliced (backTo pos (starEach es X.env)))
    (fun us s' => ∃ f c' pm ctv vs H', Inv X ((f, PySem.W.kla_obj "<lambda>" (X.env.qual ++ "<lambda>") params body scope (cloFrom X.env.cells scope.names []) pm c' ctv) :: pins) σ H' s' ∧ Vals vs us ∧ H' c' = some (CodeO c' (X.env.qual ++ "<lambda>")) ∧ X.base.objs.size ≤ f ∧ f ∉ frs X.stack ∧ Q f vs H') X.xe s
def tLam0 (T : List (Addr × Str)) (ta : TA) : TL := fun σ H Q => Tabs T H ∧ ∀ H1, ExtN H H1 → Tabs T H1 → ∀ f, H1 f = none → ta σ H1 fun vs H2 => Same H1 H2 ∧ Q f (.ref f :: vs) H2
def tLamC (te : TE) (t : TL) : TL := fun σ H Q => te σ H fun x H1 => t σ H1 fun f vs H2 => Q f (x :: vs) H2
section
variable {X : Cx}
theorem pl_head {T : List (Addr × Str)} {c P : Addr} {params : Arguments} {body : Expr} {scope : Scope} {a b : Str} {ids : List Nat} {cap : List Str} {es : List Expr} {ta : TA} {lpos : Pos} (TB : TabB X.base X.mg c P) (hcode : X.env.code = .ref c) (hm : (P, X.env.qual ++ "<lambda>") ∈ T)
    (hu : ∀ p ∈ T, p.1 = P → p.2 = X.env.qual ++ "<lambda>") (L : LamP X.N X.env.scope scope a b ids cap) (ha : PA X es ta) (hdef : defaultsOf params X.env = ([], []) := by rfl) (hs : starEach (.Lambda params body scope lpos :: es) X.env = (false, eval (.Lambda params body scope lpos) X.env) :: starEach es X.env := by rfl) :
    PL X (.Lambda params body scope lpos :: es) params body scope (tLam0 T ta) := by
  refine ⟨fun pos pins s σ H Q I h => ?_⟩
  obtain ⟨hT, h⟩ := h
  rw [hs]
  show wpAny _ _ (spliced ((false, eval (.Lambda params body scope lpos) X.env) :: backTo pos (starEach es X.env))) _ _ s
  have hfree : ∀ y ∈ scope.names, y.2 = .free → ∃ c, X.env.cells.lookup y.1 = some c := fun y hy e => by
    rcases L.free y hy e with z | z
    · exact I.ok.has _ (.inl z)
    · exact I.ok.has _ (.inr z)
  refine Calls.spliced_cons (lam_mk I TB hcode hm hu hT hdef hfree fun f c' pm ctv H1 s1 I1 eN T1 hf hf0 hge hco => ?_)
  have nl : f ≠ X.env.locals := Nat.ne_of_gt (Nat.lt_of_lt_of_le I.lt hge)
  have nfs : f ∉ X.fs := I.nofs hge
  have I2 := inv_pin I1 hf hf0 nl nfs (fun v z => by cases z)
  refine thn (ha.run pos _ s1 σ H1 _ I2 (h H1 eN T1 f hf0)) fun us s2 ⟨vs, H2, I3, r, sm, q⟩ => ⟨f, c', pm, ctv, .ref f :: vs, H2, I3, .cons rfl r, sm _ _ hco, Nat.le_trans (Nat.le_trans I.ok.bsz I.sz) hge, fun z => ?_, q⟩
  rcases List.mem_cons.mp (I.stkSub _ z) with z | z
  · exact nl z
  · exact nfs z
theorem pl_cons {params : Arguments} {body : Expr} {scope : Scope} {e : Expr} {es : List Expr} {te : TE} {t : TL} (he : PE X e te) (hr : PL X es params body scope t) (hs : starEach (e :: es) X.env = (false, eval e X.env) :: starEach es X.env := by rfl) : PL X (e :: es) params body scope (tLamC te t) := by
  refine ⟨fun pos pins s σ H Q I h => ?_⟩
  rw [hs]
  show wpAny _ _ (spliced ((false, eval e X.env) :: backTo pos (starEach es X.env))) _ _ s
  refine Calls.spliced_cons (thn (he.run pins s σ H _ I h) fun u s1 ⟨x, H1, I1, r1, q1⟩ => ?_)
  exact thn (hr.run pos pins s1 σ H1 _ I1 q1) fun us s2 ⟨f, c', pm, ctv, vs, H2, I2, r2, h1, h2, h3, q2⟩ => ⟨f, c', pm, ctv, x :: vs, H2, I2, .cons r1 r2, h1, h2, h3, q2⟩
/-- what is asked at g(.., lambda a, b: .., ..) -/
def tCallL (P : Program) (w : World) (K : PySem.W.Frag) (mg : Str → Option Value) (base : Heap) (k : Nat) (sp : Sp) (tb : TE) (ids : List Nat) (t : TL) : TE := fun σ H Q => t σ H fun f vs H1 => ∃ F : Nat → Nat → Bool,
  (∀ (HD : Hp) (k l : Nat) (Qb : VK), Same H1 HD → (∀ H', Same HD H' → Qb (.bl (F k l)) H') → tb (some (.int k) :: some (.int l) :: ids.map fun i => (σ[i]?).getD none) HD Qb) ∧
  ∀ (HL : Hp) (dr : Hp → Hp), Same H1 HL → LamAt P w K mg base k HL f F → (∀ H', Same HL H' → Same H1 (dr H')) → (∀ H', Same HL H' → ∀ b o, H' b = some o → (∀ φ, o ≠ .ext φ) → dr H' b = some o) → sp vs HL (fun v H' => Same HL H' ∧ Q v (dr H')) E0
theorem pe_callL {x : Str} {g : Addr} {fd : FuncData} {ps : List Str} {sp : Sp} {k j : Nat} {params : Arguments} {body : Expr} {scope : Scope} {a b : Str} {ids : List Nat} {cap : List Str} {e : Expr} {es : List Expr} {t : TL} {tb : TE} {p pos : Pos}
    (F : FnOk X.prog X.w X.K X.mg X.base CX0 j g fd ps sp) (hr : Room j X.A) (hg : Gl X x) (hm : X.mg x = some (.ref g)) (hk : PySem.W.keepIn X.K (.ref g) = true) (hb : Binds X.K fd ps []) (pl : PL X (e :: es) params body scope t) (L : LamP X.N X.env.scope scope a b ids cap) (hfn : ∀ y, X.fn y = true)
    (hbind : ∀ (q : Str) (cl : List (Str × Addr)) (pm cv ctv u v : Value), bindArgs (PySem.W.kla_fn "<lambda>" q params body scope cl pm cv ctv) ⟨[u, v], []⟩ = pure [(a, u), (b, v)])
    (hbody : ∀ (f c' : Addr) (A : Around) (outer : List Env) (s : Shared) (H : Hp), Room k (A.deeper (envL (X.env.qual ++ "<lambda>") scope s.heap.objs.size f (.ref c') (cloFrom X.env.cells scope.names []))) → PE (cxL X.prog X.w X.K X.mg X.base (a :: b :: cap) (X.env.qual ++ "<lambda>") scope f (.ref c') (cloFrom X.env.cells scope.names []) A outer s H) body tb)
    (hdb : (x == ("__debug__" : Str)) = false := by decide) (he : starEach (e :: es) X.env = (false, eval e X.env) :: starEach es X.env := by rfl) (hpl : (backTo pos (starEach es X.env)).any (·.1) = false := by rfl) :
    PE X (.Call (.Name x p) (e :: es) [] pos) (tCallL X.prog X.w X.K X.mg X.base (k + 1) sp tb ids t) := by
  refine ⟨fun pins s σ H Q I h => ?_⟩
  refine wpAny_Call_Name_kw (ld_glob I hg hm ?_ hdb)
  refine PySem.W.callWith_K (h₀ := X.base) I.ok.mod.kin hk (thn (pl.run pos pins s σ H _ I h) fun us s1 ⟨f, c', pm, ctv, vs, H1, I1, r, hc, hfb, hfr, G, hG, q⟩ => ⟨I1.kIn, ?_⟩) he hpl
  have pn := I1.pin (f, _) (List.mem_append_right _ (.head _))
  obtain ⟨D, g1, g2, g3, g4, LA⟩ := lam_at I1 L hfn pn.1 pn.2.1 hfr hfb hc hbind (fun A outer s H hr => hbody f c' A outer s H hr) hG
  have eL : Same H1 (Lay D H1) := fun b o e => by rw [lay_out (nlay g1 e)]; exact e
  have q2 := q (Lay D H1) (Off D) eL LA (fun H' sm b o e => by
      have l := nlay g1 e
      rw [off_out l]
      exact sm _ _ (by rw [lay_out l]; exact e))
    (fun H' sm b o e nx => by
      rw [off_out (noff (fun p hp => sm _ _ (lay_all g2 p hp)) e nx)]
      exact e)
  have r2 : Vals (vs ++ []) (us ++ []) := by simpa using r
  have hl : (us ++ ([] : List Value)).length = ps.length := by rw [← r2.length]; exact F.len _ _ _ _ (by simpa using q2)
  refine wpAny_call (codeAny_mono (F.run X.A X.stack s1 (Lay D H1) ⟨us, []⟩ (us ++ []) (vs ++ []) _ E0 hr (env_lay I1.env0 g1 g2 g3 g4) (hb s1 us I1.kIn hl) r2 (by simpa using q2)) fun r s' hq => ?_)
  cases r with
  | error e => exact (show False from hq).elim
  | ok fl =>
    cases fl with
    | ret u =>
      obtain ⟨v, H', J, rv, qq⟩ := I1.after (ce_back (Q' := Q) hq g1 g2 fun v H' q => ⟨fun p hp => q.1 _ _ (lay_all g2 p hp), q.2⟩)
      exact ⟨v, H', inv_unpin J, rv, qq⟩
    | next => exact False.elim hq
    | brk => exact False.elim hq
    | cont => exact False.elim hq
/-- a(.., ..), a being a test that was handed in -/
def tLamV (P : Program) (w : World) (K : PySem.W.Frag) (mg : Str → Option Value) (base : Heap) (k i : Nat) (t : TA) : TE := fun σ H Q => ∃ f F, σ[i]? = some (some (.ref f)) ∧ LamAt P w K mg base k H f F ∧ t σ H fun vs H1 => Same H H1 ∧ ∃ kk l : Nat, vs = [.int kk, .int l] ∧ ∀ H2, Same H1 H2 → Q (.bl (F kk l)) H2
theorem pe_lamv {P : Program} {w : World} {K : PySem.W.Frag} {mg : Str → Option Value} {base : Heap} {k i : Nat} {a : Str} {e : Expr} {es : List Expr} {t : TA} {p pos : Pos} (hP : X.prog = P) (hw : X.w = w) (hK : X.K = K) (hmg : X.mg = mg) (hba : X.base = base) (hr : Room k X.A) (hN : X.N[i]? = some a) (hv : Vis X.env.scope a) (ha : PA X (e :: es) t)
    (hd : (a == ("__debug__" : Str)) = false := by decide) (hcd : (a == ("__classdict__" : Str)) = false := by decide) (he : starEach (e :: es) X.env = (false, eval e X.env) :: starEach es X.env := by rfl) (hpl : (backTo pos (starEach es X.env)).any (·.1) = false := by rfl) :
    PE X (.Call (.Name a p) (e :: es) [] pos) (tLamV P w K mg base k i t) := by
  subst hP hw hK hmg hba
  refine ⟨fun pins s σ H Q I h => ?_⟩
  obtain ⟨f, F, hs, LA, ht⟩ := h
  refine wpAny_Call_Name_kw (thn ((pe_var (pos := p) (i := i) hN hv hd hcd).run pins s σ H (fun v H1 => v = .ref f ∧ H1 = H) I ⟨.ref f, hs, rfl, rfl⟩) fun u s1 ⟨v, H1, I1, r1, q1⟩ => ?_)
  obtain ⟨ev, eH⟩ := q1
  subst ev
  rw [eH] at I1
  obtain rfl : u = Value.ref f := r1
  obtain ⟨oc, od, fd, sl, hf⟩ := LA.fn
  refine PySem.W.callWith_F ⟨oc, od, fd, sl, of_obO (I1.hok _ _ hf)⟩ (thn (ha.run pos pins s1 σ H _ I1 ht) fun us s2 ⟨vs, H2, I2, r, sm, kk, l, ev, q⟩ => ⟨⟨oc, od, fd, sl, of_obO (I2.hok _ _ (sm _ _ hf))⟩, ?_⟩) he hpl
  refine wpAny_call (codeAny_mono (LA.run H2 sm X.A X.stack s2 us vs Q hr I2.env0 r ⟨kk, l, ev, q⟩) fun r s' hq => ?_)
  cases r with
  | error e => exact (show False from hq).elim
  | ok fl =>
    cases fl with
    | ret u => exact I2.after hq
    | next => exact False.elim hq
    | brk => exact False.elim hq
    | cont => exact False.elim hq
end
/-- a def by its body, its code object being told -/
theorem okC {P : Program} {w : World} {K : PySem.W.Frag} {mg : Str → Option Value} {base : Heap} {x qual : Str} {st : Stmt} {f : Addr} {fd : FuncData} {N ps : List Str} {k : Nat} {sp : Sp} (F : Fun K x qual st f fd) (S : FnScope N ps (defScope st)) (len : ∀ vs H Q E, sp vs H Q E → vs.length = ps.length)
    (hbody : ∀ (A : Around) (outer : List Env) (s : Shared) (H : Hp) (vs : List V) (Q : VK) (E : XK), Room k (A.deeper (envOfC qual (defScope st) s.heap.objs.size f fd.code)) → sp vs H Q E →
      ∃ t, PSs (cxOf CX0 P w K mg base N qual (defScope st) f fd.code A outer s H E).nox (defBody st) t ∧ t { nx := fun _ H' => Q .non H', rt := Q } (start N vs) H) : FnOk P w K mg base CX0 (k + 1) f fd ps sp := by
  obtain ⟨oc, od, kV, doc, pm, an, cdv, ct, osl, rfl, lk, hcd⟩ := F.ex
  refine fn_of lk hcd S len fun A outer s H vs Q E hr hsp => ?_
  obtain ⟨t, h, q⟩ := hbody A outer s H vs Q E hr hsp
  exact ⟨t, h.nox, q⟩
end FH

set_option Elab.async false
set_option linter.all false
set_option maxRecDepth 100000
set_option maxHeartbeats 1000000
namespace FH
open PySem L2
local macro_rules | `(tactic| walk_at "seq") => `(tactic| first | assumption | exact SqL.of (by assumption) | exact SqT.of (by assumption) | exact SqL.of upd_same | exact SqT.of upd_same)
local macro_rules | `(tactic| walk_at "at") => `(tactic| first | exact atI_nat (j := 0) rfl | exact atI_nat (j := 1) rfl | exact atI_nat (j := 2) rfl | exact atI_nat (by assumption) | assumption)
local macro_rules | `(tactic| walk_at "ar") => `(tactic| first | omega | exact ⟨by omega, by omega⟩ | exact Or.inl ⟨by omega, by omega⟩ | exact Or.inr ⟨by omega, by omega⟩ | exact ⟨by decide, by decide⟩ | exact Or.inr ⟨by decide, by decide⟩ | exact Or.inl ⟨by decide, by decide⟩ | exact ⟨by decide, by decide, by omega⟩ | exact ⟨by decide, by decide, by decide⟩)
local macro_rules | `(tactic| walk_at "r") => `(tactic| repeat (first
  | refine ⟨_, rfl, ?_⟩
  | refine ⟨_, _, rfl, rfl, ?_⟩
  | refine ⟨_, _, _, _, rfl, rfl, by walk_at "seq", by walk_at "at", ?_⟩
  | refine ⟨_, _, _, _, rfl, rfl, by assumption, rfl, ?_⟩
  | refine ⟨_, _, rfl, Or.inl (by walk_at "seq"), ?_⟩
  | refine Or.inl ⟨_, rfl, ?_⟩
  | refine Or.inr ⟨_, rfl, ?_⟩
  | refine And.intro (by walk_at "ar") ?_))
open Pr
def spAgain (K : PySem.W.Frag) : Sp := fun vs H Q _ => ∃ (a : Addr) (g : Nat → Str) (s p : Nat), vs = [.ref a, .int s, .int p] ∧ SqL K H a ((List.range (s + 2 * p)).map fun n => .str (g n)) ∧ Per g s p ∧ 0 < p ∧ s + 2 * p ≤ 1000 ∧
  ∀ (t : Addr) (st sz : Nat) (H' : Hp), Same H H' → Lst g st sz → st ≤ s → sz ≤ p → H' t = some (.tup [.int st, .int sz]) → Q (.ref t) H'
section
variable {P : Program} {w : World} {K : PySem.W.Frag} {mg : Str → Option Value} {base : Heap}
end
end FH

set_option Elab.async false
set_option linter.all false
set_option maxRecDepth 100000
set_option maxHeartbeats 1000000
namespace FH
open PySem L2
local macro_rules | `(tactic| walk_at "seq") => `(tactic| first | assumption | exact SqL.of (by assumption) | exact SqT.of (by assumption) | exact SqL.of upd_same | exact SqT.of upd_same)
local macro_rules | `(tactic| walk_at "at") => `(tactic| first | exact atI_nat (j := 0) rfl | exact atI_nat (j := 1) rfl | exact atI_nat (j := 2) rfl | exact atI_nat (by assumption) | assumption)
local macro_rules | `(tactic| walk_at "ar") => `(tactic| first | omega | exact ⟨by omega, by omega⟩ | exact Or.inl ⟨by omega, by omega⟩ | exact Or.inr ⟨by omega, by omega⟩ | exact ⟨by decide, by decide⟩ | exact Or.inr ⟨by decide, by decide⟩ | exact Or.inl ⟨by decide, by decide⟩ | exact ⟨by decide, by decide, by omega⟩ | exact ⟨by decide, by decide, by decide⟩)
local macro_rules | `(tactic| walk_at "r") => `(tactic| repeat (first
  | refine ⟨_, rfl, ?_⟩
  | refine ⟨_, _, rfl, rfl, ?_⟩
  | refine ⟨_, _, _, _, rfl, rfl, by walk_at "seq", by walk_at "at", ?_⟩
  | refine ⟨_, _, _, _, rfl, rfl, by assumption, rfl, ?_⟩
  | refine ⟨_, _, rfl, Or.inl (by walk_at "seq"), ?_⟩
  | refine Or.inl ⟨_, rfl, ?_⟩
  | refine Or.inr ⟨_, rfl, ?_⟩
  | refine And.intro (by walk_at "ar") ?_))
open Pr
def numsT (t : Tb) : List Str := [Str.ofString (toString (t.s0 : Int)), Str.ofString (toString (t.s1 : Int)), Str.ofString (toString (t.p0 : Int)), Str.ofString (toString (t.p1 : Int))]
/-- the text of a table -/
def txtT (t : Tb) : Str := Str.ofString "[" ++ Txt.join (Str.ofString " ") (numsT t) ++ Str.ofString ": " ++ Txt.join (Str.ofString " ") t.rows ++ Str.ofString "]"
theorem jn_len (sep : Str) : ∀ ys : List Str, (Str.join sep ys).length ≤ (ys.map (·.length)).sum + ys.length * sep.length
  | [] => by show 0 ≤ _; exact Nat.zero_le _
  | [x] => by show x.length ≤ _; simp
  | x :: y :: r => by
    have ih := jn_len sep (y :: r)
    have e : (Str.join sep (x :: y :: r)).length = x.length + sep.length + (Str.join sep (y :: r)).length := by
      show (x ++ sep ++ Str.join sep (y :: r)).length = _
      show ((x.cps ++ sep.cps) ++ (Str.join sep (y :: r)).cps).size = _
      rw [Array.size_append, Array.size_append]
      rfl
    rw [e]
    simp only [List.map_cons, List.sum_cons, List.length_cons] at ih ⊢
    have : (r.length + 1 + 1) * sep.length = (r.length + 1) * sep.length + sep.length := Nat.succ_mul _ _
    omega
theorem join_len (sep : Str) (ys : List Str) : (Txt.join sep ys).length ≤ (ys.map (·.length)).sum + ys.length * sep.length := by
  rw [TL.join_eq]
  exact jn_len sep ys
theorem sum_le {ys : List Str} {B : Nat} (h : ∀ y ∈ ys, y.length ≤ B) : (ys.map (·.length)).sum ≤ ys.length * B := by
  induction ys with
  | nil => simp
  | cons y r ih =>
    have h1 := h y (.head _)
    have h2 := ih fun z hz => h z (.tail _ hz)
    rw [List.map_cons, List.sum_cons, List.length_cons, Nat.succ_mul]
    omega
theorem log_small {n : Nat} (h : n ≤ 1000) : ((n : Int)).natAbs.log2 < 1920 := by
  rw [Int.natAbs_natCast]
  by_cases e : n = 0
  · rw [e]; decide
  · exact (Nat.log2_lt e).mpr (Nat.lt_of_lt_of_le (show n < 2 ^ 10 by omega) (Nat.pow_le_pow_right (by decide) (by decide)))
theorem num_len {n : Nat} (h : n ≤ 1000) : (Str.ofString (toString (n : Int))).length ≤ 11 := by
  have := PySem.int_text_length_le (a := (n : Int)) (k := 10) (by decide) (by
    rw [Int.natAbs_natCast]
    by_cases e : n = 0
    · rw [e]; decide
    · exact (Nat.log2_lt e).mpr (by omega))
  rw [PySem.ofString_length]
  exact this
theorem cutS_sgn (bs : List Bool) (j : Nat) (h : j ≤ bs.length) : cutS (sgnS bs) none (some (j : Int)) = sgnS (bs.take j) := by
  have hl := len_sgn bs
  unfold cutS
  rw [HT.sIx_none, HT.sIx_nat, hl, Nat.min_eq_left h, Nat.sub_zero, List.drop_zero]
  unfold sgnS
  rw [List.map_take]
structure Tb.Sm (t : Tb) : Prop where
  a : t.s0 ≤ 1000
  b : t.s1 ≤ 1000
  c : t.p0 ≤ 1000
  d : t.p1 ≤ 1000
  e : t.rows.length ≤ 2000
  f : ∀ x ∈ t.rows, x.length ≤ 2000
theorem Tb.Sm.m {t : Tb} (h : t.Sm) : ((numsT t).map (·.length)).sum + (numsT t).length * (Str.ofString " ").length ≤ 48 := by
  have h1 := num_len h.a
  have h2 := num_len h.b
  have h3 := num_len h.c
  have h4 := num_len h.d
  show _ + (_ + (_ + (_ + 0))) + 4 * 1 ≤ 48
  simp only [] at *
  omega
theorem Tb.Sm.n {t : Tb} (h : t.Sm) : (Txt.join (Str.ofString " ") (numsT t)).length ≤ 48 := Nat.le_trans (join_len _ _) h.m
theorem len_app (x y : Str) : (x ++ y).length = x.length + y.length := by
  show (x.cps ++ y.cps).size = _
  rw [Array.size_append]
  rfl
theorem Tb.Sm.r {t : Tb} (h : t.Sm) : (t.rows.map (·.length)).sum + t.rows.length * (Str.ofString " ").length ≤ 4002000 := by
  have h1 := sum_le h.f
  have h2 := h.e
  have h3 : t.rows.length * 2000 ≤ 2000 * 2000 := Nat.mul_le_mul_right _ h2
  show _ + t.rows.length * 1 ≤ _
  omega
def spLst (P : Program) (w : World) (K : PySem.W.Frag) (mg : Str → Option Value) (base : Heap) (kL : Nat) : Sp := fun vs H Q _ => ∃ (f a b : Addr) (F : Nat → Nat → Bool) (s0 s1 p0 p1 : Nat), vs = [.ref f, .ref a, .ref b] ∧ LamAt P w K mg base kL H f F ∧
  (SqL K H a [.int s0, .int s1] ∨ SqT K H a [.int s0, .int s1]) ∧ (SqL K H b [.int p0, .int p1] ∨ SqT K H b [.int p0, .int p1]) ∧ PerF F s0 s1 p0 p1 ∧ 0 < p0 ∧ 0 < p1 ∧ s0 + 2 * p0 ≤ 1000 ∧ s1 + 2 * p1 ≤ 1000 ∧
  ∀ H', Same H H' → Q (.str (txtT (tabF F s0 s1 p0 p1).least)) H'
section
variable {P : Program} {w : World} {K : PySem.W.Frag} {mg : Str → Option Value} {base : Heap}
end
end FH

set_option Elab.async false
set_option linter.all false
set_option maxRecDepth 100000
set_option maxHeartbeats 1000000
namespace FH
open PySem L2
local macro_rules | `(tactic| walk_at "seq") => `(tactic| first | assumption | exact SqL.of (by assumption) | exact SqT.of (by assumption) | exact SqL.of upd_same | exact SqT.of upd_same)
local macro_rules | `(tactic| walk_at "at") => `(tactic| first | exact atI_nat (j := 0) rfl | exact atI_nat (j := 1) rfl | exact atI_nat (j := 2) rfl | exact atI_nat (by assumption) | assumption)
local macro_rules | `(tactic| walk_at "ar") => `(tactic| first | omega | exact ⟨by omega, by omega⟩ | exact Or.inl ⟨by omega, by omega⟩ | exact Or.inr ⟨by omega, by omega⟩ | exact ⟨by decide, by decide⟩ | exact Or.inr ⟨by decide, by decide⟩ | exact Or.inl ⟨by decide, by decide⟩ | exact ⟨by decide, by decide, by omega⟩ | exact ⟨by decide, by decide, by decide⟩)
local macro_rules | `(tactic| walk_at "r") => `(tactic| repeat (first
  | refine ⟨_, rfl, ?_⟩
  | refine ⟨_, _, rfl, rfl, ?_⟩
  | refine ⟨_, _, _, _, rfl, rfl, by walk_at "seq", by walk_at "at", ?_⟩
  | refine ⟨_, _, _, _, rfl, rfl, by assumption, rfl, ?_⟩
  | refine ⟨_, _, rfl, Or.inl (by walk_at "seq"), ?_⟩
  | refine Or.inl ⟨_, rfl, ?_⟩
  | refine Or.inr ⟨_, rfl, ?_⟩
  | refine And.intro (by walk_at "ar") ?_))
open Pr
/-- str of a set -/
def spStr (C : Addr) : Sp := fun vs H Q _ => ∃ (x : Addr) (t : Tb), vs = [.ref x] ∧ CrAt C H x t ∧ t.Sm ∧ ∀ H', Same H H' → Q (.str (txtT t)) H'
section
variable {P : Program} {w : World} {K : PySem.W.Frag} {mg : Str → Option Value} {base : Heap}
theorem sc_Crowds___str__ : FnScope ["self", "numbers", "number"] ["self"] (defScope (inClass (topS 24) 18)) := ⟨rfl, rfl, rfl, by decide +kernel, rfl, by decide +kernel, by decide +kernel⟩
theorem ok_str {C f : Addr} {fd : FuncData} {k : Nat} (F : Fun K "__str__" "Crowds.__str__" (inClass (topS 24) 18) f fd) (T : Bt mg) (L : CrC K mg C) : FnOk P w K mg base CX0 (k + 1) f fd ["self"] (spStr C) := by
  refine F.ok sc_Crowds___str__ (fun vs H Q E h => ?_) (fun cdv A outer s H vs Q E hr h => ?_)
  · obtain ⟨x, t, rfl, _⟩ := h
    rfl
  · obtain ⟨x, t, rfl, hx, Sm, q⟩ := h
    refine ⟨_, (pss_cons (ps_setLc (i := 1) (own := [("number", 2)]) (g := (gName 2)) (tt := tYes) rfl sc_Crowds___str__.nd rfl rfl (sw_true rfl rfl rfl (by decide +kernel)) (piSK (K := K) rfl (pe_tup (StX.pa_star (fldK (K := K) rfl (pv 0)) (StX.pa_star (fldK (K := K) rfl (pv 0)) pa_nil)))) (blkOk_by (own := [("number", 2)]) (N := ["self", "numbers", "number"]) (sc := defScope (inClass (topS 24) 18)) (by decide +kernel)) (fun _ _ _ _ _ => (pg_name (i := 2) sc_Crowds___str__.nd rfl (by first | exact Or.inl rfl | exact Or.inr rfl))) (fun _ _ _ _ _ => pts_nil) (fun _ _ _ _ _ => (pe_callTy call_str_int (by rfl) T.m_str (by decide +kernel) (pa_cons (pv 2) pa_nil))))
  (pss_one (ps_ret (pe_joined (PJ.cons pe_str (PJ.cons (pe_fmt (pe_joinK (K := K) rfl pe_str (pv 1))) (PJ.cons pe_str (PJ.cons (pe_fmt (pe_joinK (K := K) rfl pe_str (fldK (K := K) rfl (pv 0)))) (PJ.cons pe_str PJ.nil))))))))), ?_⟩
    obtain ⟨dx, ts, tp, tr, h1, h2, h3, h4⟩ := hx
    refine ⟨_, rfl, x, C, dx, _, _, rfl, h1, L.cl, L.nS, cget_s _ _ _, ts, _, rfl, .inl (SqT.of h2), _, rfl, x, C, dx, _, _, rfl, h1, L.cl, L.nP, cget_p _ _ _, tp, _, rfl, .inl (SqT.of h3), by show 4 ≤ sizeLine; decide, fun t5 nt5 => ?_⟩
    have s9 := same_new (o := .tup [.int t.s0, .int t.s1, .int t.p0, .int t.p1]) nt5
    have ht5 := upd_same (H := H) (a := t5) (o := .tup [.int t.s0, .int t.s1, .int t.p0, .int t.p1])
    have h19 := s9 _ _ h1
    have h49 := s9 _ _ h4
    refine ⟨t5, _, rfl, .inr ⟨SqT.of ht5, fun D6 nD6 => lc_fmT nD6 (SqT.of ht5) (by show 4 < 100000; decide) (fun v => match v with | .int i => some (.str (Str.ofString (toString i))) | _ => none) (fun i x HA Nx hx sA tk nt => ?_) (fun HA sA hDA => ?_)⟩⟩
    · have hx' : ∃ n : Nat, n ≤ 1000 ∧ x = .int n := by
        have := List.mem_of_getElem? hx
        simp only [List.mem_cons, List.not_mem_nil, or_false, List.cons_append, List.nil_append] at this
        rcases this with rfl | rfl | rfl | rfl
        · exact ⟨_, Sm.a, rfl⟩
        · exact ⟨_, Sm.b, rfl⟩
        · exact ⟨_, Sm.c, rfl⟩
        · exact ⟨_, Sm.d, rfl⟩
      obtain ⟨n, hn, rfl⟩ := hx'
      exact ⟨rfl, _, rfl, _, rfl, log_small hn, tk _ _ (Same.refl _) rfl⟩
    · have hDA' : HA D6 = some (.lst ((numsT t).map V.str)) := hDA
      have l1 := Sm.n
      have l2 := Sm.r
      have l3 : (Txt.join (Str.ofString " ") t.rows).length ≤ 4002000 := Nat.le_trans (join_len _ _) l2
      have e0 : ∀ y : Str, Str.empty ++ y = y := fun y => by
        show (⟨#[] ++ y.cps⟩ : Str) = y
        rw [Array.empty_append]
      refine ⟨_, rfl, ?_, ⟨_, rfl⟩, _, rfl, _, D6, _, rfl, rfl, .inl (SqL.of hDA'), Nat.le_trans Sm.m (by decide), .inl ⟨_, rfl, ?_, _, rfl, ?_, _, rfl, ?_, ⟨_, rfl⟩, _, rfl, x, C, dx, _, _, rfl, sA _ _ h19, L.cl, L.nR, cget_r _ _ _, _, tr, _, rfl, rfl, .inr (SqT.of (sA _ _ h49)), Nat.le_trans l2 (by decide), .inl ⟨_, rfl, ?_, _, rfl, ?_, _, rfl, ?_, ?_⟩⟩⟩
      · decide
      · exact Nat.le_trans l1 (by decide)
      · rw [e0, len_app]; show 1 + _ ≤ 16777216; omega
      · rw [e0, len_app, len_app]; show 1 + _ + 2 ≤ 16777216; omega
      · exact Nat.le_trans l3 (by decide)
      · rw [e0, len_app, len_app, len_app]; show 1 + _ + 2 + _ ≤ 16777216; omega
      · rw [e0, len_app, len_app, len_app, len_app]; show 1 + _ + 2 + _ + 1 ≤ 16777216; omega
      · show Q (.str (Str.empty ++ Str.ofString "[" ++ _ ++ _ ++ _ ++ _)) _
        rw [e0]
        exact q _ (s9.trans sA)
end
end FH

set_option Elab.async false
set_option linter.all false
set_option maxRecDepth 100000
set_option maxHeartbeats 1000000
namespace FH
open PySem L2
local macro_rules | `(tactic| walk_at "seq") => `(tactic| first | assumption | exact SqL.of (by assumption) | exact SqT.of (by assumption) | exact SqL.of upd_same | exact SqT.of upd_same)
local macro_rules | `(tactic| walk_at "at") => `(tactic| first | exact atI_nat (j := 0) rfl | exact atI_nat (j := 1) rfl | exact atI_nat (j := 2) rfl | exact atI_nat (by assumption) | assumption)
local macro_rules | `(tactic| walk_at "ar") => `(tactic| first | omega | exact ⟨by omega, by omega⟩ | exact Or.inl ⟨by omega, by omega⟩ | exact Or.inr ⟨by omega, by omega⟩ | exact ⟨by decide, by decide⟩ | exact Or.inr ⟨by decide, by decide⟩ | exact Or.inl ⟨by decide, by decide⟩ | exact ⟨by decide, by decide, by omega⟩ | exact ⟨by decide, by decide, by decide⟩)
local macro_rules | `(tactic| walk_at "r") => `(tactic| repeat (first
  | refine ⟨_, rfl, ?_⟩
  | refine ⟨_, _, rfl, rfl, ?_⟩
  | refine ⟨_, _, _, _, rfl, rfl, by walk_at "seq", by walk_at "at", ?_⟩
  | refine ⟨_, _, _, _, rfl, rfl, by assumption, rfl, ?_⟩
  | refine ⟨_, _, rfl, Or.inl (by walk_at "seq"), ?_⟩
  | refine Or.inl ⟨_, rfl, ?_⟩
  | refine Or.inr ⟨_, rfl, ?_⟩
  | refine And.intro (by walk_at "ar") ?_))
open Pr
/-! ### two sets side by side -/
structure Two (t u : Tb) : Prop where
  o1 : t.Ok
  o2 : u.Ok
  a0 : t.s0 + t.p0 ≤ 1000
  a1 : t.s1 + t.p1 ≤ 1000
  b0 : u.s0 + u.p0 ≤ 1000
  b1 : u.s1 + u.p1 ≤ 1000
  c0 : max t.s0 u.s0 + Nat.lcm t.p0 u.p0 ≤ 1000
  c1 : max t.s1 u.s1 + Nat.lcm t.p1 u.p1 ≤ 1000
theorem Two.symm {t u : Tb} (h : Two t u) : Two u t := ⟨h.o2, h.o1, h.b0, h.b1, h.a0, h.a1, by rw [Nat.max_comm, Nat.lcm_comm]; exact h.c0, by rw [Nat.max_comm, Nat.lcm_comm]; exact h.c1⟩
def tall (t u : Tb) : Nat := max t.s0 u.s0 + Nat.lcm t.p0 u.p0
def wide (t u : Tb) : Nat := max t.s1 u.s1 + Nat.lcm t.p1 u.p1
def spBoth (C : Addr) : Sp := fun vs H Q _ => ∃ (x y : Addr) (t u : Tb), vs = [.ref x, .ref y] ∧ CrAt C H x t ∧ CrAt C H y u ∧ Two t u ∧
  ∀ (T ls lp l1 l2 : Addr) (H' : Hp), Same H H' → H' T = some (.tup [.ref ls, .ref lp, .ref l1, .ref l2]) → H' ls = some (.lst [.int (max t.s0 u.s0 : Nat), .int (max t.s1 u.s1 : Nat)]) → H' lp = some (.lst [.int (Nat.lcm t.p0 u.p0 : Nat), .int (Nat.lcm t.p1 u.p1 : Nat)]) →
    H' l1 = some (.lst ((canR t.has (tall t u) (wide t u)).map V.str)) → H' l2 = some (.lst ((canR u.has (tall t u) (wide t u)).map V.str)) → Q (.ref T) H'
def anyIn (xs : List Str) : Bool := xs.any fun x => decide (43 ∈ tlS x)
def subB (t u : Tb) : Bool := !anyIn (canR (fun k l => t.has k l && !u.has k l) (tall t u) (wide t u))
def spWithin (C : Addr) : Sp := fun vs H Q _ => ∃ (x y : Addr) (t u : Tb), vs = [.ref x, .ref y] ∧ CrAt C H x t ∧ CrAt C H y u ∧ Two t u ∧ ∀ H', Same H H' → Q (.bl (subB t u)) H'
/-! plain: a set comes again -/
theorem Tb.per0 {t : Tb} {s q : Nat} (hs : t.s0 ≤ s) (hd : t.p0 ∣ q) (l : Nat) : Per (fun k => t.has k l) s q := by
  obtain ⟨m, rfl⟩ := hd
  have : Per (fun k => spot k t.s0 t.p0) t.s0 (m * t.p0) := spot_per.mul m
  intro n hn
  have e := this n (by omega)
  show inB (t.rows.getD (spot (n + t.p0 * m) t.s0 t.p0) Str.empty) _ = inB (t.rows.getD (spot n t.s0 t.p0) Str.empty) _
  rw [Nat.mul_comm t.p0 m]
  have e' : spot (n + m * t.p0) t.s0 t.p0 = spot n t.s0 t.p0 := e
  rw [e']
theorem Tb.per1 {t : Tb} {s q : Nat} (hs : t.s1 ≤ s) (hd : t.p1 ∣ q) (k : Nat) : Per (fun l => t.has k l) s q := by
  obtain ⟨m, rfl⟩ := hd
  have : Per (fun k => spot k t.s1 t.p1) t.s1 (m * t.p1) := spot_per.mul m
  intro n hn
  have e := this n (by omega)
  show inB _ (spot (n + t.p1 * m) t.s1 t.p1) = inB _ (spot n t.s1 t.p1)
  rw [Nat.mul_comm t.p1 m]
  have e' : spot (n + m * t.p1) t.s1 t.p1 = spot n t.s1 t.p1 := e
  rw [e']
theorem any_canR {f : Nat → Nat → Bool} {tl wd : Nat} : anyIn (canR f tl wd) = true ↔ ∃ k l, k < tl ∧ l < wd ∧ f k l = true := by
  unfold anyIn canR
  rw [List.any_map, List.any_eq_true]
  constructor
  · rintro ⟨k, hk, h⟩
    have h := of_decide_eq_true h
    rw [tl_sgn, List.map_map] at h
    obtain ⟨l, hl, e⟩ := List.mem_map.mp h
    refine ⟨k, l, List.mem_range.mp hk, List.mem_range.mp hl, ?_⟩
    cases hf : f k l with
    | true => rfl
    | false => simp [hf] at e
  · rintro ⟨k, l, hk, hl, hf⟩
    refine ⟨k, List.mem_range.mpr hk, decide_eq_true ?_⟩
    rw [tl_sgn, List.map_map]
    exact List.mem_map.mpr ⟨l, List.mem_range.mpr hl, by simp [hf]⟩
theorem box {t u : Tb} (h : Two t u) (q : Bool → Bool → Bool) (k l : Nat) :
    q (t.has (spot k (max t.s0 u.s0) (Nat.lcm t.p0 u.p0)) (spot l (max t.s1 u.s1) (Nat.lcm t.p1 u.p1))) (u.has (spot k (max t.s0 u.s0) (Nat.lcm t.p0 u.p0)) (spot l (max t.s1 u.s1) (Nat.lcm t.p1 u.p1))) = q (t.has k l) (u.has k l) := by
  have e1 : ∀ (v : Tb), (v = t ∨ v = u) → v.has (spot k (max t.s0 u.s0) (Nat.lcm t.p0 u.p0)) (spot l (max t.s1 u.s1) (Nat.lcm t.p1 u.p1)) = v.has k l := by
    intro v hv
    have s0 : v.s0 ≤ max t.s0 u.s0 := by rcases hv with rfl | rfl <;> omega
    have s1 : v.s1 ≤ max t.s1 u.s1 := by rcases hv with rfl | rfl <;> omega
    have d0 : v.p0 ∣ Nat.lcm t.p0 u.p0 := by rcases hv with rfl | rfl <;> first | exact Nat.dvd_lcm_left _ _ | exact Nat.dvd_lcm_right _ _
    have d1 : v.p1 ∣ Nat.lcm t.p1 u.p1 := by rcases hv with rfl | rfl <;> first | exact Nat.dvd_lcm_left _ _ | exact Nat.dvd_lcm_right _ _
    have a := (Tb.per0 (t := v) s0 d0 (spot l (max t.s1 u.s1) (Nat.lcm t.p1 u.p1))).spot k
    have b := (Tb.per1 (t := v) s1 d1 k).spot l
    exact a.trans b
  rw [e1 t (.inl rfl), e1 u (.inr rfl)]
theorem lcm_pos {t u : Tb} (h : Two t u) : 0 < Nat.lcm t.p0 u.p0 ∧ 0 < Nat.lcm t.p1 u.p1 := ⟨Nat.lcm_pos h.o1.h0 h.o2.h0, Nat.lcm_pos h.o1.h1 h.o2.h1⟩
theorem subB_iff {t u : Tb} (h : Two t u) : subB t u = true ↔ ∀ k l, t.has k l = true → u.has k l = true := by
  have hn : subB t u = true ↔ ¬ anyIn (canR (fun k l => t.has k l && !u.has k l) (tall t u) (wide t u)) = true := by
    unfold subB
    cases anyIn _ <;> simp
  rw [hn, any_canR]
  constructor
  · intro z k l hk
    cases hu : u.has k l with
    | true => rfl
    | false =>
      exfalso
      have e := box h (fun a b => a && !b) k l
      refine z ⟨spot k (max t.s0 u.s0) (Nat.lcm t.p0 u.p0), spot l (max t.s1 u.s1) (Nat.lcm t.p1 u.p1), spot_lt (lcm_pos h).1, spot_lt (lcm_pos h).2, ?_⟩
      refine Eq.trans e ?_
      rw [hk, hu]; rfl
  · rintro z ⟨k, l, _, _, hf⟩
    rw [Bool.and_eq_true] at hf
    rw [z k l hf.1] at hf
    exact absurd hf.2 (by decide)
theorem p4_sub : Str.ofString "--+-" = pick4 (fun a b => a && !b) := by decide +kernel
section
variable {P : Program} {w : World} {K : PySem.W.Frag} {mg : Str → Option Value} {base : Heap} {C : Addr}
theorem sc_both_tables : FnScope ["one", "other", "starts", "at", "periods", "some"] ["one", "other"] (defScope (topS 19)) := ⟨rfl, rfl, rfl, by decide +kernel, rfl, by decide +kernel, by decide +kernel⟩
theorem ok_both {f fM fW fP : Addr} {fd fdM fdW fdP : FuncData} {k : Nat} (F : Fun K "both_tables" "both_tables" (topS 19) f fd) (T : Bt mg) (L : CrC K mg C)
    (FM : Fun K "common_multiple" "common_multiple" (topS 9) fM fdM) (bM : Binds K fdM ["one", "other"] []) (gM : mg "common_multiple" = some (.ref fM))
    (FP : Fun K "place_of" "place_of" (topS 17) fP fdP) (bP : Binds K fdP ["number", "start", "period"] []) (gP : mg "place_of" = some (.ref fP))
    (FW : Fun K "widened" "widened" (topS 18) fW fdW) (bW : Binds K fdW ["rows", "starts", "periods", "more", "others"] []) (gW : mg "widened" = some (.ref fW)) :
    FnOk P w K mg base CX0 (k + 3) f fd ["one", "other"] (spBoth C) := by
  have GM : FnOk P w K mg base CX0 (k + 2) fM fdM ["one", "other"] spMult := ok_mult FM T
  have GW : FnOk P w K mg base CX0 (k + 2) fW fdW ["rows", "starts", "periods", "more", "others"] (spWid K) := ok_wid FW T FP bP gP
  refine F.ok sc_both_tables (fun vs H Q E h => ?_) (fun cdv A outer s H vs Q E hr h => ?_)
  · obtain ⟨x, y, t, u, rfl, _⟩ := h
    rfl
  · obtain ⟨x, y, t, u, rfl, hx, hy, h2, q⟩ := h
    refine ⟨_, (pss_cons (ps_setLc (i := 2) (own := [("at", 3)]) (g := (gName 3)) (tt := tYes) rfl sc_both_tables.nd rfl rfl (sw_true rfl rfl rfl (by decide +kernel)) (pi_range1 (by rfl) T.m_range (pa_cons pe_int pa_nil)) (blkOk_by (own := [("at", 3)]) (N := ["one", "other", "starts", "at", "periods", "some"]) (sc := defScope (topS 19)) (by decide +kernel)) (fun _ _ _ _ _ => (pg_name (i := 3) sc_both_tables.nd rfl (by first | exact Or.inl rfl | exact Or.inr rfl))) (fun _ _ _ _ _ => pts_nil) (fun _ _ _ _ _ => (pe_ifExp (pt_cmpR op_gt (pe_ix (ixTK (K := K) rfl) (fldK (K := K) rfl (pv 0)) (pv 3) (fun _ _ => rfl)) (pe_ix (ixTK (K := K) rfl) (fldK (K := K) rfl (pv 1)) (pv 3) (fun _ _ => rfl)) (nomark _)) (pe_ix (ixTK (K := K) rfl) (fldK (K := K) rfl (pv 0)) (pv 3) (fun _ _ => rfl)) (pe_ix (ixTK (K := K) rfl) (fldK (K := K) rfl (pv 1)) (pv 3) (fun _ _ => rfl)))))
  (pss_cons (ps_setLc (i := 4) (own := [("at", 3)]) (g := (gName 3)) (tt := tYes) rfl sc_both_tables.nd rfl rfl (sw_true rfl rfl rfl (by decide +kernel)) (pi_range1 (by rfl) T.m_range (pa_cons pe_int pa_nil)) (blkOk_by (own := [("at", 3)]) (N := ["one", "other", "starts", "at", "periods", "some"]) (sc := defScope (topS 19)) (by decide +kernel)) (fun _ _ _ _ _ => (pg_name (i := 3) sc_both_tables.nd rfl (by first | exact Or.inl rfl | exact Or.inr rfl))) (fun _ _ _ _ _ => pts_nil) (fun _ _ _ _ _ => (pe_call GM hr (by rfl) gM FM.kp bM .nil pass0 (pa_cons (pe_ix (ixTK (K := K) rfl) (fldK (K := K) rfl (pv 0)) (pv 3) (fun _ _ => rfl)) (pa_cons (pe_ix (ixTK (K := K) rfl) (fldK (K := K) rfl (pv 1)) (pv 3) (fun _ _ => rfl)) pa_nil)))))
  (pss_cons (ps_set (i := 5) sc_both_tables.nd rfl (by first | exact Or.inl rfl | exact Or.inr rfl) (pe_call GW hr (by rfl) gW FW.kp bW .nil pass0 (pa_cons (fldK (K := K) rfl (pv 0)) (pa_cons (fldK (K := K) rfl (pv 0)) (pa_cons (fldK (K := K) rfl (pv 0)) (pa_cons (pv 2) (pa_cons (pv 4) pa_nil)))))))
  (pss_one (ps_ret (pe_tup (pa_cons (pv 2) (pa_cons (pv 4) (pa_cons (pv 5) (pa_cons (pe_call GW hr (by rfl) gW FW.kp bW .nil pass0 (pa_cons (fldK (K := K) rfl (pv 1)) (pa_cons (fldK (K := K) rfl (pv 1)) (pa_cons (fldK (K := K) rfl (pv 1)) (pa_cons (pv 2) (pa_cons (pv 4) pa_nil)))))) pa_nil)))))))))), ?_⟩
    obtain ⟨dx, ts, tp, tr, hx, hts, htp, htr⟩ := hx
    obtain ⟨dy, us, up, ur, hy, hus, hup, hur⟩ := hy
    have two : ∀ {i : Nat}, i < Int.toNat 2 → i = 0 ∨ i = 1 := fun {i} h => by
      have : i < 2 := h
      omega
    have gt : ∀ a b : Nat, (if a > b then a else b) = max a b := fun a b => by rw [Nat.max_def]; split <;> split <;> omega
    -- starts
    refine ⟨2, rfl, by omega, by omega, fun D1 nD1 => lc_fmR nD1 (by decide) (fun i => some (.int ((if i = 0 then max t.s0 u.s0 else max t.s1 u.s1 : Nat) : Int))) (fun i H1 Nx hi s1 tk nt => ?_) (fun H1 s1 hD1 => ?_)⟩
    · have h1x := s1 _ _ hx
      have h1y := s1 _ _ hy
      have h1t := s1 _ _ hts
      have h1u := s1 _ _ hus
      rcases two hi with rfl | rfl
      · refine ⟨rfl, _, rfl, x, C, dx, _, _, rfl, h1x, L.cl, L.nS, cget_s _ _ _, _, rfl, ts, _, _, .int t.s0, rfl, rfl, SqT.of h1t, atI_nat (j := 0) rfl, _, rfl, y, C, dy, _, _, rfl, h1y, L.cl, L.nS, cget_s _ _ _, _, rfl, us, _, _, .int u.s0, rfl, rfl, SqT.of h1u, atI_nat (j := 0) rfl, _, _, rfl, rfl, _, rfl, ite2 (fun e => ?_) (fun e => ?_)⟩
        · refine ⟨_, rfl, x, C, dx, _, _, rfl, h1x, L.cl, L.nS, cget_s _ _ _, _, rfl, ts, _, _, .int t.s0, rfl, rfl, SqT.of h1t, atI_nat (j := 0) rfl, tk _ _ (fun _ _ q => q) ?_⟩
          have := of_decide_eq_true e
          show some (V.int ((max t.s0 u.s0 : Nat) : Int)) = _
          rw [Nat.max_eq_left (by omega)]
        · refine ⟨_, rfl, y, C, dy, _, _, rfl, h1y, L.cl, L.nS, cget_s _ _ _, _, rfl, us, _, _, .int u.s0, rfl, rfl, SqT.of h1u, atI_nat (j := 0) rfl, tk _ _ (fun _ _ q => q) ?_⟩
          have : ¬ (u.s0 : Int) < t.s0 := fun z => e (decide_eq_true z)
          show some (V.int ((max t.s0 u.s0 : Nat) : Int)) = _
          rw [Nat.max_eq_right (by omega)]
      · refine ⟨rfl, _, rfl, x, C, dx, _, _, rfl, h1x, L.cl, L.nS, cget_s _ _ _, _, rfl, ts, _, _, .int t.s1, rfl, rfl, SqT.of h1t, atI_nat (j := 1) rfl, _, rfl, y, C, dy, _, _, rfl, h1y, L.cl, L.nS, cget_s _ _ _, _, rfl, us, _, _, .int u.s1, rfl, rfl, SqT.of h1u, atI_nat (j := 1) rfl, _, _, rfl, rfl, _, rfl, ite2 (fun e => ?_) (fun e => ?_)⟩
        · refine ⟨_, rfl, x, C, dx, _, _, rfl, h1x, L.cl, L.nS, cget_s _ _ _, _, rfl, ts, _, _, .int t.s1, rfl, rfl, SqT.of h1t, atI_nat (j := 1) rfl, tk _ _ (fun _ _ q => q) ?_⟩
          have := of_decide_eq_true e
          show some (V.int ((max t.s1 u.s1 : Nat) : Int)) = _
          rw [Nat.max_eq_left (by omega)]
        · refine ⟨_, rfl, y, C, dy, _, _, rfl, h1y, L.cl, L.nS, cget_s _ _ _, _, rfl, us, _, _, .int u.s1, rfl, rfl, SqT.of h1u, atI_nat (j := 1) rfl, tk _ _ (fun _ _ q => q) ?_⟩
          have : ¬ (u.s1 : Int) < t.s1 := fun z => e (decide_eq_true z)
          show some (V.int ((max t.s1 u.s1 : Nat) : Int)) = _
          rw [Nat.max_eq_right (by omega)]
    have hS : H1 D1 = some (.lst [.int (max t.s0 u.s0 : Nat), .int (max t.s1 u.s1 : Nat)]) := hD1
    clear hD1
    have h1x := s1 _ _ hx
    have h1y := s1 _ _ hy
    have h1t := s1 _ _ htp
    have h1u := s1 _ _ hup
    -- periods
    dsimp only [gName, tSeq]
    refine ⟨2, rfl, by omega, by omega, fun D2 nD2 => lc_fmR nD2 (by decide) (fun i => some (.int ((if i = 0 then Nat.lcm t.p0 u.p0 else Nat.lcm t.p1 u.p1 : Nat) : Int))) (fun i H2 Nx hi s2 tk nt => ?_) (fun H2 s2 hD2 => ?_)⟩
    · have h2x := s2 _ _ h1x
      have h2y := s2 _ _ h1y
      have h2t := s2 _ _ h1t
      have h2u := s2 _ _ h1u
      have := h2.o1.h0
      have := h2.o1.h1
      have := h2.o2.h0
      have := h2.o2.h1
      have := h2.a0
      have := h2.a1
      have := h2.b0
      have := h2.b1
      rcases two hi with rfl | rfl
      · exact ⟨rfl, _, rfl, x, C, dx, _, _, rfl, h2x, L.cl, L.nP, cget_p _ _ _, _, rfl, tp, _, _, .int t.p0, rfl, rfl, SqT.of h2t, atI_nat (j := 0) rfl, _, rfl, y, C, dy, _, _, rfl, h2y, L.cl, L.nP, cget_p _ _ _, _, rfl, up, _, _, .int u.p0, rfl, rfl, SqT.of h2u, atI_nat (j := 0) rfl, t.p0, u.p0, rfl, by omega, by omega, by omega, by omega, tk _ _ (fun _ _ q => q) rfl⟩
      · exact ⟨rfl, _, rfl, x, C, dx, _, _, rfl, h2x, L.cl, L.nP, cget_p _ _ _, _, rfl, tp, _, _, .int t.p1, rfl, rfl, SqT.of h2t, atI_nat (j := 1) rfl, _, rfl, y, C, dy, _, _, rfl, h2y, L.cl, L.nP, cget_p _ _ _, _, rfl, up, _, _, .int u.p1, rfl, rfl, SqT.of h2u, atI_nat (j := 1) rfl, t.p1, u.p1, rfl, by omega, by omega, by omega, by omega, tk _ _ (fun _ _ q => q) rfl⟩
    have hP : H2 D2 = some (.lst [.int (Nat.lcm t.p0 u.p0 : Nat), .int (Nat.lcm t.p1 u.p1 : Nat)]) := hD2
    clear hD2
    have s02 := s1.trans s2
    have h2x := s2 _ _ h1x
    -- the rows of the first
    dsimp only [gName, tSeq]
    refine ⟨_, rfl, x, C, dx, _, _, rfl, h2x, L.cl, L.nR, cget_r _ _ _, _, rfl, x, C, dx, _, _, rfl, h2x, L.cl, L.nS, cget_s _ _ _, _, rfl, x, C, dx, _, _, rfl, h2x, L.cl, L.nP, cget_p _ _ _, _, rfl, _, rfl, ?_⟩
    refine ⟨tr, ts, tp, D1, D2, t, _, _, _, _, rfl, .inr (SqT.of (s02 _ _ htr)), .inr (SqT.of (s02 _ _ hts)), .inr (SqT.of (s02 _ _ htp)), .inl (SqL.of (s2 _ _ hS)), .inl (SqL.of hP), h2.o1, h2.a0, h2.a1, h2.c0, h2.c1, fun l1 H3 s3 nl1 hl1 => ?_⟩
    have s03 := s02.trans s3
    have h3y := s03 _ _ hy
    refine ⟨_, rfl, _, rfl, _, rfl, _, rfl, y, C, dy, _, _, rfl, h3y, L.cl, L.nR, cget_r _ _ _, _, rfl, y, C, dy, _, _, rfl, h3y, L.cl, L.nS, cget_s _ _ _, _, rfl, y, C, dy, _, _, rfl, h3y, L.cl, L.nP, cget_p _ _ _, _, rfl, _, rfl, ?_⟩
    refine ⟨ur, us, up, D1, D2, u, _, _, _, _, rfl, .inr (SqT.of (s03 _ _ hur)), .inr (SqT.of (s03 _ _ hus)), .inr (SqT.of (s03 _ _ hup)), .inl (SqL.of (s3 _ _ (s2 _ _ hS))), .inl (SqL.of (s3 _ _ hP)), h2.o2, h2.b0, h2.b1, h2.c0, h2.c1, fun l2 H4 s4 nl2 hl2 => ⟨by show 4 ≤ sizeLine; decide, fun Tp nT => ?_⟩⟩
    obtain ⟨H5, e5, s5, g5⟩ := new_ex nT (.tup [.ref D1, .ref D2, .ref l1, .ref l2])
    rw [e5]
    exact q Tp D1 D2 l1 l2 H5 ((s03.trans s4).trans s5) g5 (s5 _ _ (s4 _ _ (s3 _ _ (s2 _ _ hS)))) (s5 _ _ (s4 _ _ (s3 _ _ hP))) (s5 _ _ (s4 _ _ hl1)) (s5 _ _ hl2)
theorem sc_is_within : FnScope ["one", "other", "starts", "periods", "some", "others", "row"] ["one", "other"] (defScope (topS 22)) := ⟨rfl, rfl, rfl, by decide +kernel, rfl, by decide +kernel, by decide +kernel⟩
theorem ok_within {f fB fS : Addr} {fd fdB fdS : FuncData} {k : Nat} {t1 : Tok} (F : Fun K "is_within" "is_within" (topS 22) f fd) (T : Bt mg)
    (FB : Fun K "both_tables" "both_tables" (topS 19) fB fdB) (bB : Binds K fdB ["one", "other"] []) (gB : mg "both_tables" = some (.ref fB)) (GB : FnOk P w K mg base CX0 (k + 3) fB fdB ["one", "other"] (spBoth C))
    (FS : Fun K "signs_of" "signs_of" (topS 20) fS fdS) (bS : Binds K fdS ["some", "others", "signs"] []) (gS : mg "signs_of" = some (.ref fS)) (gIN : mg "IN" = some (.str "+" t1)) :
    FnOk P w K mg base CX0 (k + 4) f fd ["one", "other"] (spWithin C) := by
  have GS : FnOk P w K mg base CX0 (k + 3) fS fdS ["some", "others", "signs"] (spSof K) := ok_sof FS T gIN
  refine F.ok sc_is_within (fun vs H Q E h => ?_) (fun cdv A outer s H vs Q E hr h => ?_)
  · obtain ⟨x, y, t, u, rfl, _⟩ := h
    rfl
  · obtain ⟨x, y, t, u, rfl, hx, hy, h2, q⟩ := h
    refine ⟨_, (pss_cons (ps_asg (pe_call GB hr (by rfl) gB FB.kp bB .nil pass0 (pa_cons (pv 0) (pa_cons (pv 1) pa_nil))) (pg_tup rfl (pgs_cons (pg_name (i := 2) sc_is_within.nd rfl (by first | exact Or.inl rfl | exact Or.inr rfl)) (pgs_cons (pg_name (i := 3) sc_is_within.nd rfl (by first | exact Or.inl rfl | exact Or.inr rfl)) (pgs_cons (pg_name (i := 4) sc_is_within.nd rfl (by first | exact Or.inl rfl | exact Or.inr rfl)) (pgs_cons (pg_name (i := 5) sc_is_within.nd rfl (by first | exact Or.inl rfl | exact Or.inr rfl)) pgs_nil))))))
  (pss_one (ps_ret (pe_not (pe_callB (anyK (K := K) rfl rfl) (by rfl) T.m_any (by decide +kernel) (pa_cons (pe_lc (own := [("row", 6)]) (g := (gName 6)) (tt := tYes) rfl sc_is_within.nd (piLK (K := K) rfl (pe_call GS hr (by rfl) gS FS.kp bS .nil pass0 (pa_cons (pv 4) (pa_cons (pv 5) (pa_cons pe_str pa_nil))))) (blkOk_by (own := [("row", 6)]) (N := ["one", "other", "starts", "periods", "some", "others", "row"]) (sc := defScope (topS 22)) (by decide +kernel)) (fun _ _ _ _ _ => (pg_name (i := 6) sc_is_within.nd rfl (by first | exact Or.inl rfl | exact Or.inr rfl))) (fun _ _ _ _ _ => pts_nil) (fun _ _ _ _ _ => (pe_cmpR op_in_sign (pe_glob (v := .str "+") (by rfl) gIN ⟨_, rfl⟩) (pv 6) (by rfl)))) pa_nil)))))), ?_⟩
    refine ⟨_, rfl, _, rfl, x, y, t, u, rfl, hx, hy, h2, fun Tp ls lp l1 l2 H1 s1 hT hS hP h1 h2' => ?_⟩
    refine ⟨Tp, _, rfl, SqT.of hT, rfl, _, _, rfl, _, _, rfl, _, _, rfl, _, _, rfl, rfl, ?_⟩
    refine ⟨_, rfl, _, rfl, l1, l2, t.has, u.has, tall t u, wide t u, (fun a b => a && !b), by rw [← p4_sub]; rfl, .inl ⟨SqL.of h1, SqL.of h2'⟩, h2.c0, h2.c1, fun l H2 s2 nl hl => ?_⟩
    have ll : (canR (fun k l => t.has k l && !u.has k l) (tall t u) (wide t u)).length ≤ 1000 := by rw [len_canR]; exact h2.c0
    refine ⟨l, rfl, ⟨_, SqL.of hl⟩, fun D nD => lc_fmL nD (SqL.of hl) (by rw [List.length_map, len_canR]; exact Nat.lt_of_le_of_lt h2.c0 (by decide)) (fun v => match v with | .str x => some (.bl (decide (43 ∈ tlS x))) | _ => none) (fun i v H3 Nx hv s3 tk nt => ?_) (fun H3 s3 hD => ?_)⟩
    · obtain ⟨z, hz, rfl⟩ := List.mem_map.mp (List.mem_of_getElem? hv)
      refine ⟨rfl, _, rfl, 43, z, ?_, rfl, tk _ _ (fun _ _ q => q) rfl⟩
      exact congrArg V.str (by decide +kernel)
    · have e : ∀ l : List Str, (l.map V.str).filterMap (fun v => match v with | .str x => some (V.bl (decide (43 ∈ tlS x))) | _ => none) = (l.map fun x => decide (43 ∈ tlS x)).map V.bl := fun l => by
        induction l with
        | nil => rfl
        | cons a r ih => rw [List.map_cons, List.filterMap_cons, List.map_cons, List.map_cons, ih]
      rw [e] at hD
      refine ⟨D, _, rfl, SqL.of hD, _, rfl, ?_⟩
      have := q H3 ((s1.trans s2).trans s3)
      unfold subB anyIn at this
      rw [List.any_map]
      exact this
end
end FH

set_option Elab.async false
set_option linter.all false
set_option maxRecDepth 100000
set_option maxHeartbeats 1000000
namespace FH
open PySem L2
local macro_rules | `(tactic| walk_at "seq") => `(tactic| first | assumption | exact SqL.of (by assumption) | exact SqT.of (by assumption) | exact SqL.of upd_same | exact SqT.of upd_same)
local macro_rules | `(tactic| walk_at "at") => `(tactic| first | exact atI_nat (j := 0) rfl | exact atI_nat (j := 1) rfl | exact atI_nat (j := 2) rfl | exact atI_nat (by assumption) | assumption)
local macro_rules | `(tactic| walk_at "ar") => `(tactic| first | omega | exact ⟨by omega, by omega⟩ | exact Or.inl ⟨by omega, by omega⟩ | exact Or.inr ⟨by omega, by omega⟩ | exact ⟨by decide, by decide⟩ | exact Or.inr ⟨by decide, by decide⟩ | exact Or.inl ⟨by decide, by decide⟩ | exact ⟨by decide, by decide, by omega⟩ | exact ⟨by decide, by decide, by decide⟩)
local macro_rules | `(tactic| walk_at "r") => `(tactic| repeat (first
  | refine ⟨_, rfl, ?_⟩
  | refine ⟨_, _, rfl, rfl, ?_⟩
  | refine ⟨_, _, _, _, rfl, rfl, by walk_at "seq", by walk_at "at", ?_⟩
  | refine ⟨_, _, _, _, rfl, rfl, by assumption, rfl, ?_⟩
  | refine ⟨_, _, rfl, Or.inl (by walk_at "seq"), ?_⟩
  | refine Or.inl ⟨_, rfl, ?_⟩
  | refine Or.inr ⟨_, rfl, ?_⟩
  | refine And.intro (by walk_at "ar") ?_))
open Pr
/-- the class Crowds for isinstance -/
structure CrI (K : PySem.W.Frag) (C : Addr) : Prop where
  ha : PySem.W.findIn K (.ref C) "__class__" = some (some (.builtin "object.__class__"))
  hn : PySem.W.specialIn K (.builtin "object.__class__") "__get__" = some (some (.builtin "getset_descriptor.__get__"))
  ht : PySem.W.takesIn K (.builtin "object.__class__") = some true
  hm : PySem.W.mroIn K C (.type "object") = some true
  kOwn : PySem.W.kitOne K (.ref C) (.ref C) = some true
theorem CrAt.tyx {K : PySem.W.Frag} {mg : Str → Option Value} {C : Addr} {H : Hp} {x : Addr} {t : Tb} (h : CrAt C H x t) (L : CrC K mg C) (I : CrI K C) : TyX K H (.ref x) (.ref C) := by
  obtain ⟨dx, ts, tp, tr, hx, _⟩ := h
  exact .base (.ins hx L.cl I.ha I.hn I.ht I.hm)
def eqT (t u : Tb) : Bool := decide (t.s0 = u.s0 ∧ t.s1 = u.s1 ∧ t.p0 = u.p0 ∧ t.p1 = u.p1 ∧ t.rows = u.rows)
theorem eqT_iff {t u : Tb} : eqT t u = true ↔ t = u := by
  unfold eqT
  rw [decide_eq_true_iff]
  constructor
  · intro h
    cases t; cases u
    obtain ⟨rfl, rfl, rfl, rfl, rfl⟩ := h
    rfl
  · rintro rfl
    exact ⟨rfl, rfl, rfl, rfl, rfl⟩
def datT (t : Tb) : PyData := .tuple [tI [t.s0, t.s1], tI [t.p0, t.p1], tS t.rows]
theorem eqv_datT (t u : Tb) : PyData.eqv (datT t) (datT u) = eqT t u := by
  show (PyData.eqv (tI _) (tI _) && (PyData.eqv (tI _) (tI _) && (PyData.eqv (tS _) (tS _) && true))) = _
  rw [eqv_tI, eqv_tI, eqv_tS]
  unfold eqT
  by_cases h1 : t.s0 = u.s0 <;> by_cases h2 : t.s1 = u.s1 <;> by_cases h3 : t.p0 = u.p0 <;> by_cases h4 : t.p1 = u.p1 <;> by_cases h5 : t.rows = u.rows <;> simp [h1, h2, h3, h4, h5] <;> omega
theorem shaped_datT {t : Tb} (h : ∀ x ∈ t.rows, LayS x) : SeqAt.shaped (datT t) = true := by
  have e1 : PyData.canLayAll0 (t.rows.map PyData.str) = true := lay_strs _ h
  have d1 := depth_tS t.rows
  show ((true && (true && true)) && ((true && (true && true)) && (PyData.canLayAll0 (t.rows.map PyData.str) && true)) && decide (max 1 (max 1 (max (tS t.rows).depth 0)) + 1 ≤ 64)) = true
  rw [e1, d1]
  rfl
def spEq (K : PySem.W.Frag) (C : Addr) : Sp := fun vs H Q _ => ∃ (x : Addr) (v : V) (t : Tb), vs = [.ref x, v] ∧ CrAt C H x t ∧ (∀ r ∈ t.rows, LayS r) ∧
  ((∃ (y : Addr) (u : Tb), v = .ref y ∧ CrAt C H y u ∧ (∀ r ∈ u.rows, LayS r) ∧ ∀ H', Same H H' → Q (.bl (eqT t u)) H') ∨ (∃ ty, TyX K H v ty ∧ PySem.W.kitOne K ty (.ref C) = some false ∧ ∀ H', Same H H' → Q (.bl false) H'))
section
variable {P : Program} {w : World} {K : PySem.W.Frag} {mg : Str → Option Value} {base : Heap} {C : Addr}
theorem sc_Crowds___eq__ : FnScope ["self", "other"] ["self", "other"] (defScope (inClass (topS 24) 11)) := ⟨rfl, rfl, rfl, by decide +kernel, rfl, by decide +kernel, by decide +kernel⟩
theorem ok_eq {f : Addr} {fd : FuncData} {k : Nat} (F : Fun K "__eq__" "Crowds.__eq__" (inClass (topS 24) 11) f fd) (T : Bt mg) (L : CrC K mg C) (I : CrI K C) : FnOk P w K mg base CX0 (k + 1) f fd ["self", "other"] (spEq K C) := by
  refine F.ok sc_Crowds___eq__ (fun vs H Q E h => ?_) (fun cdv A outer s H vs Q E hr h => ?_)
  · obtain ⟨x, v, t, rfl, _⟩ := h
    rfl
  · obtain ⟨x, v, t, rfl, hx, hlt, h⟩ := h
    have hu := hr.units
    refine ⟨_, (pss_cons (ps_if (pt_not (pt_val (pe_callB (isiK (K := K) rfl) (by rfl) T.m_isinstance (by decide +kernel) (pa_cons (pv 1) (pa_cons (pe_glob (v := .ref C) (by rfl) L.mgC rfl) pa_nil))))) (pss_one (ps_ret pe_bl)) pss_nil)
  (pss_one (ps_ret (pe_cmpR (eqDK (K := K) rfl hu) (pe_tup (pa_cons (fldK (K := K) rfl (pv 0)) (pa_cons (fldK (K := K) rfl (pv 0)) (pa_cons (fldK (K := K) rfl (pv 0)) pa_nil)))) (pe_tup (pa_cons (fldK (K := K) rfl (pv 1)) (pa_cons (fldK (K := K) rfl (pv 1)) (pa_cons (fldK (K := K) rfl (pv 1)) pa_nil)))) (nomark _))))), ?_⟩
    rcases h with ⟨y, u, rfl, hy, hlu, q⟩ | ⟨ty, hty, kf, q⟩
    · refine ⟨_, rfl, _, _, _, _, _, rfl, .own C, hy.tyx L I, I.kOwn, _, rfl, iteF ?_⟩
      obtain ⟨dx, ts, tp, tr, hx, hts, htp, htr⟩ := hx
      obtain ⟨dy, us, up, ur, hy, hus, hup, hur⟩ := hy
      refine ⟨_, rfl, x, C, dx, _, _, rfl, hx, L.cl, L.nS, cget_s _ _ _, _, rfl, x, C, dx, _, _, rfl, hx, L.cl, L.nP, cget_p _ _ _, _, rfl, x, C, dx, _, _, rfl, hx, L.cl, L.nR, cget_r _ _ _, by show 3 ≤ sizeLine; decide, fun T1 n1 => ?_⟩
      obtain ⟨H1, e1, s1, g1⟩ := new_ex n1 (.tup [.ref ts, .ref tp, .ref tr])
      rw [e1]
      have hy1 := s1 _ _ hy
      refine ⟨_, rfl, y, C, dy, _, _, rfl, hy1, L.cl, L.nS, cget_s _ _ _, _, rfl, y, C, dy, _, _, rfl, hy1, L.cl, L.nP, cget_p _ _ _, _, rfl, y, C, dy, _, _, rfl, hy1, L.cl, L.nR, cget_r _ _ _, by show 3 ≤ sizeLine; decide, fun T2 n2 => ?_⟩
      obtain ⟨H2, e2, s2, g2⟩ := new_ex n2 (.tup [.ref us, .ref up, .ref ur])
      rw [e2]
      have s02 := s1.trans s2
      refine ⟨datT t, datT u, ?_, ?_, shaped_datT hlt, shaped_datT hlu, ?_⟩
      · exact .tup (SqT.of (s2 _ _ g1)) (.cons (dp_tI (ns := [(t.s0 : Int), (t.s1 : Int)]) (s02 _ _ hts)) (.cons (dp_tI (ns := [(t.p0 : Int), (t.p1 : Int)]) (s02 _ _ htp)) (.cons (dp_tS (SqT.of (s02 _ _ htr))) .nil)))
      · exact .tup (SqT.of g2) (.cons (dp_tI (ns := [(u.s0 : Int), (u.s1 : Int)]) (s02 _ _ hus)) (.cons (dp_tI (ns := [(u.p0 : Int), (u.p1 : Int)]) (s02 _ _ hup)) (.cons (dp_tS (SqT.of (s02 _ _ hur))) .nil)))
      · rw [eqv_datT]
        exact q H2 s02
    · exact ⟨_, rfl, _, _, _, _, _, rfl, .own C, hty, kf, _, rfl, iteT (q H fun _ _ e => e)⟩
end
end FH

set_option Elab.async false
set_option linter.all false
set_option maxRecDepth 100000
set_option maxHeartbeats 1000000
namespace FH
open PySem L2
local macro_rules | `(tactic| walk_at "seq") => `(tactic| first | assumption | exact SqL.of (by assumption) | exact SqT.of (by assumption) | exact SqL.of upd_same | exact SqT.of upd_same)
local macro_rules | `(tactic| walk_at "at") => `(tactic| first | exact atI_nat (j := 0) rfl | exact atI_nat (j := 1) rfl | exact atI_nat (j := 2) rfl | exact atI_nat (by assumption) | assumption)
local macro_rules | `(tactic| walk_at "ar") => `(tactic| first | omega | exact ⟨by omega, by omega⟩ | exact Or.inl ⟨by omega, by omega⟩ | exact Or.inr ⟨by omega, by omega⟩ | exact ⟨by decide, by decide⟩ | exact Or.inr ⟨by decide, by decide⟩ | exact Or.inl ⟨by decide, by decide⟩ | exact ⟨by decide, by decide, by omega⟩ | exact ⟨by decide, by decide, by decide⟩)
local macro_rules | `(tactic| walk_at "r") => `(tactic| repeat (first
  | refine ⟨_, rfl, ?_⟩
  | refine ⟨_, _, rfl, rfl, ?_⟩
  | refine ⟨_, _, _, _, rfl, rfl, by walk_at "seq", by walk_at "at", ?_⟩
  | refine ⟨_, _, _, _, rfl, rfl, by assumption, rfl, ?_⟩
  | refine ⟨_, _, rfl, Or.inl (by walk_at "seq"), ?_⟩
  | refine Or.inl ⟨_, rfl, ?_⟩
  | refine Or.inr ⟨_, rfl, ?_⟩
  | refine And.intro (by walk_at "ar") ?_))
open Pr
def spCmp (C : Addr) (g : Tb → Tb → Bool) : Sp := fun vs H Q _ => ∃ (x y : Addr) (t u : Tb), vs = [.ref x, .ref y] ∧ CrAt C H x t ∧ CrAt C H y u ∧ Two t u ∧ ∀ H', Same H H' → Q (.bl (g t u)) H'
section
variable {P : Program} {w : World} {K : PySem.W.Frag} {mg : Str → Option Value} {base : Heap} {C : Addr}
theorem sc_Crowds___le__ : FnScope ["self", "other"] ["self", "other"] (defScope (inClass (topS 24) 12)) := ⟨rfl, rfl, rfl, by decide +kernel, rfl, by decide +kernel, by decide +kernel⟩
theorem ok_le {f fW : Addr} {fd fdW : FuncData} {k : Nat} (F : Fun K "__le__" "Crowds.__le__" (inClass (topS 24) 12) f fd) (T : Bt mg) (L : CrC K mg C) (I : CrI K C)
    (FW : Fun K "is_within" "is_within" (topS 22) fW fdW) (bW : Binds K fdW ["one", "other"] []) (gW : mg "is_within" = some (.ref fW)) (GW : FnOk P w K mg base CX0 (k + 4) fW fdW ["one", "other"] (spWithin C)) :
    FnOk P w K mg base CX0 (k + 5) f fd ["self", "other"] (spCmp C fun t u => subB t u) := by
  refine F.ok sc_Crowds___le__ (fun vs H Q E h => ?_) (fun cdv A outer s H vs Q E hr h => ?_)
  · obtain ⟨x, y, t, u, rfl, _⟩ := h
    rfl
  · obtain ⟨x, y, t, u, rfl, hx, hy, h2, q⟩ := h
    refine ⟨_, (pss_cons (ps_if (pt_not (pt_val (pe_callB (isiK (K := K) rfl) (by rfl) T.m_isinstance (by decide +kernel) (pa_cons (pv 1) (pa_cons (pe_glob (v := .ref C) (by rfl) L.mgC rfl) pa_nil))))) (pss_one ps_never) pss_nil)
  (pss_one (ps_ret (pe_call GW hr (by rfl) gW FW.kp bW .nil pass0 (pa_cons (pv 0) (pa_cons (pv 1) pa_nil)))))), ?_⟩
    refine ⟨_, rfl, _, _, _, _, _, rfl, .own C, hy.tyx L I, I.kOwn, _, rfl, ?_⟩
    exact iteF ⟨_, rfl, _, rfl, ⟨x, y, t, u, rfl, hx, hy, h2, fun H1 s1 =>  q H1 s1⟩⟩
theorem sc_Crowds___lt__ : FnScope ["self", "other"] ["self", "other"] (defScope (inClass (topS 24) 13)) := ⟨rfl, rfl, rfl, by decide +kernel, rfl, by decide +kernel, by decide +kernel⟩
theorem ok_lt {f fW : Addr} {fd fdW : FuncData} {k : Nat} (F : Fun K "__lt__" "Crowds.__lt__" (inClass (topS 24) 13) f fd) (T : Bt mg) (L : CrC K mg C) (I : CrI K C)
    (FW : Fun K "is_within" "is_within" (topS 22) fW fdW) (bW : Binds K fdW ["one", "other"] []) (gW : mg "is_within" = some (.ref fW)) (GW : FnOk P w K mg base CX0 (k + 4) fW fdW ["one", "other"] (spWithin C)) :
    FnOk P w K mg base CX0 (k + 5) f fd ["self", "other"] (spCmp C fun t u => subB t u && !subB u t) := by
  refine F.ok sc_Crowds___lt__ (fun vs H Q E h => ?_) (fun cdv A outer s H vs Q E hr h => ?_)
  · obtain ⟨x, y, t, u, rfl, _⟩ := h
    rfl
  · obtain ⟨x, y, t, u, rfl, hx, hy, h2, q⟩ := h
    refine ⟨_, (pss_cons (ps_if (pt_not (pt_val (pe_callB (isiK (K := K) rfl) (by rfl) T.m_isinstance (by decide +kernel) (pa_cons (pv 1) (pa_cons (pe_glob (v := .ref C) (by rfl) L.mgC rfl) pa_nil))))) (pss_one ps_never) pss_nil)
  (pss_one (ps_ret (pe_and (pe_call GW hr (by rfl) gW FW.kp bW .nil pass0 (pa_cons (pv 0) (pa_cons (pv 1) pa_nil))) (pe_one (pe_not (pe_call GW hr (by rfl) gW FW.kp bW .nil pass0 (pa_cons (pv 1) (pa_cons (pv 0) pa_nil))))))))), ?_⟩
    refine ⟨_, rfl, _, _, _, _, _, rfl, .own C, hy.tyx L I, I.kOwn, _, rfl, ?_⟩
    refine iteF ⟨_, rfl, _, rfl, ⟨x, y, t, u, rfl, hx, hy, h2, fun H1 s1 => ⟨_, rfl, ?_⟩⟩⟩
    cases hb : subB t u with
    | false =>
      have := q H1 s1
      dsimp only at this
      rw [hb] at this
      exact iteF this
    | true =>
      refine iteT ⟨_, rfl, _, rfl, ⟨y, x, u, t, rfl, hy.same s1, hx.same s1, h2.symm, fun H2 s2 => ⟨_, rfl, ?_⟩⟩⟩
      have := q H2 (s1.trans s2)
      dsimp only at this
      rw [hb] at this
      exact this
theorem sc_Crowds___ge__ : FnScope ["self", "other"] ["self", "other"] (defScope (inClass (topS 24) 14)) := ⟨rfl, rfl, rfl, by decide +kernel, rfl, by decide +kernel, by decide +kernel⟩
theorem ok_ge {f fW : Addr} {fd fdW : FuncData} {k : Nat} (F : Fun K "__ge__" "Crowds.__ge__" (inClass (topS 24) 14) f fd) (T : Bt mg) (L : CrC K mg C) (I : CrI K C)
    (FW : Fun K "is_within" "is_within" (topS 22) fW fdW) (bW : Binds K fdW ["one", "other"] []) (gW : mg "is_within" = some (.ref fW)) (GW : FnOk P w K mg base CX0 (k + 4) fW fdW ["one", "other"] (spWithin C)) :
    FnOk P w K mg base CX0 (k + 5) f fd ["self", "other"] (spCmp C fun t u => subB u t) := by
  refine F.ok sc_Crowds___ge__ (fun vs H Q E h => ?_) (fun cdv A outer s H vs Q E hr h => ?_)
  · obtain ⟨x, y, t, u, rfl, _⟩ := h
    rfl
  · obtain ⟨x, y, t, u, rfl, hx, hy, h2, q⟩ := h
    refine ⟨_, (pss_cons (ps_if (pt_not (pt_val (pe_callB (isiK (K := K) rfl) (by rfl) T.m_isinstance (by decide +kernel) (pa_cons (pv 1) (pa_cons (pe_glob (v := .ref C) (by rfl) L.mgC rfl) pa_nil))))) (pss_one ps_never) pss_nil)
  (pss_one (ps_ret (pe_call GW hr (by rfl) gW FW.kp bW .nil pass0 (pa_cons (pv 1) (pa_cons (pv 0) pa_nil)))))), ?_⟩
    refine ⟨_, rfl, _, _, _, _, _, rfl, .own C, hy.tyx L I, I.kOwn, _, rfl, ?_⟩
    exact iteF ⟨_, rfl, _, rfl, ⟨y, x, u, t, rfl, hy, hx, h2.symm, fun H1 s1 =>  q H1 s1⟩⟩
theorem sc_Crowds___gt__ : FnScope ["self", "other"] ["self", "other"] (defScope (inClass (topS 24) 15)) := ⟨rfl, rfl, rfl, by decide +kernel, rfl, by decide +kernel, by decide +kernel⟩
theorem ok_gt {f fW : Addr} {fd fdW : FuncData} {k : Nat} (F : Fun K "__gt__" "Crowds.__gt__" (inClass (topS 24) 15) f fd) (T : Bt mg) (L : CrC K mg C) (I : CrI K C)
    (FW : Fun K "is_within" "is_within" (topS 22) fW fdW) (bW : Binds K fdW ["one", "other"] []) (gW : mg "is_within" = some (.ref fW)) (GW : FnOk P w K mg base CX0 (k + 4) fW fdW ["one", "other"] (spWithin C)) :
    FnOk P w K mg base CX0 (k + 5) f fd ["self", "other"] (spCmp C fun t u => subB u t && !subB t u) := by
  refine F.ok sc_Crowds___gt__ (fun vs H Q E h => ?_) (fun cdv A outer s H vs Q E hr h => ?_)
  · obtain ⟨x, y, t, u, rfl, _⟩ := h
    rfl
  · obtain ⟨x, y, t, u, rfl, hx, hy, h2, q⟩ := h
    refine ⟨_, (pss_cons (ps_if (pt_not (pt_val (pe_callB (isiK (K := K) rfl) (by rfl) T.m_isinstance (by decide +kernel) (pa_cons (pv 1) (pa_cons (pe_glob (v := .ref C) (by rfl) L.mgC rfl) pa_nil))))) (pss_one ps_never) pss_nil)
  (pss_one (ps_ret (pe_and (pe_call GW hr (by rfl) gW FW.kp bW .nil pass0 (pa_cons (pv 1) (pa_cons (pv 0) pa_nil))) (pe_one (pe_not (pe_call GW hr (by rfl) gW FW.kp bW .nil pass0 (pa_cons (pv 0) (pa_cons (pv 1) pa_nil))))))))), ?_⟩
    refine ⟨_, rfl, _, _, _, _, _, rfl, .own C, hy.tyx L I, I.kOwn, _, rfl, ?_⟩
    refine iteF ⟨_, rfl, _, rfl, ⟨y, x, u, t, rfl, hy, hx, h2.symm, fun H1 s1 => ⟨_, rfl, ?_⟩⟩⟩
    cases hb : subB u t with
    | false =>
      have := q H1 s1
      dsimp only at this
      rw [hb] at this
      exact iteF this
    | true =>
      refine iteT ⟨_, rfl, _, rfl, ⟨x, y, t, u, rfl, hx.same s1, hy.same s1, h2, fun H2 s2 => ⟨_, rfl, ?_⟩⟩⟩
      have := q H2 (s1.trans s2)
      dsimp only at this
      rw [hb] at this
      exact this

end
end FH

set_option Elab.async false
set_option linter.all false
set_option maxRecDepth 100000
set_option maxHeartbeats 1000000
namespace FH
open PySem L2
local macro_rules | `(tactic| walk_at "seq") => `(tactic| first | assumption | exact SqL.of (by assumption) | exact SqT.of (by assumption) | exact SqL.of upd_same | exact SqT.of upd_same)
local macro_rules | `(tactic| walk_at "at") => `(tactic| first | exact atI_nat (j := 0) rfl | exact atI_nat (j := 1) rfl | exact atI_nat (j := 2) rfl | exact atI_nat (by assumption) | assumption)
local macro_rules | `(tactic| walk_at "ar") => `(tactic| first | omega | exact ⟨by omega, by omega⟩ | exact Or.inl ⟨by omega, by omega⟩ | exact Or.inr ⟨by omega, by omega⟩ | exact ⟨by decide, by decide⟩ | exact Or.inr ⟨by decide, by decide⟩ | exact Or.inl ⟨by decide, by decide⟩ | exact ⟨by decide, by decide, by omega⟩ | exact ⟨by decide, by decide, by decide⟩)
local macro_rules | `(tactic| walk_at "r") => `(tactic| repeat (first
  | refine ⟨_, rfl, ?_⟩
  | refine ⟨_, _, rfl, rfl, ?_⟩
  | refine ⟨_, _, _, _, rfl, rfl, by walk_at "seq", by walk_at "at", ?_⟩
  | refine ⟨_, _, _, _, rfl, rfl, by assumption, rfl, ?_⟩
  | refine ⟨_, _, rfl, Or.inl (by walk_at "seq"), ?_⟩
  | refine Or.inl ⟨_, rfl, ?_⟩
  | refine Or.inr ⟨_, rfl, ?_⟩
  | refine And.intro (by walk_at "ar") ?_))
open Pr
theorem D2.seq {K : PySem.W.Frag} {H : Hp} {v : V} {i j : Nat} {e : PyData} (h : D2 H v i j e) : ∃ a, v = .ref a ∧ (SqL K H a [.int i, .int j] ∨ SqT K H a [.int i, .int j]) := by
  cases h with
  | tup e h => exact ⟨_, e, .inr (SqT.of h)⟩
  | lst e h => exact ⟨_, e, .inl (SqL.of h)⟩
theorem D2.tupOf {K : PySem.W.Frag} {H : Hp} {v : V} {i j : Nat} {e : PyData} {Q : VK} (h : D2 H v i j e) (q : ∀ (a : Addr) (H' : Hp), Same H H' → H' a = some (.tup [.int i, .int j]) → Q (.ref a) H') : rTupOfQ K [v] H Q := by
  cases h with
  | tup e h => subst e; exact ⟨_, _, rfl, .inr ⟨SqT.of h, q _ _ (Same.refl _) h⟩⟩
  | lst e h => subst e; exact ⟨_, _, rfl, .inl ⟨SqL.of h, fun l nl => q _ _ (same_new nl) upd_same⟩⟩
def spMade (P : Program) (w : World) (K : PySem.W.Frag) (mg : Str → Option Value) (base : Heap) (kL : Nat) (C : Addr) : Sp := fun vs H Q _ => ∃ (v1 v2 : V) (e1 e2 : PyData) (f : Addr) (F : Nat → Nat → Bool) (s0 s1 p0 p1 : Nat), vs = [v1, v2, .ref f] ∧ LamAt P w K mg base kL H f F ∧
  D2 H v1 s0 s1 e1 ∧ D2 H v2 p0 p1 e2 ∧ 0 < p0 ∧ 0 < p1 ∧ s0 + p0 ≤ 1000 ∧ s1 + p1 ≤ 1000 ∧ ∀ (z : Addr) (H' : Hp), Same H H' → CrAt C H' z (tabF F s0 s1 p0 p1).least → Q (.ref z) H'
section
variable {P : Program} {w : World} {K : PySem.W.Frag} {mg : Str → Option Value} {base : Heap} {C CE : Addr}
theorem sc_made_by : FnScope ["starts", "periods", "is_in", "rows", "k", "l"] ["starts", "periods", "is_in"] (defScope (topS 23)) := ⟨rfl, rfl, rfl, by decide +kernel, rfl, by decide +kernel, by decide +kernel⟩
theorem ok_made {f fI : Addr} {fd fdI : FuncData} {k : Nat} {t1 t2 : Tok} (F : Fun K "made_by" "made_by" (topS 23) f fd) (T : Bt mg) (L : CrC K mg C) (gIN : mg "IN" = some (.str "+" t1)) (gNI : mg "NOT_IN" = some (.str "-" t2))
    (MK : Mk K C fI) (bI : Binds K fdI ["self", "starts", "periods", "rows"] []) (GI : FnOk P w K mg base (L2.CX P w) (k + 4) fI fdI ["self", "starts", "periods", "rows"] (spInit C CE)) :
    FnOk P w K mg base CX0 (k + 6) f fd ["starts", "periods", "is_in"] (spMade P w K mg base (k + 5) C) := by
  refine F.ok sc_made_by (fun vs H Q E h => ?_) (fun cdv A outer s H vs Q E hr h => ?_)
  · obtain ⟨v1, v2, e1, e2, f, G, s0, s1, p0, p1, rfl, _⟩ := h
    rfl
  · obtain ⟨v1, v2, e1, e2, ff, G, s0, s1, p0, p1, rfl, LA, d1, d2, h0, h1, l0, l1, q⟩ := h
    refine ⟨_, (pss_cons (ps_set (i := 3) sc_made_by.nd rfl (by first | exact Or.inl rfl | exact Or.inr rfl) (pe_lst pa_nil))
  (pss_cons (ps_for PassesOwn.never rfl (pi_range1 (by rfl) T.m_range (pa_cons (pe_op op_add (pe_ix (ixQK (K := K) rfl) (pv 0) pe_int (fun _ _ => rfl)) (pe_ix (ixQK (K := K) rfl) (pv 1) pe_int (fun _ _ => rfl))) pa_nil)) (pg_name (i := 4) sc_made_by.nd rfl (by first | exact Or.inl rfl | exact Or.inr rfl)) (pss_one (ps_expr (pe_bm PySem.F.plainAttrs_list PySem.F.slot_list_append PySem.F.type_list_append mt_append (pv 3) (pa_cons (pe_joinK (K := K) rfl pe_str (pe_lc (own := [("l", 5)]) (g := (gName 5)) (tt := tYes) rfl sc_made_by.nd (pi_range1 (by rfl) T.m_range (pa_cons (pe_op op_add (pe_ix (ixQK (K := K) rfl) (pv 0) pe_int (fun _ _ => rfl)) (pe_ix (ixQK (K := K) rfl) (pv 1) pe_int (fun _ _ => rfl))) pa_nil)) (blkOk_by (own := [("l", 5)]) (N := ["starts", "periods", "is_in", "rows", "k", "l"]) (sc := defScope (topS 23)) (by decide +kernel)) (fun _ _ _ _ _ => (pg_name (i := 5) sc_made_by.nd rfl (by first | exact Or.inl rfl | exact Or.inr rfl))) (fun _ _ _ _ _ => pts_nil) (fun _ _ _ _ _ => (pe_ifExp (pt_val (pe_lamv (i := 2) rfl rfl rfl rfl rfl hr rfl (by first | exact Or.inl rfl | exact Or.inr (Or.inl rfl) | exact Or.inr (Or.inr rfl)) (pa_cons (pv 4) (pa_cons (pv 5) pa_nil)))) (pe_glob (v := .str "+") (by rfl) gIN ⟨_, rfl⟩) (pe_glob (v := .str "-") (by rfl) gNI ⟨_, rfl⟩))))) pa_nil)))))
  (pss_one (ps_ret (pe_make MK GI hr (by rfl) L.mgC bI .nil passF (pa_cons (pe_callTy (tupK (K := K) rfl) (by rfl) T.m_tuple (by decide +kernel) (pa_cons (pv 0) pa_nil)) (pa_cons (pe_callTy (tupK (K := K) rfl) (by rfl) T.m_tuple (by decide +kernel) (pa_cons (pv 1) pa_nil)) (pa_cons (pv 3) pa_nil)))))))), ?_⟩
    refine ⟨by decide, fun lf nlf => ?_⟩
    obtain ⟨H2, e2', s2, g2⟩ := new_ex nlf (.lst [])
    rw [e2']
    obtain ⟨a, ea, ha⟩ := d1.seq (K := K)
    obtain ⟨b, eb, hb⟩ := d2.seq (K := K)
    refine ⟨_, rfl, a, _, 0, _, ea, rfl, sq_same s2 ha, atI_nat (j := 0) rfl, _, rfl, b, _, 0, _, eb, rfl, sq_same s2 hb, atI_nat (j := 0) rfl, _, _, rfl, rfl, ((s0 : Int) + p0), rfl, by omega, by omega, ?_⟩
    rw [show ((s0 : Int) + (p0 : Int)).toNat = s0 + p0 by omega]
    refine for_range (lo := 0) (n := s0 + p0) (fun i σ H3 => ∃ o4 : Option V, Same H H3 ∧ H3 lf = some (.lst ((canR G i (s1 + p1)).map V.str)) ∧ σ = [some v1, some v2, some (.ref ff), some (.ref lf), o4, none])
      ⟨none, s2, g2, rfl⟩ (fun i σ H3 hi hp => ?_) (fun σ H3 hp => ?_)
    · obtain ⟨o4, s3, hlf, rfl⟩ := hp
      refine ⟨_, rfl, .inl ⟨rfl, _, SqL.of hlf⟩, ⟨_, rfl⟩, _, rfl, a, _, 1, _, ea, rfl, sq_same s3 ha, atI_nat (j := 1) rfl, _, rfl, b, _, 1, _, eb, rfl, sq_same s3 hb, atI_nat (j := 1) rfl, _, _, rfl, rfl, ((s1 : Int) + p1), rfl, by omega, by omega, fun D nD => ?_⟩
      rw [show ((s1 : Int) + (p1 : Int)).toNat = s1 + p1 by omega]
      refine lc_fmR nD (by omega) (fun j => some (.str ⟨#[if G i j = true then 43 else 45]⟩)) (fun j H4 Nx hj s4 tk nt => ?_) (fun H4 s4 hD => ?_)
      · refine ⟨rfl, ff, G, rfl, LA.same (s3.trans s4), _, rfl, _, rfl, Same.refl _, i, j, by rw [show (0 : Int) + (i : Int) = (i : Int) by omega, show (0 : Int) + (j : Int) = (j : Int) by omega], fun H5 s5 => ?_⟩
        refine ⟨_, rfl, ?_⟩
        cases hb : G i j with
        | true => exact iteT (tk _ _ s5 (by rw [hb]; rfl))
        | false => exact iteF (tk _ _ s5 (by rw [hb]; rfl))
      · have e3 : (List.range (s1 + p1)).filterMap (fun j => some (V.str ⟨#[if G i j = true then 43 else 45]⟩)) = (ones ((List.range (s1 + p1)).map fun j => if G i j = true then 43 else 45)).map V.str := by
          unfold ones
          rw [List.filterMap_eq_map', List.map_map, List.map_map]; rfl
        rw [e3] at hD
        refine ⟨_, D, _, rfl, rfl, .inl (SqL.of hD), ?_, ?_⟩
        · rw [sum_ones, ones_len, List.length_map, List.length_range]
          show (s1 + p1) + (s1 + p1) * 0 ≤ 16777216
          omega
        · have hlf4 := s4 _ _ hlf
          refine ⟨lf, _, _, rfl, rfl, hlf4, by rw [List.length_map, len_canR]; exact Nat.lt_of_lt_of_le (show i < 1000 by omega) (by decide), some (.int (0 + (i : Int))), fun b o e => ?_, ?_, rfl⟩
          · have nb : b ≠ lf := fun z => by rw [z, nlf] at e; cases e
            rw [upd_ne nb]
            exact s4 _ _ (s3 _ _ e)
          · rw [upd_same]
            congr 2
            unfold canR
            rw [List.range_succ, List.map_append, List.map_append]
            congr 1
            show [V.str _] = [V.str _]
            congr 2
            refine str_tl ?_
            rw [join_ones, tl_sgn, List.map_map]
            rfl
    · obtain ⟨o4, s3, hlf, rfl⟩ := hp
      refine ⟨_, rfl, ?_⟩
      dsimp only [tNil]
      refine (d1.same s3).tupOf fun a1 H4 s4 g4 => ⟨_, rfl, ?_⟩
      dsimp only [tNil]
      refine (d2.same (s3.trans s4)).tupOf fun a2 H5 s5 g5 => ⟨_, rfl, ?_⟩
      exact fun x dx nx ndx nxd => init_tab nx ndx (t := tabF G s0 s1 p0 p1) (tabF_ok h0 h1) l0 l1 (.tup rfl (s5 _ _ g4)) (.tup rfl g5) (.lst rfl (s5 _ _ (s4 _ _ hlf))) fun H6 s6 cr => ⟨rfl, q _ H6 (((s3.trans s4).trans s5).trans s6) cr⟩
end
end FH

set_option Elab.async false
set_option linter.all false
set_option maxRecDepth 100000
set_option maxHeartbeats 1000000
namespace FH
open PySem L2
local macro_rules | `(tactic| walk_at "seq") => `(tactic| first | assumption | exact SqL.of (by assumption) | exact SqT.of (by assumption) | exact SqL.of upd_same | exact SqT.of upd_same)
local macro_rules | `(tactic| walk_at "at") => `(tactic| first | exact atI_nat (j := 0) rfl | exact atI_nat (j := 1) rfl | exact atI_nat (j := 2) rfl | exact atI_nat (by assumption) | assumption)
local macro_rules | `(tactic| walk_at "ar") => `(tactic| first | omega | exact ⟨by omega, by omega⟩ | exact Or.inl ⟨by omega, by omega⟩ | exact Or.inr ⟨by omega, by omega⟩ | exact ⟨by decide, by decide⟩ | exact Or.inr ⟨by decide, by decide⟩ | exact Or.inl ⟨by decide, by decide⟩ | exact ⟨by decide, by decide, by omega⟩ | exact ⟨by decide, by decide, by decide⟩)
local macro_rules | `(tactic| walk_at "r") => `(tactic| repeat (first
  | refine ⟨_, rfl, ?_⟩
  | refine ⟨_, _, rfl, rfl, ?_⟩
  | refine ⟨_, _, _, _, rfl, rfl, by walk_at "seq", by walk_at "at", ?_⟩
  | refine ⟨_, _, _, _, rfl, rfl, by assumption, rfl, ?_⟩
  | refine ⟨_, _, rfl, Or.inl (by walk_at "seq"), ?_⟩
  | refine Or.inl ⟨_, rfl, ?_⟩
  | refine Or.inr ⟨_, rfl, ?_⟩
  | refine And.intro (by walk_at "ar") ?_))
open Pr
def isCrowdD : PyData → Bool | .tuple [a, b] => isNumD a && isNumD b | _ => false
def spSign (C : Addr) : Sp := fun vs H Q _ => ∃ (x : Addr) (t : Tb) (k l : Nat), vs = [.ref x, .int k, .int l] ∧ CrAt C H x t ∧ t.Ok ∧ t.s1 + t.p1 ≤ 1000 ∧ Q (.str ⟨#[chAt (t.row k) (spot l t.s1 t.p1)]⟩) H
/-- whether data are a crowd of a set -/
def inD (t : Tb) : PyData → Bool | .tuple [.int k, .int l] => decide (0 ≤ k) && decide (0 ≤ l) && t.has k.toNat l.toNat | _ => false
def spCon (C : Addr) : Sp := fun vs H Q _ => ∃ (x : Addr) (t : Tb) (v : V) (e : PyData), vs = [.ref x, v] ∧ CrAt C H x t ∧ t.Ok ∧ t.s1 + t.p1 ≤ 1000 ∧ Dv H v e ∧ Q (.bl (inD t e)) H
section
variable {P : Program} {w : World} {K : PySem.W.Frag} {mg : Str → Option Value} {base : Heap} {C : Addr}
theorem sc_is_crowd : FnScope ["value"] ["value"] (defScope (topS 8)) := ⟨rfl, rfl, rfl, by decide +kernel, rfl, by decide +kernel, by decide +kernel⟩
theorem ok_crowd {f fI fN : Addr} {fd fdI fdN : FuncData} {k : Nat} (F : Fun K "is_crowd" "is_crowd" (topS 8) f fd) (T : Bt mg) (FI : Fun K "is_integer" "is_integer" (topS 5) fI fdI) (bI : Binds K fdI ["value"] []) (gI : mg "is_integer" = some (.ref fI))
    (FN : Fun K "is_number" "is_number" (topS 6) fN fdN) (bN : Binds K fdN ["value"] []) (gN : mg "is_number" = some (.ref fN)) :
    FnOk P w K mg base CX0 (k + 3) f fd ["value"] (spInt isCrowdD) := by
  have GN : FnOk P w K mg base CX0 (k + 2) fN fdN ["value"] (spInt isNumD) := ok_isNum FN T FI bI gI
  refine F.ok sc_is_crowd (fun vs H Q E h => ?_) (fun cdv A outer s H vs Q E hr h => ?_)
  · obtain ⟨v, e, rfl, _⟩ := h
    rfl
  · obtain ⟨v, e, rfl, hv, q⟩ := h
    refine ⟨_, (pss_one (ps_ret (pe_and (pe_callB (isiK (K := K) rfl) (by rfl) T.m_isinstance (by decide +kernel) (pa_cons (pv 0) (pa_cons (pe_bltn (v := .ty "tuple") (by rfl) T.m_tuple (by decide +kernel) rfl) pa_nil))) (pe_and (pe_cmpR op_eq (pe_callB (lenK (K := K) rfl) (by rfl) T.m_len PySem.boot_len (pa_cons (pv 0) pa_nil)) pe_int (nomark _)) (pe_and (pe_call GN hr (by rfl) gN FN.kp bN .nil pass0 (pa_cons (pe_ix (ixTK (K := K) rfl) (pv 0) pe_int (fun _ _ => rfl)) pa_nil)) (pe_one (pe_call GN hr (by rfl) gN FN.kp bN .nil pass0 (pa_cons (pe_ix (ixTK (K := K) rfl) (pv 0) pe_int (fun _ _ => rfl)) pa_nil)))))))), ?_⟩
    refine ⟨_, rfl, _, _, _, _, _, rfl, .ty _, hv.tyx, kitTp hv, _, rfl, ?_⟩
    cases hv with
    | @tup a xs ds h hl l =>
      refine iteT ⟨_, rfl, a, xs, rfl, .inr (SqT.of h), rfl, _, rfl, ?_⟩
      cases l with
      | nil => exact iteF q
      | @cons v1 e1 vs1 es1 h1 l =>
        cases l with
        | nil => exact iteF q
        | @cons v2 e2 vs2 es2 h2 l =>
          cases l with
          | nil =>
            refine iteT ⟨_, rfl, a, _, 0, _, rfl, rfl, SqT.of h, atI_nat (j := 0) rfl, v1, e1, rfl, h1, _, rfl, ?_⟩
            have q : Q (.bl (isNumD e1 && isNumD e2)) H := q
            cases he : isNumD e1 with
            | false => rw [he] at q; exact iteF q
            | true =>
              rw [he] at q
              exact iteT ⟨_, rfl, a, _, 1, _, rfl, rfl, SqT.of h, atI_nat (j := 1) rfl, v2, e2, rfl, h2, q⟩
          | @cons v3 e3 vs3 es3 h3 l =>
            have el : decide (V.int ((v1 :: v2 :: v3 :: vs3).length : Nat) = V.int 2) = false := decide_eq_false fun z => by
              have z := V.int.inj z
              simp only [List.length_cons] at z
              omega
            rw [el]
            exact iteF q
    | _ => exact iteF q
theorem sc_Crowds_sign : FnScope ["self", "k", "l", "row"] ["self", "k", "l"] (defScope (inClass (topS 24) 19)) := ⟨rfl, rfl, rfl, by decide +kernel, rfl, by decide +kernel, by decide +kernel⟩
theorem ok_sign {f fP : Addr} {fd fdP : FuncData} {k : Nat} (F : Fun K "sign" "Crowds.sign" (inClass (topS 24) 19) f fd) (T : Bt mg) (L : CrC K mg C) (FP : Fun K "place_of" "place_of" (topS 17) fP fdP) (bP : Binds K fdP ["number", "start", "period"] []) (gP : mg "place_of" = some (.ref fP)) :
    FnOk P w K mg base CX0 (k + 2) f fd ["self", "k", "l"] (spSign C) := by
  have GP : FnOk P w K mg base CX0 (k + 1) fP fdP ["number", "start", "period"] spPlace := ok_place FP T
  refine F.ok sc_Crowds_sign (fun vs H Q E h => ?_) (fun cdv A outer s H vs Q E hr h => ?_)
  · obtain ⟨x, t, k, l, rfl, _⟩ := h
    rfl
  · obtain ⟨x, t, k, l, rfl, hx, O, hw, q⟩ := h
    refine ⟨_, (pss_cons (ps_set (i := 3) sc_Crowds_sign.nd rfl (by first | exact Or.inl rfl | exact Or.inr rfl) (pe_ix (ixTK (K := K) rfl) (fldK (K := K) rfl (pv 0)) (pe_call GP hr (by rfl) gP FP.kp bP .nil pass0 (pa_cons (pv 1) (pa_cons (pe_ix (ixTK (K := K) rfl) (fldK (K := K) rfl (pv 0)) pe_int (fun _ _ => rfl)) (pa_cons (pe_ix (ixTK (K := K) rfl) (fldK (K := K) rfl (pv 0)) pe_int (fun _ _ => rfl)) pa_nil)))) (fun _ _ => rfl)))
  (pss_one (ps_ret (pe_ix ix_str (pv 3) (pe_call GP hr (by rfl) gP FP.kp bP .nil pass0 (pa_cons (pv 2) (pa_cons (pe_ix (ixTK (K := K) rfl) (fldK (K := K) rfl (pv 0)) pe_int (fun _ _ => rfl)) (pa_cons (pe_ix (ixTK (K := K) rfl) (fldK (K := K) rfl (pv 0)) pe_int (fun _ _ => rfl)) pa_nil)))) (fun _ _ => rfl))))), ?_⟩
    obtain ⟨dx, ts, tp, tr, h1, h2, h3, h4⟩ := hx
    refine ⟨_, rfl, x, C, dx, _, _, rfl, h1, L.cl, L.nR, cget_r _ _ _, _, rfl, _, rfl, x, C, dx, _, _, rfl, h1, L.cl, L.nS, cget_s _ _ _, ts, _, 0, _, rfl, rfl, SqT.of h2, atI_nat (j := 0) rfl, _, rfl, x, C, dx, _, _, rfl, h1, L.cl, L.nP, cget_p _ _ _, tp, _, 0, _, rfl, rfl, SqT.of h3, atI_nat (j := 0) rfl, k, t.s0, t.p0, rfl, O.h0, ?_⟩
    refine ⟨tr, _, _, .str (t.row k), rfl, rfl, SqT.of h4, atI_nat (by rw [List.getElem?_map, (t.row_mem O k).1]; rfl), ?_⟩
    refine ⟨_, rfl, _, rfl, _, rfl, x, C, dx, _, _, rfl, h1, L.cl, L.nS, cget_s _ _ _, ts, _, 1, _, rfl, rfl, SqT.of h2, atI_nat (j := 1) rfl, _, rfl, x, C, dx, _, _, rfl, h1, L.cl, L.nP, cget_p _ _ _, tp, _, 1, _, rfl, rfl, SqT.of h3, atI_nat (j := 1) rfl, l, t.s1, t.p1, rfl, O.h1, ?_⟩
    have hl := (t.row_ok O k).1
    have hlt : spot l t.s1 t.p1 < (t.row k).cps.size := by
      have := spot_lt (n := l) (s := t.s1) O.h1
      rw [← hl] at this
      exact this
    refine ⟨t.row k, _, chAt (t.row k) (spot l t.s1 t.p1), rfl, rfl, by rw [hl]; exact Nat.le_trans hw (by decide), atI_nat ?_, q⟩
    rw [Array.getElem?_toList]
    unfold chAt
    rw [Array.getD_eq_getD_getElem?, Array.getElem?_eq_getElem hlt]
    rfl
theorem sc_Crowds___contains__ : FnScope ["self", "value"] ["self", "value"] (defScope (inClass (topS 24) 16)) := ⟨rfl, rfl, rfl, by decide +kernel, rfl, by decide +kernel, by decide +kernel⟩
theorem ok_con {f fS fC : Addr} {fd fdS fdC : FuncData} {k : Nat} {t1 : Tok} (F : Fun K "__contains__" "Crowds.__contains__" (inClass (topS 24) 16) f fd) (T : Bt mg) (L : CrC K mg C) (gIN : mg "IN" = some (.str "+" t1))
    (FC : Fun K "is_crowd" "is_crowd" (topS 8) fC fdC) (bC : Binds K fdC ["value"] []) (gC : mg "is_crowd" = some (.ref fC)) (GC : FnOk P w K mg base CX0 (k + 3) fC fdC ["value"] (spInt isCrowdD))
    (hmS : Meth K C "sign" fS) (bS : Binds K fdS ["self", "k", "l"] []) (GS : FnOk P w K mg base CX0 (k + 3) fS fdS ["self", "k", "l"] (spSign C)) :
    FnOk P w K mg base CX0 (k + 4) f fd ["self", "value"] (spCon C) := by
  refine F.ok sc_Crowds___contains__ (fun vs H Q E h => ?_) (fun cdv A outer s H vs Q E hr h => ?_)
  · obtain ⟨x, t, v, e, rfl, _⟩ := h
    rfl
  · obtain ⟨x, t, v, e, rfl, hx, O, hw, hv, q⟩ := h
    refine ⟨_, (pss_one (ps_ret (pe_and (pe_call GC hr (by rfl) gC FC.kp bC .nil pass0 (pa_cons (pv 1) pa_nil)) (pe_one (pe_cmpR op_eq (pe_meth (pv 0) L.cl hmS GS hr bS .nil pass0 (pa_cons (pe_ix (ixTK (K := K) rfl) (pv 1) pe_int (fun _ _ => rfl)) (pa_cons (pe_ix (ixTK (K := K) rfl) (pv 1) pe_int (fun _ _ => rfl)) pa_nil))) (pe_glob (v := .str "+") (by rfl) gIN ⟨_, rfl⟩) (nomark _)))))), ?_⟩
    refine ⟨_, rfl, v, e, rfl, hv, _, rfl, ?_⟩
    have no : isCrowdD e = false → inD t e = false := fun h => by
      unfold inD
      split
      · rename_i k l
        have h : (decide (0 ≤ k) && decide (0 ≤ l)) = false := h
        rw [h]; rfl
      · rfl
    cases hc : isCrowdD e with
    | false => rw [no hc] at q; exact iteF q
    | true =>
      obtain ⟨k, l, rfl⟩ : ∃ k l : Nat, e = .tuple [.int k, .int l] := by
        unfold isCrowdD at hc
        split at hc
        · rename_i a b
          rw [Bool.and_eq_true] at hc
          obtain ⟨ha, hb⟩ := hc
          cases a <;> first | (cases ha; done) | skip
          cases b <;> first | (cases hb; done) | skip
          rename_i i j
          have hi : 0 ≤ i := of_decide_eq_true ha
          have hj : 0 ≤ j := of_decide_eq_true hb
          exact ⟨i.toNat, j.toNat, by rw [Int.toNat_of_nonneg hi, Int.toNat_of_nonneg hj]⟩
        · cases hc
      obtain ⟨a, ea, ha⟩ : ∃ a, v = .ref a ∧ H a = some (.tup [.int k, .int l]) := by
        cases hv with
        | @tup a xs ds h hl l =>
          cases l with
          | cons h1 l =>
            cases h1
            cases l with
            | cons h2 l =>
              cases h2
              cases l
              exact ⟨a, rfl, h⟩
      subst ea
      have hx' := hx
      obtain ⟨dx, ts, tp, tr, h1, h2, h3, h4⟩ := hx
      refine iteT ⟨_, rfl, x, dx, _, rfl, h1, by rfl, _, rfl, a, _, 0, _, rfl, rfl, SqT.of ha, atI_nat (j := 0) rfl, _, rfl, a, _, 1, _, rfl, rfl, SqT.of ha, atI_nat (j := 1) rfl, x, t, k, l, rfl, hx', O, hw, rfl, ?_⟩
      rw [chEq]
      have e1 : inD t (.tuple [.int k, .int l]) = t.has k l := by
        show (decide ((0 : Int) ≤ k) && decide ((0 : Int) ≤ l) && t.has (k : Int).toNat (l : Int).toNat) = _
        rw [decide_eq_true (by omega), decide_eq_true (by omega), Int.toNat_natCast, Int.toNat_natCast]
        rfl
      rw [e1] at q
      exact q
end
end FH

set_option Elab.async false
set_option linter.all false
set_option maxRecDepth 100000
set_option maxHeartbeats 1000000
namespace FH
open PySem L2
local macro_rules | `(tactic| walk_at "seq") => `(tactic| first | assumption | exact SqL.of (by assumption) | exact SqT.of (by assumption) | exact SqL.of upd_same | exact SqT.of upd_same)
local macro_rules | `(tactic| walk_at "at") => `(tactic| first | exact atI_nat (j := 0) rfl | exact atI_nat (j := 1) rfl | exact atI_nat (j := 2) rfl | exact atI_nat (by assumption) | assumption)
local macro_rules | `(tactic| walk_at "ar") => `(tactic| first | omega | exact ⟨by omega, by omega⟩ | exact Or.inl ⟨by omega, by omega⟩ | exact Or.inr ⟨by omega, by omega⟩ | exact ⟨by decide, by decide⟩ | exact Or.inr ⟨by decide, by decide⟩ | exact Or.inl ⟨by decide, by decide⟩ | exact ⟨by decide, by decide, by omega⟩ | exact ⟨by decide, by decide, by decide⟩)
local macro_rules | `(tactic| walk_at "r") => `(tactic| repeat (first
  | refine ⟨_, rfl, ?_⟩
  | refine ⟨_, _, rfl, rfl, ?_⟩
  | refine ⟨_, _, _, _, rfl, rfl, by walk_at "seq", by walk_at "at", ?_⟩
  | refine ⟨_, _, _, _, rfl, rfl, by assumption, rfl, ?_⟩
  | refine ⟨_, _, rfl, Or.inl (by walk_at "seq"), ?_⟩
  | refine Or.inl ⟨_, rfl, ?_⟩
  | refine Or.inr ⟨_, rfl, ?_⟩
  | refine And.intro (by walk_at "ar") ?_))
open Pr LamX
/-! ### sets beside -/
def besF (m : Bool) (t : Tb) : Nat → Nat → Bool := if m = true then fun k l => decide (0 < k) && t.has (k - 1) (l + 1) else fun k l => decide (0 < l) && t.has (k + 1) (l - 1)
def besT (m : Bool) (t : Tb) : Tb := if m = true then tabF (besF true t) (t.s0 + 1) (t.s1 - 1) t.p0 t.p1 else tabF (besF false t) (t.s0 - 1) (t.s1 + 1) t.p0 t.p1
def kindS (m : Bool) : Str := if m = true then "marked" else "plain"
theorem CrAt.ext {C : Addr} {H H' : Hp} {x : Addr} {t : Tb} (e : ∀ b o, H b = some o → (∀ ps, o ≠ .tbl ps) → (∀ φ, o ≠ .ext φ) → H' b = some o) (h : CrAt C H x t) : CrAt C H' x t := by
  obtain ⟨dx, ts, tp, tr, h1, h2, h3, h4⟩ := h
  exact ⟨dx, ts, tp, tr, e _ _ h1 (fun _ z => by cases z) (fun _ z => by cases z), e _ _ h2 (fun _ z => by cases z) (fun _ z => by cases z), e _ _ h3 (fun _ z => by cases z) (fun _ z => by cases z), e _ _ h4 (fun _ z => by cases z) (fun _ z => by cases z)⟩
theorem CrAt.extN {C : Addr} {H H' : Hp} {x : Addr} {t : Tb} (e : ExtN H H') (h : CrAt C H x t) : CrAt C H' x t := h.ext fun b o h1 h2 _ => e b o h1 h2
def spBes (C : Addr) (T : List (Addr × Str)) : Sp := fun vs H Q _ => ∃ (x : Addr) (t : Tb) (m : Bool), vs = [.ref x, .str (kindS m)] ∧ CrAt C H x t ∧ t.Ok ∧ t.s0 + t.p0 < 1000 ∧ t.s1 + t.p1 < 1000 ∧ Tabs T H ∧ ∀ (z : Addr) (H' : Hp), ExtN H H' → Tabs T H' → CrAt C H' z (besT m t).least → Q (.ref z) H'
section
variable {P : Program} {w : World} {K : PySem.W.Frag} {mg : Str → Option Value} {base : Heap} {C CE : Addr}
theorem sc_Crowds_beside : FnScope ["self", "kind", "down", "up", "start"] ["self", "kind"] (defScope (inClass (topS 24) 23)) := ⟨rfl, rfl, rfl, by decide +kernel, rfl, by decide +kernel, by decide +kernel⟩
theorem ok_bes {f fM fN c Pt : Addr} {fd fdM fdN : FuncData} {k : Nat} {Tt : List (Addr × Str)} (F : Fun K "beside" "Crowds.beside" (inClass (topS 24) 23) f fd) (T : Bt mg) (L : CrC K mg C)
    (FM : Fun K "made_by" "made_by" (topS 23) fM fdM) (bM : Binds K fdM ["starts", "periods", "is_in"] []) (gM : mg "made_by" = some (.ref fM)) (GM : FnOk P w K mg base CX0 (k + 6) fM fdM ["starts", "periods", "is_in"] (spMade P w K mg base (k + 5) C))
    (bN : Binds K fdN ["self", "value"] []) (GN : FnOk P w K mg base CX0 (k + 4) fN fdN ["self", "value"] (spCon C)) (cN : PySem.W.findIn K (.ref C) "__contains__" = some (some (.ref fN))) (cF : PySem.W.isFn K (.ref fN) = true)
    (TB : TabB base mg c Pt) (hcd : fd.code = .ref c) (hmT : (Pt, (("Crowds.beside" : Str) ++ ".<locals>.") ++ "<lambda>") ∈ Tt) (huT : ∀ p ∈ Tt, p.1 = Pt → p.2 = (("Crowds.beside" : Str) ++ ".<locals>.") ++ "<lambda>") :
    FnOk P w K mg base CX0 (k + 7) f fd ["self", "kind"] (spBes C Tt) := by
  refine okC F sc_Crowds_beside (fun vs H Q E h => ?_) (fun A outer s H vs Q E hr h => ?_)
  · obtain ⟨x, t, m, rfl, _⟩ := h
    rfl
  · obtain ⟨x, t, m, rfl, hx, O, l0, l1, hT, q⟩ := h
    refine ⟨_, (pss_cons (ps_par (i := 2) (j := 3) rfl sc_Crowds_beside.nd rfl rfl (by decide) rfl rfl (pa_cons (pe_lc (own := [("start", 4)]) (g := (gName 4)) (tt := tYes) rfl sc_Crowds_beside.nd (piSK (K := K) rfl (fldK (K := K) rfl (pv 0))) (blkOk_by (own := [("start", 4)]) (N := ["self", "kind", "down", "up", "start"]) (sc := defScope (inClass (topS 24) 23)) (by decide +kernel)) (fun _ _ _ _ _ => (pg_name (i := 4) sc_Crowds_beside.nd rfl (by first | exact Or.inl rfl | exact Or.inr rfl))) (fun _ _ _ _ _ => pts_nil) (fun _ _ _ _ _ => (pe_op op_add (pv 4) pe_int))) (pa_cons (pe_lc (own := [("start", 4)]) (g := (gName 4)) (tt := tYes) rfl sc_Crowds_beside.nd (piSK (K := K) rfl (fldK (K := K) rfl (pv 0))) (blkOk_by (own := [("start", 4)]) (N := ["self", "kind", "down", "up", "start"]) (sc := defScope (inClass (topS 24) 23)) (by decide +kernel)) (fun _ _ _ _ _ => (pg_name (i := 4) sc_Crowds_beside.nd rfl (by first | exact Or.inl rfl | exact Or.inr rfl))) (fun _ _ _ _ _ => pts_nil) (fun _ _ _ _ _ => (pe_ifExp (pt_cmpR op_gt (pv 4) pe_int (nomark _)) (pe_op op_sub (pv 4) pe_int) pe_int))) pa_nil)) (by rfl))
  (pss_cons (ps_if (pt_cmpR op_eq (pv 1) pe_str (nomark _)) (pss_one (ps_ret (pe_callL GM hr (by rfl) gM FM.kp bM (pl_cons (pe_tup (pa_cons (pe_ix (ixLK (K := K) rfl) (pv 2) pe_int (fun _ _ => rfl)) (pa_cons (pe_ix (ixLK (K := K) rfl) (pv 3) pe_int (fun _ _ => rfl)) pa_nil))) (pl_cons (fldK (K := K) rfl (pv 0)) (pl_head TB hcd hmT huT (lamP_by (N := ["self", "kind", "down", "up", "start"]) (sc := defScope (inClass (topS 24) 23)) (a := "k") (b := "l") (ids := [0]) (cap := ["self"]) (by decide +kernel)) pa_nil))) (lamP_by (N := ["self", "kind", "down", "up", "start"]) (sc := defScope (inClass (topS 24) 23)) (a := "k") (b := "l") (ids := [0]) (cap := ["self"]) (by decide +kernel)) (fun _ => rfl) (fun _ _ _ _ _ _ _ => rfl) (fun _ _ _ _ _ _ hrL => (pe_and (pe_cmpR op_gt (pv 0) pe_int (nomark _)) (pe_one (pe_cmpR (op_inOwn GN hrL bN pass0 cN cF) (pe_tup (pa_cons (pe_op op_sub (pv 0) pe_int) (pa_cons (pe_op op_add (pv 1) pe_int) pa_nil))) (pv 2) (by rfl)))))))) pss_nil)
  (pss_one (ps_ret (pe_callL GM hr (by rfl) gM FM.kp bM (pl_cons (pe_tup (pa_cons (pe_ix (ixLK (K := K) rfl) (pv 3) pe_int (fun _ _ => rfl)) (pa_cons (pe_ix (ixLK (K := K) rfl) (pv 2) pe_int (fun _ _ => rfl)) pa_nil))) (pl_cons (fldK (K := K) rfl (pv 0)) (pl_head TB hcd hmT huT (lamP_by (N := ["self", "kind", "down", "up", "start"]) (sc := defScope (inClass (topS 24) 23)) (a := "k") (b := "l") (ids := [0]) (cap := ["self"]) (by decide +kernel)) pa_nil))) (lamP_by (N := ["self", "kind", "down", "up", "start"]) (sc := defScope (inClass (topS 24) 23)) (a := "k") (b := "l") (ids := [0]) (cap := ["self"]) (by decide +kernel)) (fun _ => rfl) (fun _ _ _ _ _ _ _ => rfl) (fun _ _ _ _ _ _ hrL => (pe_and (pe_cmpR op_gt (pv 1) pe_int (nomark _)) (pe_one (pe_cmpR (op_inOwn GN hrL bN pass0 cN cF) (pe_tup (pa_cons (pe_op op_add (pv 0) pe_int) (pa_cons (pe_op op_sub (pv 1) pe_int) pa_nil))) (pv 2) (by rfl)))))))))), ?_⟩
    have hx0 := hx
    obtain ⟨dx, ts, tp, tr, h1, h2, h3, h4⟩ := hx
    refine ⟨_, rfl, x, C, dx, _, _, rfl, h1, L.cl, L.nS, cget_s _ _ _, ts, _, rfl, .inr ⟨SqT.of h2, fun D1 nD1 => lc_fmT nD1 (SqT.of h2) (by show 2 < 100000; decide) (fun v => match v with | .int i => some (.int (i + 1)) | _ => none) (fun i y HA Nx hy sA tk nt => ?_) (fun H1 s1 g1 => ?_)⟩⟩
    · obtain ⟨n, rfl⟩ : ∃ n : Nat, y = .int n := by
        have := List.mem_of_getElem? hy
        simp only [List.mem_cons, List.not_mem_nil, or_false] at this
        rcases this with rfl | rfl <;> exact ⟨_, rfl⟩
      exact ⟨rfl, _, rfl, _, _, rfl, rfl, tk _ _ (Same.refl _) rfl⟩
    have g1 : H1 D1 = some (.lst [.int ((t.s0 + 1 : Nat) : Int), .int ((t.s1 + 1 : Nat) : Int)]) := g1
    refine ⟨_, rfl, x, C, dx, _, _, rfl, s1 _ _ h1, L.cl, L.nS, cget_s _ _ _, ts, _, rfl, .inr ⟨SqT.of (s1 _ _ h2), fun D2 nD2 => lc_fmT nD2 (SqT.of (s1 _ _ h2)) (by show 2 < 100000; decide) (fun v => match v with | .int i => some (.int ((i.toNat - 1 : Nat) : Int)) | _ => none) (fun i y HA Nx hy sA tk nt => ?_) (fun H2 s2 g2 => ?_)⟩⟩
    · obtain ⟨n, rfl⟩ : ∃ n : Nat, y = .int n := by
        have := List.mem_of_getElem? hy
        simp only [List.mem_cons, List.not_mem_nil, or_false] at this
        rcases this with rfl | rfl <;> exact ⟨_, rfl⟩
      refine ⟨rfl, _, rfl, _, _, rfl, rfl, _, rfl, ite2 (fun e => ?_) (fun e => ?_)⟩
      · refine ⟨_, rfl, _, _, rfl, rfl, tk _ _ (Same.refl _) ?_⟩
        have := of_decide_eq_true e
        show some (V.int (((n : Int).toNat - 1 : Nat) : Int)) = some (V.int ((n : Int) - 1))
        rw [Int.toNat_natCast, show ((n - 1 : Nat) : Int) = (n : Int) - 1 by omega]
      · refine tk _ _ (Same.refl _) ?_
        have : n = 0 := by
          have h : ¬ (0 : Int) < n := fun z => e (decide_eq_true z)
          omega
        subst this
        rfl
    have g2 : H2 D2 = some (.lst [.int ((t.s0 - 1 : Nat) : Int), .int ((t.s1 - 1 : Nat) : Int)]) := g2
    have s02 := s1.trans s2
    have g1 := s2 _ _ g1
    refine ⟨_, _, rfl, ?_⟩
    have h0 := O.h0
    have h1' := O.h1
    refine ⟨_, rfl, rfl, _, rfl, ?_⟩
    cases m with
    | true =>
      rw [decide_eq_true (show V.str (kindS true) = V.str (Str.ofString "marked") from rfl)]
      refine iteT ?_
      refine ⟨_, rfl, D1, _, 0, _, rfl, rfl, SqL.of g1, atI_nat (j := 0) rfl, _, rfl, D2, _, 1, _, rfl, rfl, SqL.of g2, atI_nat (j := 1) rfl, by show 2 ≤ sizeLine; decide, fun t3 nt3 => ?_⟩
      have s3 := same_new (o := .tup [.int ((t.s0 + 1 : Nat) : Int), .int ((t.s1 - 1 : Nat) : Int)]) nt3
      have g3 := upd_same (H := H2) (a := t3) (o := .tup [.int ((t.s0 + 1 : Nat) : Int), .int ((t.s1 - 1 : Nat) : Int)])
      have s03 := s02.trans s3
      generalize upd H2 t3 _ = H3 at s3 g3 s03 ⊢
      refine ⟨_, rfl, x, C, dx, _, _, rfl, s03 _ _ h1, L.cl, L.nP, cget_p _ _ _, hT.ext s03, fun H4 e4 T4 ff nff => ⟨Same.refl _, besF true t, fun HD kk l Qb sD qb => ?_, fun HL dr sL LA dr1 dr2 => ?_⟩⟩
      · have hxD := ((hx0.same s03).extN e4).same sD
        refine ⟨_, rfl, _, _, rfl, rfl, _, rfl, ite2 (fun e => ?_) (fun e => ?_)⟩
        · have e0 : 0 < kk := by have := of_decide_eq_true e; omega
          have hxD' := hxD
          obtain ⟨dx', _, _, _, hi, _⟩ := hxD'
          refine ⟨_, rfl, _, _, rfl, rfl, _, rfl, _, _, rfl, rfl, by show 2 ≤ sizeLine; decide, fun t5 nt5 => ?_⟩
          have s5 := same_new (o := .tup [.int ((kk : Int) - 1), .int ((l : Int) + 1)]) nt5
          refine ⟨_, rfl, x, dx', _, rfl, s5 _ _ hi, x, t, .ref t5, .tuple [.int ((kk : Int) - 1), .int ((l : Int) + 1)], rfl, hxD.same s5, O, by omega, .tup upd_same (by show 2 ≤ 1000; decide) (.cons (.int _) (.cons (.int _) .nil)), _, rfl, ?_⟩
          have e1 : inD t (.tuple [.int ((kk : Int) - 1), .int ((l : Int) + 1)]) = besF true t kk l := by
            show (decide ((0 : Int) ≤ (kk : Int) - 1) && decide ((0 : Int) ≤ (l : Int) + 1) && t.has ((kk : Int) - 1).toNat ((l : Int) + 1).toNat) = (decide (0 < kk) && t.has (kk - 1) (l + 1))
            rw [decide_eq_true (by omega), decide_eq_true (by omega), decide_eq_true e0, show ((kk : Int) - 1).toNat = kk - 1 by omega, show ((l : Int) + 1).toNat = l + 1 by omega]
            rfl
          show Qb (.bl (inD t (.tuple [.int ((kk : Int) - 1), .int ((l : Int) + 1)]))) _
          rw [e1]
          exact qb _ s5
        · have e1 : besF true t kk l = false := by
            show (decide (0 < kk) && t.has (kk - 1) (l + 1)) = false
            rw [decide_eq_false (fun z => e (decide_eq_true (by omega)))]
            rfl
          have := qb HD (Same.refl _)
          rw [e1] at this
          exact this
      · have s34 : ExtN H H4 := (ExtN.of s03).trans e4
        refine ⟨.ref t3, .ref tp, _, _, ff, besF true t, t.s0 + 1, t.s1 - 1, t.p0, t.p1, rfl, LA, .tup rfl (sL _ _ (e4 _ _ g3 (fun _ z => by cases z))), .tup rfl (sL _ _ (s34 _ _ h3 (fun _ z => by cases z))), h0, h1', by omega, by omega, fun z H' sH' cr => ⟨sH', ?_⟩⟩
        exact q z _ (s34.trans (ExtN.of (dr1 H' sH'))) (T4.ext (dr1 H' sH')) (cr.ext fun b o e _ nx => dr2 H' sH' b o e nx)
    | false =>
      rw [decide_eq_false (show V.str (kindS false) ≠ V.str (Str.ofString "marked") from fun z => by cases z)]
      refine iteF ?_
      refine ⟨_, rfl, D2, _, 0, _, rfl, rfl, SqL.of g2, atI_nat (j := 0) rfl, _, rfl, D1, _, 1, _, rfl, rfl, SqL.of g1, atI_nat (j := 1) rfl, by show 2 ≤ sizeLine; decide, fun t3 nt3 => ?_⟩
      have s3 := same_new (o := .tup [.int ((t.s0 - 1 : Nat) : Int), .int ((t.s1 + 1 : Nat) : Int)]) nt3
      have g3 := upd_same (H := H2) (a := t3) (o := .tup [.int ((t.s0 - 1 : Nat) : Int), .int ((t.s1 + 1 : Nat) : Int)])
      have s03 := s02.trans s3
      generalize upd H2 t3 _ = H3 at s3 g3 s03 ⊢
      refine ⟨_, rfl, x, C, dx, _, _, rfl, s03 _ _ h1, L.cl, L.nP, cget_p _ _ _, hT.ext s03, fun H4 e4 T4 ff nff => ⟨Same.refl _, besF false t, fun HD kk l Qb sD qb => ?_, fun HL dr sL LA dr1 dr2 => ?_⟩⟩
      · have hxD := ((hx0.same s03).extN e4).same sD
        refine ⟨_, rfl, _, _, rfl, rfl, _, rfl, ite2 (fun e => ?_) (fun e => ?_)⟩
        · have e0 : 0 < l := by have := of_decide_eq_true e; omega
          have hxD' := hxD
          obtain ⟨dx', _, _, _, hi, _⟩ := hxD'
          refine ⟨_, rfl, _, _, rfl, rfl, _, rfl, _, _, rfl, rfl, by show 2 ≤ sizeLine; decide, fun t5 nt5 => ?_⟩
          have s5 := same_new (o := .tup [.int ((kk : Int) + 1), .int ((l : Int) - 1)]) nt5
          refine ⟨_, rfl, x, dx', _, rfl, s5 _ _ hi, x, t, .ref t5, .tuple [.int ((kk : Int) + 1), .int ((l : Int) - 1)], rfl, hxD.same s5, O, by omega, .tup upd_same (by show 2 ≤ 1000; decide) (.cons (.int _) (.cons (.int _) .nil)), _, rfl, ?_⟩
          have e1 : inD t (.tuple [.int ((kk : Int) + 1), .int ((l : Int) - 1)]) = besF false t kk l := by
            show (decide ((0 : Int) ≤ (kk : Int) + 1) && decide ((0 : Int) ≤ (l : Int) - 1) && t.has ((kk : Int) + 1).toNat ((l : Int) - 1).toNat) = (decide (0 < l) && t.has (kk + 1) (l - 1))
            rw [decide_eq_true (by omega), decide_eq_true (by omega), decide_eq_true e0, show ((kk : Int) + 1).toNat = kk + 1 by omega, show ((l : Int) - 1).toNat = l - 1 by omega]
            rfl
          show Qb (.bl (inD t (.tuple [.int ((kk : Int) + 1), .int ((l : Int) - 1)]))) _
          rw [e1]
          exact qb _ s5
        · have e1 : besF false t kk l = false := by
            show (decide (0 < l) && t.has (kk + 1) (l - 1)) = false
            rw [decide_eq_false (fun z => e (decide_eq_true (by omega)))]
            rfl
          have := qb HD (Same.refl _)
          rw [e1] at this
          exact this
      · have s34 : ExtN H H4 := (ExtN.of s03).trans e4
        refine ⟨.ref t3, .ref tp, _, _, ff, besF false t, t.s0 - 1, t.s1 + 1, t.p0, t.p1, rfl, LA, .tup rfl (sL _ _ (e4 _ _ g3 (fun _ z => by cases z))), .tup rfl (sL _ _ (s34 _ _ h3 (fun _ z => by cases z))), h0, h1', by omega, by omega, fun z H' sH' cr => ⟨sH', ?_⟩⟩
        exact q z _ (s34.trans (ExtN.of (dr1 H' sH'))) (T4.ext (dr1 H' sH')) (cr.ext fun b o e _ nx => dr2 H' sH' b o e nx)
end
end FH

set_option Elab.async false
set_option linter.all false
set_option maxRecDepth 100000
set_option maxHeartbeats 1000000
namespace FH
open PySem L2
local macro_rules | `(tactic| walk_at "seq") => `(tactic| first | assumption | exact SqL.of (by assumption) | exact SqT.of (by assumption) | exact SqL.of upd_same | exact SqT.of upd_same)
local macro_rules | `(tactic| walk_at "at") => `(tactic| first | exact atI_nat (j := 0) rfl | exact atI_nat (j := 1) rfl | exact atI_nat (j := 2) rfl | exact atI_nat (by assumption) | assumption)
local macro_rules | `(tactic| walk_at "ar") => `(tactic| first | omega | exact ⟨by omega, by omega⟩ | exact Or.inl ⟨by omega, by omega⟩ | exact Or.inr ⟨by omega, by omega⟩ | exact ⟨by decide, by decide⟩ | exact Or.inr ⟨by decide, by decide⟩ | exact Or.inl ⟨by decide, by decide⟩ | exact ⟨by decide, by decide, by omega⟩ | exact ⟨by decide, by decide, by decide⟩)
local macro_rules | `(tactic| walk_at "r") => `(tactic| repeat (first
  | refine ⟨_, rfl, ?_⟩
  | refine ⟨_, _, rfl, rfl, ?_⟩
  | refine ⟨_, _, _, _, rfl, rfl, by walk_at "seq", by walk_at "at", ?_⟩
  | refine ⟨_, _, _, _, rfl, rfl, by assumption, rfl, ?_⟩
  | refine ⟨_, _, rfl, Or.inl (by walk_at "seq"), ?_⟩
  | refine Or.inl ⟨_, rfl, ?_⟩
  | refine Or.inr ⟨_, rfl, ?_⟩
  | refine And.intro (by walk_at "ar") ?_))
open Pr
/-! ### at least so many -/
def alF (m : Bool) (n : Nat) : Nat → Nat → Bool := if m = true then fun k _ => decide (n ≤ k) else fun _ l => decide (n ≤ l)
def alT (m : Bool) (n : Nat) : Tb := if m = true then tabF (alF true n) n 0 1 1 else tabF (alF false n) 0 n 1 1
def colM (n : Nat) : List Str := ones (List.replicate n 45 ++ [43])
theorem rng_al {β : Type} (f : Bool → β) (n : Nat) : ((List.range (n + 1)).map fun k => f (decide (n ≤ k))) = List.replicate n (f false) ++ [f true] := by
  rw [List.range_succ, List.map_append]
  congr 1
  · refine List.ext_getElem (by simp) fun i h1 h2 => ?_
    simp at h1
    simp only [List.getElem_map, List.getElem_range, List.getElem_replicate]
    rw [decide_eq_false (show ¬ n ≤ i by omega)]
  · simp
theorem alT_rows1 (n : Nat) : (alT true n).rows = colM n := by
  show canR (alF true n) (n + 1) (0 + 1) = _
  unfold canR colM ones
  have := rng_al (fun b => sgnS [b]) n
  rw [List.map_append, List.map_replicate]
  exact this
theorem alT_rows2 (n : Nat) : (alT false n).rows = [Txt.join (Str.ofString "") (colM n)] := by
  show canR (alF false n) (0 + 1) (n + 1) = _
  unfold canR colM
  show [sgnS ((List.range (n + 1)).map fun l => decide (n ≤ l))] = _
  congr 1
  refine str_tl ?_
  rw [join_ones, tl_sgn, List.map_map]
  exact rng_al (fun b => if b = true then 43 else 45) n
theorem alT_ok (m : Bool) (n : Nat) : (alT m n).Ok := by
  cases m
  · exact tabF_ok (by decide) (by decide)
  · exact tabF_ok (by decide) (by decide)
theorem alT_has (m : Bool) (n k l : Nat) : (alT m n).has k l = alF m n k l := by
  cases m
  · refine tabF_has (by decide) (by decide) ⟨fun z _ => rfl, fun z hz => ?_⟩ k l
    funext k
    show decide (n ≤ z + 1) = decide (n ≤ z)
    rw [decide_eq_true hz, decide_eq_true (show n ≤ z + 1 by omega)]
  · refine tabF_has (by decide) (by decide) ⟨fun z hz => ?_, fun z _ => rfl⟩ k l
    funext l
    show decide (n ≤ z + 1) = decide (n ≤ z)
    rw [decide_eq_true hz, decide_eq_true (show n ≤ z + 1 by omega)]
theorem flat_one (n : Nat) (v : V) : (List.replicate n [v]).flatten = List.replicate n v := by
  induction n with
  | zero => rfl
  | succ n ih => rw [List.replicate_succ, List.flatten_cons, ih, List.replicate_succ]; rfl
def spAl (C : Addr) : Sp := fun vs H Q _ => ∃ (m : Bool) (n : Nat), vs = [.ref C, .str (kindS m), .int n] ∧ n < 1000 ∧ ∀ (z : Addr) (H' : Hp), Same H H' → CrAt C H' z (alT m n).least → Q (.ref z) H'
section
variable {P : Program} {w : World} {K : PySem.W.Frag} {mg : Str → Option Value} {base : Heap} {C CE : Addr}
theorem sc_Crowds_at_least : FnScope ["cls", "kind", "number", "column"] ["cls", "kind", "number"] (defScope (inClass (topS 24) 4)) := ⟨rfl, rfl, rfl, by decide +kernel, rfl, by decide +kernel, by decide +kernel⟩
theorem ok_al {f fI : Addr} {fd fdI : FuncData} {k : Nat} {t1 t2 : Tok} (F : Fun K "at_least" "Crowds.at_least" (inClass (topS 24) 4) f fd) (T : Bt mg) (L : CrC K mg C) (gIN : mg "IN" = some (.str "+" t1)) (gNI : mg "NOT_IN" = some (.str "-" t2))
    (MK : Mk K C fI) (bI : Binds K fdI ["self", "starts", "periods", "rows"] []) (GI : FnOk P w K mg base (L2.CX P w) (k + 4) fI fdI ["self", "starts", "periods", "rows"] (spInit C CE)) :
    FnOk P w K mg base CX0 (k + 6) f fd ["cls", "kind", "number"] (spAl C) := by
  refine F.ok sc_Crowds_at_least (fun vs H Q E h => ?_) (fun cdv A outer s H vs Q E hr h => ?_)
  · obtain ⟨m, n, rfl, _⟩ := h
    rfl
  · obtain ⟨m, n, rfl, hn, q⟩ := h
    refine ⟨_, (pss_cons (ps_set (i := 3) sc_Crowds_at_least.nd rfl (by first | exact Or.inl rfl | exact Or.inr rfl) (pe_op op_cat (pe_op op_rep (pe_lst (pa_cons (pe_glob (v := .str "-") (by rfl) gNI ⟨_, rfl⟩) pa_nil)) (pv 2)) (pe_lst (pa_cons (pe_glob (v := .str "+") (by rfl) gIN ⟨_, rfl⟩) pa_nil))))
  (pss_one (ps_ret (pe_ifExp (pt_cmpR op_eq (pv 1) pe_str (nomark _)) (pe_makeV (i := 0) MK GI hr rfl (by first | exact Or.inl rfl | exact Or.inr (Or.inl rfl)) bI .nil passF (pa_cons (pe_tup (pa_cons (pv 2) (pa_cons pe_int pa_nil))) (pa_cons (pe_tup (pa_cons pe_int (pa_cons pe_int pa_nil))) (pa_cons (pv 3) pa_nil)))) (pe_makeV (i := 0) MK GI hr rfl (by first | exact Or.inl rfl | exact Or.inr (Or.inl rfl)) bI .nil passF (pa_cons (pe_tup (pa_cons pe_int (pa_cons (pv 2) pa_nil))) (pa_cons (pe_tup (pa_cons pe_int (pa_cons pe_int pa_nil))) (pa_cons (pe_lst (pa_cons (pe_joinK (K := K) rfl pe_str (pv 3)) pa_nil)) pa_nil)))))))), ?_⟩
    refine ⟨by decide, fun l1 n1 => ?_⟩
    obtain ⟨H1, e1, s1, g1⟩ := new_ex n1 (.lst [.str (Str.ofString "-")])
    rw [e1]
    refine ⟨_, rfl, l1, _, _, rfl, rfl, g1, by omega, by omega, ?_, fun l2 n2 => ?_⟩
    · rw [Int.toNat_natCast]; show 1 * n ≤ 16777216; omega
    rw [Int.toNat_natCast]
    obtain ⟨H2, e2, s2, g2⟩ := new_ex n2 (.lst (List.replicate n [V.str (Str.ofString "-")]).flatten)
    rw [e2]
    have ef : (List.replicate n [V.str (Str.ofString "-")]).flatten = List.replicate n (V.str (Str.ofString "-")) := by
      exact flat_one n _
    rw [ef] at g2
    refine ⟨by decide, fun l3 n3 => ?_⟩
    obtain ⟨H3, e3, s3, g3⟩ := new_ex n3 (.lst [.str (Str.ofString "+")])
    rw [e3]
    refine ⟨l2, l3, _, _, rfl, rfl, s3 _ _ g2, g3, ?_, fun l4 n4 => ?_⟩
    · rw [List.length_replicate]; show n + 1 ≤ 16777216; omega
    have ec : List.replicate n (V.str (Str.ofString "-")) ++ [V.str (Str.ofString "+")] = (colM n).map V.str := by
      unfold colM ones
      rw [List.map_map, List.map_append, List.map_replicate]
      have a1 : (⟨#[45]⟩ : Str) = Str.ofString "-" := by decide +kernel
      have a2 : (⟨#[43]⟩ : Str) = Str.ofString "+" := by decide +kernel
      show _ = List.replicate n (V.str ⟨#[45]⟩) ++ [V.str ⟨#[43]⟩]
      rw [a1, a2]
    rw [ec]
    obtain ⟨H4, e4, s4, g4⟩ := new_ex n4 (.lst ((colM n).map V.str))
    rw [e4]
    have S4 := ((s1.trans s2).trans s3).trans s4
    refine ⟨_, rfl, rfl, _, rfl, ?_⟩
    cases m with
    | true =>
      rw [decide_eq_true (show V.str (kindS true) = V.str (Str.ofString "marked") from rfl)]
      refine iteT ⟨rfl, ?_⟩
      refine ⟨_, rfl, by show 2 ≤ sizeLine; decide, fun t5 n5 => ?_⟩
      obtain ⟨H5, e5, s5, g5⟩ := new_ex n5 (.tup [.int (n : Nat), .int 0])
      rw [e5]
      refine ⟨by show 2 ≤ sizeLine; decide, fun t6 n6 => ?_⟩
      obtain ⟨H6, e6, s6, g6⟩ := new_ex n6 (.tup [.int 1, .int 1])
      rw [e6]
      refine ⟨_, rfl, ?_⟩
      exact fun x dx nx ndx nxd => init_tab nx ndx (t := alT true n) (alT_ok _ _) (by show n + 1 ≤ 1000; omega) (by show 0 + 1 ≤ 1000; decide) (.tup rfl (s6 _ _ g5)) (.tup rfl g6) (.lst rfl (by rw [alT_rows1]; exact s6 _ _ (s5 _ _ g4))) fun H7 s7 cr => ⟨rfl, q _ H7 (((S4.trans s5).trans s6).trans s7) cr⟩
    | false =>
      rw [decide_eq_false (show V.str (kindS false) ≠ V.str (Str.ofString "marked") from fun z => by cases z)]
      refine iteF ⟨rfl, ?_⟩
      refine ⟨_, rfl, by show 2 ≤ sizeLine; decide, fun t5 n5 => ?_⟩
      obtain ⟨H5, e5, s5, g5⟩ := new_ex n5 (.tup [.int 0, .int (n : Nat)])
      rw [e5]
      refine ⟨by show 2 ≤ sizeLine; decide, fun t6 n6 => ?_⟩
      obtain ⟨H6, e6, s6, g6⟩ := new_ex n6 (.tup [.int 1, .int 1])
      rw [e6]
      refine ⟨⟨_, rfl⟩, _, rfl, _, l4, _, rfl, rfl, .inl (SqL.of (s6 _ _ (s5 _ _ g4))), ?_, by show 1 ≤ sizeLine; decide, fun t7 n7 => ?_⟩
      · unfold colM
        rw [sum_ones, ones_len, List.length_append, List.length_replicate]
        show (n + 1) + (n + 1) * 0 ≤ 16777216
        omega
      obtain ⟨H7, e7, s7, g7⟩ := new_ex n7 (.lst [.str (Txt.join (Str.ofString "") (colM n))])
      rw [e7]
      exact fun x dx nx ndx nxd => init_tab nx ndx (t := alT false n) (alT_ok _ _) (by show 0 + 1 ≤ 1000; decide) (by show n + 1 ≤ 1000; omega) (.tup rfl (s7 _ _ (s6 _ _ g5))) (.tup rfl (s7 _ _ g6)) (.lst rfl (by rw [alT_rows2]; exact g7)) fun H8 s8 cr => ⟨rfl, q _ H8 ((((S4.trans s5).trans s6).trans s7).trans s8) cr⟩
end
end FH

set_option Elab.async false
set_option linter.all false
set_option maxRecDepth 100000
set_option maxHeartbeats 1000000
namespace FH
open PySem L2
local macro_rules | `(tactic| walk_at "seq") => `(tactic| first | assumption | exact SqL.of (by assumption) | exact SqT.of (by assumption) | exact SqL.of upd_same | exact SqT.of upd_same)
local macro_rules | `(tactic| walk_at "at") => `(tactic| first | exact atI_nat (j := 0) rfl | exact atI_nat (j := 1) rfl | exact atI_nat (j := 2) rfl | exact atI_nat (by assumption) | assumption)
local macro_rules | `(tactic| walk_at "ar") => `(tactic| first | omega | exact ⟨by omega, by omega⟩ | exact Or.inl ⟨by omega, by omega⟩ | exact Or.inr ⟨by omega, by omega⟩ | exact ⟨by decide, by decide⟩ | exact Or.inr ⟨by decide, by decide⟩ | exact Or.inl ⟨by decide, by decide⟩ | exact ⟨by decide, by decide, by omega⟩ | exact ⟨by decide, by decide, by decide⟩)
local macro_rules | `(tactic| walk_at "r") => `(tactic| repeat (first
  | refine ⟨_, rfl, ?_⟩
  | refine ⟨_, _, rfl, rfl, ?_⟩
  | refine ⟨_, _, _, _, rfl, rfl, by walk_at "seq", by walk_at "at", ?_⟩
  | refine ⟨_, _, _, _, rfl, rfl, by assumption, rfl, ?_⟩
  | refine ⟨_, _, rfl, Or.inl (by walk_at "seq"), ?_⟩
  | refine Or.inl ⟨_, rfl, ?_⟩
  | refine Or.inr ⟨_, rfl, ?_⟩
  | refine And.intro (by walk_at "ar") ?_))
open Pr
/-! ### rests -/
def lvF (m : Bool) (r p : Nat) : Nat → Nat → Bool := if m = true then fun k _ => decide (k % p = r) else fun _ l => decide (l % p = r)
def lvT (m : Bool) (r p : Nat) : Tb := if m = true then tabF (lvF true r p) 0 0 p 1 else tabF (lvF false r p) 0 0 1 p
def colV2 (r p : Nat) : List Str := ones ((List.range p).map fun k => if k = r then 43 else 45)
theorem lv_map (r p : Nat) {β : Type} (f : Bool → β) : ((List.range p).map fun k => f (decide (k % p = r))) = (List.range p).map fun k => f (decide (k = r)) := by
  refine List.map_congr_left fun k hk => ?_
  rw [Nat.mod_eq_of_lt (List.mem_range.mp hk)]
theorem lvT_rows1 (r p : Nat) : (lvT true r p).rows = colV2 r p := by
  show canR (lvF true r p) (0 + p) (0 + 1) = _
  unfold canR colV2 ones
  rw [List.map_map]
  have := lv_map r p (fun b => sgnS [b])
  show ((List.range (0 + p)).map fun k => sgnS [decide (k % p = r)]) = _
  rw [Nat.zero_add]
  refine Eq.trans this (List.map_congr_left fun k _ => ?_)
  by_cases e : k = r
  · simp [e, sgnS]
  · simp [e, sgnS]
theorem lvT_rows2 (r p : Nat) : (lvT false r p).rows = [Txt.join (Str.ofString "") (colV2 r p)] := by
  show canR (lvF false r p) (0 + 1) (0 + p) = _
  unfold canR colV2
  rw [Nat.zero_add]
  show [sgnS ((List.range p).map fun l => decide (l % p = r))] = _
  congr 1
  refine str_tl ?_
  rw [join_ones, tl_sgn, lv_map r p (fun b => b), List.map_map]
  refine List.map_congr_left fun k _ => ?_
  by_cases e : k = r
  · simp [e]
  · simp [e]
theorem lvT_ok (m : Bool) (r : Nat) {p : Nat} (hp : 0 < p) : (lvT m r p).Ok := by
  cases m
  · exact tabF_ok (by decide) hp
  · exact tabF_ok hp (by decide)
theorem lvT_has (m : Bool) (r : Nat) {p : Nat} (hp : 0 < p) (k l : Nat) : (lvT m r p).has k l = lvF m r p k l := by
  cases m
  · refine tabF_has (by decide) hp ⟨fun z _ => rfl, fun z hz => ?_⟩ k l
    funext k
    show decide ((z + p) % p = r) = decide (z % p = r)
    rw [Nat.add_mod_right]
  · refine tabF_has hp (by decide) ⟨fun z hz => ?_, fun z _ => rfl⟩ k l
    funext l
    show decide ((z + p) % p = r) = decide (z % p = r)
    rw [Nat.add_mod_right]
def spLv (C : Addr) : Sp := fun vs H Q _ => ∃ (m : Bool) (i : Int) (p : Nat), vs = [.ref C, .str (kindS m), .int i, .int p] ∧ 0 < p ∧ p < 1000 ∧ ∀ (z : Addr) (H' : Hp), Same H H' → CrAt C H' z (lvT m (i % (p : Int)).toNat p).least → Q (.ref z) H'
/-- nothing, every -/
def conT (b : Bool) : Tb := tabF (fun _ _ => b) 0 0 1 1
theorem conT_rows (b : Bool) : (conT b).rows = [if b = true then Str.ofString "+" else Str.ofString "-"] := by cases b <;> decide +kernel
def spCst (C : Addr) (b : Bool) : Sp := fun vs H Q _ => vs = [.ref C] ∧ ∀ (z : Addr) (H' : Hp), Same H H' → CrAt C H' z (conT b).least → Q (.ref z) H'
section
variable {P : Program} {w : World} {K : PySem.W.Frag} {mg : Str → Option Value} {base : Heap} {C CE : Addr}
end
end FH

set_option Elab.async false
set_option linter.all false
set_option maxRecDepth 100000
set_option maxHeartbeats 2000000
namespace FH
open PySem PySem.Spec PyProof.Rows L2
/-- x in q, q a list or a tuple of data -/
def rInQ (K : PySem.W.Frag) : R2 := fun x y H Q => ∃ d e ds, Dp K H x d ∧ Dp K H y e ∧ (e = .list ds ∨ e = .tuple ds) ∧ SeqAt.shaped d = true ∧ SeqAt.shaped (.list ds) = true ∧ Q (.bl (ds.any fun z => PyData.eqv z d)) H
theorem inQK {X : Cx} {K : PySem.W.Frag} (h : X.K = K) (hu : X.A.units + 65 < cLine) : OpR X (compareOp .In) (rInQ K) := by
  subst h
  intro pins s σ H x y v u Q I rx ry h
  obtain ⟨d, e, ds, hd, he, hs, sd, se, q⟩ := h
  obtain ⟨as, r1⟩ := Dp.reads I d x v hd rx
  obtain ⟨bs, r2⟩ := Dp.reads I e y u he ry
  rcases hs with rfl | rfl
  · exact SeqAt.in_list_reads r2 r1 (SeqAt.canLay_of_shaped se) (SeqAt.canLay_of_shaped sd) (room_in_shaped sd hu) ⟨.bl _, H, I, rfl, q⟩
  · exact SeqAt.in_tuple_reads r2 r1 (SeqAt.canLay_of_shaped se) (SeqAt.canLay_of_shaped sd) (room_in_shaped sd hu) ⟨.bl _, H, I, rfl, q⟩
theorem pa_starK {X : Cx} {K : PySem.W.Frag} {e : Expr} {es : List Expr} {te : TE} {t : TA} {p : Pos} (h : X.K = K) (he : PE X e te) (hr : PA X es t) (hs : starEach (.Starred e p :: es) X.env = (true, eval e X.env) :: starEach es X.env := by rfl) : PA X (.Starred e p :: es) (StX.tStar K te t) := by
  subst h
  exact StX.pa_star he hr hs
theorem units65 {k : Nat} {A : Around} (r : Room k A) : A.units + 65 < cLine := by have := r.un; omega
/-- a def that may raise, by its body, its code object being told -/
theorem okXC {P : Program} {w : World} {K : PySem.W.Frag} {mg : Str → Option Value} {base : Heap} {x qual : Str} {st : Stmt} {f : Addr} {fd : FuncData} {N ps : List Str} {k : Nat} {sp : Sp} (F : Fun K x qual st f fd) (S : FnScope N ps (defScope st)) (len : ∀ vs H Q E, sp vs H Q E → vs.length = ps.length)
    (hbody : ∀ (A : Around) (outer : List Env) (s : Shared) (H : Hp) (vs : List V) (Q : VK) (E : XK), Room k (A.deeper (envOfC qual (defScope st) s.heap.objs.size f fd.code)) → sp vs H Q E →
      ∃ t, PSs (cxOf (L2.CX P w) P w K mg base N qual (defScope st) f fd.code A outer s H E) (defBody st) t ∧ t { nx := fun _ H' => Q .non H', rt := Q } (start N vs) H) : FnOk P w K mg base (L2.CX P w) (k + 1) f fd ps sp := by
  obtain ⟨oc, od, kV, doc, pm, an, cdv, ct, osl, rfl, lk, hcd⟩ := F.ex
  exact fn_of lk hcd S len fun A outer s H vs Q E hr hsp => hbody A outer s H vs Q E hr hsp
end FH
namespace L2
open PySem PySem.Spec PyProof.Rows
theorem PS.nox {X : Cx} {st : Stmt} {t : TS} (h : PS X.nox st t) : PS X st t := ⟨fun pins s σ H D I hw => wpAny_mono (h.run pins s σ H D (I.wish _) hw) (fun _ _ q => q.unwish) fun _ _ z => False.elim z⟩
end L2

set_option Elab.async false
set_option linter.all false
set_option maxRecDepth 100000
set_option maxHeartbeats 1000000
namespace FH
open PySem L2
local macro_rules | `(tactic| walk_at "seq") => `(tactic| first | assumption | exact SqL.of (by assumption) | exact SqT.of (by assumption) | exact SqL.of upd_same | exact SqT.of upd_same)
local macro_rules | `(tactic| walk_at "at") => `(tactic| first | exact atI_nat (j := 0) rfl | exact atI_nat (j := 1) rfl | exact atI_nat (j := 2) rfl | exact atI_nat (by assumption) | assumption)
local macro_rules | `(tactic| walk_at "ar") => `(tactic| first | omega | exact ⟨by omega, by omega⟩ | exact Or.inl ⟨by omega, by omega⟩ | exact Or.inr ⟨by omega, by omega⟩ | exact ⟨by decide, by decide⟩ | exact Or.inr ⟨by decide, by decide⟩ | exact Or.inl ⟨by decide, by decide⟩ | exact ⟨by decide, by decide, by omega⟩ | exact ⟨by decide, by decide, by decide⟩)
local macro_rules | `(tactic| walk_at "r") => `(tactic| repeat (first
  | refine ⟨_, rfl, ?_⟩
  | refine ⟨_, _, rfl, rfl, ?_⟩
  | refine ⟨_, _, _, _, rfl, rfl, by walk_at "seq", by walk_at "at", ?_⟩
  | refine ⟨_, _, _, _, rfl, rfl, by assumption, rfl, ?_⟩
  | refine ⟨_, _, rfl, Or.inl (by walk_at "seq"), ?_⟩
  | refine Or.inl ⟨_, rfl, ?_⟩
  | refine Or.inr ⟨_, rfl, ?_⟩
  | refine And.intro (by walk_at "ar") ?_))
open Pr
/-! ### two sets put together -/
def binT (q : Bool → Bool → Bool) (t u : Tb) : Tb := tabF (fun k l => q (t.has k l) (u.has k l)) (max t.s0 u.s0) (max t.s1 u.s1) (Nat.lcm t.p0 u.p0) (Nat.lcm t.p1 u.p1)
def notT (t : Tb) : Tb := tabF (fun k l => !t.has k l) t.s0 t.s1 t.p0 t.p1
section
variable {q : Bool → Bool → Bool} {t u : Tb}
theorem lcm_pos' {a b : Nat} (ha : 0 < a) (hb : 0 < b) : 0 < Nat.lcm a b := Nat.lcm_pos ha hb
theorem binT_per : PerF (fun k l => q (t.has k l) (u.has k l)) (max t.s0 u.s0) (max t.s1 u.s1) (Nat.lcm t.p0 u.p0) (Nat.lcm t.p1 u.p1) := by
  refine ⟨fun n hn => ?_, fun n hn => ?_⟩
  · funext l
    have e1 := t.per0 (s := max t.s0 u.s0) (Nat.le_max_left _ _) (Nat.dvd_lcm_left t.p0 u.p0) l n hn
    have e2 := u.per0 (s := max t.s0 u.s0) (Nat.le_max_right _ _) (Nat.dvd_lcm_right t.p0 u.p0) l n hn
    show q (t.has (n + Nat.lcm t.p0 u.p0) l) (u.has (n + Nat.lcm t.p0 u.p0) l) = q (t.has n l) (u.has n l)
    rw [show t.has (n + Nat.lcm t.p0 u.p0) l = t.has n l from e1, show u.has (n + Nat.lcm t.p0 u.p0) l = u.has n l from e2]
  · funext k
    have e1 := t.per1 (s := max t.s1 u.s1) (Nat.le_max_left _ _) (Nat.dvd_lcm_left t.p1 u.p1) k n hn
    have e2 := u.per1 (s := max t.s1 u.s1) (Nat.le_max_right _ _) (Nat.dvd_lcm_right t.p1 u.p1) k n hn
    show q (t.has k (n + Nat.lcm t.p1 u.p1)) (u.has k (n + Nat.lcm t.p1 u.p1)) = q (t.has k n) (u.has k n)
    rw [show t.has k (n + Nat.lcm t.p1 u.p1) = t.has k n from e1, show u.has k (n + Nat.lcm t.p1 u.p1) = u.has k n from e2]
theorem binT_ok (h1 : t.Ok) (h2 : u.Ok) : (binT q t u).Ok := tabF_ok (lcm_pos' h1.h0 h2.h0) (lcm_pos' h1.h1 h2.h1)
theorem binT_has (h1 : t.Ok) (h2 : u.Ok) (k l : Nat) : (binT q t u).has k l = q (t.has k l) (u.has k l) := tabF_has (lcm_pos' h1.h0 h2.h0) (lcm_pos' h1.h1 h2.h1) binT_per k l
theorem notT_per (h : t.Ok) : PerF (fun k l => !t.has k l) t.s0 t.s1 t.p0 t.p1 := by
  have P := t.perF h
  refine ⟨fun n hn => ?_, fun n hn => ?_⟩
  · funext l
    show (!t.has (n + t.p0) l) = !t.has n l
    rw [P.a n hn]
  · funext k
    show (!t.has k (n + t.p1)) = !t.has k n
    rw [show t.has k (n + t.p1) = t.has k n from congrFun (P.b n hn) k]
theorem notT_ok (h : t.Ok) : (notT t).Ok := tabF_ok h.h0 h.h1
theorem notT_has (h : t.Ok) (k l : Nat) : (notT t).has k l = !t.has k l := tabF_has h.h0 h.h1 (notT_per h) k l
theorem rows_can (h : t.Ok) : t.rows = canR t.has (t.s0 + t.p0) (t.s1 + t.p1) := by
  refine List.ext_getElem? fun i => ?_
  by_cases hi : i < t.s0 + t.p0
  · rw [canR_get _ hi]
    have e := (t.row_mem h i).1
    rw [spot_id hi] at e
    rw [e]
    refine congrArg some (sg_ext (t.row_ok h i).2 (sg_sgn _) (by rw [(t.row_ok h i).1, len_sgn, List.length_map, List.length_range]) fun j hj => ?_)
    rw [(t.row_ok h i).1] at hj
    rw [in_sgn, List.getD_eq_getElem?_getD, List.getElem?_map, List.getElem?_range hj]
    show _ = t.has i j
    unfold Tb.has
    rw [spot_id hj]
  · rw [List.getElem?_eq_none (by rw [h.len]; omega), List.getElem?_eq_none (by rw [len_canR]; omega)]
end
def spComb (C : Addr) : Sp := fun vs H Q _ => ∃ (x y : Addr) (t u : Tb) (q : Bool → Bool → Bool), vs = [.ref x, .ref y, .str (pick4 q)] ∧ CrAt C H x t ∧ CrAt C H y u ∧ Two t u ∧ ∀ (z : Addr) (H' : Hp), Same H H' → CrAt C H' z (binT q t u).least → Q (.ref z) H'
def spBin (C : Addr) (q : Bool → Bool → Bool) : Sp := fun vs H Q _ => ∃ (x y : Addr) (t u : Tb), vs = [.ref x, .ref y] ∧ CrAt C H x t ∧ CrAt C H y u ∧ Two t u ∧ ∀ (z : Addr) (H' : Hp), Same H H' → CrAt C H' z (binT q t u).least → Q (.ref z) H'
def spInv (C : Addr) : Sp := fun vs H Q _ => ∃ (x : Addr) (t : Tb), vs = [.ref x] ∧ CrAt C H x t ∧ t.Ok ∧ t.s0 + t.p0 ≤ 1000 ∧ t.s1 + t.p1 ≤ 1000 ∧ ∀ (z : Addr) (H' : Hp), Same H H' → CrAt C H' z (notT t).least → Q (.ref z) H'
section
variable {P : Program} {w : World} {K : PySem.W.Frag} {mg : Str → Option Value} {base : Heap} {C CE : Addr}
theorem sc_combined : FnScope ["one", "other", "signs", "starts", "periods", "some", "others"] ["one", "other", "signs"] (defScope (topS 21)) := ⟨rfl, rfl, rfl, by decide +kernel, rfl, by decide +kernel, by decide +kernel⟩
theorem ok_comb {f fB fS fI : Addr} {fd fdB fdS fdI : FuncData} {k : Nat} {t1 : Tok} (F : Fun K "combined" "combined" (topS 21) f fd) (T : Bt mg) (L : CrC K mg C)
    (FB : Fun K "both_tables" "both_tables" (topS 19) fB fdB) (bB : Binds K fdB ["one", "other"] []) (gB : mg "both_tables" = some (.ref fB)) (GB0 : FnOk P w K mg base CX0 (k + 3) fB fdB ["one", "other"] (spBoth C))
    (FS : Fun K "signs_of" "signs_of" (topS 20) fS fdS) (bS : Binds K fdS ["some", "others", "signs"] []) (gS : mg "signs_of" = some (.ref fS)) (gIN : mg "IN" = some (.str "+" t1))
    (MK : Mk K C fI) (bI : Binds K fdI ["self", "starts", "periods", "rows"] []) (GI : FnOk P w K mg base (L2.CX P w) (k + 4) fI fdI ["self", "starts", "periods", "rows"] (spInit C CE)) :
    FnOk P w K mg base CX0 (k + 6) f fd ["one", "other", "signs"] (spComb C) := by
  have GS : FnOk P w K mg base CX0 (k + 5) fS fdS ["some", "others", "signs"] (spSof K) := ok_sof FS T gIN
  have GB : FnOk P w K mg base CX0 (k + 5) fB fdB ["one", "other"] (spBoth C) := GB0.mono (by omega)
  refine F.ok sc_combined (fun vs H Q E h => ?_) (fun cdv A outer s H vs Q E hr h => ?_)
  · obtain ⟨x, y, t, u, q, rfl, _⟩ := h
    rfl
  · obtain ⟨x, y, t, u, qq, rfl, hx, hy, h2, q⟩ := h
    refine ⟨_, (pss_cons (ps_asg (pe_call GB hr (by rfl) gB FB.kp bB .nil pass0 (pa_cons (pv 0) (pa_cons (pv 1) pa_nil))) (pg_tup rfl (pgs_cons (pg_name (i := 3) sc_combined.nd rfl (by first | exact Or.inl rfl | exact Or.inr rfl)) (pgs_cons (pg_name (i := 4) sc_combined.nd rfl (by first | exact Or.inl rfl | exact Or.inr rfl)) (pgs_cons (pg_name (i := 5) sc_combined.nd rfl (by first | exact Or.inl rfl | exact Or.inr rfl)) (pgs_cons (pg_name (i := 6) sc_combined.nd rfl (by first | exact Or.inl rfl | exact Or.inr rfl)) pgs_nil))))))
  (pss_one (ps_ret (pe_make MK GI hr (by rfl) L.mgC bI .nil passF (pa_cons (pv 3) (pa_cons (pv 4) (pa_cons (pe_call GS hr (by rfl) gS FS.kp bS .nil pass0 (pa_cons (pv 5) (pa_cons (pv 6) (pa_cons (pv 2) pa_nil)))) pa_nil))))))), ?_⟩
    refine ⟨_, rfl, _, rfl, x, y, t, u, rfl, hx, hy, h2, fun Tp ls lp l1 l2 H1 s1 hT hS hP h1 h2' => ?_⟩
    refine ⟨Tp, _, rfl, SqT.of hT, rfl, _, _, rfl, _, _, rfl, _, _, rfl, _, _, rfl, rfl, ?_⟩
    refine ⟨_, rfl, _, rfl, _, rfl, _, rfl, _, rfl, l1, l2, t.has, u.has, tall t u, wide t u, qq, rfl, .inl ⟨SqL.of h1, SqL.of h2'⟩, h2.c0, h2.c1, fun l H2 s2 nl hl => ?_⟩
    refine fun x dx nx ndx nxd => init_tab nx ndx (t := binT qq t u) (binT_ok h2.o1 h2.o2) h2.c0 h2.c1 (.lst rfl (s2 _ _ hS)) (.lst rfl (s2 _ _ hP)) (.lst rfl hl) fun H3 s3 cr => ⟨rfl, q _ H3 ((s1.trans s2).trans s3) cr⟩
theorem sc_Crowds___and__ : FnScope ["self", "other"] ["self", "other"] (defScope (inClass (topS 24) 6)) := ⟨rfl, rfl, rfl, by decide +kernel, rfl, by decide +kernel, by decide +kernel⟩
theorem ok_and {f fC : Addr} {fd fdC : FuncData} {k : Nat} (F : Fun K "__and__" "Crowds.__and__" (inClass (topS 24) 6) f fd) (T : Bt mg) (L : CrC K mg C) (I : CrI K C)
    (FC : Fun K "combined" "combined" (topS 21) fC fdC) (bC : Binds K fdC ["one", "other", "signs"] []) (gC : mg "combined" = some (.ref fC)) (GC : FnOk P w K mg base CX0 (k + 6) fC fdC ["one", "other", "signs"] (spComb C)) :
    FnOk P w K mg base CX0 (k + 7) f fd ["self", "other"] (spBin C (fun a b => a && b)) := by
  refine F.ok sc_Crowds___and__ (fun vs H Q E h => ?_) (fun cdv A outer s H vs Q E hr h => ?_)
  · obtain ⟨x, y, t, u, rfl, _⟩ := h
    rfl
  · obtain ⟨x, y, t, u, rfl, hx, hy, h2, q⟩ := h
    refine ⟨_, (pss_cons (ps_if (pt_not (pt_val (pe_callB (isiK (K := K) rfl) (by rfl) T.m_isinstance (by decide +kernel) (pa_cons (pv 1) (pa_cons (pe_glob (v := .ref C) (by rfl) L.mgC rfl) pa_nil))))) (pss_one ps_never) pss_nil)
  (pss_one (ps_ret (pe_call GC hr (by rfl) gC FC.kp bC .nil pass0 (pa_cons (pv 0) (pa_cons (pv 1) (pa_cons pe_str pa_nil))))))), ?_⟩
    refine ⟨_, rfl, _, _, _, _, _, rfl, .own C, hy.tyx L I, I.kOwn, _, rfl, iteF ⟨_, rfl, _, rfl, x, y, t, u, fun a b => a && b, ?_, hx, hy, h2, q⟩⟩
    rw [show pick4 (fun a b => a && b) = Str.ofString "---+" by decide +kernel]
    rfl
theorem sc_Crowds___or__ : FnScope ["self", "other"] ["self", "other"] (defScope (inClass (topS 24) 7)) := ⟨rfl, rfl, rfl, by decide +kernel, rfl, by decide +kernel, by decide +kernel⟩
theorem ok_or {f fC : Addr} {fd fdC : FuncData} {k : Nat} (F : Fun K "__or__" "Crowds.__or__" (inClass (topS 24) 7) f fd) (T : Bt mg) (L : CrC K mg C) (I : CrI K C)
    (FC : Fun K "combined" "combined" (topS 21) fC fdC) (bC : Binds K fdC ["one", "other", "signs"] []) (gC : mg "combined" = some (.ref fC)) (GC : FnOk P w K mg base CX0 (k + 6) fC fdC ["one", "other", "signs"] (spComb C)) :
    FnOk P w K mg base CX0 (k + 7) f fd ["self", "other"] (spBin C (fun a b => a || b)) := by
  refine F.ok sc_Crowds___or__ (fun vs H Q E h => ?_) (fun cdv A outer s H vs Q E hr h => ?_)
  · obtain ⟨x, y, t, u, rfl, _⟩ := h
    rfl
  · obtain ⟨x, y, t, u, rfl, hx, hy, h2, q⟩ := h
    refine ⟨_, (pss_cons (ps_if (pt_not (pt_val (pe_callB (isiK (K := K) rfl) (by rfl) T.m_isinstance (by decide +kernel) (pa_cons (pv 1) (pa_cons (pe_glob (v := .ref C) (by rfl) L.mgC rfl) pa_nil))))) (pss_one ps_never) pss_nil)
  (pss_one (ps_ret (pe_call GC hr (by rfl) gC FC.kp bC .nil pass0 (pa_cons (pv 0) (pa_cons (pv 1) (pa_cons pe_str pa_nil))))))), ?_⟩
    refine ⟨_, rfl, _, _, _, _, _, rfl, .own C, hy.tyx L I, I.kOwn, _, rfl, iteF ⟨_, rfl, _, rfl, x, y, t, u, fun a b => a || b, ?_, hx, hy, h2, q⟩⟩
    rw [show pick4 (fun a b => a || b) = Str.ofString "-+++" by decide +kernel]
    rfl
theorem sc_Crowds___sub__ : FnScope ["self", "other"] ["self", "other"] (defScope (inClass (topS 24) 8)) := ⟨rfl, rfl, rfl, by decide +kernel, rfl, by decide +kernel, by decide +kernel⟩
theorem ok_sub {f fC : Addr} {fd fdC : FuncData} {k : Nat} (F : Fun K "__sub__" "Crowds.__sub__" (inClass (topS 24) 8) f fd) (T : Bt mg) (L : CrC K mg C) (I : CrI K C)
    (FC : Fun K "combined" "combined" (topS 21) fC fdC) (bC : Binds K fdC ["one", "other", "signs"] []) (gC : mg "combined" = some (.ref fC)) (GC : FnOk P w K mg base CX0 (k + 6) fC fdC ["one", "other", "signs"] (spComb C)) :
    FnOk P w K mg base CX0 (k + 7) f fd ["self", "other"] (spBin C (fun a b => a && !b)) := by
  refine F.ok sc_Crowds___sub__ (fun vs H Q E h => ?_) (fun cdv A outer s H vs Q E hr h => ?_)
  · obtain ⟨x, y, t, u, rfl, _⟩ := h
    rfl
  · obtain ⟨x, y, t, u, rfl, hx, hy, h2, q⟩ := h
    refine ⟨_, (pss_cons (ps_if (pt_not (pt_val (pe_callB (isiK (K := K) rfl) (by rfl) T.m_isinstance (by decide +kernel) (pa_cons (pv 1) (pa_cons (pe_glob (v := .ref C) (by rfl) L.mgC rfl) pa_nil))))) (pss_one ps_never) pss_nil)
  (pss_one (ps_ret (pe_call GC hr (by rfl) gC FC.kp bC .nil pass0 (pa_cons (pv 0) (pa_cons (pv 1) (pa_cons pe_str pa_nil))))))), ?_⟩
    refine ⟨_, rfl, _, _, _, _, _, rfl, .own C, hy.tyx L I, I.kOwn, _, rfl, iteF ⟨_, rfl, _, rfl, x, y, t, u, fun a b => a && !b, ?_, hx, hy, h2, q⟩⟩
    rw [show pick4 (fun a b => a && !b) = Str.ofString "--+-" by decide +kernel]
    rfl
theorem sc_Crowds___xor__ : FnScope ["self", "other"] ["self", "other"] (defScope (inClass (topS 24) 9)) := ⟨rfl, rfl, rfl, by decide +kernel, rfl, by decide +kernel, by decide +kernel⟩
theorem ok_xor {f fC : Addr} {fd fdC : FuncData} {k : Nat} (F : Fun K "__xor__" "Crowds.__xor__" (inClass (topS 24) 9) f fd) (T : Bt mg) (L : CrC K mg C) (I : CrI K C)
    (FC : Fun K "combined" "combined" (topS 21) fC fdC) (bC : Binds K fdC ["one", "other", "signs"] []) (gC : mg "combined" = some (.ref fC)) (GC : FnOk P w K mg base CX0 (k + 6) fC fdC ["one", "other", "signs"] (spComb C)) :
    FnOk P w K mg base CX0 (k + 7) f fd ["self", "other"] (spBin C (fun a b => a != b)) := by
  refine F.ok sc_Crowds___xor__ (fun vs H Q E h => ?_) (fun cdv A outer s H vs Q E hr h => ?_)
  · obtain ⟨x, y, t, u, rfl, _⟩ := h
    rfl
  · obtain ⟨x, y, t, u, rfl, hx, hy, h2, q⟩ := h
    refine ⟨_, (pss_cons (ps_if (pt_not (pt_val (pe_callB (isiK (K := K) rfl) (by rfl) T.m_isinstance (by decide +kernel) (pa_cons (pv 1) (pa_cons (pe_glob (v := .ref C) (by rfl) L.mgC rfl) pa_nil))))) (pss_one ps_never) pss_nil)
  (pss_one (ps_ret (pe_call GC hr (by rfl) gC FC.kp bC .nil pass0 (pa_cons (pv 0) (pa_cons (pv 1) (pa_cons pe_str pa_nil))))))), ?_⟩
    refine ⟨_, rfl, _, _, _, _, _, rfl, .own C, hy.tyx L I, I.kOwn, _, rfl, iteF ⟨_, rfl, _, rfl, x, y, t, u, fun a b => a != b, ?_, hx, hy, h2, q⟩⟩
    rw [show pick4 (fun a b => a != b) = Str.ofString "-++-" by decide +kernel]
    rfl
theorem sc_Crowds___invert__ : FnScope ["self"] ["self"] (defScope (inClass (topS 24) 10)) := ⟨rfl, rfl, rfl, by decide +kernel, rfl, by decide +kernel, by decide +kernel⟩
theorem ok_inv {f fS fI : Addr} {fd fdS fdI : FuncData} {k : Nat} {t1 : Tok} (F : Fun K "__invert__" "Crowds.__invert__" (inClass (topS 24) 10) f fd) (T : Bt mg) (L : CrC K mg C)
    (FS : Fun K "signs_of" "signs_of" (topS 20) fS fdS) (bS : Binds K fdS ["some", "others", "signs"] []) (gS : mg "signs_of" = some (.ref fS)) (gIN : mg "IN" = some (.str "+" t1))
    (MK : Mk K C fI) (bI : Binds K fdI ["self", "starts", "periods", "rows"] []) (GI : FnOk P w K mg base (L2.CX P w) (k + 4) fI fdI ["self", "starts", "periods", "rows"] (spInit C CE)) :
    FnOk P w K mg base CX0 (k + 6) f fd ["self"] (spInv C) := by
  have GS : FnOk P w K mg base CX0 (k + 5) fS fdS ["some", "others", "signs"] (spSof K) := ok_sof FS T gIN
  refine F.ok sc_Crowds___invert__ (fun vs H Q E h => ?_) (fun cdv A outer s H vs Q E hr h => ?_)
  · obtain ⟨x, t, rfl, _⟩ := h
    rfl
  · obtain ⟨x, t, rfl, hx, O, a0, a1, q⟩ := h
    refine ⟨_, (pss_one (ps_ret (pe_make MK GI hr (by rfl) L.mgC bI .nil passF (pa_cons (fldK (K := K) rfl (pv 0)) (pa_cons (fldK (K := K) rfl (pv 0)) (pa_cons (pe_call GS hr (by rfl) gS FS.kp bS .nil pass0 (pa_cons (fldK (K := K) rfl (pv 0)) (pa_cons (fldK (K := K) rfl (pv 0)) (pa_cons pe_str pa_nil)))) pa_nil)))))), ?_⟩
    obtain ⟨dx, ts, tp, tr, h1, h2, h3, h4⟩ := hx
    have h4' := h4
    rw [rows_can O] at h4
    refine ⟨_, rfl, x, C, dx, _, _, rfl, h1, L.cl, L.nS, cget_s _ _ _, _, rfl, x, C, dx, _, _, rfl, h1, L.cl, L.nP, cget_p _ _ _, _, rfl, x, C, dx, _, _, rfl, h1, L.cl, L.nR, cget_r _ _ _, _, rfl, x, C, dx, _, _, rfl, h1, L.cl, L.nR, cget_r _ _ _, ?_⟩
    refine ⟨tr, tr, t.has, t.has, t.s0 + t.p0, t.s1 + t.p1, (fun a b => !a && !b), ?_, .inr ⟨SqT.of h4, SqT.of h4⟩, a0, a1, fun l H2 s2 nl hl => ?_⟩
    · rw [show pick4 (fun a b => !a && !b) = Str.ofString "+---" by decide +kernel]
      rfl
    · have e : (fun k l => (!t.has k l && !t.has k l)) = fun k l => !t.has k l := by
        funext k l
        cases t.has k l <;> rfl
      rw [e] at hl
      exact fun x dx nx ndx nxd => init_tab nx ndx (t := notT t) (notT_ok O) a0 a1 (.tup rfl (s2 _ _ h2)) (.tup rfl (s2 _ _ h3)) (.lst rfl hl) fun H3 s3 cr => ⟨rfl, q _ H3 (s2.trans s3) cr⟩
end
end FH

set_option Elab.async false
set_option linter.all false
set_option maxRecDepth 100000
set_option maxHeartbeats 1000000
namespace FH
open PySem L2
open Pr LamX
/-! ### sets by what is in them -/
/-- at z stands the set of F; n, p: how far its least table goes at most -/
def St (C : Addr) (H : Hp) (z : Addr) (F : Nat → Nat → Bool) (n p : Nat) : Prop := ∃ t : Tb, t.Ok ∧ CrAt C H z t.least ∧ t.has = F ∧ t.s0 ≤ n ∧ t.s1 ≤ n ∧ t.p0 ≤ p ∧ t.p1 ≤ p
section
variable {C : Addr} {H H' : Hp} {z y : Addr} {F G : Nat → Nat → Bool} {n p m r : Nat}
theorem St.same (h : St C H z F n p) (s : Same H H') : St C H' z F n p := by
  obtain ⟨t, o, c, r⟩ := h
  exact ⟨t, o, c.same s, r⟩
theorem St.extN (h : St C H z F n p) (s : ExtN H H') : St C H' z F n p := by
  obtain ⟨t, o, c, r⟩ := h
  exact ⟨t, o, c.extN s, r⟩
theorem St.ext (h : St C H z F n p) (e : ∀ b o, H b = some o → (∀ ps, o ≠ .tbl ps) → (∀ φ, o ≠ .ext φ) → H' b = some o) : St C H' z F n p := by
  obtain ⟨t, o, c, r⟩ := h
  exact ⟨t, o, c.ext e, r⟩
theorem St.ins (h : St C H z F n p) : ∃ dx fs, H z = some (.ins C dx fs) ∧ fs.lookup (Str.ofString "beside") = none := by
  obtain ⟨t, o, ⟨dx, _, _, _, h1, _⟩, r⟩ := h
  exact ⟨dx, _, h1, rfl⟩
theorem least_le {t : Tb} (O : t.Ok) : t.least.s0 ≤ t.s0 ∧ t.least.s1 ≤ t.s1 ∧ t.least.p0 ≤ t.p0 ∧ t.least.p1 ≤ t.p1 := ⟨O.f0_le, O.f1_le, O.b0_le, O.b1_le⟩
theorem lay_least {t : Tb} (O : t.Ok) : ∀ r ∈ t.least.rows, LayS r := fun r hr => sg_lay (O.least.row r hr).2
theorem lcm_le (a b : Nat) : Nat.lcm a b ≤ a * b := Nat.div_le_self _ _
theorem two_lst {t u : Tb} (O : t.Ok) (V : u.Ok) (h : t.s0 ≤ n ∧ t.s1 ≤ n ∧ t.p0 ≤ p ∧ t.p1 ≤ p) (g : u.s0 ≤ m ∧ u.s1 ≤ m ∧ u.p0 ≤ r ∧ u.p1 ≤ r) (hn : n + p * r ≤ 1000) (hm : m + p * r ≤ 1000) (hp : n + p ≤ 1000) (hr : m + r ≤ 1000) : Two t.least u.least := by
  obtain ⟨a1, a2, a3, a4⟩ := least_le O
  obtain ⟨b1, b2, b3, b4⟩ := least_le V
  have m0 : t.least.p0 * u.least.p0 ≤ p * r := Nat.mul_le_mul (by omega) (by omega)
  have m1 : t.least.p1 * u.least.p1 ≤ p * r := Nat.mul_le_mul (by omega) (by omega)
  have c0 := lcm_le t.least.p0 u.least.p0
  have c1 := lcm_le t.least.p1 u.least.p1
  exact ⟨O.least, V.least, by omega, by omega, by omega, by omega, by omega, by omega⟩
theorem sm_least {t : Tb} (O : t.Ok) (h : t.s0 ≤ n ∧ t.s1 ≤ n ∧ t.p0 ≤ p ∧ t.p1 ≤ p) (hp : n + p ≤ 1000) : t.least.Sm := by
  obtain ⟨a1, a2, a3, a4⟩ := least_le O
  refine ⟨by omega, by omega, by omega, by omega, ?_, fun x hx => ?_⟩
  · rw [O.least.len]; omega
  · rw [(O.least.row x hx).1]; omega
/-- the text of the set of F -/
def IsTxt (F : Nat → Nat → Bool) (x : Str) : Prop := ∀ t : Tb, t.Ok → t.has = F → x = txtT t.least
theorem isTxt_of {t : Tb} (O : t.Ok) : IsTxt t.has (txtT t.least) := fun u V e => by rw [Tb.least_eq O V fun k l => by rw [e]]
theorem IsTxt.eq {x y : Str} {t : Tb} (O : t.Ok) (h : IsTxt t.has x) (g : IsTxt t.has y) : x = y := (h t O rfl).trans (g t O rfl).symm
theorem PerF.later {s0 s1 p0 p1 r0 r1 : Nat} (P : PerF F s0 s1 p0 p1) (h0 : s0 ≤ r0) (h1 : s1 ≤ r1) : PerF F r0 r1 p0 p1 := ⟨P.a.later h0, P.b.later h1⟩
/-- beside, by what is in it -/
def besG (m : Bool) (F : Nat → Nat → Bool) : Nat → Nat → Bool := if m = true then fun k l => decide (0 < k) && F (k - 1) (l + 1) else fun k l => decide (0 < l) && F (k + 1) (l - 1)
theorem bes_per (m : Bool) {s0 s1 p0 p1 : Nat} (P : PerF F s0 s1 p0 p1) : if m = true then PerF (besG true F) (s0 + 1) (s1 - 1) p0 p1 else PerF (besG false F) (s0 - 1) (s1 + 1) p0 p1 := by
  cases m
  · refine ⟨fun k hk => ?_, fun l hl => ?_⟩
    · funext l
      have e := congrFun (P.a (k + 1) (by omega)) (l - 1)
      show (decide (0 < l) && F (k + p0 + 1) (l - 1)) = (decide (0 < l) && F (k + 1) (l - 1))
      rw [show k + p0 + 1 = k + 1 + p0 by omega, e]
    · funext k
      have e : F (k + 1) (l - 1 + p1) = F (k + 1) (l - 1) := congrFun (P.b (l - 1) (by omega)) (k + 1)
      show (decide (0 < l + p1) && F (k + 1) (l + p1 - 1)) = (decide (0 < l) && F (k + 1) (l - 1))
      rw [decide_eq_true (show 0 < l + p1 by omega), decide_eq_true (show 0 < l by omega), show l + p1 - 1 = l - 1 + p1 by omega, e]
  · refine ⟨fun k hk => ?_, fun l hl => ?_⟩
    · funext l
      have e := congrFun (P.a (k - 1) (by omega)) (l + 1)
      show (decide (0 < k + p0) && F (k + p0 - 1) (l + 1)) = (decide (0 < k) && F (k - 1) (l + 1))
      rw [decide_eq_true (show 0 < k + p0 by omega), decide_eq_true (show 0 < k by omega), show k + p0 - 1 = k - 1 + p0 by omega, e]
    · funext k
      have e : F (k - 1) (l + 1 + p1) = F (k - 1) (l + 1) := congrFun (P.b (l + 1) (by omega)) (k - 1)
      show (decide (0 < k) && F (k - 1) (l + p1 + 1)) = (decide (0 < k) && F (k - 1) (l + 1))
      rw [show l + p1 + 1 = l + 1 + p1 by omega, e]
theorem besT_spec (m : Bool) {t : Tb} (O : t.Ok) : (besT m t).Ok ∧ (besT m t).has = besG m t.has ∧ (besT m t).s0 ≤ t.s0 + 1 ∧ (besT m t).s1 ≤ t.s1 + 1 ∧ (besT m t).p0 = t.p0 ∧ (besT m t).p1 = t.p1 := by
  have h := bes_per m (t.perF O)
  cases m
  · refine ⟨tabF_ok O.h0 O.h1, ?_, by show t.s0 - 1 ≤ t.s0 + 1; omega, Nat.le_refl _, rfl, rfl⟩
    funext k l
    exact tabF_has O.h0 O.h1 h k l
  · refine ⟨tabF_ok O.h0 O.h1, ?_, Nat.le_refl _, by show t.s1 - 1 ≤ t.s1 + 1; omega, rfl, rfl⟩
    funext k l
    exact tabF_has O.h0 O.h1 h k l
end
theorem has_least' {t : Tb} (O : t.Ok) : t.least.has = t.has := by funext k l; exact t.has_least O k l
/-! the promises, by what is in the sets -/
def sqBes (C : Addr) (T : List (Addr × Str)) : Sp := fun vs H Q _ => ∃ (x : Addr) (F : Nat → Nat → Bool) (n p : Nat) (m : Bool), vs = [.ref x, .str (kindS m)] ∧ St C H x F n p ∧ n + p < 1000 ∧ Tabs T H ∧ ∀ (z : Addr) (H' : Hp), ExtN H H' → Tabs T H' → St C H' z (besG m F) (n + 1) p → Q (.ref z) H'
def sqBin (C : Addr) (q : Bool → Bool → Bool) : Sp := fun vs H Q _ => ∃ (x y : Addr) (F G : Nat → Nat → Bool) (n p m r : Nat), vs = [.ref x, .ref y] ∧ St C H x F n p ∧ St C H y G m r ∧ n + p * r ≤ 1000 ∧ m + p * r ≤ 1000 ∧ n + p ≤ 1000 ∧ m + r ≤ 1000 ∧
  ∀ (z : Addr) (H' : Hp), Same H H' → St C H' z (fun k l => q (F k l) (G k l)) (max n m) (p * r) → Q (.ref z) H'
def sqInv (C : Addr) : Sp := fun vs H Q _ => ∃ (x : Addr) (F : Nat → Nat → Bool) (n p : Nat), vs = [.ref x] ∧ St C H x F n p ∧ n + p ≤ 1000 ∧ ∀ (z : Addr) (H' : Hp), Same H H' → St C H' z (fun k l => !F k l) n p → Q (.ref z) H'
def sqStr (C : Addr) : Sp := fun vs H Q _ => ∃ (x : Addr) (F : Nat → Nat → Bool) (n p : Nat), vs = [.ref x] ∧ St C H x F n p ∧ n + p ≤ 1000 ∧ ∀ (X : Str) (H' : Hp), Same H H' → IsTxt F X → Q (.str X) H'
def sqAl (C : Addr) : Sp := fun vs H Q _ => ∃ (m : Bool) (n : Nat), vs = [.ref C, .str (kindS m), .int n] ∧ n < 1000 ∧ ∀ (z : Addr) (H' : Hp), Same H H' → St C H' z (alF m n) n 1 → Q (.ref z) H'
/-- equal sets: the same is in them -/
def sqEq (C : Addr) : Sp := fun vs H Q _ => ∃ (x y : Addr) (F G : Nat → Nat → Bool) (n p m r : Nat), vs = [.ref x, .ref y] ∧ St C H x F n p ∧ St C H y G m r ∧ ∀ (b : Bool) (H' : Hp), Same H H' → (b = true ↔ F = G) → Q (.bl b) H'
section
variable {C : Addr} {vs : List V} {H : Hp} {Q : VK} {E : XK}
theorem bes_of {T : List (Addr × Str)} (h : sqBes C T vs H Q E) : spBes C T vs H Q E := by
  obtain ⟨x, F, n, p, m, e, ⟨t, O, c, hF, b1, b2, b3, b4⟩, hn, hT, q⟩ := h
  obtain ⟨a1, a2, a3, a4⟩ := least_le O
  refine ⟨x, t.least, m, e, c, O.least, by omega, by omega, hT, fun z H' e' T' cr => q z H' e' T' ?_⟩
  obtain ⟨o1, o2, o3, o4, o5, o6⟩ := besT_spec m O.least
  exact ⟨_, o1, cr, by rw [o2, has_least' O, hF], by omega, by omega, by omega, by omega⟩
theorem bin_of {q : Bool → Bool → Bool} (h : sqBin C q vs H Q E) : spBin C q vs H Q E := by
  obtain ⟨x, y, F, G, n, p, m, r, e, ⟨t, O, c, hF, b⟩, ⟨u, V, d, hG, g⟩, h1, h2, h3, h4, q⟩ := h
  have W := two_lst O V b g h1 h2 h3 h4
  obtain ⟨a1, a2, a3, a4⟩ := least_le O
  obtain ⟨g1, g2, g3, g4⟩ := least_le V
  have m0 : t.least.p0 * u.least.p0 ≤ p * r := Nat.mul_le_mul (by omega) (by omega)
  have m1 : t.least.p1 * u.least.p1 ≤ p * r := Nat.mul_le_mul (by omega) (by omega)
  have c0 := lcm_le t.least.p0 u.least.p0
  have c1 := lcm_le t.least.p1 u.least.p1
  refine ⟨x, y, _, _, e, c, d, W, fun z H' s cr => q z H' s ⟨_, binT_ok O.least V.least, cr, ?_, ?_, ?_, Nat.le_trans c0 m0, Nat.le_trans c1 m1⟩⟩
  · funext k l
    rw [binT_has O.least V.least, has_least' O, has_least' V, hF, hG]
  · show max t.least.s0 u.least.s0 ≤ max n m
    omega
  · show max t.least.s1 u.least.s1 ≤ max n m
    omega
theorem inv_of (h : sqInv C vs H Q E) : spInv C vs H Q E := by
  obtain ⟨x, F, n, p, e, ⟨t, O, c, hF, b⟩, hn, q⟩ := h
  obtain ⟨a1, a2, a3, a4⟩ := least_le O
  refine ⟨x, _, e, c, O.least, by omega, by omega, fun z H' s cr => q z H' s ⟨_, notT_ok O.least, cr, ?_, by show t.least.s0 ≤ n; omega, by show t.least.s1 ≤ n; omega, by show t.least.p0 ≤ p; omega, by show t.least.p1 ≤ p; omega⟩⟩
  funext k l
  rw [notT_has O.least, has_least' O, hF]
theorem str_of (h : sqStr C vs H Q E) : spStr C vs H Q E := by
  obtain ⟨x, F, n, p, e, ⟨t, O, c, hF, b⟩, hn, q⟩ := h
  exact ⟨x, _, e, c, sm_least O b hn, fun H' s => q _ H' s (by rw [← hF]; exact isTxt_of O)⟩
theorem al_of (h : sqAl C vs H Q E) : spAl C vs H Q E := by
  obtain ⟨m, n, e, hn, q⟩ := h
  refine ⟨m, n, e, hn, fun z H' s cr => q z H' s ⟨_, alT_ok m n, cr, by funext k l; exact alT_has m n k l, ?_⟩⟩
  cases m
  · exact ⟨Nat.zero_le _, Nat.le_refl _, Nat.le_refl _, Nat.le_refl _⟩
  · exact ⟨Nat.le_refl _, Nat.zero_le _, Nat.le_refl _, Nat.le_refl _⟩
theorem eq_of {K : PySem.W.Frag} (h : sqEq C vs H Q E) : spEq K C vs H Q E := by
  obtain ⟨x, y, F, G, n, p, m, r, e, ⟨t, O, c, hF, _⟩, ⟨u, V, d, hG, _⟩, q⟩ := h
  refine ⟨x, .ref y, _, e, c, lay_least O, .inl ⟨y, _, rfl, d, lay_least V, fun H' s => q _ H' s ?_⟩⟩
  rw [eqT_iff]
  constructor
  · intro z
    rw [← hF, ← hG, ← has_least' O, z, has_least' V]
  · intro z
    exact Tb.least_eq O V fun k l => by rw [hF, hG, z]
end
end FH

set_option Elab.async false
set_option linter.all false
set_option maxRecDepth 100000
set_option maxHeartbeats 2000000
/-! data beside data that goes not deep -/
namespace L2
open PySem PySem.Spec PyProof.Rows
def rNeL (K : PySem.W.Frag) : R2 := fun x y H Q => ∃ d e, Dp K H x d ∧ Dp K H y e ∧ d.canLay0 = true ∧ e.canLay0 = true ∧ e.depth ≤ 64 ∧ Q (.bl (!PyData.eqv d e)) H
def rEqL (K : PySem.W.Frag) : R2 := fun x y H Q => ∃ d e, Dp K H x d ∧ Dp K H y e ∧ d.canLay0 = true ∧ e.canLay0 = true ∧ e.depth ≤ 64 ∧ Q (.bl (PyData.eqv d e)) H
theorem neLK {X : Cx} {K : PySem.W.Frag} (h : X.K = K) (hu : X.A.units + 64 < cLine) : OpR X (compareOp .NotEq) (rNeL K) := by
  subst h
  intro pins s σ H x y v u Q I rx ry h
  obtain ⟨d, e, hd, he, sd, se, dp, q⟩ := h
  obtain ⟨as, r1⟩ := Dp.reads I d x v hd rx
  obtain ⟨bs, r2⟩ := Dp.reads I e y u he ry
  have : min d.depth e.depth ≤ e.depth := Nat.min_le_right _ _
  exact SeqAt.compareNe_reads r1 r2 sd se (by omega) ⟨.bl _, H, I, rfl, q⟩
theorem eqLK {X : Cx} {K : PySem.W.Frag} (h : X.K = K) (hu : X.A.units + 64 < cLine) : OpR X (compareOp .Eq) (rEqL K) := by
  subst h
  intro pins s σ H x y v u Q I rx ry h
  obtain ⟨d, e, hd, he, sd, se, dp, q⟩ := h
  obtain ⟨as, r1⟩ := Dp.reads I d x v hd rx
  obtain ⟨bs, r2⟩ := Dp.reads I e y u he ry
  have : min d.depth e.depth ≤ e.depth := Nat.min_le_right _ _
  exact SeqAt.compareEq_reads r1 r2 sd se (by omega) ⟨.bl _, H, I, rfl, q⟩
theorem maxLK {X : Cx} {K : PySem.W.Frag} (h : X.K = K) (hc : X.calm = true) : CallR X (.builtin "max") (rMax K) := by subst h; exact cr_max hc
theorem via {t : TE} {σ : L2.St} {H : Hp} {Q : VK} (Post : V → Hp → Prop) (a : ∀ v H2, Post v H2 → Q v H2) (b : ∀ Q' : VK, (∀ v H2, Post v H2 → Q' v H2) → t σ H Q') : t σ H Q := b Q a
end L2

set_option Elab.async false
set_option linter.all false
set_option maxRecDepth 100000
set_option maxHeartbeats 1000000
namespace FH
open PySem L2
open Pr LamX
theorem al_per (m : Bool) (n : Nat) : if m = true then PerF (alF true n) n 0 1 1 else PerF (alF false n) 0 n 1 1 := by
  cases m
  · refine ⟨fun z _ => rfl, fun z hz => ?_⟩
    funext k
    show decide (n ≤ z + 1) = decide (n ≤ z)
    rw [decide_eq_true hz, decide_eq_true (show n ≤ z + 1 by omega)]
  · refine ⟨fun z hz => ?_, fun z _ => rfl⟩
    funext l
    show decide (n ≤ z + 1) = decide (n ≤ z)
    rw [decide_eq_true hz, decide_eq_true (show n ≤ z + 1 by omega)]
theorem lv_per (m : Bool) (r : Nat) (p : Nat) : if m = true then PerF (lvF true r p) 0 0 p 1 else PerF (lvF false r p) 0 0 1 p := by
  cases m
  · refine ⟨fun z _ => rfl, fun z hz => ?_⟩
    funext k
    show decide ((z + p) % p = r) = decide (z % p = r)
    rw [Nat.add_mod_right]
  · refine ⟨fun z hz => ?_, fun z _ => rfl⟩
    funext l
    show decide ((z + p) % p = r) = decide (z % p = r)
    rw [Nat.add_mod_right]
theorem con_per (b : Bool) : PerF (fun _ _ => b) 0 0 1 1 := ⟨fun _ _ => rfl, fun _ _ => rfl⟩
theorem txt_lst {F : Nat → Nat → Bool} {X : Str} {s0 s1 p0 p1 : Nat} (h : IsTxt F X) (h0 : 0 < p0) (h1 : 0 < p1) (P : PerF F s0 s1 p0 p1) : X = txtT (tabF F s0 s1 p0 p1).least := h _ (tabF_ok h0 h1) (by funext k l; exact tabF_has h0 h1 P k l)
theorem lv_iff (k : Nat) (i : Int) {p : Nat} (hp : 0 < p) : ((k : Int) - i) % (p : Int) = 0 ↔ k % p = (i % (p : Int)).toNat := by
  have r0 := Int.emod_nonneg i (show (p : Int) ≠ 0 by omega)
  have e := Int.emod_emod_of_dvd
  constructor
  · intro h
    have h1 : (k : Int) % (p : Int) = i % (p : Int) := Int.emod_eq_emod_iff_emod_sub_eq_zero.mpr h
    have h2 : ((k % p : Nat) : Int) = i % (p : Int) := by rw [Int.natCast_emod]; exact h1
    omega
  · intro h
    refine Int.emod_eq_emod_iff_emod_sub_eq_zero.mp ?_
    have h2 : ((k % p : Nat) : Int) = i % (p : Int) := by omega
    rw [Int.natCast_emod] at h2
    exact h2
/-! the promises, by what is in the sets -/
def sqLv (C : Addr) : Sp := fun vs H Q _ => ∃ (m : Bool) (i : Int) (p : Nat), vs = [.ref C, .str (kindS m), .int i, .int p] ∧ 0 < p ∧ p < 1000 ∧ ∀ (z : Addr) (H' : Hp), Same H H' → St C H' z (lvF m (i % (p : Int)).toNat p) 0 p → Q (.ref z) H'
def sqCst (C : Addr) (b : Bool) : Sp := fun vs H Q _ => vs = [.ref C] ∧ ∀ (z : Addr) (H' : Hp), Same H H' → St C H' z (fun _ _ => b) 0 1 → Q (.ref z) H'
section
variable {C : Addr} {vs : List V} {H : Hp} {Q : VK} {E : XK}
theorem lv_of (h : sqLv C vs H Q E) : spLv C vs H Q E := by
  obtain ⟨m, i, p, e, hp, hp1, q⟩ := h
  refine ⟨m, i, p, e, hp, hp1, fun z H' s cr => q z H' s ⟨_, lvT_ok m _ hp, cr, by funext k l; exact lvT_has m _ hp k l, ?_⟩⟩
  cases m
  · exact ⟨Nat.le_refl _, Nat.le_refl _, hp, Nat.le_refl _⟩
  · exact ⟨Nat.le_refl _, Nat.le_refl _, Nat.le_refl _, hp⟩
theorem cst_of {b : Bool} (h : sqCst C b vs H Q E) : spCst C b vs H Q E := by
  obtain ⟨e, q⟩ := h
  exact ⟨e, fun z H' s cr => q z H' s ⟨_, tabF_ok (by decide) (by decide), cr, by funext k l; exact tabF_has (by decide) (by decide) (con_per b) k l, Nat.le_refl _, Nat.le_refl _, Nat.le_refl _, Nat.le_refl _⟩⟩
end
theorem txt_no : txtT (conT false).least = Str.ofString "[0 0 1 1: -]" := by decide +kernel
theorem txt_all : txtT (conT true).least = Str.ofString "[0 0 1 1: +]" := by decide +kernel
mutual
theorem Dv.lay {H : Hp} : ∀ {v : V} {e : PyData}, Dv H v e → e.canLay0 = true
  | _, _, .non => rfl
  | _, _, .bl b => rfl
  | _, _, .int i => rfl
  | _, _, .str y h l => l
  | _, _, .lst h hl l => DvAll.lay l
  | _, _, .tup h hl l => DvAll.lay l
theorem DvAll.lay {H : Hp} : ∀ {vs : List V} {es : List PyData}, DvAll H vs es → PyData.canLayAll0 es = true
  | _, _, .nil => rfl
  | _, _, .cons (es := es) h t => by
    show (PyData.canLay0 _ && PyData.canLayAll0 es) = true
    rw [Dv.lay h, DvAll.lay t]
    rfl
end
theorem DvAll.take {H : Hp} : ∀ {vs : List V} {es : List PyData} (n : Nat), DvAll H vs es → DvAll H (vs.take n) (es.take n)
  | _, _, 0, _ => .nil
  | _, _, _ + 1, .nil => .nil
  | _, _, n + 1, .cons h t => .cons h (DvAll.take n t)
theorem DvAll.cat {H : Hp} : ∀ {vs ws : List V} {es gs : List PyData}, DvAll H vs es → DvAll H ws gs → DvAll H (vs ++ ws) (es ++ gs)
  | _, _, _, _, .nil, q => q
  | _, _, _, _, .cons h t, q => .cons h (DvAll.cat t q)
end FH

set_option Elab.async false
set_option linter.all false
set_option maxRecDepth 100000
set_option maxHeartbeats 1000000
namespace FH
open PySem L2
open Pr LamX
/-! ### sets by what is in them; p: a multiple of both periods -/
def StD (C : Addr) (H : Hp) (z : Addr) (F : Nat → Nat → Bool) (n p : Nat) : Prop := ∃ t : Tb, t.Ok ∧ CrAt C H z t.least ∧ t.has = F ∧ t.s0 ≤ n ∧ t.s1 ≤ n ∧ t.p0 ∣ p ∧ t.p1 ∣ p
theorem lst_dvd {α : Type} {g : Nat → α} {a b s p : Nat} (L : Lst g a b) (hp : Per g s p) : b ∣ p := by
  have h1 := L.per.later (Nat.le_max_left a s)
  have h2 := hp.later (Nat.le_max_right a s)
  have g0 : 0 < Nat.gcd b p := Nat.gcd_pos_of_pos_left _ L.pos
  have le := L.least _ _ g0 (Per.gcd b p h1 h2)
  have le2 : Nat.gcd b p ≤ b := Nat.le_of_dvd L.pos (Nat.gcd_dvd_left _ _)
  have e : Nat.gcd b p = b := Nat.le_antisymm le2 le
  rw [← e]
  exact Nat.gcd_dvd_right _ _
theorem least_dvd {t : Tb} (O : t.Ok) : t.least.p0 ∣ t.p0 ∧ t.least.p1 ∣ t.p1 := ⟨lst_dvd (t.lst_rows O) (t.perF O).a, lst_dvd (t.lst_cols O) (t.perF O).b⟩
section
variable {C : Addr} {H H' : Hp} {z y : Addr} {F G : Nat → Nat → Bool} {n p m r : Nat}
theorem StD.same (h : StD C H z F n p) (s : Same H H') : StD C H' z F n p := by
  obtain ⟨t, o, c, r⟩ := h
  exact ⟨t, o, c.same s, r⟩
theorem StD.extN (h : StD C H z F n p) (s : ExtN H H') : StD C H' z F n p := by
  obtain ⟨t, o, c, r⟩ := h
  exact ⟨t, o, c.extN s, r⟩
theorem StD.ins (h : StD C H z F n p) : ∃ dx fs, H z = some (.ins C dx fs) ∧ fs.lookup (Str.ofString "beside") = none := by
  obtain ⟨t, o, ⟨dx, _, _, _, h1, _⟩, r⟩ := h
  exact ⟨dx, _, h1, rfl⟩
theorem StD.st (h : StD C H z F n p) (hp : 0 < p) : St C H z F n p := by
  obtain ⟨t, o, c, e, a, b, d0, d1⟩ := h
  exact ⟨t, o, c, e, a, b, Nat.le_of_dvd hp d0, Nat.le_of_dvd hp d1⟩
theorem StD.mono (h : StD C H z F n p) (hn : n ≤ m) (hp : p ∣ r) : StD C H z F m r := by
  obtain ⟨t, o, c, e, a, b, d0, d1⟩ := h
  exact ⟨t, o, c, e, by omega, by omega, Nat.dvd_trans d0 hp, Nat.dvd_trans d1 hp⟩
theorem StD.tyx {K : PySem.W.Frag} {mg : Str → Option Value} (h : StD C H z F n p) (L : CrC K mg C) (I : CrI K C) : TyX K H (.ref z) (.ref C) := by
  obtain ⟨t, o, c, r⟩ := h
  exact c.tyx L I
theorem lcm_dvd_lcm {a b c d : Nat} (h : a ∣ c) (g : b ∣ d) : Nat.lcm a b ∣ Nat.lcm c d := Nat.lcm_dvd (Nat.dvd_trans h (Nat.dvd_lcm_left _ _)) (Nat.dvd_trans g (Nat.dvd_lcm_right _ _))
theorem two_dvd {t u : Tb} (O : t.Ok) (V : u.Ok) (h : t.s0 ≤ n ∧ t.s1 ≤ n ∧ t.p0 ∣ p ∧ t.p1 ∣ p) (g : u.s0 ≤ m ∧ u.s1 ≤ m ∧ u.p0 ∣ r ∧ u.p1 ∣ r) (hp : 0 < p) (hr : 0 < r) (hn : max n m + Nat.lcm p r ≤ 1000) : Two t.least u.least := by
  obtain ⟨a1, a2, _, _⟩ := least_le O
  obtain ⟨b1, b2, _, _⟩ := least_le V
  obtain ⟨c1, c2⟩ := least_dvd O
  obtain ⟨d1, d2⟩ := least_dvd V
  have hl : 0 < Nat.lcm p r := Nat.lcm_pos hp hr
  have e0 := Nat.le_of_dvd hl (lcm_dvd_lcm (Nat.dvd_trans c1 h.2.2.1) (Nat.dvd_trans d1 g.2.2.1))
  have e1 := Nat.le_of_dvd hl (lcm_dvd_lcm (Nat.dvd_trans c2 h.2.2.2) (Nat.dvd_trans d2 g.2.2.2))
  have f0 := Nat.le_of_dvd hp (Nat.dvd_trans c1 h.2.2.1)
  have f1 := Nat.le_of_dvd hp (Nat.dvd_trans c2 h.2.2.2)
  have g0 := Nat.le_of_dvd hr (Nat.dvd_trans d1 g.2.2.1)
  have g1 := Nat.le_of_dvd hr (Nat.dvd_trans d2 g.2.2.2)
  have k0 := Nat.le_of_dvd hl (Nat.dvd_lcm_left p r)
  have k1 := Nat.le_of_dvd hl (Nat.dvd_lcm_right p r)
  exact ⟨O.least, V.least, by omega, by omega, by omega, by omega, by omega, by omega⟩
end
/-! the promises -/
def sdBes (C : Addr) (T : List (Addr × Str)) : Sp := fun vs H Q _ => ∃ (x : Addr) (F : Nat → Nat → Bool) (n p : Nat) (m : Bool), vs = [.ref x, .str (kindS m)] ∧ StD C H x F n p ∧ 0 < p ∧ n + p < 1000 ∧ Tabs T H ∧ ∀ (z : Addr) (H' : Hp), ExtN H H' → Tabs T H' → StD C H' z (besG m F) (n + 1) p → Q (.ref z) H'
def sdBin (C : Addr) (q : Bool → Bool → Bool) : Sp := fun vs H Q _ => ∃ (x y : Addr) (F G : Nat → Nat → Bool) (n p m r : Nat), vs = [.ref x, .ref y] ∧ StD C H x F n p ∧ StD C H y G m r ∧ 0 < p ∧ 0 < r ∧ max n m + Nat.lcm p r ≤ 1000 ∧
  ∀ (z : Addr) (H' : Hp), Same H H' → StD C H' z (fun k l => q (F k l) (G k l)) (max n m) (Nat.lcm p r) → Q (.ref z) H'
def sdInv (C : Addr) : Sp := fun vs H Q _ => ∃ (x : Addr) (F : Nat → Nat → Bool) (n p : Nat), vs = [.ref x] ∧ StD C H x F n p ∧ 0 < p ∧ n + p ≤ 1000 ∧ ∀ (z : Addr) (H' : Hp), Same H H' → StD C H' z (fun k l => !F k l) n p → Q (.ref z) H'
def sdAl (C : Addr) : Sp := fun vs H Q _ => ∃ (m : Bool) (n : Nat), vs = [.ref C, .str (kindS m), .int n] ∧ n < 1000 ∧ ∀ (z : Addr) (H' : Hp), Same H H' → StD C H' z (alF m n) n 1 → Q (.ref z) H'
def sdLv (C : Addr) : Sp := fun vs H Q _ => ∃ (m : Bool) (i : Int) (p : Nat), vs = [.ref C, .str (kindS m), .int i, .int p] ∧ 0 < p ∧ p < 1000 ∧ ∀ (z : Addr) (H' : Hp), Same H H' → StD C H' z (lvF m (i % (p : Int)).toNat p) 0 p → Q (.ref z) H'
def sdCst (C : Addr) (b : Bool) : Sp := fun vs H Q _ => vs = [.ref C] ∧ ∀ (z : Addr) (H' : Hp), Same H H' → StD C H' z (fun _ _ => b) 0 1 → Q (.ref z) H'
def sdEq (C : Addr) : Sp := fun vs H Q _ => ∃ (x y : Addr) (F G : Nat → Nat → Bool) (n p m r : Nat), vs = [.ref x, .ref y] ∧ StD C H x F n p ∧ StD C H y G m r ∧ ∀ (b : Bool) (H' : Hp), Same H H' → (b = true ↔ F = G) → Q (.bl b) H'
def sdStr (C : Addr) : Sp := fun vs H Q _ => ∃ (x : Addr) (F : Nat → Nat → Bool) (n p : Nat), vs = [.ref x] ∧ StD C H x F n p ∧ 0 < p ∧ n + p ≤ 1000 ∧ ∀ (X : Str) (H' : Hp), Same H H' → IsTxt F X → Q (.str X) H'
def sdLe (C : Addr) : Sp := fun vs H Q _ => ∃ (x y : Addr) (F G : Nat → Nat → Bool) (n p m r : Nat), vs = [.ref x, .ref y] ∧ StD C H x F n p ∧ StD C H y G m r ∧ 0 < p ∧ 0 < r ∧ max n m + Nat.lcm p r ≤ 1000 ∧
  ∀ (b : Bool) (H' : Hp), Same H H' → (b = true ↔ ∀ k l, F k l = true → G k l = true) → Q (.bl b) H'
/-- (k, l) in x -/
def sdCon (C : Addr) : Sp := fun vs H Q _ => ∃ (x a : Addr) (F : Nat → Nat → Bool) (n p k l : Nat), vs = [.ref x, .ref a] ∧ StD C H x F n p ∧ 0 < p ∧ n + p ≤ 1000 ∧ H a = some (.tup [.int k, .int l]) ∧ Q (.bl (F k l)) H
section
variable {C : Addr} {vs : List V} {H : Hp} {Q : VK} {E : XK}
theorem sbes_of {T : List (Addr × Str)} (h : sdBes C T vs H Q E) : spBes C T vs H Q E := by
  obtain ⟨x, F, n, p, m, e, ⟨t, O, c, hF, b1, b2, b3, b4⟩, hp, hn, hT, q⟩ := h
  obtain ⟨a1, a2, _, _⟩ := least_le O
  obtain ⟨c1, c2⟩ := least_dvd O
  have f0 := Nat.le_of_dvd hp (Nat.dvd_trans c1 b3)
  have f1 := Nat.le_of_dvd hp (Nat.dvd_trans c2 b4)
  refine ⟨x, t.least, m, e, c, O.least, by omega, by omega, hT, fun z H' e' T' cr => q z H' e' T' ?_⟩
  obtain ⟨o1, o2, o3, o4, o5, o6⟩ := besT_spec m O.least
  exact ⟨_, o1, cr, by rw [o2, has_least' O, hF], by omega, by omega, by rw [o5]; exact Nat.dvd_trans c1 b3, by rw [o6]; exact Nat.dvd_trans c2 b4⟩
theorem sbin_of {q : Bool → Bool → Bool} (h : sdBin C q vs H Q E) : spBin C q vs H Q E := by
  obtain ⟨x, y, F, G, n, p, m, r, e, ⟨t, O, c, hF, b⟩, ⟨u, V, d, hG, g⟩, h1, h2, h3, q⟩ := h
  have W := two_dvd O V b g h1 h2 h3
  obtain ⟨a1, a2, a3, a4⟩ := least_le O
  obtain ⟨g1, g2, g3, g4⟩ := least_le V
  obtain ⟨c1, c2⟩ := least_dvd O
  obtain ⟨d1, d2⟩ := least_dvd V
  refine ⟨x, y, _, _, e, c, d, W, fun z H' s cr => q z H' s ⟨_, binT_ok O.least V.least, cr, ?_, ?_, ?_, lcm_dvd_lcm (Nat.dvd_trans c1 b.2.2.1) (Nat.dvd_trans d1 g.2.2.1), lcm_dvd_lcm (Nat.dvd_trans c2 b.2.2.2) (Nat.dvd_trans d2 g.2.2.2)⟩⟩
  · funext k l
    rw [binT_has O.least V.least, has_least' O, has_least' V, hF, hG]
  · show max t.least.s0 u.least.s0 ≤ max n m
    omega
  · show max t.least.s1 u.least.s1 ≤ max n m
    omega
theorem sinv_of (h : sdInv C vs H Q E) : spInv C vs H Q E := by
  obtain ⟨x, F, n, p, e, ⟨t, O, c, hF, b⟩, hp, hn, q⟩ := h
  obtain ⟨a1, a2, a3, a4⟩ := least_le O
  obtain ⟨c1, c2⟩ := least_dvd O
  have f0 := Nat.le_of_dvd hp (Nat.dvd_trans c1 b.2.2.1)
  have f1 := Nat.le_of_dvd hp (Nat.dvd_trans c2 b.2.2.2)
  refine ⟨x, _, e, c, O.least, by omega, by omega, fun z H' s cr => q z H' s ⟨_, notT_ok O.least, cr, ?_, by show t.least.s0 ≤ n; omega, by show t.least.s1 ≤ n; omega, Nat.dvd_trans c1 b.2.2.1, Nat.dvd_trans c2 b.2.2.2⟩⟩
  funext k l
  rw [notT_has O.least, has_least' O, hF]
theorem sal_of (h : sdAl C vs H Q E) : spAl C vs H Q E := by
  obtain ⟨m, n, e, hn, q⟩ := h
  refine ⟨m, n, e, hn, fun z H' s cr => q z H' s ⟨_, alT_ok m n, cr, by funext k l; exact alT_has m n k l, ?_⟩⟩
  cases m
  · exact ⟨Nat.zero_le _, Nat.le_refl _, Nat.dvd_refl _, Nat.dvd_refl _⟩
  · exact ⟨Nat.le_refl _, Nat.zero_le _, Nat.dvd_refl _, Nat.dvd_refl _⟩
theorem slv_of (h : sdLv C vs H Q E) : spLv C vs H Q E := by
  obtain ⟨m, i, p, e, hp, hp1, q⟩ := h
  refine ⟨m, i, p, e, hp, hp1, fun z H' s cr => q z H' s ⟨_, lvT_ok m _ hp, cr, by funext k l; exact lvT_has m _ hp k l, ?_⟩⟩
  cases m
  · exact ⟨Nat.le_refl _, Nat.le_refl _, Nat.one_dvd _, Nat.dvd_refl _⟩
  · exact ⟨Nat.le_refl _, Nat.le_refl _, Nat.dvd_refl _, Nat.one_dvd _⟩
theorem scst_of {b : Bool} (h : sdCst C b vs H Q E) : spCst C b vs H Q E := by
  obtain ⟨e, q⟩ := h
  exact ⟨e, fun z H' s cr => q z H' s ⟨_, tabF_ok (by decide) (by decide), cr, by funext k l; exact tabF_has (by decide) (by decide) (con_per b) k l, Nat.le_refl _, Nat.le_refl _, Nat.dvd_refl _, Nat.dvd_refl _⟩⟩
theorem sstr_of (h : sdStr C vs H Q E) : spStr C vs H Q E := by
  obtain ⟨x, F, n, p, e, s, hp, hn, q⟩ := h
  exact str_of (E := E) ⟨x, F, n, p, e, s.st hp, hn, q⟩
theorem seq_of {K : PySem.W.Frag} (h : sdEq C vs H Q E) : spEq K C vs H Q E := by
  obtain ⟨x, y, F, G, n, p, m, r, e, ⟨t, O, c, hF, _⟩, ⟨u, V, d, hG, _⟩, q⟩ := h
  refine ⟨x, .ref y, _, e, c, lay_least O, .inl ⟨y, _, rfl, d, lay_least V, fun H' s => q _ H' s ?_⟩⟩
  rw [eqT_iff]
  constructor
  · intro z
    rw [← hF, ← hG, ← has_least' O, z, has_least' V]
  · intro z
    exact Tb.least_eq O V fun k l => by rw [hF, hG, z]
theorem sle_of (h : sdLe C vs H Q E) : spCmp C (fun t u => subB t u) vs H Q E := by
  obtain ⟨x, y, F, G, n, p, m, r, e, ⟨t, O, c, hF, b⟩, ⟨u, V, d, hG, g⟩, h1, h2, h3, q⟩ := h
  have W := two_dvd O V b g h1 h2 h3
  refine ⟨x, y, _, _, e, c, d, W, fun H' s => q _ H' s ?_⟩
  rw [subB_iff W, has_least' O, has_least' V, hF, hG]
theorem scon_of (h : sdCon C vs H Q E) : spCon C vs H Q E := by
  obtain ⟨x, a, F, n, p, k, l, e, ⟨t, O, c, hF, b⟩, hp, hn, ha, q⟩ := h
  obtain ⟨a1, a2, _, _⟩ := least_le O
  obtain ⟨c1, c2⟩ := least_dvd O
  have f1 := Nat.le_of_dvd hp (Nat.dvd_trans c2 b.2.2.2)
  refine ⟨x, t.least, .ref a, .tuple [.int k, .int l], e, c, O.least, by omega, .tup ha (by show 2 ≤ 1000; decide) (.cons (.int _) (.cons (.int _) .nil)), ?_⟩
  have e1 : inD t.least (.tuple [.int k, .int l]) = F k l := by
    show (decide ((0 : Int) ≤ k) && decide ((0 : Int) ≤ l) && t.least.has (k : Int).toNat (l : Int).toNat) = _
    rw [decide_eq_true (by omega), decide_eq_true (by omega), Int.toNat_natCast, Int.toNat_natCast, has_least' O, hF]
    rfl
  rw [e1]
  exact q
end
end FH

set_option Elab.async false
set_option linter.all false
set_option maxRecDepth 100000
set_option maxHeartbeats 2000000
/-! not o, by the class's __bool__; repr of a bool -/
namespace L2
open PySem PySem.Spec PyProof.Rows
section
variable {X : Cx} {C f : Addr} {fd : FuncData} {ps : List Str} {n : Nat} {sp : Sp} {CX : CXT} {a : Expr} {ta : TE} {pos : Pos}
def tNotOwn (C : Addr) (sp : Sp) (ta : TE) : TE := fun σ H Q => ta σ H fun x H1 => ∃ (b dx : Addr) (fs : List (Str × V)), x = .ref b ∧ H1 b = some (.ins C dx fs) ∧ sp [.ref b] H1 (fun z H' => ∃ c, z = .bl c ∧ Q (.bl (!c)) H') fun _ _ _ => False
theorem pe_notOwn (ha : PE X a ta) (F : FnOk X.prog X.w X.K X.mg X.base CX n f fd ps sp) (hr : Room n X.A) (hb : Binds X.K fd ps []) (hx : Passes CX X (fun _ _ _ => False))
    (hs : PySem.W.findIn X.K (.ref C) "__bool__" = some (some (.ref f))) (hf : PySem.W.isFn X.K (.ref f) = true) : PE X (.UnaryOp .Not a pos) (tNotOwn C sp ta) := by
  refine ⟨fun pins s σ H Q I h => ?_⟩
  refine UnaryOp_ (thn (ha.run pins s σ H _ I h) fun v s1 ⟨x, H1, I1, r1, q1⟩ => ?_)
  obtain ⟨b, dx, fs, rfl, hb', q⟩ := q1
  cases r1
  obtain ⟨mA, J, _⟩ := ins_get I1.hok hb'
  obtain ⟨od, J, _⟩ := J.look
  obtain ⟨m, hF⟩ := I1.fr
  refine not_of (PySem.W.truthy_K hF I1.ok.mod.kin J hs hf ?_)
  refine wpAny_mono (run_ownL F hr rfl hb hx I1 (.cons (rref _) .nil) q) (fun z s' hz => ?_) fun _ _ e => e
  obtain ⟨z', H', I', rz, c, rfl, q'⟩ := hz
  cases rz
  exact ⟨.bl (!c), H', I', rfl, q'⟩
/-- a test by the class's __bool__ -/
def tTruO (C : Addr) (sp : Sp) (ta : TE) : TT := fun σ H Q => ta σ H fun x H1 => ∃ (b dx : Addr) (fs : List (Str × V)), x = .ref b ∧ H1 b = some (.ins C dx fs) ∧ sp [.ref b] H1 (fun z H' => ∃ c, z = .bl c ∧ Q c H') fun _ _ _ => False
def rReprB : List V → Hp → VK → Prop := fun xs H Q => ∃ b : Bool, xs = [.bl b] ∧ Q (.str (PyData.shown (.bool b))) H
theorem call_reprB : CallR X (.builtin "repr") rReprB := by
  intro pins s σ H xs us Q I r h
  obtain ⟨b, rfl, q⟩ := h
  obtain ⟨u, rfl, ru⟩ := r.one
  cases (show u = Value.bool b from ru)
  exact P.repr_of_bool ⟨.str (PyData.shown (.bool b)), H, I.kept (t' := s.toks + 1) (fun _ _ e => e), ⟨_, rfl⟩, q⟩
end
end L2

set_option Elab.async false
set_option linter.all false
set_option maxRecDepth 100000
set_option maxHeartbeats 1000000
namespace FH
open PySem L2
local macro_rules | `(tactic| walk_at "seq") => `(tactic| first | assumption | exact SqL.of (by assumption) | exact SqT.of (by assumption) | exact SqL.of upd_same | exact SqT.of upd_same)
local macro_rules | `(tactic| walk_at "at") => `(tactic| first | exact atI_nat (j := 0) rfl | exact atI_nat (j := 1) rfl | exact atI_nat (j := 2) rfl | exact atI_nat (by assumption) | assumption)
local macro_rules | `(tactic| walk_at "ar") => `(tactic| first | omega | exact ⟨by omega, by omega⟩ | exact Or.inl ⟨by omega, by omega⟩ | exact Or.inr ⟨by omega, by omega⟩ | exact ⟨by decide, by decide⟩ | exact Or.inr ⟨by decide, by decide⟩ | exact Or.inl ⟨by decide, by decide⟩ | exact ⟨by decide, by decide, by omega⟩ | exact ⟨by decide, by decide, by decide⟩)
local macro_rules | `(tactic| walk_at "r") => `(tactic| repeat (first
  | refine ⟨_, rfl, ?_⟩
  | refine ⟨_, _, rfl, rfl, ?_⟩
  | refine ⟨_, _, _, _, rfl, rfl, by walk_at "seq", by walk_at "at", ?_⟩
  | refine ⟨_, _, _, _, rfl, rfl, by assumption, rfl, ?_⟩
  | refine ⟨_, _, rfl, Or.inl (by walk_at "seq"), ?_⟩
  | refine Or.inl ⟨_, rfl, ?_⟩
  | refine Or.inr ⟨_, rfl, ?_⟩
  | refine And.intro (by walk_at "ar") ?_))
open Pr LamX
/-! ### whether there is a crowd; < -/
def spBool (C : Addr) : Sp := fun vs H Q _ => ∃ (x : Addr) (t : Tb), vs = [.ref x] ∧ CrAt C H x t ∧ t.rows.length ≤ 1000 ∧ ∀ H', Same H H' → Q (.bl (anyIn t.rows)) H'
def sdBool (C : Addr) : Sp := fun vs H Q _ => ∃ (x : Addr) (F : Nat → Nat → Bool) (n p : Nat), vs = [.ref x] ∧ StD C H x F n p ∧ 0 < p ∧ n + p ≤ 1000 ∧ ∀ (b : Bool) (H' : Hp), Same H H' → (b = true ↔ ∃ k l, F k l = true) → Q (.bl b) H'
def sdLt (C : Addr) : Sp := fun vs H Q _ => ∃ (x y : Addr) (F G : Nat → Nat → Bool) (n p m r : Nat), vs = [.ref x, .ref y] ∧ StD C H x F n p ∧ StD C H y G m r ∧ 0 < p ∧ 0 < r ∧ max n m + Nat.lcm p r ≤ 1000 ∧
  ∀ (b : Bool) (H' : Hp), Same H H' → (b = true ↔ (∀ k l, F k l = true → G k l = true) ∧ ¬ ∀ k l, G k l = true → F k l = true) → Q (.bl b) H'
theorem any_least {t : Tb} (O : t.Ok) : anyIn t.least.rows = true ↔ ∃ k l, t.has k l = true := by
  have e : t.least.rows = canR t.has (t.least.s0 + t.least.p0) (t.least.s1 + t.least.p1) := t.least_rows O
  rw [e, any_canR]
  constructor
  · rintro ⟨k, l, _, _, h⟩
    exact ⟨k, l, h⟩
  · rintro ⟨k, l, h⟩
    have P := t.least.perF O.least
    rw [has_least' O] at P
    exact ⟨_, _, spot_lt O.least.h0, spot_lt O.least.h1, (P.spot k l).trans h⟩
section
variable {C : Addr} {vs : List V} {H : Hp} {Q : VK} {E : XK}
theorem sbool_of (h : sdBool C vs H Q E) : spBool C vs H Q E := by
  obtain ⟨x, F, n, p, e, ⟨t, O, c, hF, b⟩, hp, hn, q⟩ := h
  obtain ⟨a1, a2, a3, a4⟩ := least_le O
  have f0 := Nat.le_of_dvd hp b.2.2.1
  refine ⟨x, t.least, e, c, by rw [O.least.len]; omega, fun H' s => q _ H' s ?_⟩
  rw [any_least O, hF]
theorem slt_of (h : sdLt C vs H Q E) : spCmp C (fun t u => subB t u && !subB u t) vs H Q E := by
  obtain ⟨x, y, F, G, n, p, m, r, e, ⟨t, O, c, hF, b⟩, ⟨u, V, d, hG, g⟩, h1, h2, h3, q⟩ := h
  have W := two_dvd O V b g h1 h2 h3
  refine ⟨x, y, _, _, e, c, d, W, fun H' s => q _ H' s ?_⟩
  have e1 := subB_iff W
  have e2 := subB_iff W.symm
  rw [has_least' O, has_least' V, hF, hG] at e1 e2
  rw [Bool.and_eq_true, e1, ← e2, Bool.not_eq_true', Bool.not_eq_true]
end
section
variable {P : Program} {w : World} {K : PySem.W.Frag} {mg : Str → Option Value} {base : Heap} {C : Addr}
theorem sc_Crowds___bool__ : FnScope ["self", "row"] ["self"] (defScope (inClass (topS 24) 17)) := ⟨rfl, rfl, rfl, by decide +kernel, rfl, by decide +kernel, by decide +kernel⟩
theorem ok_bool {f : Addr} {fd : FuncData} {k : Nat} {t1 : Tok} (F : Fun K "__bool__" "Crowds.__bool__" (inClass (topS 24) 17) f fd) (T : Bt mg) (L : CrC K mg C) (gIN : mg "IN" = some (.str "+" t1)) :
    FnOk P w K mg base CX0 (k + 1) f fd ["self"] (spBool C) := by
  refine F.ok sc_Crowds___bool__ (fun vs H Q E h => ?_) (fun cdv A outer s H vs Q E hr h => ?_)
  · obtain ⟨x, t, rfl, _⟩ := h
    rfl
  · obtain ⟨x, t, rfl, hx, hl, q⟩ := h
    refine ⟨_, (pss_one (ps_ret (pe_callB (anyK (K := K) rfl rfl) (by rfl) T.m_any (by decide +kernel) (pa_cons (pe_lc (own := [("row", 1)]) (g := (gName 1)) (tt := tYes) rfl sc_Crowds___bool__.nd (piSK (K := K) rfl (fldK (K := K) rfl (pv 0))) (blkOk_by (own := [("row", 1)]) (N := ["self", "row"]) (sc := defScope (inClass (topS 24) 17)) (by decide +kernel)) (fun _ _ _ _ _ => (pg_name (i := 1) sc_Crowds___bool__.nd rfl (by first | exact Or.inl rfl | exact Or.inr rfl))) (fun _ _ _ _ _ => pts_nil) (fun _ _ _ _ _ => (pe_cmpR op_in_sign (pe_glob (v := .str "+") (by rfl) gIN ⟨_, rfl⟩) (pv 1) (by rfl)))) pa_nil)))), ?_⟩
    obtain ⟨dx, ts, tp, tr, h1, h2, h3, h4⟩ := hx
    refine ⟨_, rfl, x, C, dx, _, _, rfl, h1, L.cl, L.nR, cget_r _ _ _, tr, _, rfl, .inr ⟨SqT.of h4, fun D nD => lc_fmT nD (SqT.of h4) (by rw [List.length_map]; omega) (fun v => match v with | .str x => some (.bl (decide (43 ∈ tlS x))) | _ => none) (fun i v H3 Nx hv s3 tk nt => ?_) (fun H3 s3 hD => ?_)⟩⟩
    · obtain ⟨z, hz, rfl⟩ := List.mem_map.mp (List.mem_of_getElem? hv)
      refine ⟨rfl, _, rfl, 43, z, ?_, rfl, tk _ _ (fun _ _ q => q) rfl⟩
      exact congrArg V.str (by decide +kernel)
    · have e : ∀ l : List Str, (l.map V.str).filterMap (fun v => match v with | .str x => some (V.bl (decide (43 ∈ tlS x))) | _ => none) = (l.map fun x => decide (43 ∈ tlS x)).map V.bl := fun l => by
        induction l with
        | nil => rfl
        | cons a r ih => rw [List.map_cons, List.filterMap_cons, List.map_cons, List.map_cons, ih]
      rw [e] at hD
      refine ⟨D, _, rfl, SqL.of hD, ?_⟩
      have := q H3 s3
      unfold anyIn at this
      rw [List.any_map]
      exact this
end
end FH

set_option Elab.async false
set_option linter.all false
set_option maxRecDepth 100000
set_option maxHeartbeats 1000000
namespace FH
open PySem L2
open Pr LamX
/-! ### what stays while the deal and the tables of code objects change -/
def XtN (d c : Addr) (H H' : Hp) : Prop := ∀ b o, b ≠ d → b ≠ c → H b = some o → (∀ ps, o ≠ .tbl ps) → H' b = some o
section
variable {d c : Addr} {H H' H2 : Hp}
theorem XtN.refl : XtN d c H H := fun _ _ _ _ e _ => e
theorem XtN.trans (a : XtN d c H H') (b : XtN d c H' H2) : XtN d c H H2 := fun x o n1 n2 e n => b x o n1 n2 (a x o n1 n2 e n) n
theorem XtN.xt (a : Xt d c H H') : XtN d c H H' := fun x o n1 n2 e _ => a x o n1 n2 e
theorem XtN.ex (a : ExtN H H') : XtN d c H H' := fun x o _ _ e n => a x o e n
theorem XtN.sm (a : Same H H') : XtN d c H H' := fun x o _ _ e _ => a x o e
theorem BoxAt.extN (h : BoxAt H d c) (e : ExtN H H') : BoxAt H' d c := by
  obtain ⟨ns, m, e1, e2, r⟩ := h
  exact ⟨ns, m, e _ _ e1 (fun _ z => by cases z), e _ _ e2 (fun _ z => by cases z), r⟩
theorem BoxAt.tup {z : Addr} {xs : List V} (hb : BoxAt H d c) (hz : H z = some (.tup xs)) : z ≠ d ∧ z ≠ c := by
  obtain ⟨ns, m, e1, e2, _⟩ := hb
  exact ⟨ne_of hz e1 (by intro z; cases z), ne_of hz e2 (by intro z; cases z)⟩
theorem BoxAt.ins {z C dx : Addr} {fs : List (Str × V)} (hb : BoxAt H d c) (hz : H z = some (.ins C dx fs)) : z ≠ d ∧ z ≠ c := by
  obtain ⟨ns, m, e1, e2, _⟩ := hb
  exact ⟨ne_of hz e1 (by intro z; cases z), ne_of hz e2 (by intro z; cases z)⟩
theorem tabs_xt {T : List (Addr × Str)} (h : Tabs T H) (hb : BoxAt H d c) (x : Xt d c H H') : Tabs T H' := fun p hp => by
  obtain ⟨ns, m, e1, e2, _⟩ := hb
  obtain ⟨ps, h1, h2, h3⟩ := h p hp
  refine ⟨ps, x _ _ (ne_of h1 e1 (by intro z; cases z)) (ne_of h1 e2 (by intro z; cases z)) h1, h2, fun pos cv hc => ?_⟩
  obtain ⟨a, h4, h5⟩ := h3 pos cv hc
  exact ⟨a, h4, x _ _ (ne_of h5 e1 (by intro z; cases z)) (ne_of h5 e2 (by intro z; cases z)) h5⟩
theorem CrAt.mv {C x : Addr} {t : Tb} (h : CrAt C H x t) (hb : BoxAt H d c) (e : XtN d c H H') : CrAt C H' x t := by
  obtain ⟨dx, ts, tp, tr, h1, h2, h3, h4⟩ := h
  exact ⟨dx, ts, tp, tr, e _ _ (hb.ins h1).1 (hb.ins h1).2 h1 (fun _ z => by cases z), e _ _ (hb.tup h2).1 (hb.tup h2).2 h2 (fun _ z => by cases z), e _ _ (hb.tup h3).1 (hb.tup h3).2 h3 (fun _ z => by cases z), e _ _ (hb.tup h4).1 (hb.tup h4).2 h4 (fun _ z => by cases z)⟩
theorem StD.mv {C z : Addr} {F : Nat → Nat → Bool} {n p : Nat} (h : StD C H z F n p) (hb : BoxAt H d c) (e : XtN d c H H') : StD C H' z F n p := by
  obtain ⟨t, o, k, r⟩ := h
  exact ⟨t, o, k.mv hb e, r⟩
end
/-- what a drawn table is -/
structure Tab8 (H : Hp) (d c a : Addr) (t : Tb) (mm ff : Nat) : Prop where
  at_ : ∃ ts tp tr : Addr, H a = some (.tup [.ref ts, .ref tp, .ref tr]) ∧ H ts = some (.tup [.int t.s0, .int t.s1]) ∧ H tp = some (.tup [.int t.p0, .int t.p1]) ∧ H tr = some (.lst (t.rows.map V.str)) ∧ tr ≠ d ∧ tr ≠ c
  ok : t.Ok
  a0 : t.s0 ≤ mm
  a1 : t.s1 ≤ mm
  b0 : t.p0 ≤ ff
  b1 : t.p1 ≤ ff
section
variable {H H' : Hp} {d c a : Addr} {t : Tb} {mm ff : Nat}
theorem Tab8.tb (h : Tab8 H d c a t mm ff) : TbAt H a t := by
  obtain ⟨ts, tp, tr, h1, h2, h3, h4, _⟩ := h.at_
  exact ⟨ts, tp, tr, h1, h2, h3, h4⟩
theorem Tab8.mv (h : Tab8 H d c a t mm ff) (hb : BoxAt H d c) (x : XtN d c H H') : Tab8 H' d c a t mm ff := by
  obtain ⟨ts, tp, tr, h1, h2, h3, h4, n1, n2⟩ := h.at_
  exact ⟨⟨ts, tp, tr, x _ _ (hb.tup h1).1 (hb.tup h1).2 h1 (fun _ z => by cases z), x _ _ (hb.tup h2).1 (hb.tup h2).2 h2 (fun _ z => by cases z), x _ _ (hb.tup h3).1 (hb.tup h3).2 h3 (fun _ z => by cases z), x _ _ n1 n2 h4 (fun _ z => by cases z), n1, n2⟩, h.ok, h.a0, h.a1, h.b0, h.b1⟩
theorem tab8_of {ts tp tr : Addr} {s0 s1 p0 p1 : Int} {rows : List Str} (h1 : H a = some (.tup [.ref ts, .ref tp, .ref tr])) (h2 : H ts = some (.tup [.int s0, .int s1])) (h3 : H tp = some (.tup [.int p0, .int p1])) (h4 : H tr = some (.lst (rows.map V.str))) (n1 : tr ≠ d) (n2 : tr ≠ c)
    (s00 : 0 ≤ s0) (s01 : s0 ≤ mm) (s10 : 0 ≤ s1) (s11 : s1 ≤ mm) (p00 : 0 < p0) (p01 : p0 ≤ ff) (p10 : 0 < p1) (p11 : p1 ≤ ff) (rlen : rows.length = (s0 + p0).toNat) (rall : ∀ x ∈ rows, x.length = (s1 + p1).toNat ∧ Sg x) : ∃ t : Tb, Tab8 H d c a t mm ff := by
  obtain ⟨s0, rfl⟩ := Int.eq_ofNat_of_zero_le s00
  obtain ⟨s1, rfl⟩ := Int.eq_ofNat_of_zero_le s10
  obtain ⟨p0, rfl⟩ := Int.eq_ofNat_of_zero_le (Int.le_of_lt p00)
  obtain ⟨p1, rfl⟩ := Int.eq_ofNat_of_zero_le (Int.le_of_lt p10)
  exact ⟨⟨s0, s1, p0, p1, rows⟩, ⟨ts, tp, tr, h1, h2, h3, h4, n1, n2⟩, ⟨by show 0 < p0; omega, by show 0 < p1; omega, by show rows.length = s0 + p0; omega, fun x hx => ⟨by have := (rall x hx).1; show x.length = s1 + p1; omega, (rall x hx).2⟩⟩, by show s0 ≤ mm; omega, by show s1 ≤ mm; omega, by show p0 ≤ ff; omega, by show p1 ≤ ff; omega⟩
/-- the set of a drawn table -/
theorem Tab8.std {C x : Addr} (h : Tab8 H d c a t mm ff) (cr : CrAt C H' x t.least) : StD C H' x t.has mm (t.p0 * t.p1) := ⟨t, h.ok, cr, rfl, h.a0, h.a1, Nat.dvd_mul_right _ _, Nat.dvd_mul_left _ _⟩
theorem Tab8.per (h : Tab8 H d c a t mm ff) : 0 < t.p0 * t.p1 ∧ t.p0 * t.p1 ≤ ff * ff := ⟨Nat.mul_pos h.ok.h0 h.ok.h1, Nat.mul_le_mul h.b0 h.b1⟩
end
def pk (m : Bool) (x y : Nat) : Nat := if m = true then x else y
end FH

set_option Elab.async false
set_option linter.all false
set_option maxRecDepth 100000
set_option maxHeartbeats 2000000
/-! the end of a law whose text makes lambdas and whose promise needs that nothing is being shown -/
namespace LamX
open PySem PySem.Spec PyProof.Rows L2
/-- what is tracked at the beginning: the tables Ts, and the script unless the top itself holds it -/
def startH (K : PySem.W.Frag) (Ts : List Addr) (a : Addr) (o : Obj) (xs : List V) : Hp := fun b => if b ∈ Ts then some (.tbl #[]) else if b = a ∧ K.lookup a = none then some (.frz o (.lst xs)) else none
section
variable {K : PySem.W.Frag} {Ts : List Addr} {a b : Addr} {o : Obj} {xs : List V} {u : HO}
theorem startH_tab (h : b ∈ Ts) : startH K Ts a o xs b = some (.tbl #[]) := if_pos h
theorem startH_cases (h : startH K Ts a o xs b = some u) : (b ∈ Ts ∧ u = .tbl #[]) ∨ (b ∉ Ts ∧ b = a ∧ K.lookup a = none ∧ u = .frz o (.lst xs)) := by
  unfold startH at h
  by_cases h1 : b ∈ Ts
  · rw [if_pos h1] at h
    exact .inl ⟨h1, (Option.some.inj h).symm⟩
  · rw [if_neg h1] at h
    by_cases h2 : b = a ∧ K.lookup a = none
    · rw [if_pos h2] at h
      exact .inr ⟨h1, h2.1, h2.2, (Option.some.inj h).symm⟩
    · rw [if_neg h2] at h
      cases h
theorem startH_none (h1 : b ∉ Ts) (h2 : b = a → K.lookup a = none → False) : startH K Ts a o xs b = none := by
  unfold startH
  rw [if_neg h1, if_neg fun z => h2 z.1 z.2]
end
def emptyTab : Obj := { cls := .none, data := .fields #[] }
/-- the law, called by the asker -/
theorem callTG {P : Program} {w : World} {K : PySem.W.Frag} {mg mb : Str → Option Value} {k : Nat} {fa a : Addr} {cs : List (Addr × Addr)} {fd : FuncData} {x : Str} {sp : Sp} {s1 : Shared} {vs : List Value} {ns : List Int}
    (kin : K.In s1.heap) (hns : s1.heap.Ns mainGlobals mg) (hb : s1.heap.Ns builtinsNs mb) (hbb : ∀ x : Str, x ≠ "__name__" → mb x = bootBuiltins x) (hlim : s1.heap.NoLimit) (hg : s1.gens = #[])
    (hT : ∀ p ∈ cs, s1.heap.get? p.2 = some emptyTab) (nT : ∀ p ∈ cs, K.lookup p.2 = none) (hC : ∀ p ∈ cs, PySem.W.CodeHd s1.heap p.1 p.2)
    (hbm : ∃ (bm : Addr) (ob : Obj), mg "__builtins__" = some (.ref bm) ∧ bm ≠ builtinsNs ∧ s1.heap.get? bm = some ob ∧ ob.cls = .type "module" ∧ ob.dict = some builtinsNs ∧ ob.data = .plain)
    (ha : s1.heap.get? a = some { cls := .type "list", data := .seq vs.toArray }) (hi : IntsAre vs ns) (hl : ns.length ≤ sizeLine) (hr : Room k callerA)
    (F : ∀ base : Heap, K.In base → base.Ns mainGlobals mg → (∀ p ∈ cs, TabB base mg p.1 p.2) → FnG P w K mg base k fa fd [x] sp) (hbind : ∀ (s : Shared) (u : Value), BindsTo s fd ⟨[u], []⟩ [(x, u)])
    (hsp : ∀ H : Hp, (∀ p ∈ cs, H p.2 = some (.tbl #[])) → SqL K H a (ns.map V.int) → sp [.ref a] H (fun v _ => v = .bl true) fun _ _ _ => False) :
    codeAny (model P w) callerA (.call (.ref fa) ⟨[.ref a], []⟩) (fun r s' => r = .ok (.ret (.bool true)) ∧ OldK s1.heap s'.heap ∧ s'.os = s1.os ∧ AllBare s'.gens) s1 := by
  obtain ⟨Ts, eTs⟩ : ∃ Ts, Ts = cs.map (·.2) := ⟨_, rfl⟩
  obtain ⟨H, eH⟩ : ∃ H, H = startH K Ts a { cls := .type "list", data := .seq vs.toArray } (ns.map V.int) := ⟨_, rfl⟩
  have inT : ∀ p ∈ cs, p.2 ∈ Ts := fun p hp => by rw [eTs]; exact List.mem_map.mpr ⟨p, hp, rfl⟩
  have atT : ∀ b ∈ Ts, s1.heap.get? b = some emptyTab ∧ K.lookup b = none := fun b hb => by
    rw [eTs] at hb
    obtain ⟨p, hp, rfl⟩ := List.mem_map.mp hb
    exact ⟨hT p hp, nT p hp⟩
  have aT : a ∉ Ts := fun z => by
    have e := (atT a z).1
    rw [ha] at e
    have d : Data.seq vs.toArray 0 = Data.fields #[] := congrArg Obj.data (Option.some.inj e)
    cases d
  -- what is no list and no table is not tracked
  have off : ∀ {b : Addr} {o : Obj}, s1.heap.get? b = some o → (∀ ws n, o.data ≠ .seq ws n) → o.data ≠ .fields #[] → H b = none := fun {b o} e n1 n2 => by
    rw [eH]
    refine startH_none (fun z => ?_) (fun z _ => ?_)
    · rw [(atT b z).1] at e
      cases e
      exact n2 rfl
    · rw [z, ha] at e
      cases e
      exact n1 _ _ rfl
  have sees : ∀ {b : Addr} {o : Obj}, s1.heap.get? b = some o → H b = none → (hidT s1.heap H).get? b = some o := fun e n => hidT_get e n
  have nsB : ∀ {b : Addr} {m : Str → Option Value}, s1.heap.Ns b m → (hidT s1.heap H).Ns b m := fun {b m} ⟨o, es, ep, e, d, r⟩ => ⟨o, es, ep, sees e (off e (fun _ _ z => by rw [d] at z; cases z) (fun z => by rw [d] at z; cases z)), d, r⟩
  have kinB : K.In (hidT s1.heap H) := fun b o e => sees (kin b o e) (by
    rw [eH]
    refine startH_none (fun z => ?_) (fun z n => ?_)
    · rw [(atT b z).2] at e; cases e
    · rw [z, n] at e; cases e)
  have hM : L2.Mod K mg (hidT s1.heap H) := ⟨kinB, nsB hns, ⟨mb, nsB hb, hbb⟩, let ⟨mc, h1, h2⟩ := hlim; ⟨mc, nsB h1, h2⟩⟩
  have tabs : ∀ p ∈ cs, TabB (hidT s1.heap H) mg p.1 p.2 := fun p hp => by
    refine ⟨?_, ?_, fun z => ?_⟩
    · obtain ⟨o, us, file, tf, flags, tg, inF, text, tt, e1, r1, r2, r3, r⟩ := hC p hp
      refine ⟨o, us, file, tf, flags, tg, inF, text, tt, sees e1 (off e1 (fun _ _ z => by rw [r2] at z; cases z) fun z => ?_), r1, r2, r3, r⟩
      rw [r2] at z
      cases z
      simp at r3
    · obtain ⟨bm, ob, b1, b2, b3, b4, b5, b6⟩ := hbm
      refine ⟨bm, ob, b1, b2, fun z => ?_, fun z => ?_, sees b3 (off b3 (fun _ _ z => by rw [b6] at z; cases z) fun z => by rw [b6] at z; cases z), b4, b5, b6⟩
      · obtain ⟨o, es, ep, e, d, _⟩ := hns
        rw [z, e] at b3
        cases b3
        rw [d] at b6
        cases b6
      · rw [z, hT p hp] at b3
        cases b3
        cases b6
    · obtain ⟨o, es, ep, e, d, _⟩ := hns
      rw [z, hT p hp] at e
      cases e
      cases d
  have hH : ∀ p ∈ cs, H p.2 = some (.tbl #[]) := fun p hp => by rw [eH]; exact startH_tab (inT p hp)
  have rv := vals_ints hi
  have hok : HOk P w H s1.heap := fun b u e => by
    rw [eH] at e
    rcases startH_cases e with ⟨z, rfl⟩ | ⟨_, rfl, _, rfl⟩
    · exact (atT b z).1
    · exact ⟨ha, by rw [List.length_map]; exact hl, vs, _, rv, ha⟩
  have hS : SqL K H a (ns.map V.int) := by
    cases hk : K.lookup a with
    | some o =>
      have e := kin a o hk
      rw [ha] at e
      cases e
      exact .inr ⟨_, vs.toArray, _, hk, rfl, rfl, rfl, by rw [List.size_toArray, hi.length]; exact hl, by simpa using rv⟩
    | none =>
      refine .inl (.inr ⟨{ cls := .type "list", data := .seq vs.toArray }, ?_⟩)
      rw [eH]
      unfold startH
      rw [if_neg aT, if_pos ⟨rfl, hk⟩]
  have none_in : ∀ b : Addr, b ∈ ([] : List Addr) → False := fun b z => by simp at z
  have e0 : Env0 P w K mg (hidT s1.heap H) callerA [] s1 H := ⟨rfl, hM, fun b o e => of_hidT e, Nat.le_of_eq (hidT_size _ _), trivial, fun b z => (none_in b z).elim, hok, .of_eq hg⟩
  refine codeAny_mono ((F _ kinB (nsB hns) tabs).at (us := [.ref a]) (vs := [.ref a]) hr e0 (hbind s1 (.ref a)) (.cons rfl .nil) (hsp H hH hS)) fun r s' h => ?_
  cases r with
  | error e => exact (show False from h).elim
  | ok fl =>
    cases fl with
    | next => exact False.elim h
    | brk => exact False.elim h
    | cont => exact False.elim h
    | ret u =>
      obtain ⟨v, H', os, bare, un, hok', r', q⟩ := h
      cases (show v = .bl true from q)
      cases (show u = Value.bool true from r')
      -- what was there is there, but for the tables, which have grown
      have kept : ∀ b o, b ∉ Ts → s1.heap.get? b = some o → s'.heap.get? b = some o := fun b o nb e => by
        cases z : H b with
        | none => exact un.keep b o e z (fun y => (none_in b y).elim) (by simp)
        | some u =>
          rw [eH] at z
          rcases startH_cases z with ⟨y, _⟩ | ⟨_, rfl, _, rfl⟩
          · exact absurd y nb
          · rw [← eH] at z
            obtain ⟨e1, _⟩ := hok b _ z
            obtain ⟨e2, _⟩ := hok' b _ (un.frzs b _ _ z)
            rw [e] at e1
            cases e1
            exact e2
      have grown : ∀ p ∈ cs, ∃ more : Array Value, s'.heap.get? p.2 = some { cls := .none, data := .fields more } := fun p hp => by
        obtain ⟨more, z⟩ := un.tbls p.2 #[] (hH p hp)
        exact ⟨_, hok' p.2 _ z⟩
      refine ⟨rfl, ⟨fun b o e => ?_, fun b o e => ?_⟩, os, bare⟩
      · by_cases hbT : b ∈ Ts
        · rw [eTs] at hbT
          obtain ⟨p, hp, rfl⟩ := List.mem_map.mp hbT
          obtain ⟨more, hm⟩ := grown p hp
          rw [hT p hp] at e
          cases e
          exact .inr (.inl ⟨((hC p hp).tab (hT p hp)).isCodeTable, rfl, #[], more, rfl, by rw [Array.empty_append]; exact hm⟩)
        · exact .inl (kept b o hbT e)
      · by_cases hbT : b ∈ Ts
        · rw [eTs] at hbT
          obtain ⟨p, hp, rfl⟩ := List.mem_map.mp hbT
          obtain ⟨more, hm⟩ := grown p hp
          exact ⟨_, hm⟩
        · exact ⟨o, kept b o hbT e⟩
/-- what is known of the law at the head's heap h -/
def LawAtG (l : PySem.W.OpenLaw) (w : World) (K : PySem.W.Frag) (k n : Nat) (x : Str) (mg : Str → Option Value) (fa : Addr) (h : Heap) : Prop :=
  ∃ (fd : FuncData) (cs : List (Addr × Addr)) (sp : Sp), (∀ p ∈ cs, h.get? p.2 = some emptyTab) ∧ (∀ p ∈ cs, K.lookup p.2 = none) ∧ (∀ p ∈ cs, PySem.W.CodeHd h p.1 p.2) ∧ (∀ (s : Shared) (u : Value), BindsTo s fd ⟨[u], []⟩ [(x, u)]) ∧
    (∀ (H : Hp) (a : Addr) (ns : List Int), ns.length ≤ n → True → (∀ p ∈ cs, H p.2 = some (.tbl #[])) → SqL K H a (ns.map V.int) → sp [.ref a] H (fun v _ => v = .bl true) fun _ _ _ => False) ∧
    ∀ base : Heap, K.In base → base.Ns mainGlobals mg → (∀ p ∈ cs, TabB base mg p.1 p.2) → FnG l.prog w K mg base k fa fd [x] sp
theorem walk_ofTsG {l : PySem.W.OpenLaw} {n k : Nat} {q : Program} {loose : List Str} {XP : (Str → Option Value) → Heap → Prop} {YP : World → Heap → Prop} {d : DefRec} {K : Params → PySem.W.Frag} {x : Str}
    (hn : l.most = some n) (hn2 : n ≤ sizeLine) (hdf : d.params.defaults = []) (hr : Room k callerA) (hY : ∀ (w : World) (h : Heap), YP w h → (K w.params).In h)
    (F : ∀ (w : World) (mg : Str → Option Value) (fa : Addr) (h : Heap), YP w h → (K w.params).In h → h.Ns mainGlobals mg → mg d.name = some (.ref fa) → LawAtG l w (K w.params) k n x mg fa h) :
    PySem.W.WalkO q loose XP YP l.row.toRowW d [] (fun f vs => PySem.call f vs) := by
  refine Att.attach_call hn hdf fun w s0 s1 mg mb fa o pm cd doc a vs ns G Y ho hd hcd hmg hobj hints hlen hg => ?_
  obtain ⟨fd, cs, sp, hT, nT, C, hb, hsp, hF⟩ := F w mg fa _ Y (hY w _ Y) G.T.g hmg
  exact callTG (hY w _ Y) G.T.g G.T.b G.T.builtins G.T.nolimit hg hT nT C G.T.bmain hobj hints (Nat.le_trans hlen hn2) hr hF hb fun H hH hS => hsp H a ns hlen trivial hH hS
end LamX

set_option Elab.async false
set_option linter.all false
set_option maxRecDepth 100000
set_option maxHeartbeats 1000000
namespace FH
open PySem L2
local macro_rules | `(tactic| walk_at "seq") => `(tactic| first | assumption | exact SqL.of (by assumption) | exact SqT.of (by assumption) | exact SqL.of upd_same | exact SqT.of upd_same)
local macro_rules | `(tactic| walk_at "at") => `(tactic| first | exact atI_nat (j := 0) rfl | exact atI_nat (j := 1) rfl | exact atI_nat (j := 2) rfl | exact atI_nat (by assumption) | assumption)
local macro_rules | `(tactic| walk_at "ar") => `(tactic| first | omega | exact ⟨by omega, by omega⟩ | exact Or.inl ⟨by omega, by omega⟩ | exact Or.inr ⟨by omega, by omega⟩ | exact ⟨by decide, by decide⟩ | exact Or.inr ⟨by decide, by decide⟩ | exact Or.inl ⟨by decide, by decide⟩ | exact ⟨by decide, by decide, by omega⟩ | exact ⟨by decide, by decide, by decide⟩)
local macro_rules | `(tactic| walk_at "r") => `(tactic| repeat (first
  | refine ⟨_, rfl, ?_⟩
  | refine ⟨_, _, rfl, rfl, ?_⟩
  | refine ⟨_, _, _, _, rfl, rfl, by walk_at "seq", by walk_at "at", ?_⟩
  | refine ⟨_, _, _, _, rfl, rfl, by assumption, rfl, ?_⟩
  | refine ⟨_, _, rfl, Or.inl (by walk_at "seq"), ?_⟩
  | refine Or.inl ⟨_, rfl, ?_⟩
  | refine Or.inr ⟨_, rfl, ?_⟩
  | refine And.intro (by walk_at "ar") ?_))
open Pr LamX
set_option pp.maxSteps 1000
def lB (xs : List Bool) : PyData := .list (xs.map PyData.bool)
theorem dp_bls {K : PySem.W.Frag} {H : Hp} : ∀ ns : List Bool, DpAll K H (ns.map V.bl) (ns.map PyData.bool)
  | [] => .nil
  | n :: r => .cons (.bl n) (dp_bls r)
theorem eqv_bls : ∀ ns ms : List Bool, PyData.eqvAll (ns.map PyData.bool) (ms.map PyData.bool) = decide (ns = ms)
  | [], [] => rfl
  | [], m :: r => by simp [PyData.eqvAll]
  | n :: r, [] => by simp [PyData.eqvAll]
  | n :: r, m :: s => by
    show (PyData.eqv (.bool n) (.bool m) && PyData.eqvAll (r.map PyData.bool) (s.map PyData.bool)) = _
    rw [eqv_bls r s]
    cases n <;> cases m <;> by_cases h2 : r = s <;> simp [h2, PyData.eqv]
theorem eqv_lB (ns ms : List Bool) : PyData.eqv (lB ns) (lB ms) = decide (ns = ms) := eqv_bls ns ms
theorem al_pk (m : Bool) (n x y : Nat) : alF m n (pk m x y) (pk m y x) = decide (n ≤ x) := by cases m <;> rfl
theorem lt_al (m : Bool) (N : Nat) : (∀ k l, alF m (N + 1) k l = true → alF m N k l = true) ∧ ¬ ∀ k l, alF m N k l = true → alF m (N + 1) k l = true := by
  constructor
  · intro k l
    cases m
    · show decide (N + 1 ≤ l) = true → decide (N ≤ l) = true
      intro h; have := of_decide_eq_true h; exact decide_eq_true (by omega)
    · show decide (N + 1 ≤ k) = true → decide (N ≤ k) = true
      intro h; have := of_decide_eq_true h; exact decide_eq_true (by omega)
  · intro h
    have := h (pk m N 0) (pk m 0 N)
    rw [al_pk, al_pk] at this
    have := of_decide_eq_true (this (decide_eq_true (Nat.le_refl _)))
    omega
theorem lt_sub (m : Bool) (N : Nat) : (∀ k l, (alF m N k l && !alF m (N + 1) k l) = true → alF m N k l = true) ∧ ¬ ∀ k l, alF m N k l = true → (alF m N k l && !alF m (N + 1) k l) = true := by
  constructor
  · intro k l h
    rw [Bool.and_eq_true] at h
    exact h.1
  · intro h
    have := h (pk m (N + 1) 0) (pk m 0 (N + 1))
    rw [al_pk, al_pk, decide_eq_true (show N ≤ N + 1 by omega), decide_eq_true (Nat.le_refl (N + 1))] at this
    exact absurd (this rfl) (by decide)
theorem bes_al (m : Bool) (N : Nat) : besG m (alF m N) = alF m (N + 1) := by
  funext k l
  cases m
  · show (decide (0 < l) && decide (N ≤ l - 1)) = decide (N + 1 ≤ l)
    by_cases h : N + 1 ≤ l
    · rw [decide_eq_true h, decide_eq_true (show 0 < l by omega), decide_eq_true (show N ≤ l - 1 by omega)]; rfl
    · rw [decide_eq_false h]
      by_cases h2 : 0 < l
      · rw [decide_eq_false (show ¬ N ≤ l - 1 by omega), Bool.and_false]
      · rw [decide_eq_false h2, Bool.false_and]
  · show (decide (0 < k) && decide (N ≤ k - 1)) = decide (N + 1 ≤ k)
    by_cases h : N + 1 ≤ k
    · rw [decide_eq_true h, decide_eq_true (show 0 < k by omega), decide_eq_true (show N ≤ k - 1 by omega)]; rfl
    · rw [decide_eq_false h]
      by_cases h2 : 0 < k
      · rw [decide_eq_false (show ¬ N ≤ k - 1 by omega), Bool.and_false]
      · rw [decide_eq_false h2, Bool.false_and]
def spGr : Sp := fun vs H Q _ => ∃ (d c : Addr), vs = [.ref d] ∧ BoxAt H d c ∧ ∀ (n : Nat) (H' : Hp), Xt d c H H' → BoxAt H' d c → Q (.int (n : Nat)) H'
def spEdge (C : Addr) (T : List (Addr × Str)) : Sp := fun vs H Q _ => ∃ (d c a x : Addr) (t : Tb), vs = [.ref d, .ref a, .ref x] ∧ BoxAt H d c ∧ Tab8 H d c a t 8 6 ∧ StD C H x t.has 8 (t.p0 * t.p1) ∧ Tabs T H ∧ ∀ H', XtN d c H H' → BoxAt H' d c → Tabs T H' → Q (.bl true) H'
section
variable {P : Program} {w : World} {K : PySem.W.Frag} {mg : Str → Option Value} {base : Heap} {C CE : Addr} {mc : Value}
theorem sc__law_great : FnScope ["_law_deal_here", "_law_found", "_law_turn"] ["_law_deal_here"] (defScope (topS 33)) := ⟨rfl, rfl, rfl, by decide +kernel, rfl, by decide +kernel, by decide +kernel⟩
theorem ok_gr {f fD : Addr} {fd fdD : FuncData} {k : Nat} (F : Fun K "_law_great" "_law_great" (topS 33) f fd) (T : Bt mg)
    (FD : Fun K "_law_draw" "_law_draw" (topS 27) fD fdD) (bD : Binds K fdD ["_law_deal_here", "_law_many"] []) (gD : mg "_law_draw" = some (.ref fD)) (GD : FnOk P w K mg base CX0 (k + 1) fD fdD ["_law_deal_here", "_law_many"] spDraw) :
    FnOk P w K mg base CX0 (k + 2) f fd ["_law_deal_here"] spGr := by
  refine F.ok sc__law_great (fun vs H Q E h => ?_) (fun cdv A outer s H vs Q E hr h => ?_)
  · obtain ⟨d, c, rfl, _⟩ := h
    rfl
  · obtain ⟨d, c, rfl, hb, q⟩ := h
    refine ⟨_, (pss_cons (ps_set (i := 1) sc__law_great.nd rfl (by first | exact Or.inl rfl | exact Or.inr rfl) pe_int)
  (pss_cons (ps_for PassesOwn.never rfl (pi_range1 (by rfl) T.m_range (pa_cons (pe_op op_add pe_int (pe_call GD hr (by rfl) gD FD.kp bD .nil pass0 (pa_cons (pv 0) (pa_cons pe_int pa_nil)))) pa_nil)) (pg_name (i := 2) sc__law_great.nd rfl (by first | exact Or.inl rfl | exact Or.inr rfl)) (pss_one (ps_set (i := 1) sc__law_great.nd rfl (by first | exact Or.inl rfl | exact Or.inr rfl) (pe_op op_add (pe_op op_mul (pv 1) (pe_op op_pow pe_int pe_int)) (pe_call GD hr (by rfl) gD FD.kp bD .nil pass0 (pa_cons (pv 0) (pa_cons (pe_op op_pow pe_int pe_int) pa_nil)))))))
  (pss_one (ps_ret (pv 1))))), ?_⟩
    refine ⟨_, rfl, d, c, 5, rfl, hb, by omega, by omega, fun r H1 r0 r1 x1 hb1 => ⟨_, _, rfl, rfl, 1 + r, rfl, by omega, by omega, ?_⟩⟩
    refine for_range (lo := 0) (n := (1 + r).toNat) (fun i σ H2 => Xt d c H H2 ∧ BoxAt H2 d c ∧ ∃ (n : Nat) (o2 : Option V), σ = [some (.ref d), some (.int (n : Nat)), o2]) ⟨x1, hb1, 0, _, rfl⟩ (fun i σ H2 hi hP => ?_) (fun σ H2 hP => ?_)
    · obtain ⟨x2, hb2, n, o2, rfl⟩ := hP
      refine ⟨_, rfl, _, _, rfl, rfl, ⟨by decide, by decide, by decide⟩, _, _, rfl, rfl, .inr ⟨by decide, by decide⟩, ?_⟩
      refine ⟨_, rfl, _, _, rfl, rfl, ⟨by decide, by decide, by decide⟩, d, c, 10 ^ Int.toNat 6, rfl, hb2, by decide, by decide, fun y H3 y0 y1 x3 hb3 => ⟨_, _, rfl, rfl, ?_⟩⟩
      obtain ⟨y, rfl⟩ := Int.eq_ofNat_of_zero_le y0
      refine ⟨x2.trans x3, hb3, n * 10 ^ 6 + y, some (.int (0 + (i : Int))), ?_⟩
      show [some (V.ref d), some (V.int ((n : Int) * 10 ^ Int.toNat 6 + (y : Int))), some (V.int (0 + (i : Int)))] = _
      rw [show (n : Int) * 10 ^ Int.toNat 6 + (y : Int) = ((n * 10 ^ 6 + y : Nat) : Int) by
        show (n : Int) * 1000000 + (y : Int) = ((n * 1000000 + y : Nat) : Int)
        omega]
    · obtain ⟨x2, hb2, n, o2, rfl⟩ := hP
      exact ⟨_, rfl, q n H2 x2 hb2⟩
theorem sc__law_edge_right : FnScope ["_law_deal_here", "_law_table_here", "_law_some", "_law_far", "_law_kind", "_law_edge", "_law_next_one", "_law_both", "_law_alone", "_law_unlike", "_law_by", "_law_many", "_law_less", "_law_k", "_law_l", "_law_here", "_law_found"] ["_law_deal_here", "_law_table_here", "_law_some"] (defScope (topS 34)) := ⟨rfl, rfl, rfl, by decide +kernel, rfl, by decide +kernel, by decide +kernel⟩
theorem ok_edge {f fD fH fal pal fB fan for_ fsu fxo fcn fle flt feq fiv fbo : Addr} {fd fdD fdH fdB fdan fdor fdsu fdxo fdcn fdle fdlt fdeq fdiv fdbo : FuncData} {k : Nat} {Tt : List (Addr × Str)} (F : Fun K "_law_edge_right" "_law_edge_right" (topS 34) f fd) (T : Bt mg) (L : CrC K mg C) (I : CrI K C)
    (FD : Fun K "_law_draw" "_law_draw" (topS 27) fD fdD) (bD : Binds K fdD ["_law_deal_here", "_law_many"] []) (gD : mg "_law_draw" = some (.ref fD)) (GD : FnOk P w K mg base CX0 (k + 1) fD fdD ["_law_deal_here", "_law_many"] spDraw)
    (FH : Fun K "_law_has" "_law_has" (topS 32) fH fdH) (bH : Binds K fdH ["_law_table_here", "_law_k", "_law_l"] []) (gH : mg "_law_has" = some (.ref fH)) (GH : FnOk P w K mg base CX0 (k + 1) fH fdH ["_law_table_here", "_law_k", "_law_l"] spHas)
    (CR : ClX.CRead K C mc) (CMa : ClX.CMet K C mc "at_least" pal fal) (Gal : FnR P w K mg base CX0 (k + 1) fal (sdAl C))
    (GB : FnOk P w K mg base CX0 (k + 1) fB fdB ["self", "kind"] (sdBes C Tt)) (bB : Binds K fdB ["self", "kind"] []) (hmB : Meth K C "beside" fB)
    (Gan : FnOk P w K mg base CX0 (k + 1) fan fdan ["self", "other"] (sdBin C (fun a b => a && b))) (ban : Binds K fdan ["self", "other"] []) (san : PySem.W.findIn K (.ref C) "__and__" = some (some (.ref fan))) (ian : PySem.W.isFn K (.ref fan) = true)
    (Gor : FnOk P w K mg base CX0 (k + 1) for_ fdor ["self", "other"] (sdBin C (fun a b => a || b))) (bor : Binds K fdor ["self", "other"] []) (sor : PySem.W.findIn K (.ref C) "__or__" = some (some (.ref for_))) (ior : PySem.W.isFn K (.ref for_) = true)
    (Gsu : FnOk P w K mg base CX0 (k + 1) fsu fdsu ["self", "other"] (sdBin C (fun a b => a && !b))) (bsu : Binds K fdsu ["self", "other"] []) (ssu : PySem.W.findIn K (.ref C) "__sub__" = some (some (.ref fsu))) (isu : PySem.W.isFn K (.ref fsu) = true)
    (Gxo : FnOk P w K mg base CX0 (k + 1) fxo fdxo ["self", "other"] (sdBin C (fun a b => a != b))) (bxo : Binds K fdxo ["self", "other"] []) (sxo : PySem.W.findIn K (.ref C) "__xor__" = some (some (.ref fxo))) (ixo : PySem.W.isFn K (.ref fxo) = true)
    (Gcn : FnOk P w K mg base CX0 (k + 1) fcn fdcn ["self", "value"] (sdCon C)) (bcn : Binds K fdcn ["self", "value"] []) (scn : PySem.W.findIn K (.ref C) "__contains__" = some (some (.ref fcn))) (icn : PySem.W.isFn K (.ref fcn) = true)
    (Gle : FnOk P w K mg base CX0 (k + 1) fle fdle ["self", "other"] (sdLe C)) (ble : Binds K fdle ["self", "other"] []) (sle : PySem.W.findIn K (.ref C) "__le__" = some (some (.ref fle))) (ile : PySem.W.isFn K (.ref fle) = true)
    (Glt : FnOk P w K mg base CX0 (k + 1) flt fdlt ["self", "other"] (sdLt C)) (blt : Binds K fdlt ["self", "other"] []) (slt : PySem.W.findIn K (.ref C) "__lt__" = some (some (.ref flt))) (ilt : PySem.W.isFn K (.ref flt) = true)
    (Geq : FnOk P w K mg base CX0 k feq fdeq ["self", "other"] (sdEq C)) (beq_ : Binds K fdeq ["self", "other"] []) (seq_ : PySem.W.findIn K (.ref C) "__eq__" = some (some (.ref feq))) (ieq : PySem.W.isFn K (.ref feq) = true) (sne : PySem.W.findIn K (.ref C) "__ne__" = some (some (.builtin "object.__ne__")))
    (Giv : FnOk P w K mg base CX0 (k + 1) fiv fdiv ["self"] (sdInv C)) (biv : Binds K fdiv ["self"] []) (siv : PySem.W.findIn K (.ref C) "__invert__" = some (some (.ref fiv))) (iiv : PySem.W.isFn K (.ref fiv) = true)
    (Gbo : FnOk P w K mg base CX0 (k + 1) fbo fdbo ["self"] (sdBool C)) (bbo : Binds K fdbo ["self"] []) (sbo : PySem.W.findIn K (.ref C) "__bool__" = some (some (.ref fbo))) (ibo : PySem.W.isFn K (.ref fbo) = true)
    (cCC : PySem.W.selfFirst K C = true) (nfC : PySem.W.notFirst K C (.ref C) = true) :
    FnOk P w K mg base CX0 (k + 2) f fd ["_law_deal_here", "_law_table_here", "_law_some"] (spEdge C Tt) := by
  refine F.ok sc__law_edge_right (fun vs H Q E h => ?_) (fun cdv A outer s H vs Q E hr h => ?_)
  · obtain ⟨d, c, a, x, t, rfl, _⟩ := h
    rfl
  · obtain ⟨d, c, a, x, t, rfl, hb, TA, X, hT, q⟩ := h
    have hu := hr.units
    have hrQ : Room k _ := hr.mono (by omega)
    refine ⟨_, (pss_cons (ps_par (i := 3) (j := 4) rfl sc__law_edge_right.nd rfl rfl (by decide) rfl rfl (pa_cons (pe_op op_add pe_int (pe_call GD hr (by rfl) gD FD.kp bD .nil pass0 (pa_cons (pv 0) (pa_cons pe_int pa_nil)))) (pa_cons (pe_ix (ixLK (K := K) rfl) (pe_lst (pa_cons pe_str (pa_cons pe_str pa_nil))) (pe_call GD hr (by rfl) gD FD.kp bD .nil pass0 (pa_cons (pv 0) (pa_cons pe_int pa_nil))) (fun _ _ => rfl)) pa_nil)) (by rfl))
  (pss_cons (ps_par (i := 5) (j := 6) rfl sc__law_edge_right.nd rfl rfl (by decide) rfl rfl (pa_cons (ClX.pe_cmeth (pe_glob (v := .ref C) (by rfl) L.mgC rfl) CR CMa Gal hr pass0 (pa_cons (pv 4) (pa_cons (pv 3) pa_nil))) (pa_cons (ClX.pe_cmeth (pe_glob (v := .ref C) (by rfl) L.mgC rfl) CR CMa Gal hr pass0 (pa_cons (pv 4) (pa_cons (pe_op op_add (pv 3) pe_int) pa_nil))) pa_nil)) (by rfl))
  (pss_cons (ps_if (PW.pt (pw_or (pt_not (pt_cmpR (op_cmpOwn (op := .Lt) Glt hr blt pass0 (fun _ _ => rfl) slt ilt nfC) (pv 6) (pv 5) (nomark _))) (pw_or (pt_cmpR (op_cmpOwn (op := .LtE) Gle hr ble pass0 (fun _ _ => rfl) sle ile nfC) (pv 5) (pv 6) (nomark _)) (pw_or (pt_not (pt_cmpR (op_cmpOwn (op := .Lt) Glt hr blt pass0 (fun _ _ => rfl) slt ilt nfC) (pe_op (op_binOwn (op := .Sub) Gsu hr bsu pass0 ssu isu cCC) (pv 5) (pv 6)) (pv 5) (nomark _))) (pw_or1 (pt_cmpR (op_neOwn Geq hr beq_ pass0 seq_ ieq sne I.hm) (pe_meth (pv 5) L.cl hmB GB hr bB .nil pass0 (pa_cons (pv 4) pa_nil)) (pv 6) (nomark _))))))) (pss_one (ps_ret pe_bl)) pss_nil)
  (pss_cons (ps_par3 (i := 7) (j := 8) (l := 9) rfl sc__law_edge_right.nd rfl rfl rfl (by decide) (by decide) (by decide) rfl rfl rfl (pa_cons (pe_op (op_binOwn (op := .BitAnd) Gan hr ban pass0 san ian cCC) (pv 2) (pv 5)) (pa_cons (pe_op (op_binOwn (op := .Sub) Gsu hr bsu pass0 ssu isu cCC) (pv 2) (pv 5)) (pa_cons (pe_op (op_binOwn (op := .BitXor) Gxo hr bxo pass0 sxo ixo cCC) (pv 2) (pv 6)) pa_nil))) (by rfl))
  (pss_cons (ps_for PassesOwn.never rfl (piSK (K := K) rfl (pe_tup (pa_cons (pe_op op_sub pe_int (pv 3)) (pa_cons (pe_op op_sub pe_int pe_int) (pa_cons (pe_op op_sub pe_int pe_int) (pa_cons pe_int (pa_cons pe_int (pa_cons pe_int (pa_cons pe_int pa_nil))))))))) (pg_name (i := 10) sc__law_edge_right.nd rfl (by first | exact Or.inl rfl | exact Or.inr rfl)) (pss_cons (ps_par (i := 11) (j := 12) rfl sc__law_edge_right.nd rfl rfl (by decide) rfl rfl (pa_cons (pe_op op_add (pv 3) (pv 10)) (pa_cons (pe_call GD hr (by rfl) gD FD.kp bD .nil pass0 (pa_cons (pv 0) (pa_cons pe_int pa_nil))) pa_nil)) (by rfl))
  (pss_cons (ps_asg (pe_ifExp (pt_cmpR op_eq (pv 4) pe_str (nomark _)) (pe_tup (pa_cons (pv 11) (pa_cons (pv 12) pa_nil))) (pe_tup (pa_cons (pv 12) (pa_cons (pv 11) pa_nil)))) (pg_tup rfl (pgs_cons (pg_name (i := 13) sc__law_edge_right.nd rfl (by first | exact Or.inl rfl | exact Or.inr rfl)) (pgs_cons (pg_name (i := 14) sc__law_edge_right.nd rfl (by first | exact Or.inl rfl | exact Or.inr rfl)) pgs_nil))))
  (pss_cons (ps_set (i := 15) sc__law_edge_right.nd rfl (by first | exact Or.inl rfl | exact Or.inr rfl) (pe_call GH hr (by rfl) gH FH.kp bH .nil pass0 (pa_cons (pv 1) (pa_cons (pv 13) (pa_cons (pv 14) pa_nil)))))
  (pss_cons (ps_set (i := 16) sc__law_edge_right.nd rfl (by first | exact Or.inl rfl | exact Or.inr rfl) (pe_lst (pa_cons (pe_cmpR (op_inOwn Gcn hr bcn pass0 scn icn) (pe_tup (pa_cons (pv 13) (pa_cons (pv 14) pa_nil))) (pv 7) (by rfl)) (pa_cons (pe_cmpR (op_inOwn Gcn hr bcn pass0 scn icn) (pe_tup (pa_cons (pv 13) (pa_cons (pv 14) pa_nil))) (pv 8) (by rfl)) (pa_cons (pe_cmpR (op_inOwn Gcn hr bcn pass0 scn icn) (pe_tup (pa_cons (pv 13) (pa_cons (pv 14) pa_nil))) (pv 9) (by rfl)) (pa_cons (pe_cmpR (op_inOwn Gcn hr bcn pass0 scn icn) (pe_tup (pa_cons (pv 13) (pa_cons (pv 14) pa_nil))) (pe_un (un_invOwn Giv hr biv pass0 siv iiv) (pv 5)) (by rfl)) pa_nil))))))
  (pss_one (ps_if (pt_cmpR (neDK (K := K) rfl hu) (pv 16) (pe_lst (pa_cons (pe_and (pv 15) (pe_one (pe_cmpR op_ge (pv 10) pe_int (nomark _)))) (pa_cons (pe_and (pv 15) (pe_one (pe_cmpR op_lt (pv 10) pe_int (nomark _)))) (pa_cons (pe_cmpR op_ne (pv 15) (pe_cmpR op_gt (pv 10) pe_int (nomark _)) (nomark _)) (pa_cons (pe_cmpR op_lt (pv 10) pe_int (nomark _)) pa_nil))))) (nomark _)) (pss_one (ps_ret pe_bl)) pss_nil)))))))
  (pss_one (ps_ret (pe_and (pe_cmpR (op_eqOwn Geq hrQ beq_ pass0 seq_ ieq) (pe_op (op_binOwn (op := .BitOr) Gor hr bor pass0 sor ior cCC) (pv 7) (pv 8)) (pv 2) (nomark _)) (pe_one (pe_notOwn (pe_op (op_binOwn (op := .BitAnd) Gan hr ban pass0 san ian cCC) (pv 7) (pv 8)) Gbo hr bbo pass0 sbo ibo)))))))))), ?_⟩
    -- how far, and the kind
    refine ⟨_, rfl, d, c, 100, rfl, hb, by omega, by omega, fun r1 H1 r10 r11 x1 hb1 => ⟨_, _, rfl, rfl, ?_⟩⟩
    obtain ⟨r1, rfl⟩ := Int.eq_ofNat_of_zero_le r10
    refine ⟨by show 2 ≤ sizeLine; decide, fun l1 n1 => ?_⟩
    obtain ⟨l1d, l1c⟩ := hb1.nd n1
    obtain ⟨H2, e2, s2, g2⟩ := new_ex n1 (.lst [.str (kindS true), .str (kindS false)])
    rw [show upd H1 l1 (.lst [.str (Str.ofString "marked"), .str (Str.ofString "plain")]) = H2 from e2]
    refine ⟨_, rfl, d, c, 2, rfl, hb1.same s2, by omega, by omega, fun r H3 r0 rr x3 hb3 => ?_⟩
    have g3 := x3 _ _ l1d l1c g2
    obtain ⟨m, hm⟩ : ∃ m : Bool, atI [V.str (kindS true), V.str (kindS false)] r = some (.str (kindS m)) := by
      obtain ⟨r, rfl⟩ := Int.eq_ofNat_of_zero_le r0
      have : r = 0 ∨ r = 1 := by omega
      rcases this with rfl | rfl
      · exact ⟨true, rfl⟩
      · exact ⟨false, rfl⟩
    refine ⟨l1, _, r, .str (kindS m), rfl, rfl, SqL.of g3, hm, _, _, rfl, ?_⟩
    have XX3 : XtN d c H H3 := ((XtN.xt x1).trans (XtN.sm s2)).trans (XtN.xt x3)
    have T3 := tabs_xt ((tabs_xt hT hb x1).ext s2) (hb1.same s2) x3
    have TA3 := TA.mv hb XX3
    have X3 := X.mv hb XX3
    clear e2 n1 s2 g2 g3 hm r0 rr hb1 x1 x3 l1d l1c hT TA X hb
    obtain ⟨N, eN⟩ : ∃ N, N = 50 + r1 := ⟨_, rfl⟩
    have N0 : 50 ≤ N := by omega
    have N1 : N < 150 := by omega
    have ecast : (50 : Int) + (r1 : Int) = (N : Int) := by omega
    dsimp only
    rw [ecast]
    clear ecast eN r11 r10
    -- the edge and the next one
    refine ⟨rfl, _, rfl, _, rfl, m, N, rfl, by omega, fun z1 H4 s4 Z1 => ?_⟩
    refine ⟨rfl, _, rfl, _, rfl, _, _, rfl, rfl, m, N + 1, rfl, by omega, fun z2 H5 s5 Z2 => ⟨_, _, rfl, ?_⟩⟩
    have Z1 := Z1.same s5
    have S35 := s4.trans s5
    have hb5 := hb3.same S35
    have T5 := T3.ext S35
    have TA5 := TA3.mv hb3 (XtN.sm S35)
    have X5 := X3.same S35
    have XX5 := XX3.trans (XtN.sm S35)
    clear s4 s5 S35 hb3 T3 TA3 X3 XX3
    have l11 : Nat.lcm 1 1 = 1 := rfl
    obtain ⟨d1, f1, i1, _⟩ := Z1.ins
    obtain ⟨d2, f2, i2, _⟩ := Z2.ins
    refine ⟨_, rfl, _, rfl, z2, z1, d2, d1, f2, f1, rfl, rfl, i2, i1, z2, z1, _, _, N + 1, 1, N, 1, rfl, Z2, Z1, by decide, by decide, by rw [l11]; omega, fun b1 H6 s6 hb1 => ⟨_, rfl, ?_⟩⟩
    rw [show b1 = true from hb1.mpr (lt_al m N)]
    have Z16 := Z1.same s6
    have Z26 := Z2.same s6
    obtain ⟨d1, f1, i1, _⟩ := Z16.ins
    obtain ⟨d2, f2, i2, _⟩ := Z26.ins
    refine iteF ⟨_, rfl, _, rfl, z1, z2, d1, d2, f1, f2, rfl, rfl, i1, i2, z1, z2, _, _, N, 1, N + 1, 1, rfl, Z16, Z26, by decide, by decide, by rw [l11]; omega, fun b2 H7 s7 hb2 => ⟨_, rfl, ?_⟩⟩
    have eb2 : b2 = false := by
      cases b2
      · rfl
      · exact absurd (hb2.mp rfl) (lt_al m N).2
    rw [eb2]
    have Z17 := Z16.same s7
    have Z27 := Z26.same s7
    obtain ⟨d1, f1, i1, _⟩ := Z17.ins
    obtain ⟨d2, f2, i2, _⟩ := Z27.ins
    refine iteF ⟨_, rfl, _, rfl, z1, z2, d1, d2, f1, f2, rfl, rfl, i1, i2, z1, z2, _, _, N, 1, N + 1, 1, rfl, Z17, Z27, by decide, by decide, by rw [l11]; omega, fun z3 H8 s8 Z3 => ?_⟩
    rw [l11] at Z3
    have Z18 := Z17.same s8
    have Z28 := Z27.same s8
    obtain ⟨d1, f1, i1, _⟩ := Z18.ins
    obtain ⟨d3, f3, i3, _⟩ := Z3.ins
    refine ⟨_, rfl, z3, z1, d3, d1, f3, f1, rfl, rfl, i3, i1, z3, z1, _, _, max N (N + 1), 1, N, 1, rfl, Z3, Z18, by decide, by decide, by rw [l11]; omega, fun b3 H9 s9 hb3 => ⟨_, rfl, ?_⟩⟩
    rw [show b3 = true from hb3.mpr (lt_sub m N)]
    have Z19 := Z18.same s9
    have Z29 := Z28.same s9
    obtain ⟨d1, f1, i1, g1⟩ := Z19.ins
    have S9 := ((s6.trans s7).trans s8).trans s9
    refine iteF ⟨_, rfl, z1, d1, f1, rfl, i1, g1, _, rfl, z1, alF m N, N, 1, m, rfl, Z19, by decide, by omega, T5.ext S9, fun z4 H10 e10 T10 Z4 => ?_⟩
    have Z210 := Z29.extN e10
    have Z110 := Z19.extN e10
    obtain ⟨d4, f4, i4, _⟩ := Z4.ins
    refine ⟨_, rfl, z4, d4, f4, _, rfl, i4, Z210.tyx L I, nfC, z4, z2, _, _, _, _, _, _, rfl, Z4, Z210, fun b4 H11 s11 hb4 => ⟨b4, rfl, _, rfl, ?_⟩⟩
    rw [show b4 = true from hb4.mpr (bes_al m N)]
    refine iteF ?_
    have E11 : ExtN H5 H11 := ((ExtN.of S9).trans e10).trans (ExtN.of s11)
    have hb11 := hb5.extN E11
    have T11 := T10.ext s11
    have TA11 := TA5.mv hb5 (XtN.ex E11)
    have X11 := X5.extN E11
    have Z111 := Z110.same s11
    have Z211 := Z210.same s11
    have XX11 := XX5.trans (XtN.ex E11)
    clear Z1 Z2 Z3 Z4 Z16 Z26 Z17 Z27 Z18 Z28 Z19 Z29 Z110 Z210 i1 i2 i3 i4 s6 s7 s8 s9 S9 e10 s11 E11 hb5 T5 T10 TA5 X5 XX5 hb1 hb2 hb3 hb4 eb2
    obtain ⟨Pp, eP⟩ : ∃ Pp, Pp = t.p0 * t.p1 := ⟨_, rfl⟩
    have hPp := TA11.per
    rw [← eP] at X11 hPp
    have P0 : 0 < Pp := hPp.1
    have P1 : Pp ≤ 36 := hPp.2
    have lP1 : Nat.lcm Pp 1 = Pp := Nat.lcm_one_right Pp
    obtain ⟨dl, fl, il, _⟩ := X11.ins
    obtain ⟨dr, fr, ir, _⟩ := Z111.ins
    refine ⟨_, rfl, _, rfl, x, z1, dl, dr, fl, fr, rfl, rfl, il, ir, x, z1, _, _, 8, Pp, N, 1, rfl, X11, Z111, by omega, by omega, by rw [lP1]; omega, fun z12 H12 s12 Z12 => ?_⟩
    rw [lP1] at Z12
    clear il ir
    have X12 := X11.same s12
    have Z112 := Z111.same s12
    obtain ⟨dl, fl, il, _⟩ := X12.ins
    obtain ⟨dr, fr, ir, _⟩ := Z112.ins
    refine ⟨_, rfl, _, rfl, x, z1, dl, dr, fl, fr, rfl, rfl, il, ir, x, z1, _, _, 8, Pp, N, 1, rfl, X12, Z112, by omega, by omega, by rw [lP1]; omega, fun z13 H13 s13 Z13 => ?_⟩
    rw [lP1] at Z13
    clear il ir
    have X13 := X12.same s13
    have Z213 := (Z211.same s12).same s13
    obtain ⟨dl, fl, il, _⟩ := X13.ins
    obtain ⟨dr, fr, ir, _⟩ := Z213.ins
    refine ⟨_, rfl, _, rfl, x, z2, dl, dr, fl, fr, rfl, rfl, il, ir, x, z2, _, _, 8, Pp, N + 1, 1, rfl, X13, Z213, by omega, by omega, by rw [lP1]; omega, fun z14 H14 s14 Z14 => ?_⟩
    rw [lP1] at Z14
    clear il ir
    refine ⟨_, _, _, rfl, ?_⟩
    have S14 := (s12.trans s13).trans s14
    have ZB := (Z12.same s13).same s14
    have ZA := Z13.same s14
    have ZU := Z14
    have ZE := Z111.same S14
    have X14 := X11.same S14
    have hb14 := hb11.same S14
    have T14 := T11.ext S14
    have TA14 := TA11.mv hb11 (XtN.sm S14)
    have XX14 := XX11.trans (XtN.sm S14)
    clear Z12 Z13 Z14 X11 X12 X13 Z111 Z112 Z211 Z213 s12 s13 s14 S14 hb11 T11 TA11 XX11
    -- seven numbers
    refine ⟨_, rfl, _, _, rfl, rfl, _, _, rfl, rfl, _, _, rfl, rfl, by show 7 ≤ sizeLine; decide, fun tt ntt => ?_⟩
    obtain ⟨xs, exs⟩ : ∃ xs : List Int, xs = [0 - (N : Int), 0 - 7, 0 - 1, 0, 1, 2, 40] := ⟨_, rfl⟩
    have hxs : ∀ b ∈ xs, -(N : Int) ≤ b ∧ b ≤ 40 := by
      intro b hb
      rw [exs] at hb
      simp only [List.mem_cons, List.not_mem_nil, or_false] at hb
      omega
    obtain ⟨H15, e15, s15, g15⟩ := new_ex ntt (.tup (xs.map V.int))
    rw [show upd H14 tt (.tup [.int (0 - (N : Int)), .int (0 - 7), .int (0 - 1), .int 0, .int 1, .int 2, .int 40]) = H15 by rw [← e15, exs]; rfl]
    have hb15 := hb14.same s15
    have T15 := T14.ext s15
    have TA15 := TA14.mv hb14 (XtN.sm s15)
    have ZB := ZB.same s15
    have ZA := ZA.same s15
    have ZU := ZU.same s15
    have ZE := ZE.same s15
    have X15 := X14.same s15
    have XX15 := XX14.trans (XtN.sm s15)
    clear e15 ntt s15 hb14 T14 TA14 X14 XX14 exs
    refine ⟨tt, _, rfl, .inr ⟨SqT.of g15, ?_⟩⟩
    refine for_tup (K := K) (a := tt) (xs := xs.map V.int) (fun j σ H7 => XtN d c H15 H7 ∧ BoxAt H7 d c ∧ Tabs Tt H7 ∧ ∃ o10 o11 o12 o13 o14 o15 o16, σ = [some (.ref d), some (.ref a), some (.ref x), some (.int (N : Int)), some (.str (kindS m)), some (.ref z1), some (.ref z2), some (.ref z12), some (.ref z13), some (.ref z14), o10, o11, o12, o13, o14, o15, o16])
      ?_ (fun j σ H7 _ hp => SqT.of (hp.1 _ _ (hb15.tup g15).1 (hb15.tup g15).2 g15 (fun _ z => by cases z))) (fun j v σ H16 hx hP => ?_) (fun σ H16 hP => ?_)
    · exact ⟨XtN.refl, hb15, T15, _, _, _, _, _, _, _, rfl⟩
    · obtain ⟨x16, hb16, T16, o10, o11, o12, o13, o14, o15, o16, rfl⟩ := hP
      obtain ⟨b, hbm, rfl⟩ := List.mem_map.mp (List.mem_of_getElem? hx)
      obtain ⟨b0, b1⟩ := hxs b hbm
      obtain ⟨mn, hmn⟩ : ∃ mn : Nat, (N : Int) + b = (mn : Int) := Int.eq_ofNat_of_zero_le (by omega)
      refine ⟨_, rfl, _, rfl, _, _, rfl, rfl, _, rfl, d, c, 20, rfl, hb16, by omega, by omega, fun ls H17 ls0 ls1 x17 hb17 => ⟨_, _, rfl, ?_⟩⟩
      obtain ⟨ls, rfl⟩ := Int.eq_ofNat_of_zero_le ls0
      dsimp only
      rw [hmn]
      have xx17 := x16.trans (XtN.xt x17)
      have T17 := tabs_xt T16 hb16 x17
      have TA17 := TA15.mv hb15 xx17
      have ZB17 := ZB.mv hb15 xx17
      have ZA17 := ZA.mv hb15 xx17
      have ZU17 := ZU.mv hb15 xx17
      have ZE17 := ZE.mv hb15 xx17
      clear x16 hb16 T16 x17 ls0
      refine via (t := tIf _ _ _) (fun v H' => Same H17 H' ∧ ∃ tk, v = .ref tk ∧ H' tk = some (.tup [.int (pk m mn ls : Nat), .int (pk m ls mn : Nat)])) (fun v H18 hv => ?_) (fun Q' k' => ?_)
      rotate_left
      · refine ⟨_, rfl, rfl, _, rfl, ?_⟩
        cases m
        · exact iteF ⟨_, rfl, _, rfl, by show 2 ≤ sizeLine; decide, fun t nt => k' _ _ ⟨same_new nt, t, rfl, upd_same⟩⟩
        · exact iteT ⟨_, rfl, _, rfl, by show 2 ≤ sizeLine; decide, fun t nt => k' _ _ ⟨same_new nt, t, rfl, upd_same⟩⟩
      obtain ⟨s18, tk, rfl, gtk⟩ := hv
      refine ⟨tk, _, rfl, SqT.of gtk, rfl, _, _, rfl, _, _, rfl, rfl, ?_⟩
      generalize hkk : pk m mn ls = kk at gtk ⊢
      generalize hll : pk m ls mn = ll at gtk ⊢
      have hal : ∀ n, alF m n kk ll = decide (n ≤ mn) := fun n => by rw [← hkk, ← hll]; exact al_pk m n mn ls
      have TA18 := TA17.mv hb17 (XtN.sm s18)
      have ta1 := TA18.a1
      have tb1 := TA18.b1
      refine ⟨_, rfl, _, rfl, _, rfl, a, kk, ll, t, rfl, TA18.tb, TA18.ok, by omega, ?_⟩
      have ZB18 := ZB17.same s18
      have ZA18 := ZA17.same s18
      have ZU18 := ZU17.same s18
      have ZE18 := ZE17.same s18
      clear ZB17 ZA17 ZU17 ZE17 gtk
      have two : ∀ x y : V, [x, y].length ≤ sizeLine := fun _ _ => by show 2 ≤ sizeLine; decide
      -- in both
      refine ⟨_, rfl, _, rfl, two _ _, fun q1 m1 => ?_⟩
      obtain ⟨G1, E1, S1, Q1⟩ := new_ex m1 (.tup [.int (kk : Nat), .int (ll : Nat)])
      rw [E1]
      have ZB19 := ZB18.same S1
      obtain ⟨dq, fq, iq, _⟩ := ZB19.ins
      refine ⟨_, rfl, z12, dq, fq, rfl, iq, z12, q1, _, _, Pp, kk, ll, rfl, ZB19, P0, by omega, Q1, _, rfl, ?_⟩
      refine ⟨_, rfl, _, rfl, two _ _, fun q2 m2 => ?_⟩
      obtain ⟨G2, E2, S2, Q2⟩ := new_ex m2 (.tup [.int (kk : Nat), .int (ll : Nat)])
      rw [E2]
      have ZA19 := (ZA18.same S1).same S2
      obtain ⟨dq, fq, iq, _⟩ := ZA19.ins
      refine ⟨_, rfl, z13, dq, fq, rfl, iq, z13, q2, _, _, Pp, kk, ll, rfl, ZA19, P0, by omega, Q2, _, rfl, ?_⟩
      refine ⟨_, rfl, _, rfl, two _ _, fun q3 m3 => ?_⟩
      obtain ⟨G3, E3, S3, Q3⟩ := new_ex m3 (.tup [.int (kk : Nat), .int (ll : Nat)])
      rw [E3]
      have ZU19 := ((ZU18.same S1).same S2).same S3
      obtain ⟨dq, fq, iq, _⟩ := ZU19.ins
      refine ⟨_, rfl, z14, dq, fq, rfl, iq, z14, q3, _, _, Pp, kk, ll, rfl, ZU19, P0, by omega, Q3, _, rfl, ?_⟩
      refine ⟨_, rfl, _, rfl, two _ _, fun q4 m4 => ?_⟩
      obtain ⟨G4, E4, S4, Q4⟩ := new_ex m4 (.tup [.int (kk : Nat), .int (ll : Nat)])
      rw [E4]
      have ZE19 := (((ZE18.same S1).same S2).same S3).same S4
      obtain ⟨dq, fq, iq, _⟩ := ZE19.ins
      refine ⟨_, rfl, z1, dq, fq, rfl, iq, z1, _, N, 1, rfl, ZE19, by decide, by omega, fun zi H19 s19 ZI => ?_⟩
      obtain ⟨di, fi, ii, _⟩ := ZI.ins
      refine ⟨zi, di, fi, rfl, ii, zi, q4, _, N, 1, kk, ll, rfl, ZI, by decide, by omega, s19 _ _ Q4, _, rfl, ?_⟩
      refine ⟨by show 4 ≤ sizeLine; decide, fun lf nf => ?_⟩
      obtain ⟨H20, e20, s20, g20⟩ := new_ex nf (.lst (([t.has kk ll && alF m N kk ll, t.has kk ll && !alF m N kk ll, t.has kk ll != alF m (N + 1) kk ll, !alF m N kk ll] : List Bool).map V.bl))
      rw [show upd H19 lf (.lst [.bl (id (t.has kk ll && alF m N kk ll)), .bl (id (t.has kk ll && !alF m N kk ll)), .bl (id (t.has kk ll != alF m (N + 1) kk ll)), .bl (id (!alF m N kk ll))]) = H20 from e20]
      obtain ⟨hh, ehh⟩ : ∃ hh : Bool, hh = t.has kk ll := ⟨_, rfl⟩
      rw [← ehh] at g20 ⊢
      refine ⟨_, rfl, ?_⟩
      refine via (t := tAndV _ _) (fun v H' => H20 = H' ∧ v = .bl (hh && decide (0 ≤ b))) (fun v H' hv => ?_) (fun Q' k' => ?_)
      rotate_left
      · refine ⟨_, rfl, _, rfl, ?_⟩
        cases hh
        · exact iteF (k' _ _ ⟨rfl, rfl⟩)
        · exact iteT ⟨_, rfl, _, _, rfl, rfl, k' _ _ ⟨rfl, rfl⟩⟩
      obtain ⟨rfl, rfl⟩ := hv
      refine via (t := tAndV _ _) (fun v H' => H20 = H' ∧ v = .bl (hh && decide (b < 0))) (fun v H' hv => ?_) (fun Q' k' => ?_)
      rotate_left
      · refine ⟨_, rfl, _, rfl, ?_⟩
        cases hh
        · exact iteF (k' _ _ ⟨rfl, rfl⟩)
        · exact iteT ⟨_, rfl, _, _, rfl, rfl, k' _ _ ⟨rfl, rfl⟩⟩
      obtain ⟨rfl, rfl⟩ := hv
      refine ⟨_, rfl, _, rfl, _, _, rfl, rfl, rfl, _, rfl, _, _, rfl, rfl, by show 4 ≤ sizeLine; decide, fun lg ng => ?_⟩
      obtain ⟨H21, e21, s21, g21⟩ := new_ex ng (.lst (([hh && decide (0 ≤ b), hh && decide (b < 0), !decide (V.bl hh = V.bl (decide (b > 0))), decide (b < 0)] : List Bool).map V.bl))
      rw [show upd H20 lg (.lst [.bl (hh && decide (0 ≤ b)), .bl (hh && decide (b < 0)), .bl (!decide (V.bl hh = V.bl (decide (b > 0)))), .bl (decide (b < 0))]) = H21 from e21]
      have b00 : decide (N ≤ mn) = decide (0 ≤ b) := decide_eq_decide.mpr (by omega)
      have b01 : decide (N + 1 ≤ mn) = decide (b > 0) := decide_eq_decide.mpr (by omega)
      have b02 : decide (b < 0) = !decide (0 ≤ b) := by
        by_cases h : 0 ≤ b
        · rw [decide_eq_true h, decide_eq_false (show ¬ b < 0 by omega)]; rfl
        · rw [decide_eq_false h, decide_eq_true (show b < 0 by omega)]; rfl
      have eL : ([hh && alF m N kk ll, hh && !alF m N kk ll, hh != alF m (N + 1) kk ll, !alF m N kk ll] : List Bool) = [hh && decide (0 ≤ b), hh && decide (b < 0), !decide (V.bl hh = V.bl (decide (b > 0))), decide (b < 0)] := by
        rw [hal, hal, b00, b01, b02]
        have e3 : (!decide (V.bl hh = V.bl (decide (b > 0)))) = (hh != decide (b > 0)) := by cases hh <;> cases decide (b > 0) <;> rfl
        rw [e3]
      refine ⟨lB _, lB _, .lst (SqL.of (s21 _ _ g20)) (dp_bls _), .lst (SqL.of g21) (dp_bls _), rfl, rfl, _, rfl, ?_⟩
      rw [eqv_lB, decide_eq_true eL]
      have S21 : Same H17 H21 := (((((s18.trans S1).trans S2).trans S3).trans S4).trans s19).trans (s20.trans s21)
      exact iteF ⟨xx17.trans (XtN.sm S21), hb17.same S21, T17.ext S21, _, _, _, _, _, _, _, rfl⟩
    · obtain ⟨x16, hb16, T16, o10, o11, o12, o13, o14, o15, o16, rfl⟩ := hP
      have ZB16 := ZB.mv hb15 x16
      have ZA16 := ZA.mv hb15 x16
      have X16 := X15.mv hb15 x16
      have lPP : Nat.lcm Pp Pp = Pp := Nat.lcm_self Pp
      obtain ⟨dl, fl, il, _⟩ := ZB16.ins
      obtain ⟨dr, fr, ir, _⟩ := ZA16.ins
      refine ⟨_, rfl, _, rfl, z12, z13, dl, dr, fl, fr, rfl, rfl, il, ir, z12, z13, _, _, _, Pp, _, Pp, rfl, ZB16, ZA16, P0, P0, by rw [lPP]; omega, fun z21 H21 s21 Z21 => ?_⟩
      rw [lPP] at Z21
      have X21 := X16.same s21
      obtain ⟨d21, f21, i21, _⟩ := Z21.ins
      refine ⟨_, rfl, z21, d21, f21, _, rfl, i21, X21.tyx L I, nfC, z21, x, _, _, _, _, _, _, rfl, Z21, X21, fun b1 H22 s22 hb1 => ⟨b1, rfl, _, rfl, ?_⟩⟩
      have eb1 : b1 = true := hb1.mpr (by
        funext k l
        show ((t.has k l && alF m N k l) || (t.has k l && !alF m N k l)) = t.has k l
        cases t.has k l <;> cases alF m N k l <;> rfl)
      rw [eb1]
      have ZB22 := (ZB16.same s21).same s22
      have ZA22 := (ZA16.same s21).same s22
      obtain ⟨dl, fl, il, _⟩ := ZB22.ins
      obtain ⟨dr, fr, ir, _⟩ := ZA22.ins
      refine iteT ⟨_, rfl, _, rfl, z12, z13, dl, dr, fl, fr, rfl, rfl, il, ir, z12, z13, _, _, _, Pp, _, Pp, rfl, ZB22, ZA22, P0, P0, by rw [lPP]; omega, fun z23 H23 s23 Z23 => ?_⟩
      rw [lPP] at Z23
      obtain ⟨d23, f23, i23, _⟩ := Z23.ins
      refine ⟨z23, d23, f23, rfl, i23, z23, _, _, Pp, rfl, Z23, P0, by omega, fun b2 H24 s24 hb2 => ⟨b2, rfl, ?_⟩⟩
      have eb2 : b2 = false := by
        cases b2
        · rfl
        · obtain ⟨k, l, h⟩ := hb2.mp rfl
          have h : ((t.has k l && alF m N k l) && (t.has k l && !alF m N k l)) = true := h
          revert h
          cases t.has k l <;> cases alF m N k l <;> decide
      rw [eb2]
      have S24 := ((s21.trans s22).trans s23).trans s24
      exact q _ (XX15.trans (x16.trans (XtN.sm S24))) (hb16.same S24) (T16.ext S24)
end
end FH

set_option Elab.async false
set_option linter.all false
set_option maxRecDepth 100000
set_option maxHeartbeats 1000000
namespace FH
open PySem L2
local macro_rules | `(tactic| walk_at "seq") => `(tactic| first | assumption | exact SqL.of (by assumption) | exact SqT.of (by assumption) | exact SqL.of upd_same | exact SqT.of upd_same)
local macro_rules | `(tactic| walk_at "at") => `(tactic| first | exact atI_nat (j := 0) rfl | exact atI_nat (j := 1) rfl | exact atI_nat (j := 2) rfl | exact atI_nat (by assumption) | assumption)
local macro_rules | `(tactic| walk_at "ar") => `(tactic| first | omega | exact ⟨by omega, by omega⟩ | exact Or.inl ⟨by omega, by omega⟩ | exact Or.inr ⟨by omega, by omega⟩ | exact ⟨by decide, by decide⟩ | exact Or.inr ⟨by decide, by decide⟩ | exact Or.inl ⟨by decide, by decide⟩ | exact ⟨by decide, by decide, by omega⟩ | exact ⟨by decide, by decide, by decide⟩)
local macro_rules | `(tactic| walk_at "r") => `(tactic| repeat (first
  | refine ⟨_, rfl, ?_⟩
  | refine ⟨_, _, rfl, rfl, ?_⟩
  | refine ⟨_, _, _, _, rfl, rfl, by walk_at "seq", by walk_at "at", ?_⟩
  | refine ⟨_, _, _, _, rfl, rfl, by assumption, rfl, ?_⟩
  | refine ⟨_, _, rfl, Or.inl (by walk_at "seq"), ?_⟩
  | refine Or.inl ⟨_, rfl, ?_⟩
  | refine Or.inr ⟨_, rfl, ?_⟩
  | refine And.intro (by walk_at "ar") ?_))
open Pr LamX
set_option pp.maxSteps 900
def spLaw (K : PySem.W.Frag) (T : List (Addr × Str)) : Sp := fun vs H Q _ => ∃ (a : Addr) (ns : List Int), vs = [.ref a] ∧ SqL K H a (ns.map V.int) ∧ ns.length ≤ 63 ∧ Tabs T H ∧ ∀ H', Q (.bl true) H'
theorem shownB (a b : Bool) : (lB [a, b]).showable = true ∧ (lB [a, b]).hasDict = false ∧ (lB [a, b]).depth ≤ 40 ∧ (lB [a, b]).shown.length ≤ sizeLine := by
  cases a <;> cases b <;> exact ⟨by decide +kernel, by decide +kernel, by decide +kernel, by decide +kernel⟩
section
variable {P : Program} {w : World} {K : PySem.W.Frag} {mg : Str → Option Value} {base : Heap} {C CE : Addr} {mc : Value}
theorem sc_law : FnScope ["_law_script", "_law_deal_here", "_law_turn", "_law_table_here", "_law_other", "_law_some", "_law_more", "_law_again", "_law_k", "_law_l", "_law_crowd", "_law_here", "_law_there", "_law_beside"] ["_law_script"] (defScope (topS 35)) := ⟨rfl, rfl, rfl, by decide +kernel, rfl, by decide +kernel, by decide +kernel⟩
theorem ok_law {f fL fD fT fG fE fH fI fB fan fxo fcn fiv : Addr} {fd fdL fdD fdT fdG fdE fdH fdI fdB fdan fdxo fdcn fdiv : FuncData} {Tt : List (Addr × Str)} (F : Fun K "law" "law" (topS 35) f fd) (T : Bt mg) (L : CrC K mg C)
    (FL : Fun K "_law_deal" "_law_deal" (topS 26) fL fdL) (bL : Binds K fdL ["_law_script", "_law_base"] []) (gL : mg "_law_deal" = some (.ref fL)) (GL : FnOk P w K mg base CX0 12 fL fdL ["_law_script", "_law_base"] (spDeal K))
    (FD : Fun K "_law_draw" "_law_draw" (topS 27) fD fdD) (bD : Binds K fdD ["_law_deal_here", "_law_many"] []) (gD : mg "_law_draw" = some (.ref fD)) (GD : FnOk P w K mg base CX0 12 fD fdD ["_law_deal_here", "_law_many"] spDraw)
    (FT : Fun K "_law_table" "_law_table" (topS 30) fT fdT) (bT : Binds K fdT ["_law_deal_here", "_law_most", "_law_far"] []) (gT : mg "_law_table" = some (.ref fT)) (GT : FnOk P w K mg base CX0 12 fT fdT ["_law_deal_here", "_law_most", "_law_far"] spTable)
    (FG : Fun K "_law_great" "_law_great" (topS 33) fG fdG) (bG : Binds K fdG ["_law_deal_here"] []) (gG : mg "_law_great" = some (.ref fG)) (GG : FnOk P w K mg base CX0 12 fG fdG ["_law_deal_here"] spGr)
    (FE : Fun K "_law_edge_right" "_law_edge_right" (topS 34) fE fdE) (bE : Binds K fdE ["_law_deal_here", "_law_table_here", "_law_some"] []) (gE : mg "_law_edge_right" = some (.ref fE)) (GE : FnOk P w K mg base CX0 12 fE fdE ["_law_deal_here", "_law_table_here", "_law_some"] (spEdge C Tt))
    (FH : Fun K "_law_has" "_law_has" (topS 32) fH fdH) (bH : Binds K fdH ["_law_table_here", "_law_k", "_law_l"] []) (gH : mg "_law_has" = some (.ref fH)) (GH : FnOk P w K mg base CX0 12 fH fdH ["_law_table_here", "_law_k", "_law_l"] spHas)
    (GI : FnOk P w K mg base (L2.CX P w) 6 fI fdI ["self", "starts", "periods", "rows"] (spInit C CE)) (bI : Binds K fdI ["self", "starts", "periods", "rows"] []) (MK : Mk K C fI)
    (GB : FnOk P w K mg base CX0 12 fB fdB ["self", "kind"] (sdBes C Tt)) (bB : Binds K fdB ["self", "kind"] []) (hmB : Meth K C "beside" fB)
    (Gan : FnOk P w K mg base CX0 12 fan fdan ["self", "other"] (sdBin C (fun a b => a && b))) (ban : Binds K fdan ["self", "other"] []) (san : PySem.W.findIn K (.ref C) "__and__" = some (some (.ref fan))) (ian : PySem.W.isFn K (.ref fan) = true)
    (Gxo : FnOk P w K mg base CX0 12 fxo fdxo ["self", "other"] (sdBin C (fun a b => a != b))) (bxo : Binds K fdxo ["self", "other"] []) (sxo : PySem.W.findIn K (.ref C) "__xor__" = some (some (.ref fxo))) (ixo : PySem.W.isFn K (.ref fxo) = true)
    (Gcn : FnOk P w K mg base CX0 12 fcn fdcn ["self", "value"] (sdCon C)) (bcn : Binds K fdcn ["self", "value"] []) (scn : PySem.W.findIn K (.ref C) "__contains__" = some (some (.ref fcn))) (icn : PySem.W.isFn K (.ref fcn) = true)
    (Giv : FnOk P w K mg base CX0 12 fiv fdiv ["self"] (sdInv C)) (biv : Binds K fdiv ["self"] []) (siv : PySem.W.findIn K (.ref C) "__invert__" = some (some (.ref fiv))) (iiv : PySem.W.isFn K (.ref fiv) = true)
    (cCC : PySem.W.selfFirst K C = true) :
    FnG P w K mg base 13 f fd ["_law_script"] (spLaw K Tt) := by
  refine F.okG sc_law (fun vs H Q E h => ?_) (fun cdv A outer s H vs Q E hg hr h => ?_)
  · obtain ⟨a, ns, rfl, _⟩ := h
    rfl
  · obtain ⟨a, ns, rfl, ha, hn, hT, q⟩ := h
    have hrI : Room 7 _ := hr.mono (by decide)
    refine ⟨_, (pss_cons (ps_set (i := 1) sc_law.nd rfl (by first | exact Or.inl rfl | exact Or.inr rfl) (pe_call GL hr (by rfl) gL FL.kp bL .nil pass0 (pa_cons (pv 0) (pa_cons pe_int pa_nil))))
  (pss_cons (ps_for PassesOwn.never rfl (pi_range1 (by rfl) T.m_range (pa_cons pe_int pa_nil)) (pg_name (i := 2) sc_law.nd rfl (by first | exact Or.inl rfl | exact Or.inr rfl)) (pss_cons (ps_par (i := 3) (j := 4) rfl sc_law.nd rfl rfl (by decide) rfl rfl (pa_cons (pe_call GT hr (by rfl) gT FT.kp bT .nil pass0 (pa_cons (pv 1) (pa_cons pe_int (pa_cons pe_int pa_nil)))) (pa_cons (pe_call GT hr (by rfl) gT FT.kp bT .nil pass0 (pa_cons (pv 1) (pa_cons pe_int (pa_cons pe_int pa_nil)))) pa_nil)) (by rfl))
  (pss_cons (ps_if (pt_not (pt_val (pe_call GE hr (by rfl) gE FE.kp bE .nil pass0 (pa_cons (pv 1) (pa_cons (pv 3) (pa_cons (pe_make MK GI hrI (by rfl) L.mgC bI .nil passF (pa_cons (pe_ix (ixTK (K := K) rfl) (pv 3) pe_int (fun _ _ => rfl)) (pa_cons (pe_ix (ixTK (K := K) rfl) (pv 3) pe_int (fun _ _ => rfl)) (pa_cons (pe_ix (ixTK (K := K) rfl) (pv 3) pe_int (fun _ _ => rfl)) pa_nil)))) pa_nil)))))) (pss_one (ps_ret pe_bl)) pss_nil)
  (pss_cons (ps_par (i := 5) (j := 6) rfl sc_law.nd rfl rfl (by decide) rfl rfl (pa_cons (pe_make MK GI hrI (by rfl) L.mgC bI .nil passF (pa_cons (pe_ix (ixTK (K := K) rfl) (pv 3) pe_int (fun _ _ => rfl)) (pa_cons (pe_ix (ixTK (K := K) rfl) (pv 3) pe_int (fun _ _ => rfl)) (pa_cons (pe_ix (ixTK (K := K) rfl) (pv 3) pe_int (fun _ _ => rfl)) pa_nil)))) (pa_cons (pe_make MK GI hrI (by rfl) L.mgC bI .nil passF (pa_cons (pe_ix (ixTK (K := K) rfl) (pv 4) pe_int (fun _ _ => rfl)) (pa_cons (pe_ix (ixTK (K := K) rfl) (pv 4) pe_int (fun _ _ => rfl)) (pa_cons (pe_ix (ixTK (K := K) rfl) (pv 4) pe_int (fun _ _ => rfl)) pa_nil)))) pa_nil)) (by rfl))
  (pss_one (ps_for PassesOwn.never rfl (pi_range1 (by rfl) T.m_range (pa_cons pe_int pa_nil)) (pg_name (i := 7) sc_law.nd rfl (by first | exact Or.inl rfl | exact Or.inr rfl)) (pss_cons (ps_par (i := 8) (j := 9) rfl sc_law.nd rfl rfl (by decide) rfl rfl (pa_cons (pe_call GG hr (by rfl) gG FG.kp bG .nil pass0 (pa_cons (pv 1) pa_nil)) (pa_cons (pe_call GG hr (by rfl) gG FG.kp bG .nil pass0 (pa_cons (pv 1) pa_nil)) pa_nil)) (by rfl))
  (pss_one (ps_for PassesOwn.never rfl (piSK (K := K) rfl (pe_tup (pa_cons (pe_tup (pa_cons (pv 8) (pa_cons (pv 9) pa_nil))) (pa_cons (pe_tup (pa_cons (pv 8) (pa_cons (pe_call GD hr (by rfl) gD FD.kp bD .nil pass0 (pa_cons (pv 1) (pa_cons pe_int pa_nil))) pa_nil))) (pa_cons (pe_tup (pa_cons (pe_call GD hr (by rfl) gD FD.kp bD .nil pass0 (pa_cons (pv 1) (pa_cons pe_int pa_nil))) (pa_cons (pv 9) pa_nil))) (pa_cons (pe_tup (pa_cons (pe_op op_pow pe_int pe_int) (pa_cons (pe_op op_pow pe_int pe_int) pa_nil))) pa_nil)))))) (pg_name (i := 10) sc_law.nd rfl (by first | exact Or.inl rfl | exact Or.inr rfl)) (pss_cons (ps_par (i := 11) (j := 12) rfl sc_law.nd rfl rfl (by decide) rfl rfl (pa_cons (pe_call GH hr (by rfl) gH FH.kp bH .nil pass0 (pa_cons (pv 3) (pa_cons (pe_ix (ixTK (K := K) rfl) (pv 10) pe_int (fun _ _ => rfl)) (pa_cons (pe_ix (ixTK (K := K) rfl) (pv 10) pe_int (fun _ _ => rfl)) pa_nil)))) (pa_cons (pe_call GH hr (by rfl) gH FH.kp bH .nil pass0 (pa_cons (pv 4) (pa_cons (pe_ix (ixTK (K := K) rfl) (pv 10) pe_int (fun _ _ => rfl)) (pa_cons (pe_ix (ixTK (K := K) rfl) (pv 10) pe_int (fun _ _ => rfl)) pa_nil)))) pa_nil)) (by rfl))
  (pss_cons (ps_if (PW.pt (pw_or (pt_cmpR op_ne (pe_callB call_reprB (by rfl) T.m_repr (by decide +kernel) (pa_cons (pe_cmpR (op_inOwn Gcn hr bcn pass0 scn icn) (pv 10) (pv 5) (by rfl)) pa_nil)) (pe_callB call_reprB (by rfl) T.m_repr (by decide +kernel) (pa_cons (pv 11) pa_nil)) (nomark _)) (pw_or1 (pt_cmpR op_ne (pe_callB call_reprB (by rfl) T.m_repr (by decide +kernel) (pa_cons (pe_cmpR (op_inOwn Gcn hr bcn pass0 scn icn) (pv 10) (pe_un (un_invOwn Giv hr biv pass0 siv iiv) (pv 6)) (by rfl)) pa_nil)) (pe_callB call_reprB (by rfl) T.m_repr (by decide +kernel) (pa_cons (pe_not (pv 12)) pa_nil)) (nomark _))))) (pss_one (ps_ret pe_bl)) pss_nil)
  (pss_cons (ps_if (pt_cmpR op_ne (pe_callB (call_reprD hr hg) (by rfl) T.m_repr (by decide +kernel) (pa_cons (pe_lst (pa_cons (pe_cmpR (op_inOwn Gcn hr bcn pass0 scn icn) (pv 10) (pe_op (op_binOwn (op := .BitAnd) Gan hr ban pass0 san ian cCC) (pv 5) (pv 6)) (by rfl)) (pa_cons (pe_cmpR (op_inOwn Gcn hr bcn pass0 scn icn) (pv 10) (pe_op (op_binOwn (op := .BitXor) Gxo hr bxo pass0 sxo ixo cCC) (pv 5) (pv 6)) (by rfl)) pa_nil))) pa_nil)) (pe_callB (call_reprD hr hg) (by rfl) T.m_repr (by decide +kernel) (pa_cons (pe_lst (pa_cons (pe_and (pv 11) (pe_one (pv 12))) (pa_cons (pe_cmpR op_ne (pv 11) (pv 12) (nomark _)) pa_nil))) pa_nil)) (nomark _)) (pss_one (ps_ret pe_bl)) pss_nil)
  (pss_cons (ps_set (i := 13) sc_law.nd rfl (by first | exact Or.inl rfl | exact Or.inr rfl) (pe_and (pe_cmpR op_gt (pe_ix (ixTK (K := K) rfl) (pv 10) pe_int (fun _ _ => rfl)) pe_int (nomark _)) (pe_one (pe_call GH hr (by rfl) gH FH.kp bH .nil pass0 (pa_cons (pv 3) (pa_cons (pe_op op_sub (pe_ix (ixTK (K := K) rfl) (pv 10) pe_int (fun _ _ => rfl)) pe_int) (pa_cons (pe_op op_add (pe_ix (ixTK (K := K) rfl) (pv 10) pe_int (fun _ _ => rfl)) pe_int) pa_nil)))))))
  (pss_one (ps_if (pt_cmpR op_ne (pe_callB call_reprB (by rfl) T.m_repr (by decide +kernel) (pa_cons (pe_cmpR (op_inOwn Gcn hr bcn pass0 scn icn) (pv 10) (pe_meth (pv 5) L.cl hmB GB hr bB .nil pass0 (pa_cons pe_str pa_nil)) (by rfl)) pa_nil)) (pe_callB call_reprB (by rfl) T.m_repr (by decide +kernel) (pa_cons (pv 13) pa_nil)) (nomark _)) (pss_one (ps_ret pe_bl)) pss_nil)))))))))))))))
  (pss_one (ps_ret pe_bl)))), ?_⟩
    refine ⟨_, rfl, a, ns, rfl, ha, hn, fun d c0 H1 s1 nd nc hb1 => ?_⟩
    refine ⟨4, rfl, by omega, by omega, for_range (lo := 0) (n := 4) (fun i σ H2 => BoxAt H2 d c0 ∧ Tabs Tt H2 ∧ ∃ o2 o3 o4 o5 o6 o7 o8 o9 o10 o11 o12 o13, σ = [some (.ref a), some (.ref d), o2, o3, o4, o5, o6, o7, o8, o9, o10, o11, o12, o13])
      ⟨hb1, hT.ext s1, none, none, none, none, none, none, none, none, none, none, none, none, rfl⟩ (fun i σ H2 hi hP => ?_) (fun σ H2 hP => q _)⟩
    obtain ⟨hb2, T2, o2, o3, o4, o5, o6, o7, o8, o9, o10, o11, o12, o13, rfl⟩ := hP
    clear hb1 s1 nd nc ha hT
    -- two tables
    refine ⟨_, rfl, d, c0, 8, 6, rfl, hb2, by omega, by omega, by omega, by omega, fun ta ts tp tr s0 s1 p0 p1 rows H3 x3 hb3 ht hts htp htr nrd nrc s00 s01 s10 s11 p00 p01 p10 p11 rlen rall => ?_⟩
    obtain ⟨t, TA⟩ := tab8_of (mm := 8) (ff := 6) ht hts htp htr nrd nrc s00 (by omega) s10 (by omega) p00 (by omega) p10 (by omega) rlen rall
    have T3 := tabs_xt T2 hb2 x3
    clear ht hts htp htr nrd nrc s00 s01 s10 s11 p00 p01 p10 p11 rlen rall x3 hb2 T2
    refine ⟨_, rfl, d, c0, 8, 2, rfl, hb3, by omega, by omega, by omega, by omega, fun tb ts tp tr s0 s1 p0 p1 rows H4 x4 hb4 ht hts htp htr nrd nrc s00 s01 s10 s11 p00 p01 p10 p11 rlen rall => ⟨_, _, rfl, ?_⟩⟩
    obtain ⟨u, TU⟩ := tab8_of (mm := 8) (ff := 2) ht hts htp htr nrd nrc s00 (by omega) s10 (by omega) p00 (by omega) p10 (by omega) rlen rall
    have T4 := tabs_xt T3 hb3 x4
    have TA4 := TA.mv hb3 (XtN.xt x4)
    clear ht hts htp htr nrd nrc s00 s01 s10 s11 p00 p01 p10 p11 rlen rall x4 hb3 T3 TA
    have ta0 := TA4.a0
    have ta1 := TA4.a1
    have ta2 := TA4.b0
    have ta3 := TA4.b1
    have tu0 := TU.a0
    have tu1 := TU.a1
    have tu2 := TU.b0
    have tu3 := TU.b1
    have Ot := TA4.ok
    have Ou := TU.ok
    -- the edge
    obtain ⟨cs, cp, cr, g1, g2, g3, g4⟩ := TA4.tb.args
    refine ⟨_, rfl, _, rfl, _, rfl, ta, _, 0, _, rfl, rfl, SqT.of g1, atI_nat (j := 0) rfl, _, rfl, ta, _, 1, _, rfl, rfl, SqT.of g1, atI_nat (j := 1) rfl, _, rfl, ta, _, 2, _, rfl, rfl, SqT.of g1, atI_nat (j := 2) rfl, fun x0 dx nx ndx nex => ?_⟩
    refine init_tab nx ndx Ot (by omega) (by omega) g2 g3 g4 fun H5 s5 cr5 => ⟨rfl, ?_⟩
    clear g1 g2 g3 g4 nx ndx nex
    refine ⟨d, c0, ta, x0, t, rfl, hb4.same s5, TA4.mv hb4 (XtN.sm s5), TA4.std cr5, T4.ext s5, fun H6 xx6 hb6 T6 => ⟨_, rfl, iteF ?_⟩⟩
    have X46 : XtN d c0 H4 H6 := (XtN.sm s5).trans xx6
    have TA6 := TA4.mv hb4 X46
    have TU6 := TU.mv hb4 X46
    clear TA4 TU hb4 T4 xx6 s5 cr5 X46
    -- the two sets
    obtain ⟨cs, cp, cr, g1, g2, g3, g4⟩ := TA6.tb.args
    refine ⟨_, rfl, ta, _, 0, _, rfl, rfl, SqT.of g1, atI_nat (j := 0) rfl, _, rfl, ta, _, 1, _, rfl, rfl, SqT.of g1, atI_nat (j := 1) rfl, _, rfl, ta, _, 2, _, rfl, rfl, SqT.of g1, atI_nat (j := 2) rfl, fun x dx nx ndx nex => ?_⟩
    refine init_tab nx ndx Ot (by omega) (by omega) g2 g3 g4 fun H7 s7 cr7 => ⟨rfl, ?_⟩
    have X7 := TA6.std cr7
    have TU7 := TU6.mv hb6 (XtN.sm s7)
    clear g1 g2 g3 g4 nx ndx nex cr7
    obtain ⟨cs, cp, cr, g1, g2, g3, g4⟩ := TU7.tb.args
    refine ⟨_, rfl, tb, _, 0, _, rfl, rfl, SqT.of g1, atI_nat (j := 0) rfl, _, rfl, tb, _, 1, _, rfl, rfl, SqT.of g1, atI_nat (j := 1) rfl, _, rfl, tb, _, 2, _, rfl, rfl, SqT.of g1, atI_nat (j := 2) rfl, fun y dy ny ndy ney => ?_⟩
    refine init_tab ny ndy Ou (by omega) (by omega) g2 g3 g4 fun H8 s8 cr8 => ⟨rfl, _, _, rfl, ?_⟩
    have Y8 := TU7.std cr8
    have S8 := s7.trans s8
    have X8 := X7.same s8
    have hb8 := hb6.same S8
    have T8 := T6.ext S8
    have TA8 := TA6.mv hb6 (XtN.sm S8)
    have TU8 := TU6.mv hb6 (XtN.sm S8)
    clear g1 g2 g3 g4 ny ndy ney cr8 S8 s7 s8 X7 TU7 TA6 TU6 hb6 T6
    obtain ⟨PX, ePX⟩ : ∃ PX, PX = t.p0 * t.p1 := ⟨_, rfl⟩
    obtain ⟨PY, ePY⟩ : ∃ PY, PY = u.p0 * u.p1 := ⟨_, rfl⟩
    have hPX := TA8.per
    have hPY := TU8.per
    rw [← ePX] at X8 hPX
    rw [← ePY] at Y8 hPY
    have PX0 : 0 < PX := hPX.1
    have PX1 : PX ≤ 36 := hPX.2
    have PY0 : 0 < PY := hPY.1
    have PY1 : PY ≤ 4 := hPY.2
    have PL0 : 0 < Nat.lcm PX PY := Nat.lcm_pos PX0 PY0
    have PL1 : Nat.lcm PX PY ≤ 144 := Nat.le_trans (lcm_le PX PY) (Nat.mul_le_mul PX1 PY1)
    -- eight times
    refine ⟨8, rfl, by omega, by omega, for_range (lo := 0) (n := 8) (fun i2 σ H2 => XtN d c0 H8 H2 ∧ BoxAt H2 d c0 ∧ Tabs Tt H2 ∧ ∃ o2 o7 o8 o9 o10 o11 o12 o13, σ = [some (.ref a), some (.ref d), o2, some (.ref ta), some (.ref tb), some (.ref x), some (.ref y), o7, o8, o9, o10, o11, o12, o13])
      ⟨XtN.refl, hb8, T8, _, _, _, _, _, _, _, _, rfl⟩ (fun i2 σ H9 hi2 hP => ?_) (fun σ H9 hP => ?_)⟩
    rotate_left
    · obtain ⟨_, hb9, T9, o2, o7, o8, o9, o10, o11, o12, o13, rfl⟩ := hP
      exact ⟨hb9, T9, _, _, _, _, _, _, _, _, _, _, _, _, rfl⟩
    obtain ⟨x9, hb9, T9, o2, o7, o8, o9, o10, o11, o12, o13, rfl⟩ := hP
    have two : ∀ x y : V, [x, y].length ≤ sizeLine := fun _ _ => by show 2 ≤ sizeLine; decide
    refine ⟨_, rfl, d, c0, rfl, hb9, fun kn H10 x10 hb10 => ⟨_, rfl, d, c0, rfl, hb10, fun ln H11 x11 hb11 => ⟨_, _, rfl, ?_⟩⟩⟩
    have x811 := (x9.trans (XtN.xt x10)).trans (XtN.xt x11)
    have T11 := tabs_xt (tabs_xt T9 hb9 x10) hb10 x11
    clear x9 x10 x11 hb9 hb10 T9
    -- four crowds
    refine ⟨_, rfl, _, rfl, two _ _, fun q1 m1 => ?_⟩
    obtain ⟨G1, E1, S1, Q1⟩ := new_ex m1 (.tup [.int (kn : Nat), .int (ln : Nat)])
    rw [E1]
    refine ⟨_, rfl, _, rfl, d, c0, 12, rfl, hb11.same S1, by omega, by omega, fun r1 G2 r10 r11 x12 hb12 => ⟨two _ _, fun q2 m2 => ?_⟩⟩
    obtain ⟨r1, rfl⟩ := Int.eq_ofNat_of_zero_le r10
    obtain ⟨G3, E3, S3, Q3⟩ := new_ex m2 (.tup [.int (kn : Nat), .int (r1 : Nat)])
    rw [E3]
    refine ⟨_, rfl, d, c0, 12, rfl, hb12.same S3, by omega, by omega, fun r2 G4 r20 r21 x13 hb13 => ⟨_, rfl, two _ _, fun q3 m3 => ?_⟩⟩
    obtain ⟨r2, rfl⟩ := Int.eq_ofNat_of_zero_le r20
    obtain ⟨G5, E5, S5, Q5⟩ := new_ex m3 (.tup [.int (r2 : Nat), .int (ln : Nat)])
    rw [E5]
    refine ⟨_, _, rfl, rfl, ⟨by decide, by decide, by decide⟩, _, _, rfl, rfl, ⟨by decide, by decide, by decide⟩, two _ _, fun q4 m4 => ?_⟩
    obtain ⟨G6, E6, S6, Q6⟩ := new_ex m4 (.tup [.int ((10 ^ 30 : Nat) : Int), .int ((10 ^ 30 : Nat) : Int)])
    rw [show upd G5 q4 (.tup [.int ((10 : Int) ^ Int.toNat 30), .int ((10 : Int) ^ Int.toNat 30)]) = G6 by rw [← E6]; exact congrArg (fun z => upd G5 q4 (.tup [.int z, .int z])) (by decide)]
    refine ⟨by show 4 ≤ sizeLine; decide, fun tt ntt => ?_⟩
    obtain ⟨H12, e12, s12, g12⟩ := new_ex ntt (.tup [.ref q1, .ref q2, .ref q3, .ref q4])
    rw [e12]
    have bb1 := (hb11.same S1).tup Q1
    have bb3 := (hb12.same S3).tup Q3
    have hb12' : BoxAt H12 d c0 := ((hb13.same S5).same S6).same s12
    have x12a : XtN d c0 G3 H12 := (((XtN.xt x13).trans (XtN.sm S5)).trans (XtN.sm S6)).trans (XtN.sm s12)
    have x12b : XtN d c0 G1 H12 := ((XtN.xt x12).trans (XtN.sm S3)).trans x12a
    have x12c : XtN d c0 H8 H12 := (x811.trans (XtN.sm S1)).trans x12b
    have c1 := x12b _ _ bb1.1 bb1.2 Q1 (fun _ z => by cases z)
    have c2 := x12a _ _ bb3.1 bb3.2 Q3 (fun _ z => by cases z)
    have c3 := s12 _ _ (S6 _ _ Q5)
    have c4 := s12 _ _ Q6
    have T12 : Tabs Tt H12 := (((tabs_xt ((tabs_xt (T11.ext S1) (hb11.same S1) x12).ext S3) (hb12.same S3) x13).ext S5).ext S6).ext s12
    have X12 := X8.mv hb8 x12c
    have Y12 := Y8.mv hb8 x12c
    have TA12 := TA8.mv hb8 x12c
    have TU12 := TU8.mv hb8 x12c
    have all4 : ∀ v ∈ [V.ref q1, V.ref q2, V.ref q3, V.ref q4], ∃ (ac : Addr) (kk ll : Nat), v = .ref ac ∧ H12 ac = some (.tup [.int (kk : Nat), .int (ll : Nat)]) := by
      intro v hv
      simp only [List.mem_cons, List.not_mem_nil, or_false] at hv
      rcases hv with rfl | rfl | rfl | rfl
      · exact ⟨_, _, _, rfl, c1⟩
      · exact ⟨_, _, _, rfl, c2⟩
      · exact ⟨_, _, _, rfl, c3⟩
      · exact ⟨_, _, _, rfl, c4⟩
    clear c1 c2 c3 c4 bb1 bb3 E1 E3 E5 E6 m1 m2 m3 m4 Q1 Q3 Q5 Q6 S1 S3 S5 S6 x12 x13 hb11 hb12 hb13 T11 x811 x12a x12b e12 ntt s12 r10 r11 r20 r21
    refine ⟨tt, _, rfl, .inr ⟨SqT.of g12, ?_⟩⟩
    refine for_tup (K := K) (a := tt) (xs := [V.ref q1, V.ref q2, V.ref q3, V.ref q4]) (fun j σ H7 => ExtN H12 H7 ∧ Tabs Tt H7 ∧ ∃ o2 o7 o8 o9 o10 o11 o12 o13, σ = [some (.ref a), some (.ref d), o2, some (.ref ta), some (.ref tb), some (.ref x), some (.ref y), o7, o8, o9, o10, o11, o12, o13])
      ?_ (fun j σ H7 _ hp => SqT.of (hp.1 _ _ g12 (fun _ z => by cases z))) (fun j v σ H13 hx hP => ?_) (fun σ H13 hP => ?_)
    · exact ⟨ExtN.refl _, T12, _, _, _, _, _, _, _, _, rfl⟩
    rotate_left
    · obtain ⟨e13, T13, o2, o7, o8, o9, o10, o11, o12, o13, rfl⟩ := hP
      exact ⟨x12c.trans (XtN.ex e13), hb12'.extN e13, T13, _, _, _, _, _, _, _, _, rfl⟩
    obtain ⟨e13, T13, o2, o7, o8, o9, o10, o11, o12, o13, rfl⟩ := hP
    obtain ⟨ac, kk, ll, rfl, hac0⟩ := all4 v (List.mem_of_getElem? hx)
    have hac := e13 _ _ hac0 (fun _ z => by cases z)
    have X13 := X12.extN e13
    have Y13 := Y12.extN e13
    have TA13 := (TA12.mv hb12' (XtN.ex e13)).tb
    have TU13 := (TU12.mv hb12' (XtN.ex e13)).tb
    refine ⟨_, rfl, _, rfl, ac, _, 0, _, rfl, rfl, SqT.of hac, atI_nat (j := 0) rfl, _, rfl, ac, _, 1, _, rfl, rfl, SqT.of hac, atI_nat (j := 1) rfl, ta, kk, ll, t, rfl, TA13, Ot, by omega, ?_⟩
    refine ⟨_, rfl, _, rfl, ac, _, 0, _, rfl, rfl, SqT.of hac, atI_nat (j := 0) rfl, _, rfl, ac, _, 1, _, rfl, rfl, SqT.of hac, atI_nat (j := 1) rfl, tb, kk, ll, u, rfl, TU13, Ou, by omega, _, _, rfl, ?_⟩
    obtain ⟨hh, ehh⟩ : ∃ hh : Bool, hh = t.has kk ll := ⟨_, rfl⟩
    obtain ⟨th, eth⟩ : ∃ th : Bool, th = u.has kk ll := ⟨_, rfl⟩
    rw [← ehh, ← eth]
    -- in the set; in all others of the other
    obtain ⟨dx, fx, ix, _⟩ := X13.ins
    refine ⟨_, rfl, _, rfl, x, dx, fx, rfl, ix, x, ac, t.has, 8, PX, kk, ll, rfl, X13, PX0, by omega, hac, _, rfl, _, rfl, _, rfl, _, rfl, rfl, _, rfl, ?_⟩
    rw [show decide (V.str (PyData.bool (id (t.has kk ll))).shown = V.str (PyData.bool hh).shown) = true from decide_eq_true (by rw [ehh]; rfl)]
    obtain ⟨dy, fy, iy, _⟩ := Y13.ins
    refine iteF ⟨_, rfl, _, rfl, y, dy, fy, rfl, iy, y, _, 8, PY, rfl, Y13, PY0, by omega, fun z14 H14 s14 Z14 => ?_⟩
    have hac14 := s14 _ _ hac
    obtain ⟨dz, fz, iz, _⟩ := Z14.ins
    refine ⟨z14, dz, fz, rfl, iz, z14, ac, _, 8, PY, kk, ll, rfl, Z14, PY0, by omega, hac14, _, rfl, _, rfl, _, rfl, _, rfl, _, rfl, rfl, _, rfl, ?_⟩
    rw [show decide (V.str (PyData.bool (id (!u.has kk ll))).shown = V.str (PyData.bool (!th)).shown) = true from decide_eq_true (by rw [eth]; rfl)]
    refine iteF ?_
    have X14 := X13.same s14
    have Y14 := Y13.same s14
    clear Z14 iz ix iy X13 Y13
    -- both, just one
    obtain ⟨dx, fx, ix, _⟩ := X14.ins
    obtain ⟨dy, fy, iy, _⟩ := Y14.ins
    refine ⟨_, rfl, _, rfl, _, rfl, x, y, dx, dy, fx, fy, rfl, rfl, ix, iy, x, y, _, _, 8, PX, 8, PY, rfl, X14, Y14, PX0, PY0, by show 8 + _ ≤ 1000; omega, fun z15 H15 s15 Z15 => ?_⟩
    have hac15 := s15 _ _ hac14
    obtain ⟨dz, fz, iz, _⟩ := Z15.ins
    refine ⟨z15, dz, fz, rfl, iz, z15, ac, _, _, _, kk, ll, rfl, Z15, PL0, by show 8 + _ ≤ 1000; omega, hac15, _, rfl, ?_⟩
    have X15 := X14.same s15
    have Y15 := Y14.same s15
    obtain ⟨dx, fx, ix, _⟩ := X15.ins
    obtain ⟨dy, fy, iy, _⟩ := Y15.ins
    refine ⟨_, rfl, _, rfl, _, rfl, x, y, dx, dy, fx, fy, rfl, rfl, ix, iy, x, y, _, _, 8, PX, 8, PY, rfl, X15, Y15, PX0, PY0, by show 8 + _ ≤ 1000; omega, fun z16 H16 s16 Z16 => ?_⟩
    have hac16 := s16 _ _ hac15
    obtain ⟨dz', fz', iz', _⟩ := Z16.ins
    refine ⟨z16, dz', fz', rfl, iz', z16, ac, _, _, _, kk, ll, rfl, Z16, PL0, by show 8 + _ ≤ 1000; omega, hac16, _, rfl, by show 2 ≤ sizeLine; decide, fun l17 n17 => ?_⟩
    obtain ⟨H17, e17, s17, g17⟩ := new_ex n17 (.lst (([hh && th, hh != th] : List Bool).map V.bl))
    rw [show upd H16 l17 (.lst [.bl (id (t.has kk ll && u.has kk ll)), .bl (id (t.has kk ll != u.has kk ll))]) = H17 by rw [← e17, ehh, eth]; rfl]
    obtain ⟨w1, w2, w3, w4⟩ := shownB (hh && th) (hh != th)
    refine ⟨.ref l17, lB [hh && th, hh != th], rfl, .lst (SqL.of g17) (dp_bls _), w1, w2, w3, w4, ?_⟩
    refine via (t := tAndV _ _) (fun v H' => H17 = H' ∧ v = .bl (hh && th)) (fun v H' hv => ?_) (fun Q' k' => ?_)
    rotate_left
    · refine ⟨_, rfl, _, rfl, ?_⟩
      cases hh
      · exact iteF (k' _ _ ⟨rfl, rfl⟩)
      · exact iteT ⟨_, rfl, k' _ _ ⟨rfl, rfl⟩⟩
    obtain ⟨rfl, rfl⟩ := hv
    refine ⟨_, rfl, _, rfl, rfl, by show 2 ≤ sizeLine; decide, fun l18 n18 => ?_⟩
    obtain ⟨H18, e18, s18, g18⟩ := new_ex n18 (.lst (([hh && th, hh != th] : List Bool).map V.bl))
    rw [show upd H17 l18 (.lst [.bl (hh && th), .bl (!decide (V.bl hh = V.bl th))]) = H18 by rw [← e18]; cases hh <;> cases th <;> rfl]
    refine ⟨.ref l18, lB [hh && th, hh != th], rfl, .lst (SqL.of g18) (dp_bls _), w1, w2, w3, w4, rfl, _, rfl, ?_⟩
    rw [decide_eq_true rfl]
    refine iteF ?_
    have S18 : Same H13 H18 := (((s14.trans s15).trans s16).trans s17).trans s18
    have X18 := (X12.extN e13).same S18
    have TA18 := TA13.same S18
    have hac18 := S18 _ _ hac
    have T18 := T13.ext S18
    clear X14 Y14 X15 Y15 Z15 Z16 ix iy iz iz' e17 n17 g17 e18 n18 g18 s14 s15 s16 s17 s18 hac14 hac15 hac16 w1 w2 w3 w4
    -- beside
    dsimp only [tNext, tSeq, tAsg]
    refine via (t := tAndV _ _) (fun v H' => H18 = H' ∧ v = .bl (besG true t.has kk ll)) (fun v H' hv => ?_) (fun Q' k' => ?_)
    rotate_left
    · refine ⟨_, rfl, ac, _, 0, _, rfl, rfl, SqT.of hac18, atI_nat (j := 0) rfl, _, _, rfl, rfl, _, rfl, ite2 (fun e => ?_) (fun e => ?_)⟩
      · have e0 : 0 < kk := by have := of_decide_eq_true e; omega
        refine ⟨_, rfl, _, rfl, ac, _, 0, _, rfl, rfl, SqT.of hac18, atI_nat (j := 0) rfl, _, _, rfl, rfl, _, rfl, ac, _, 1, _, rfl, rfl, SqT.of hac18, atI_nat (j := 1) rfl, _, _, rfl, rfl, ta, kk - 1, ll + 1, t, ?_, TA18, Ot, by omega, ?_⟩
        · rw [show ((kk - 1 : Nat) : Int) = (kk : Int) - 1 by omega, show ((ll + 1 : Nat) : Int) = (ll : Int) + 1 by omega]
          rfl
        · refine k' _ _ ⟨rfl, ?_⟩
          show V.bl (t.has (kk - 1) (ll + 1)) = V.bl (decide (0 < kk) && t.has (kk - 1) (ll + 1))
          rw [decide_eq_true e0]
          rfl
      · refine k' _ _ ⟨rfl, ?_⟩
        show V.bl false = V.bl (decide (0 < kk) && t.has (kk - 1) (ll + 1))
        rw [decide_eq_false (fun z => e (decide_eq_true (by omega)))]
        rfl
    obtain ⟨rfl, rfl⟩ := hv
    obtain ⟨dx, fx, ix, lx⟩ := X18.ins
    refine ⟨_, rfl, _, rfl, x, dx, fx, rfl, ix, lx, x, t.has, 8, PX, true, rfl, X18, PX0, by omega, T18, fun z19 H19 e19 T19 Z19 => ?_⟩
    obtain ⟨dz, fz, iz, _⟩ := Z19.ins
    refine ⟨z19, dz, fz, rfl, iz, z19, ac, _, _, PX, kk, ll, rfl, Z19, PX0, by omega, e19 _ _ hac18 (fun _ z => by cases z), _, rfl, _, rfl, _, rfl, _, rfl, rfl, _, rfl, ?_⟩
    rw [show decide (V.str (PyData.bool (id (besG true t.has kk ll))).shown = V.str (PyData.bool (besG true t.has kk ll)).shown) = true from decide_eq_true rfl]
    exact iteF ⟨(e13.trans (ExtN.of S18)).trans e19, T19, _, _, _, _, _, _, _, _, rfl⟩
end
end FH

set_option Elab.async false
set_option linter.all false
set_option maxRecDepth 100000
set_option maxHeartbeats 2000000
set_option pp.maxSteps 600
namespace FH
open PySem L2 LamX
theorem all_mk {w : World} {K : PySem.W.Frag} {h : Heap} {mg : Str → Option Value} {fa : Addr} (X : K.In h) (G : h.Ns mainGlobals mg) (hfa : mg "law" = some (.ref fa))
    {fI : Addr} {odI anI : Option Addr} {slI : Array (Option Value)} {ocI kVI dcI pmI cdI ctI : Value}
    {fN : Addr} {odN anN : Option Addr} {slN : Array (Option Value)} {ocN kVN dcN pmN cdN ctN : Value}
    {fQ : Addr} {odQ anQ : Option Addr} {slQ : Array (Option Value)} {ocQ kVQ dcQ pmQ cdQ ctQ : Value}
    {fCw : Addr} {odCw anCw : Option Addr} {slCw : Array (Option Value)} {ocCw kVCw dcCw pmCw cdCw ctCw : Value}
    {fB : Addr} {odB anB : Option Addr} {slB : Array (Option Value)} {ocB kVB dcB pmB cdB ctB : Value}
    {fH : Addr} {odH anH : Option Addr} {slH : Array (Option Value)} {ocH kVH dcH pmH cdH ctH : Value}
    {fY : Addr} {odY anY : Option Addr} {slY : Array (Option Value)} {ocY kVY dcY pmY cdY ctY : Value}
    {fZ : Addr} {odZ anZ : Option Addr} {slZ : Array (Option Value)} {ocZ kVZ dcZ pmZ cdZ ctZ : Value}
    {fCm : Addr} {odCm anCm : Option Addr} {slCm : Array (Option Value)} {ocCm kVCm dcCm pmCm cdCm ctCm : Value}
    {fPl : Addr} {odPl anPl : Option Addr} {slPl : Array (Option Value)} {ocPl kVPl dcPl pmPl cdPl ctPl : Value}
    {fWi : Addr} {odWi anWi : Option Addr} {slWi : Array (Option Value)} {ocWi kVWi dcWi pmWi cdWi ctWi : Value}
    {fBo : Addr} {odBo anBo : Option Addr} {slBo : Array (Option Value)} {ocBo kVBo dcBo pmBo cdBo ctBo : Value}
    {fSo : Addr} {odSo anSo : Option Addr} {slSo : Array (Option Value)} {ocSo kVSo dcSo pmSo cdSo ctSo : Value}
    {fCo : Addr} {odCo anCo : Option Addr} {slCo : Array (Option Value)} {ocCo kVCo dcCo pmCo cdCo ctCo : Value}
    {fWn : Addr} {odWn anWn : Option Addr} {slWn : Array (Option Value)} {ocWn kVWn dcWn pmWn cdWn ctWn : Value}
    {fMb : Addr} {odMb anMb : Option Addr} {slMb : Array (Option Value)} {ocMb kVMb dcMb pmMb cdMb ctMb : Value}
    {fD : Addr} {odD anD : Option Addr} {slD : Array (Option Value)} {ocD kVD dcD pmD cdD ctD : Value}
    {fP : Addr} {odP anP : Option Addr} {slP : Array (Option Value)} {ocP kVP dcP pmP cdP ctP : Value}
    {fS : Addr} {odS anS : Option Addr} {slS : Array (Option Value)} {ocS kVS dcS pmS cdS ctS : Value}
    {fT : Addr} {odT anT : Option Addr} {slT : Array (Option Value)} {ocT kVT dcT pmT cdT ctT : Value}
    {fL : Addr} {odL anL : Option Addr} {slL : Array (Option Value)} {ocL kVL dcL pmL cdL ctL : Value}
    {fSp : Addr} {odSp anSp : Option Addr} {slSp : Array (Option Value)} {ocSp kVSp dcSp pmSp cdSp ctSp : Value}
    {fHa : Addr} {odHa anHa : Option Addr} {slHa : Array (Option Value)} {ocHa kVHa dcHa pmHa cdHa ctHa : Value}
    {fGr : Addr} {odGr anGr : Option Addr} {slGr : Array (Option Value)} {ocGr kVGr dcGr pmGr cdGr ctGr : Value}
    {fEd : Addr} {odEd anEd : Option Addr} {slEd : Array (Option Value)} {ocEd kVEd dcEd pmEd cdEd ctEd : Value}
    {fW : Addr} {odW anW : Option Addr} {slW : Array (Option Value)} {ocW kVW dcW pmW cdW ctW : Value}
    {t1 : Tok}
    {t2 : Tok}
    {C : Addr}
    {fJ : Addr} {odJ anJ : Option Addr} {slJ : Array (Option Value)} {ocJ kVJ dcJ pmJ cdJ ctJ : Value}
    {fBs : Addr} {odBs anBs : Option Addr} {slBs : Array (Option Value)} {ocBs kVBs dcBs pmBs cdBs ctBs : Value}
    {fSg : Addr} {odSg anSg : Option Addr} {slSg : Array (Option Value)} {ocSg kVSg dcSg pmSg cdSg ctSg : Value}
    {fCn : Addr} {odCn anCn : Option Addr} {slCn : Array (Option Value)} {ocCn kVCn dcCn pmCn cdCn ctCn : Value}
    {fEq : Addr} {odEq anEq : Option Addr} {slEq : Array (Option Value)} {ocEq kVEq dcEq pmEq cdEq ctEq : Value}
    {fAn : Addr} {odAn anAn : Option Addr} {slAn : Array (Option Value)} {ocAn kVAn dcAn pmAn cdAn ctAn : Value}
    {fOr : Addr} {odOr anOr : Option Addr} {slOr : Array (Option Value)} {ocOr kVOr dcOr pmOr cdOr ctOr : Value}
    {fSu : Addr} {odSu anSu : Option Addr} {slSu : Array (Option Value)} {ocSu kVSu dcSu pmSu cdSu ctSu : Value}
    {fXo : Addr} {odXo anXo : Option Addr} {slXo : Array (Option Value)} {ocXo kVXo dcXo pmXo cdXo ctXo : Value}
    {fIv : Addr} {odIv anIv : Option Addr} {slIv : Array (Option Value)} {ocIv kVIv dcIv pmIv cdIv ctIv : Value}
    {fLo : Addr} {odLo anLo : Option Addr} {slLo : Array (Option Value)} {ocLo kVLo dcLo pmLo cdLo ctLo : Value}
    {fLt : Addr} {odLt anLt : Option Addr} {slLt : Array (Option Value)} {ocLt kVLt dcLt pmLt cdLt ctLt : Value}
    {fBl : Addr} {odBl anBl : Option Addr} {slBl : Array (Option Value)} {ocBl kVBl dcBl pmBl cdBl ctBl : Value}
    {pcAl : Addr} {rsAl : List Value}
    {fAl : Addr} {odAl anAl : Option Addr} {slAl : Array (Option Value)} {ocAl kVAl dcAl pmAl cdAl ctAl : Value}
    {CE fX cc cda : Addr} {nm qn : Str} {NN : Addr} {bs bm : List Value} {sn : List Str} {sub : List Value} {ab : Bool} {col : Option Bool} {dd : Option Addr} {m0 m1 m2 m3 m5 : Option Value} {odX anX : Option Addr} {slX : Array (Option Value)} {ocX dcX pmX ctX : Value} {x1 x2 x3 : Nat} {ccl : Value} {cdd : Option Addr} {vs : Array Value} {ccs : Array (Option Value)} {file : Str} {tf : Tok} {cl : Value} {cld : Option Addr} {csl : Array (Option Value)}
    {tcBs tPBs : Addr} {teBs : Value} {tdBs : Option Addr} {tvBs : Array Value} {tsBs : Array (Option Value)}
    (aI : PySem.W.nsIn K mainGlobals "is_integer" = some (some (.ref fI)))
    (lI : K.lookup fI = some ⟨ocI, odI, .func (PySem.W.fnOf "is_integer" "is_integer" (defArgs (topS 5)) (defBody (topS 5)) (defScope (topS 5)) .none kVI dcI pmI anI cdI ctI), slI⟩)
    (cI : PySem.W.codeIn K cdI "is_integer" = true)
    (kI : PySem.W.keepIn K (.ref fI) = true)
    (aN : PySem.W.nsIn K mainGlobals "is_number" = some (some (.ref fN)))
    (lN : K.lookup fN = some ⟨ocN, odN, .func (PySem.W.fnOf "is_number" "is_number" (defArgs (topS 6)) (defBody (topS 6)) (defScope (topS 6)) .none kVN dcN pmN anN cdN ctN), slN⟩)
    (cN : PySem.W.codeIn K cdN "is_number" = true)
    (kN : PySem.W.keepIn K (.ref fN) = true)
    (aQ : PySem.W.nsIn K mainGlobals "is_sequence" = some (some (.ref fQ)))
    (lQ : K.lookup fQ = some ⟨ocQ, odQ, .func (PySem.W.fnOf "is_sequence" "is_sequence" (defArgs (topS 7)) (defBody (topS 7)) (defScope (topS 7)) .none kVQ dcQ pmQ anQ cdQ ctQ), slQ⟩)
    (cQ : PySem.W.codeIn K cdQ "is_sequence" = true)
    (kQ : PySem.W.keepIn K (.ref fQ) = true)
    (aCw : PySem.W.nsIn K mainGlobals "is_crowd" = some (some (.ref fCw)))
    (lCw : K.lookup fCw = some ⟨ocCw, odCw, .func (PySem.W.fnOf "is_crowd" "is_crowd" (defArgs (topS 8)) (defBody (topS 8)) (defScope (topS 8)) .none kVCw dcCw pmCw anCw cdCw ctCw), slCw⟩)
    (cCw : PySem.W.codeIn K cdCw "is_crowd" = true)
    (kCw : PySem.W.keepIn K (.ref fCw) = true)
    (aB : PySem.W.nsIn K mainGlobals "is_table" = some (some (.ref fB)))
    (lB : K.lookup fB = some ⟨ocB, odB, .func (PySem.W.fnOf "is_table" "is_table" (defArgs (topS 13)) (defBody (topS 13)) (defScope (topS 13)) .none kVB dcB pmB anB cdB ctB), slB⟩)
    (cB : PySem.W.codeIn K cdB "is_table" = true)
    (kB : PySem.W.keepIn K (.ref fB) = true)
    (aH : PySem.W.nsIn K mainGlobals "checked" = some (some (.ref fH)))
    (lH : K.lookup fH = some ⟨ocH, odH, .func (PySem.W.fnOf "checked" "checked" (defArgs (topS 14)) (defBody (topS 14)) (defScope (topS 14)) .none kVH dcH pmH anH cdH ctH), slH⟩)
    (cH : PySem.W.codeIn K cdH "checked" = true)
    (kH : PySem.W.keepIn K (.ref fH) = true)
    (aY : PySem.W.nsIn K mainGlobals "least_way" = some (some (.ref fY)))
    (lY : K.lookup fY = some ⟨ocY, odY, .func (PySem.W.fnOf "least_way" "least_way" (defArgs (topS 15)) (defBody (topS 15)) (defScope (topS 15)) .none kVY dcY pmY anY cdY ctY), slY⟩)
    (cY : PySem.W.codeIn K cdY "least_way" = true)
    (kY : PySem.W.keepIn K (.ref fY) = true)
    (aZ : PySem.W.nsIn K mainGlobals "columns_of" = some (some (.ref fZ)))
    (lZ : K.lookup fZ = some ⟨ocZ, odZ, .func (PySem.W.fnOf "columns_of" "columns_of" (defArgs (topS 16)) (defBody (topS 16)) (defScope (topS 16)) .none kVZ dcZ pmZ anZ cdZ ctZ), slZ⟩)
    (cZ : PySem.W.codeIn K cdZ "columns_of" = true)
    (kZ : PySem.W.keepIn K (.ref fZ) = true)
    (aCm : PySem.W.nsIn K mainGlobals "common_multiple" = some (some (.ref fCm)))
    (lCm : K.lookup fCm = some ⟨ocCm, odCm, .func (PySem.W.fnOf "common_multiple" "common_multiple" (defArgs (topS 9)) (defBody (topS 9)) (defScope (topS 9)) .none kVCm dcCm pmCm anCm cdCm ctCm), slCm⟩)
    (cCm : PySem.W.codeIn K cdCm "common_multiple" = true)
    (kCm : PySem.W.keepIn K (.ref fCm) = true)
    (aPl : PySem.W.nsIn K mainGlobals "place_of" = some (some (.ref fPl)))
    (lPl : K.lookup fPl = some ⟨ocPl, odPl, .func (PySem.W.fnOf "place_of" "place_of" (defArgs (topS 17)) (defBody (topS 17)) (defScope (topS 17)) .none kVPl dcPl pmPl anPl cdPl ctPl), slPl⟩)
    (cPl : PySem.W.codeIn K cdPl "place_of" = true)
    (kPl : PySem.W.keepIn K (.ref fPl) = true)
    (aWi : PySem.W.nsIn K mainGlobals "widened" = some (some (.ref fWi)))
    (lWi : K.lookup fWi = some ⟨ocWi, odWi, .func (PySem.W.fnOf "widened" "widened" (defArgs (topS 18)) (defBody (topS 18)) (defScope (topS 18)) .none kVWi dcWi pmWi anWi cdWi ctWi), slWi⟩)
    (cWi : PySem.W.codeIn K cdWi "widened" = true)
    (kWi : PySem.W.keepIn K (.ref fWi) = true)
    (aBo : PySem.W.nsIn K mainGlobals "both_tables" = some (some (.ref fBo)))
    (lBo : K.lookup fBo = some ⟨ocBo, odBo, .func (PySem.W.fnOf "both_tables" "both_tables" (defArgs (topS 19)) (defBody (topS 19)) (defScope (topS 19)) .none kVBo dcBo pmBo anBo cdBo ctBo), slBo⟩)
    (cBo : PySem.W.codeIn K cdBo "both_tables" = true)
    (kBo : PySem.W.keepIn K (.ref fBo) = true)
    (aSo : PySem.W.nsIn K mainGlobals "signs_of" = some (some (.ref fSo)))
    (lSo : K.lookup fSo = some ⟨ocSo, odSo, .func (PySem.W.fnOf "signs_of" "signs_of" (defArgs (topS 20)) (defBody (topS 20)) (defScope (topS 20)) .none kVSo dcSo pmSo anSo cdSo ctSo), slSo⟩)
    (cSo : PySem.W.codeIn K cdSo "signs_of" = true)
    (kSo : PySem.W.keepIn K (.ref fSo) = true)
    (aCo : PySem.W.nsIn K mainGlobals "combined" = some (some (.ref fCo)))
    (lCo : K.lookup fCo = some ⟨ocCo, odCo, .func (PySem.W.fnOf "combined" "combined" (defArgs (topS 21)) (defBody (topS 21)) (defScope (topS 21)) .none kVCo dcCo pmCo anCo cdCo ctCo), slCo⟩)
    (cCo : PySem.W.codeIn K cdCo "combined" = true)
    (kCo : PySem.W.keepIn K (.ref fCo) = true)
    (aWn : PySem.W.nsIn K mainGlobals "is_within" = some (some (.ref fWn)))
    (lWn : K.lookup fWn = some ⟨ocWn, odWn, .func (PySem.W.fnOf "is_within" "is_within" (defArgs (topS 22)) (defBody (topS 22)) (defScope (topS 22)) .none kVWn dcWn pmWn anWn cdWn ctWn), slWn⟩)
    (cWn : PySem.W.codeIn K cdWn "is_within" = true)
    (kWn : PySem.W.keepIn K (.ref fWn) = true)
    (aMb : PySem.W.nsIn K mainGlobals "made_by" = some (some (.ref fMb)))
    (lMb : K.lookup fMb = some ⟨ocMb, odMb, .func (PySem.W.fnOf "made_by" "made_by" (defArgs (topS 23)) (defBody (topS 23)) (defScope (topS 23)) .none kVMb dcMb pmMb anMb cdMb ctMb), slMb⟩)
    (cMb : PySem.W.codeIn K cdMb "made_by" = true)
    (kMb : PySem.W.keepIn K (.ref fMb) = true)
    (aD : PySem.W.nsIn K mainGlobals "_law_draw" = some (some (.ref fD)))
    (lD : K.lookup fD = some ⟨ocD, odD, .func (PySem.W.fnOf "_law_draw" "_law_draw" (defArgs (topS 27)) (defBody (topS 27)) (defScope (topS 27)) .none kVD dcD pmD anD cdD ctD), slD⟩)
    (cD : PySem.W.codeIn K cdD "_law_draw" = true)
    (kD : PySem.W.keepIn K (.ref fD) = true)
    (aP : PySem.W.nsIn K mainGlobals "_law_pick" = some (some (.ref fP)))
    (lP : K.lookup fP = some ⟨ocP, odP, .func (PySem.W.fnOf "_law_pick" "_law_pick" (defArgs (topS 28)) (defBody (topS 28)) (defScope (topS 28)) .none kVP dcP pmP anP cdP ctP), slP⟩)
    (cP : PySem.W.codeIn K cdP "_law_pick" = true)
    (kP : PySem.W.keepIn K (.ref fP) = true)
    (aS : PySem.W.nsIn K mainGlobals "_law_signs" = some (some (.ref fS)))
    (lS : K.lookup fS = some ⟨ocS, odS, .func (PySem.W.fnOf "_law_signs" "_law_signs" (defArgs (topS 29)) (defBody (topS 29)) (defScope (topS 29)) .none kVS dcS pmS anS cdS ctS), slS⟩)
    (cS : PySem.W.codeIn K cdS "_law_signs" = true)
    (kS : PySem.W.keepIn K (.ref fS) = true)
    (aT : PySem.W.nsIn K mainGlobals "_law_table" = some (some (.ref fT)))
    (lT : K.lookup fT = some ⟨ocT, odT, .func (PySem.W.fnOf "_law_table" "_law_table" (defArgs (topS 30)) (defBody (topS 30)) (defScope (topS 30)) .none kVT dcT pmT anT cdT ctT), slT⟩)
    (cT : PySem.W.codeIn K cdT "_law_table" = true)
    (kT : PySem.W.keepIn K (.ref fT) = true)
    (aL : PySem.W.nsIn K mainGlobals "_law_deal" = some (some (.ref fL)))
    (lL : K.lookup fL = some ⟨ocL, odL, .func (PySem.W.fnOf "_law_deal" "_law_deal" (defArgs (topS 26)) (defBody (topS 26)) (defScope (topS 26)) .none kVL dcL pmL anL cdL ctL), slL⟩)
    (cL : PySem.W.codeIn K cdL "_law_deal" = true)
    (kL : PySem.W.keepIn K (.ref fL) = true)
    (aSp : PySem.W.nsIn K mainGlobals "_law_spot" = some (some (.ref fSp)))
    (lSp : K.lookup fSp = some ⟨ocSp, odSp, .func (PySem.W.fnOf "_law_spot" "_law_spot" (defArgs (topS 31)) (defBody (topS 31)) (defScope (topS 31)) .none kVSp dcSp pmSp anSp cdSp ctSp), slSp⟩)
    (cSp : PySem.W.codeIn K cdSp "_law_spot" = true)
    (kSp : PySem.W.keepIn K (.ref fSp) = true)
    (aHa : PySem.W.nsIn K mainGlobals "_law_has" = some (some (.ref fHa)))
    (lHa : K.lookup fHa = some ⟨ocHa, odHa, .func (PySem.W.fnOf "_law_has" "_law_has" (defArgs (topS 32)) (defBody (topS 32)) (defScope (topS 32)) .none kVHa dcHa pmHa anHa cdHa ctHa), slHa⟩)
    (cHa : PySem.W.codeIn K cdHa "_law_has" = true)
    (kHa : PySem.W.keepIn K (.ref fHa) = true)
    (aGr : PySem.W.nsIn K mainGlobals "_law_great" = some (some (.ref fGr)))
    (lGr : K.lookup fGr = some ⟨ocGr, odGr, .func (PySem.W.fnOf "_law_great" "_law_great" (defArgs (topS 33)) (defBody (topS 33)) (defScope (topS 33)) .none kVGr dcGr pmGr anGr cdGr ctGr), slGr⟩)
    (cGr : PySem.W.codeIn K cdGr "_law_great" = true)
    (kGr : PySem.W.keepIn K (.ref fGr) = true)
    (aEd : PySem.W.nsIn K mainGlobals "_law_edge_right" = some (some (.ref fEd)))
    (lEd : K.lookup fEd = some ⟨ocEd, odEd, .func (PySem.W.fnOf "_law_edge_right" "_law_edge_right" (defArgs (topS 34)) (defBody (topS 34)) (defScope (topS 34)) .none kVEd dcEd pmEd anEd cdEd ctEd), slEd⟩)
    (cEd : PySem.W.codeIn K cdEd "_law_edge_right" = true)
    (kEd : PySem.W.keepIn K (.ref fEd) = true)
    (aW : PySem.W.nsIn K mainGlobals "law" = some (some (.ref fW)))
    (lW : K.lookup fW = some ⟨ocW, odW, .func (PySem.W.fnOf "law" "law" (defArgs (topS 35)) (defBody (topS 35)) (defScope (topS 35)) .none kVW dcW pmW anW cdW ctW), slW⟩)
    (cW : PySem.W.codeIn K cdW "law" = true)
    (kW : PySem.W.keepIn K (.ref fW) = true)
    (aIN : PySem.W.nsIn K mainGlobals "IN" = some (some (.str "+" t1)))
    (aNO : PySem.W.nsIn K mainGlobals "NOT_IN" = some (some (.str "-" t2)))
    (aC : PySem.W.nsIn K mainGlobals "Crowds" = some (some (.ref C)))
    (pgC : PySem.W.plainGet K C Str.empty = true)
    (hdC : PySem.W.hasDictIn K C = true)
    (poC : PySem.W.plainOver K C = true)
    (saC : PySem.W.findIn K (.ref C) "__setattr__" = some (some (.builtin "object.__setattr__")))
    (mkC : PySem.W.makesIn K C = true)
    (kcC : PySem.W.keepIn K (.ref C) = true)
    (nCstarts : PySem.W.findIn K (.ref C) "starts" = some none)
    (nCperiods : PySem.W.findIn K (.ref C) "periods" = some none)
    (nCrows : PySem.W.findIn K (.ref C) "rows" = some none)
    (aJ : PySem.W.findIn K (.ref C) "__init__" = some (some (.ref fJ)))
    (iJ : PySem.W.isFn K (.ref fJ) = true)
    (lJ : K.lookup fJ = some ⟨ocJ, odJ, .func (PySem.W.fnOf "__init__" "Crowds.__init__" (defArgs (inClass (topS 24) 0)) (defBody (inClass (topS 24) 0)) (defScope (inClass (topS 24) 0)) .none kVJ dcJ pmJ anJ cdJ ctJ), slJ⟩)
    (cJ : PySem.W.codeIn K cdJ "Crowds.__init__" = true)
    (kJ : PySem.W.keepIn K (.ref fJ) = true)
    (aBs : PySem.W.findIn K (.ref C) "beside" = some (some (.ref fBs)))
    (iBs : PySem.W.isFn K (.ref fBs) = true)
    (lBs : K.lookup fBs = some ⟨ocBs, odBs, .func (PySem.W.fnOf "beside" "Crowds.beside" (defArgs (inClass (topS 24) 23)) (defBody (inClass (topS 24) 23)) (defScope (inClass (topS 24) 23)) .none kVBs dcBs pmBs anBs cdBs ctBs), slBs⟩)
    (cBs : PySem.W.codeIn K cdBs "Crowds.beside" = true)
    (kBs : PySem.W.keepIn K (.ref fBs) = true)
    (aSg : PySem.W.findIn K (.ref C) "sign" = some (some (.ref fSg)))
    (iSg : PySem.W.isFn K (.ref fSg) = true)
    (lSg : K.lookup fSg = some ⟨ocSg, odSg, .func (PySem.W.fnOf "sign" "Crowds.sign" (defArgs (inClass (topS 24) 19)) (defBody (inClass (topS 24) 19)) (defScope (inClass (topS 24) 19)) .none kVSg dcSg pmSg anSg cdSg ctSg), slSg⟩)
    (cSg : PySem.W.codeIn K cdSg "Crowds.sign" = true)
    (kSg : PySem.W.keepIn K (.ref fSg) = true)
    (aCn : PySem.W.findIn K (.ref C) "__contains__" = some (some (.ref fCn)))
    (iCn : PySem.W.isFn K (.ref fCn) = true)
    (lCn : K.lookup fCn = some ⟨ocCn, odCn, .func (PySem.W.fnOf "__contains__" "Crowds.__contains__" (defArgs (inClass (topS 24) 16)) (defBody (inClass (topS 24) 16)) (defScope (inClass (topS 24) 16)) .none kVCn dcCn pmCn anCn cdCn ctCn), slCn⟩)
    (cCn : PySem.W.codeIn K cdCn "Crowds.__contains__" = true)
    (kCn : PySem.W.keepIn K (.ref fCn) = true)
    (aEq : PySem.W.findIn K (.ref C) "__eq__" = some (some (.ref fEq)))
    (iEq : PySem.W.isFn K (.ref fEq) = true)
    (lEq : K.lookup fEq = some ⟨ocEq, odEq, .func (PySem.W.fnOf "__eq__" "Crowds.__eq__" (defArgs (inClass (topS 24) 11)) (defBody (inClass (topS 24) 11)) (defScope (inClass (topS 24) 11)) .none kVEq dcEq pmEq anEq cdEq ctEq), slEq⟩)
    (cEq : PySem.W.codeIn K cdEq "Crowds.__eq__" = true)
    (kEq : PySem.W.keepIn K (.ref fEq) = true)
    (aAn : PySem.W.findIn K (.ref C) "__and__" = some (some (.ref fAn)))
    (iAn : PySem.W.isFn K (.ref fAn) = true)
    (lAn : K.lookup fAn = some ⟨ocAn, odAn, .func (PySem.W.fnOf "__and__" "Crowds.__and__" (defArgs (inClass (topS 24) 6)) (defBody (inClass (topS 24) 6)) (defScope (inClass (topS 24) 6)) .none kVAn dcAn pmAn anAn cdAn ctAn), slAn⟩)
    (cAn : PySem.W.codeIn K cdAn "Crowds.__and__" = true)
    (kAn : PySem.W.keepIn K (.ref fAn) = true)
    (aOr : PySem.W.findIn K (.ref C) "__or__" = some (some (.ref fOr)))
    (iOr : PySem.W.isFn K (.ref fOr) = true)
    (lOr : K.lookup fOr = some ⟨ocOr, odOr, .func (PySem.W.fnOf "__or__" "Crowds.__or__" (defArgs (inClass (topS 24) 7)) (defBody (inClass (topS 24) 7)) (defScope (inClass (topS 24) 7)) .none kVOr dcOr pmOr anOr cdOr ctOr), slOr⟩)
    (cOr : PySem.W.codeIn K cdOr "Crowds.__or__" = true)
    (kOr : PySem.W.keepIn K (.ref fOr) = true)
    (aSu : PySem.W.findIn K (.ref C) "__sub__" = some (some (.ref fSu)))
    (iSu : PySem.W.isFn K (.ref fSu) = true)
    (lSu : K.lookup fSu = some ⟨ocSu, odSu, .func (PySem.W.fnOf "__sub__" "Crowds.__sub__" (defArgs (inClass (topS 24) 8)) (defBody (inClass (topS 24) 8)) (defScope (inClass (topS 24) 8)) .none kVSu dcSu pmSu anSu cdSu ctSu), slSu⟩)
    (cSu : PySem.W.codeIn K cdSu "Crowds.__sub__" = true)
    (kSu : PySem.W.keepIn K (.ref fSu) = true)
    (aXo : PySem.W.findIn K (.ref C) "__xor__" = some (some (.ref fXo)))
    (iXo : PySem.W.isFn K (.ref fXo) = true)
    (lXo : K.lookup fXo = some ⟨ocXo, odXo, .func (PySem.W.fnOf "__xor__" "Crowds.__xor__" (defArgs (inClass (topS 24) 9)) (defBody (inClass (topS 24) 9)) (defScope (inClass (topS 24) 9)) .none kVXo dcXo pmXo anXo cdXo ctXo), slXo⟩)
    (cXo : PySem.W.codeIn K cdXo "Crowds.__xor__" = true)
    (kXo : PySem.W.keepIn K (.ref fXo) = true)
    (aIv : PySem.W.findIn K (.ref C) "__invert__" = some (some (.ref fIv)))
    (iIv : PySem.W.isFn K (.ref fIv) = true)
    (lIv : K.lookup fIv = some ⟨ocIv, odIv, .func (PySem.W.fnOf "__invert__" "Crowds.__invert__" (defArgs (inClass (topS 24) 10)) (defBody (inClass (topS 24) 10)) (defScope (inClass (topS 24) 10)) .none kVIv dcIv pmIv anIv cdIv ctIv), slIv⟩)
    (cIv : PySem.W.codeIn K cdIv "Crowds.__invert__" = true)
    (kIv : PySem.W.keepIn K (.ref fIv) = true)
    (aLo : PySem.W.findIn K (.ref C) "__le__" = some (some (.ref fLo)))
    (iLo : PySem.W.isFn K (.ref fLo) = true)
    (lLo : K.lookup fLo = some ⟨ocLo, odLo, .func (PySem.W.fnOf "__le__" "Crowds.__le__" (defArgs (inClass (topS 24) 12)) (defBody (inClass (topS 24) 12)) (defScope (inClass (topS 24) 12)) .none kVLo dcLo pmLo anLo cdLo ctLo), slLo⟩)
    (cLo : PySem.W.codeIn K cdLo "Crowds.__le__" = true)
    (kLo : PySem.W.keepIn K (.ref fLo) = true)
    (aLt : PySem.W.findIn K (.ref C) "__lt__" = some (some (.ref fLt)))
    (iLt : PySem.W.isFn K (.ref fLt) = true)
    (lLt : K.lookup fLt = some ⟨ocLt, odLt, .func (PySem.W.fnOf "__lt__" "Crowds.__lt__" (defArgs (inClass (topS 24) 13)) (defBody (inClass (topS 24) 13)) (defScope (inClass (topS 24) 13)) .none kVLt dcLt pmLt anLt cdLt ctLt), slLt⟩)
    (cLt : PySem.W.codeIn K cdLt "Crowds.__lt__" = true)
    (kLt : PySem.W.keepIn K (.ref fLt) = true)
    (aBl : PySem.W.findIn K (.ref C) "__bool__" = some (some (.ref fBl)))
    (iBl : PySem.W.isFn K (.ref fBl) = true)
    (lBl : K.lookup fBl = some ⟨ocBl, odBl, .func (PySem.W.fnOf "__bool__" "Crowds.__bool__" (defArgs (inClass (topS 24) 17)) (defBody (inClass (topS 24) 17)) (defScope (inClass (topS 24) 17)) .none kVBl dcBl pmBl anBl cdBl ctBl), slBl⟩)
    (cBl : PySem.W.codeIn K cdBl "Crowds.__bool__" = true)
    (kBl : PySem.W.keepIn K (.ref fBl) = true)
    (haC : PySem.W.findIn K (.ref C) "__class__" = some (some (.builtin "object.__class__")))
    (hnO : PySem.W.specialIn K (.builtin "object.__class__") "__get__" = some (some (.builtin "getset_descriptor.__get__")))
    (htO : PySem.W.takesIn K (.builtin "object.__class__") = some true)
    (hmC : PySem.W.mroIn K C (.type "object") = some true)
    (kOC : PySem.W.kitOne K (.ref C) (.ref C) = some true)
    (sne : PySem.W.findIn K (.ref C) "__ne__" = some (some (.builtin "object.__ne__")))
    (nfC : PySem.W.notFirst K C (.ref C) = true)
    (sfC : PySem.W.selfFirst K C = true)
    (rdC : PySem.W.readsIn K C (.type "type") = true)
    (gaC : PySem.W.specialIn K (.ref C) "__getattribute__" = some (some (.builtin "type.__getattribute__")))
    (atAl : PySem.W.findCls K (.ref C) (.type "type") "at_least" = some (.get (.builtin "classmethod.__get__") (.ref pcAl) .none (.ref C)))
    (rcAl : PySem.W.recIn K pcAl "classmethod" = some (.ref fAl :: rsAl))
    (fiAl : PySem.W.fnIn K fAl = true)
    (lAl : K.lookup fAl = some ⟨ocAl, odAl, .func (PySem.W.fnOf "at_least" "Crowds.at_least" (defArgs (inClass (topS 24) 4)) (defBody (inClass (topS 24) 4)) (defScope (inClass (topS 24) 4)) .none kVAl dcAl pmAl anAl cdAl ctAl), slAl⟩)
    (cAl : PySem.W.codeIn K cdAl "Crowds.at_least" = true)
    (kAl : PySem.W.keepIn K (.ref fAl) = true)
    (aX : PySem.W.nsIn K mainGlobals "InvalidCrowds" = some (some (.ref CE)))
    (xX : K.lookup CE = some (PySem.excClassObj nm qn CE NN bs bm true sn sub ab col dd m0 m1 m2 m3 m5 "ValueError.__new__"))
    (rX : PySem.HandSPX.refsVE bm = true)
    (saX : PySem.W.findIn K (.ref CE) "__setattr__" = some (some (.builtin "object.__setattr__")))
    (gaX : PySem.W.findIn K (.ref CE) "__getattribute__" = some (some (.builtin "BaseException.__getattribute__")))
    (ggX : PySem.W.findIn K (.ref CE) "__getattr__" = some none)
    (nwX : PySem.W.findIn K (.ref CE) "word" = some none)
    (iX : PySem.W.findIn K (.ref CE) "__init__" = some (some (.ref fX)))
    (tX : PySem.W.typeIn K (.ref fX) = some (.type "function"))
    (kX : PySem.W.keepIn K (.ref CE) = true)
    (eX : PySem.W.subIn K (.ref CE) (.type "BaseException") = some true)
    (yX : PySem.W.typeIn K (.ref CE) = some (.type "type"))
    (hX : PySem.W.hasDictIn K CE = true)
    (uX : PySem.W.ks_superIn K CE CE "__init__" = some (some (.builtin "ValueError.__init__")))
    (vX : PySem.W.subIn K (.ref CE) (.type "ValueError") = some true)
    (sX : PySem.W.mroIn K CE (.ref CE) = some true)
    (oX : PySem.W.nsIn K cStatics "thirdparty.any" = some none)
    (zX : PySem.W.nsIn K mainGlobals "super" = some none)
    (lX : K.lookup fX = some ⟨ocX, odX, .func (PySem.W.ksFn "__init__" "InvalidCrowds.__init__" (PySem.ErrX.iA x1) (PySem.ErrX.iB x2 x3) PySem.ErrX.iS .none .none dcX pmX anX (.ref cda) ctX cc), slX⟩)
    (cX : PySem.W.codeIn K (.ref cda) "InvalidCrowds.__init__" = true)
    (dX : K.lookup cda = some ⟨ccl, cdd, .fields vs, ccs⟩)
    (f2X : vs[2]? = some (.str file tf))
    (f3X : ((PySem.Challenge.pw_foreheads_k10_great_crowds.main.file : Str) == file) = true)
    (ccX : K.lookup cc = some ⟨cl, cld, .cell (some (.ref CE)), csl⟩)
    (te : PySem.W.exmOne K (.ref CE) (.ref CE) = some true)
    (tqBs : cdBs = .ref tcBs)
    (tlBs : K.lookup tcBs = some ⟨teBs, tdBs, .fields tvBs, tsBs⟩)
    (tpBs : tvBs[11]? = some (.ref tPBs))
    (thBs : PySem.W.codeHdIn K tcBs tPBs = true)
    (tnBs : K.lookup tPBs = none)
    (ttBs : h.get? tPBs = some { cls := .none, data := .fields #[] })
    (z0 : PySem.W.nsIn K mainGlobals "int" = some none)
    (z1 : PySem.W.nsIn K mainGlobals "len" = some none)
    (z2 : PySem.W.nsIn K mainGlobals "range" = some none)
    (z3 : PySem.W.nsIn K mainGlobals "list" = some none)
    (z4 : PySem.W.nsIn K mainGlobals "tuple" = some none)
    (z5 : PySem.W.nsIn K mainGlobals "all" = some none)
    (z6 : PySem.W.nsIn K mainGlobals "any" = some none)
    (z7 : PySem.W.nsIn K mainGlobals "isinstance" = some none)
    (z8 : PySem.W.nsIn K mainGlobals "bool" = some none)
    (z9 : PySem.W.nsIn K mainGlobals "str" = some none)
    (z10 : PySem.W.nsIn K mainGlobals "abs" = some none)
    (z11 : PySem.W.nsIn K mainGlobals "zip" = some none)
    (z12 : PySem.W.nsIn K mainGlobals "repr" = some none)
    (z13 : PySem.W.nsIn K mainGlobals "enumerate" = some none)
    (z14 : PySem.W.nsIn K mainGlobals "max" = some none)
    (z15 : PySem.W.nsIn K mainGlobals "min" = some none)
    (z16 : PySem.W.nsIn K mainGlobals "sum" = some none) :
    LawAtG PySem.Challenge.rw_foreheads_k10_great_crowds w K 13 63 "_law_script" mg fa h := by
  have e := hfa.symm.trans (PySem.W.mg_of X G aW)
  cases e
  have T : Bt mg := ⟨PySem.W.mg_none_of X G z0, PySem.W.mg_none_of X G z1, PySem.W.mg_none_of X G z2, PySem.W.mg_none_of X G z3, PySem.W.mg_none_of X G z4, PySem.W.mg_none_of X G z5, PySem.W.mg_none_of X G z6, PySem.W.mg_none_of X G z7, PySem.W.mg_none_of X G z8, PySem.W.mg_none_of X G z9, PySem.W.mg_none_of X G z10, PySem.W.mg_none_of X G z11, PySem.W.mg_none_of X G z12, PySem.W.mg_none_of X G z13, PySem.W.mg_none_of X G z14, PySem.W.mg_none_of X G z15, PySem.W.mg_none_of X G z16⟩
  have FI := fun_mk (st := (topS 5)) lI cI kI
  have bI := FI.binds (ps := ["value"]) fun _ _ _ _ _ _ us hl => match us, hl with | [_], _ => rfl
  have gI := PySem.W.mg_of X G aI
  have FN := fun_mk (st := (topS 6)) lN cN kN
  have bN := FN.binds (ps := ["value"]) fun _ _ _ _ _ _ us hl => match us, hl with | [_], _ => rfl
  have gN := PySem.W.mg_of X G aN
  have FQ := fun_mk (st := (topS 7)) lQ cQ kQ
  have bQ := FQ.binds (ps := ["value"]) fun _ _ _ _ _ _ us hl => match us, hl with | [_], _ => rfl
  have gQ := PySem.W.mg_of X G aQ
  have FCw := fun_mk (st := (topS 8)) lCw cCw kCw
  have bCw := FCw.binds (ps := ["value"]) fun _ _ _ _ _ _ us hl => match us, hl with | [_], _ => rfl
  have gCw := PySem.W.mg_of X G aCw
  have FB := fun_mk (st := (topS 13)) lB cB kB
  have bB := FB.binds (ps := ["rows", "tall", "wide"]) fun _ _ _ _ _ _ us hl => match us, hl with | [_, _, _], _ => rfl
  have gB := PySem.W.mg_of X G aB
  have FH := fun_mk (st := (topS 14)) lH cH kH
  have bH := FH.binds (ps := ["starts", "periods", "rows"]) fun _ _ _ _ _ _ us hl => match us, hl with | [_, _, _], _ => rfl
  have gH := PySem.W.mg_of X G aH
  have FY := fun_mk (st := (topS 15)) lY cY kY
  have bY := FY.binds (ps := ["rows", "start", "period"]) fun _ _ _ _ _ _ us hl => match us, hl with | [_, _, _], _ => rfl
  have gY := PySem.W.mg_of X G aY
  have FZ := fun_mk (st := (topS 16)) lZ cZ kZ
  have bZ := FZ.binds (ps := ["rows"]) fun _ _ _ _ _ _ us hl => match us, hl with | [_], _ => rfl
  have gZ := PySem.W.mg_of X G aZ
  have FCm := fun_mk (st := (topS 9)) lCm cCm kCm
  have bCm := FCm.binds (ps := ["one", "other"]) fun _ _ _ _ _ _ us hl => match us, hl with | [_, _], _ => rfl
  have gCm := PySem.W.mg_of X G aCm
  have FPl := fun_mk (st := (topS 17)) lPl cPl kPl
  have bPl := FPl.binds (ps := ["number", "start", "period"]) fun _ _ _ _ _ _ us hl => match us, hl with | [_, _, _], _ => rfl
  have gPl := PySem.W.mg_of X G aPl
  have FWi := fun_mk (st := (topS 18)) lWi cWi kWi
  have bWi := FWi.binds (ps := ["rows", "starts", "periods", "more", "others"]) fun _ _ _ _ _ _ us hl => match us, hl with | [_, _, _, _, _], _ => rfl
  have gWi := PySem.W.mg_of X G aWi
  have FBo := fun_mk (st := (topS 19)) lBo cBo kBo
  have bBo := FBo.binds (ps := ["one", "other"]) fun _ _ _ _ _ _ us hl => match us, hl with | [_, _], _ => rfl
  have gBo := PySem.W.mg_of X G aBo
  have FSo := fun_mk (st := (topS 20)) lSo cSo kSo
  have bSo := FSo.binds (ps := ["some", "others", "signs"]) fun _ _ _ _ _ _ us hl => match us, hl with | [_, _, _], _ => rfl
  have gSo := PySem.W.mg_of X G aSo
  have FCo := fun_mk (st := (topS 21)) lCo cCo kCo
  have bCo := FCo.binds (ps := ["one", "other", "signs"]) fun _ _ _ _ _ _ us hl => match us, hl with | [_, _, _], _ => rfl
  have gCo := PySem.W.mg_of X G aCo
  have FWn := fun_mk (st := (topS 22)) lWn cWn kWn
  have bWn := FWn.binds (ps := ["one", "other"]) fun _ _ _ _ _ _ us hl => match us, hl with | [_, _], _ => rfl
  have gWn := PySem.W.mg_of X G aWn
  have FMb := fun_mk (st := (topS 23)) lMb cMb kMb
  have bMb := FMb.binds (ps := ["starts", "periods", "is_in"]) fun _ _ _ _ _ _ us hl => match us, hl with | [_, _, _], _ => rfl
  have gMb := PySem.W.mg_of X G aMb
  have FD := fun_mk (st := (topS 27)) lD cD kD
  have bD := FD.binds (ps := ["_law_deal_here", "_law_many"]) fun _ _ _ _ _ _ us hl => match us, hl with | [_, _], _ => rfl
  have gD := PySem.W.mg_of X G aD
  have FP := fun_mk (st := (topS 28)) lP cP kP
  have bP := FP.binds (ps := ["_law_deal_here", "_law_some"]) fun _ _ _ _ _ _ us hl => match us, hl with | [_, _], _ => rfl
  have gP := PySem.W.mg_of X G aP
  have FS := fun_mk (st := (topS 29)) lS cS kS
  have bS := FS.binds (ps := ["_law_deal_here", "_law_wide"]) fun _ _ _ _ _ _ us hl => match us, hl with | [_, _], _ => rfl
  have gS := PySem.W.mg_of X G aS
  have FT := fun_mk (st := (topS 30)) lT cT kT
  have bT := FT.binds (ps := ["_law_deal_here", "_law_most", "_law_far"]) fun _ _ _ _ _ _ us hl => match us, hl with | [_, _, _], _ => rfl
  have gT := PySem.W.mg_of X G aT
  have FL := fun_mk (st := (topS 26)) lL cL kL
  have bL := FL.binds (ps := ["_law_script", "_law_base"]) fun _ _ _ _ _ _ us hl => match us, hl with | [_, _], _ => rfl
  have gL := PySem.W.mg_of X G aL
  have FSp := fun_mk (st := (topS 31)) lSp cSp kSp
  have bSp := FSp.binds (ps := ["_law_number", "_law_start", "_law_period"]) fun _ _ _ _ _ _ us hl => match us, hl with | [_, _, _], _ => rfl
  have gSp := PySem.W.mg_of X G aSp
  have FHa := fun_mk (st := (topS 32)) lHa cHa kHa
  have bHa := FHa.binds (ps := ["_law_table_here", "_law_k", "_law_l"]) fun _ _ _ _ _ _ us hl => match us, hl with | [_, _, _], _ => rfl
  have gHa := PySem.W.mg_of X G aHa
  have FGr := fun_mk (st := (topS 33)) lGr cGr kGr
  have bGr := FGr.binds (ps := ["_law_deal_here"]) fun _ _ _ _ _ _ us hl => match us, hl with | [_], _ => rfl
  have gGr := PySem.W.mg_of X G aGr
  have FEd := fun_mk (st := (topS 34)) lEd cEd kEd
  have bEd := FEd.binds (ps := ["_law_deal_here", "_law_table_here", "_law_some"]) fun _ _ _ _ _ _ us hl => match us, hl with | [_, _, _], _ => rfl
  have gEd := PySem.W.mg_of X G aEd
  have FW := fun_mk (st := (topS 35)) lW cW kW
  have bW := FW.binds (ps := ["_law_script"]) fun _ _ _ _ _ _ us hl => match us, hl with | [_], _ => rfl
  have gW := PySem.W.mg_of X G aW
  have gIN := PySem.W.mg_of X G aIN
  have gNO := PySem.W.mg_of X G aNO
  have clC : Cls K C := ⟨pgC, hdC, poC, saC⟩
  have gmC := PySem.W.mg_of X G aC
  have FJ := fun_mk (st := (inClass (topS 24) 0)) lJ cJ kJ
  have bJ := FJ.binds (ps := ["self", "starts", "periods", "rows"]) fun _ _ _ _ _ _ us hl => match us, hl with | [_, _, _, _], _ => rfl
  have FBs := fun_mk (st := (inClass (topS 24) 23)) lBs cBs kBs
  have bBs := FBs.binds (ps := ["self", "kind"]) fun _ _ _ _ _ _ us hl => match us, hl with | [_, _], _ => rfl
  have FSg := fun_mk (st := (inClass (topS 24) 19)) lSg cSg kSg
  have bSg := FSg.binds (ps := ["self", "k", "l"]) fun _ _ _ _ _ _ us hl => match us, hl with | [_, _, _], _ => rfl
  have FCn := fun_mk (st := (inClass (topS 24) 16)) lCn cCn kCn
  have bCn := FCn.binds (ps := ["self", "value"]) fun _ _ _ _ _ _ us hl => match us, hl with | [_, _], _ => rfl
  have FEq := fun_mk (st := (inClass (topS 24) 11)) lEq cEq kEq
  have bEq := FEq.binds (ps := ["self", "other"]) fun _ _ _ _ _ _ us hl => match us, hl with | [_, _], _ => rfl
  have FAn := fun_mk (st := (inClass (topS 24) 6)) lAn cAn kAn
  have bAn := FAn.binds (ps := ["self", "other"]) fun _ _ _ _ _ _ us hl => match us, hl with | [_, _], _ => rfl
  have FOr := fun_mk (st := (inClass (topS 24) 7)) lOr cOr kOr
  have bOr := FOr.binds (ps := ["self", "other"]) fun _ _ _ _ _ _ us hl => match us, hl with | [_, _], _ => rfl
  have FSu := fun_mk (st := (inClass (topS 24) 8)) lSu cSu kSu
  have bSu := FSu.binds (ps := ["self", "other"]) fun _ _ _ _ _ _ us hl => match us, hl with | [_, _], _ => rfl
  have FXo := fun_mk (st := (inClass (topS 24) 9)) lXo cXo kXo
  have bXo := FXo.binds (ps := ["self", "other"]) fun _ _ _ _ _ _ us hl => match us, hl with | [_, _], _ => rfl
  have FIv := fun_mk (st := (inClass (topS 24) 10)) lIv cIv kIv
  have bIv := FIv.binds (ps := ["self"]) fun _ _ _ _ _ _ us hl => match us, hl with | [_], _ => rfl
  have FLo := fun_mk (st := (inClass (topS 24) 12)) lLo cLo kLo
  have bLo := FLo.binds (ps := ["self", "other"]) fun _ _ _ _ _ _ us hl => match us, hl with | [_, _], _ => rfl
  have FLt := fun_mk (st := (inClass (topS 24) 13)) lLt cLt kLt
  have bLt := FLt.binds (ps := ["self", "other"]) fun _ _ _ _ _ _ us hl => match us, hl with | [_, _], _ => rfl
  have FBl := fun_mk (st := (inClass (topS 24) 17)) lBl cBl kBl
  have bBl := FBl.binds (ps := ["self"]) fun _ _ _ _ _ _ us hl => match us, hl with | [_], _ => rfl
  have CR : ClX.CRead K C (.type "type") := ⟨rdC, gaC⟩
  have FAl := fun_mk (st := (inClass (topS 24) 4)) lAl cAl kAl
  have bAl := FAl.binds (ps := ["cls", "kind", "number"]) fun _ _ _ _ _ _ us hl => match us, hl with | [_, _, _], _ => rfl
  have CMAl : ClX.CMet K C (.type "type") "at_least" pcAl fAl := ⟨atAl, ⟨_, rcAl⟩, fiAl⟩
  have XE : PySem.ErrX.ErrTxt PySem.Challenge.pw_foreheads_k10_great_crowds K mg "InvalidCrowds" CE fX :=
    { gC := PySem.W.mg_of X G aX, cls := ⟨nm, qn, NN, bs, bm, sn, sub, ab, col, dd, m0, m1, m2, m3, m5, xX, rX⟩, sa := saX, ga := gaX, gg := ggX, noN := nwX, iC := iX, tC := tX, kC := kX, exC := eX, tyC := yX, hdC := hX, sup := uX, sV := vX, sS := sX, op := oX, su := zX, top := by decide +kernel,
      fn := ⟨_, _, _, _, _, _, _, _, _, _, _, cc, cda, lX, cX, ⟨_, _, _, _, _, _, dX, f2X, f3X⟩, _, _, _, ccX⟩ }
  have XF : XfC K CE := ⟨gaX, ggX, eX, hX⟩
  refine ⟨PySem.W.fnOf "law" "law" (defArgs (topS 35)) (defBody (topS 35)) (defScope (topS 35)) .none kVW dcW pmW anW cdW ctW, [(tcBs, tPBs)], spLaw K [(tPBs, (("Crowds.beside" : Str) ++ ".<locals>.") ++ "<lambda>")], fun p hp => ?_, fun p hp => ?_, fun p hp => ?_, fun s v => .of_eq rfl, fun H a ns hl _ hc hS => ⟨a, ns, rfl, hS, hl, fun p hp => ?_, fun _ => rfl⟩, fun base KB _ TBs => ?_⟩
  · simp only [List.mem_cons, List.not_mem_nil, or_false] at hp
    rcases hp with rfl
    · exact ttBs
  · simp only [List.mem_cons, List.not_mem_nil, or_false] at hp
    rcases hp with rfl
    · exact tnBs
  · simp only [List.mem_cons, List.not_mem_nil, or_false] at hp
    rcases hp with rfl
    · exact PySem.W.codeHd_of_K X thBs
  · simp only [List.mem_cons, List.not_mem_nil, or_false] at hp
    rcases hp with rfl
    · exact TabS.nil (hc (tcBs, tPBs) (by simp))
  have TBBs : TabB base mg tcBs tPBs := TBs (tcBs, tPBs) (by simp)
  have hmBs : (tPBs, (("Crowds.beside" : Str) ++ ".<locals>.") ++ "<lambda>") ∈ ([(tPBs, (("Crowds.beside" : Str) ++ ".<locals>.") ++ "<lambda>")] : List (Addr × Str)) := by simp
  have huBs : ∀ p ∈ ([(tPBs, (("Crowds.beside" : Str) ++ ".<locals>.") ++ "<lambda>")] : List (Addr × Str)), p.1 = tPBs → p.2 = (("Crowds.beside" : Str) ++ ".<locals>.") ++ "<lambda>" := by
    intro p hp e
    simp only [List.mem_cons, List.not_mem_nil, or_false] at hp
    rcases hp with rfl
    · rfl
  have qcBs := tqBs
  have L : CrC K mg C := ⟨clC, nCstarts, nCperiods, nCrows, gmC⟩
  have I : CrI K C := ⟨haC, hnO, htO, hmC, kOC⟩
  have MK : Mk K C fJ := ⟨mkC, aJ, iJ, kcC⟩
  have GI : ∀ k, FnOk PySem.Challenge.pw_foreheads_k10_great_crowds w K mg base (L2.CX _ w) (k + 4) fJ _ ["self", "starts", "periods", "rows"] (spInit C CE) := fun k => ok_init (k := k) FJ T L FH bH gH (ok_checked (k := k) FH T XE FI bI gI FQ bQ gQ FN bN gN FB bB gB gIN gNO) FY bY gY FZ bZ gZ
  have GB : FnOk PySem.Challenge.pw_foreheads_k10_great_crowds w K mg base CX0 3 fBo _ ["one", "other"] (spBoth C) := ok_both (k := 0) FBo T L FCm bCm gCm FPl bPl gPl FWi bWi gWi
  have GC : FnOk PySem.Challenge.pw_foreheads_k10_great_crowds w K mg base CX0 6 fCo _ ["one", "other", "signs"] (spComb C) := ok_comb (k := 0) FCo T L FBo bBo gBo GB FSo bSo gSo gIN MK bJ (GI 0)
  have GW : FnOk PySem.Challenge.pw_foreheads_k10_great_crowds w K mg base CX0 5 fCw _ ["value"] (spInt isCrowdD) := ok_crowd (k := 2) FCw T FI bI gI FN bN gN
  have GS : FnOk PySem.Challenge.pw_foreheads_k10_great_crowds w K mg base CX0 5 fSg _ ["self", "k", "l"] (spSign C) := ok_sign (k := 3) FSg T L FPl bPl gPl
  have GN : FnOk PySem.Challenge.pw_foreheads_k10_great_crowds w K mg base CX0 6 fCn _ ["self", "value"] (spCon C) := ok_con (k := 2) FCn T L gIN FCw bCw gCw GW ⟨aSg, iSg, kSg⟩ bSg GS
  have GM : FnOk PySem.Challenge.pw_foreheads_k10_great_crowds w K mg base CX0 8 fMb _ ["starts", "periods", "is_in"] (spMade PySem.Challenge.pw_foreheads_k10_great_crowds w K mg base 7 C) := ok_made (k := 2) FMb T L gIN gNO MK bJ (GI 2)
  have GBs : FnOk PySem.Challenge.pw_foreheads_k10_great_crowds w K mg base CX0 9 fBs _ ["self", "kind"] (spBes C [(tPBs, (("Crowds.beside" : Str) ++ ".<locals>.") ++ "<lambda>")]) := ok_bes (k := 2) FBs T L FMb bMb gMb GM bCn GN aCn iCn TBBs qcBs hmBs huBs
  have Gal : FnOk PySem.Challenge.pw_foreheads_k10_great_crowds w K mg base CX0 11 fAl _ ["cls", "kind", "number"] (sdAl C) := (ok_al (k := 5) FAl T L gIN gNO MK bJ (GI 5)).imp fun _ _ _ _ => sal_of
  have Gbes : ∀ k, 11 ≤ k → FnOk PySem.Challenge.pw_foreheads_k10_great_crowds w K mg base CX0 k fBs _ ["self", "kind"] (sdBes C [(tPBs, (("Crowds.beside" : Str) ++ ".<locals>.") ++ "<lambda>")]) := fun k hk => (GBs.mono (by omega)).imp fun _ _ _ _ => sbes_of
  have Gan : ∀ k, 11 ≤ k → FnOk PySem.Challenge.pw_foreheads_k10_great_crowds w K mg base CX0 k fAn _ ["self", "other"] (sdBin C (fun a b => a && b)) := fun k hk => ((ok_and (k := 0) FAn T L I FCo bCo gCo GC).mono (by omega)).imp fun _ _ _ _ => sbin_of
  have Gor : FnOk PySem.Challenge.pw_foreheads_k10_great_crowds w K mg base CX0 11 fOr _ ["self", "other"] (sdBin C (fun a b => a || b)) := ((ok_or (k := 0) FOr T L I FCo bCo gCo GC).mono (by decide)).imp fun _ _ _ _ => sbin_of
  have Gsu : FnOk PySem.Challenge.pw_foreheads_k10_great_crowds w K mg base CX0 11 fSu _ ["self", "other"] (sdBin C (fun a b => a && !b)) := ((ok_sub (k := 0) FSu T L I FCo bCo gCo GC).mono (by decide)).imp fun _ _ _ _ => sbin_of
  have Gxo : ∀ k, 11 ≤ k → FnOk PySem.Challenge.pw_foreheads_k10_great_crowds w K mg base CX0 k fXo _ ["self", "other"] (sdBin C (fun a b => a != b)) := fun k hk => ((ok_xor (k := 0) FXo T L I FCo bCo gCo GC).mono (by omega)).imp fun _ _ _ _ => sbin_of
  have Giv : ∀ k, 11 ≤ k → FnOk PySem.Challenge.pw_foreheads_k10_great_crowds w K mg base CX0 k fIv _ ["self"] (sdInv C) := fun k hk => ((ok_inv (k := 3) FIv T L FSo bSo gSo gIN MK bJ (GI 3)).mono (by omega)).imp fun _ _ _ _ => sinv_of
  have Gcn : ∀ k, 11 ≤ k → FnOk PySem.Challenge.pw_foreheads_k10_great_crowds w K mg base CX0 k fCn _ ["self", "value"] (sdCon C) := fun k hk => (GN.mono (by omega)).imp fun _ _ _ _ => scon_of
  have GWn : FnOk PySem.Challenge.pw_foreheads_k10_great_crowds w K mg base CX0 4 fWn _ ["one", "other"] (spWithin C) := ok_within (k := 0) FWn T FBo bBo gBo GB FSo bSo gSo gIN
  have Gle : FnOk PySem.Challenge.pw_foreheads_k10_great_crowds w K mg base CX0 11 fLo _ ["self", "other"] (sdLe C) := ((ok_le (k := 0) FLo T L I FWn bWn gWn GWn).mono (by decide)).imp fun _ _ _ _ => sle_of
  have Glt : FnOk PySem.Challenge.pw_foreheads_k10_great_crowds w K mg base CX0 11 fLt _ ["self", "other"] (sdLt C) := ((ok_lt (k := 0) FLt T L I FWn bWn gWn GWn).mono (by decide)).imp fun _ _ _ _ => slt_of
  have GEd : FnOk PySem.Challenge.pw_foreheads_k10_great_crowds w K mg base CX0 12 fEd _ ["_law_deal_here", "_law_table_here", "_law_some"] (spEdge C [(tPBs, (("Crowds.beside" : Str) ++ ".<locals>.") ++ "<lambda>")]) := ok_edge (k := 10) FEd T L I FD bD gD (ok_draw (k := 10) FD T) FHa bHa gHa (ok_has (k := 9) FHa T FSp bSp gSp) CR CMAl ((Gal.raw bAl .nil).imp fun _ _ _ _ h => by simpa using h) (Gbes 11 (by decide)) bBs ⟨aBs, iBs, kBs⟩
    (Gan 11 (by decide)) bAn aAn iAn Gor bOr aOr iOr Gsu bSu aSu iSu (Gxo 11 (by decide)) bXo aXo iXo (Gcn 11 (by decide)) bCn aCn iCn Gle bLo aLo iLo Glt bLt aLt iLt ((ok_eq (k := 9) FEq T L I).imp fun _ _ _ _ => seq_of) bEq aEq iEq sne (Giv 11 (by decide)) bIv aIv iIv ((ok_bool (k := 10) FBl T L gIN).imp fun _ _ _ _ => sbool_of) bBl aBl iBl sfC nfC
  exact ok_law FW T L FL bL gL (ok_deal (k := 11) FL T) FD bD gD (ok_draw (k := 11) FD T) FT bT gT (ok_table (k := 9) FT T FD bD gD FS bS gS FP bP gP) FGr bGr gGr (ok_gr (k := 10) FGr T FD bD gD (ok_draw (k := 10) FD T)) FEd bEd gEd GEd FHa bHa gHa (ok_has (k := 10) FHa T FSp bSp gSp) (GI 2) bJ MK
    (Gbes 12 (by decide)) bBs ⟨aBs, iBs, kBs⟩ (Gan 12 (by decide)) bAn aAn iAn (Gxo 12 (by decide)) bXo aXo iXo (Gcn 12 (by decide)) bCn aCn iCn (Giv 12 (by decide)) bIv aIv iIv sfC
theorem walk {q : Program} {loose : List Str} {XP : (Str → Option Value) → Heap → Prop} {YP : World → Heap → Prop} {d : DefRec} {K : Params → PySem.W.Frag} (hdf : d.params.defaults = [])
    (hY : ∀ (w : World) (h : Heap), YP w h → (K w.params).In h)
    (F : ∀ (w : World) (mg : Str → Option Value) (fa : Addr) (h : Heap), YP w h → (K w.params).In h → h.Ns mainGlobals mg → mg d.name = some (.ref fa) → LawAtG PySem.Challenge.rw_foreheads_k10_great_crowds w (K w.params) 13 63 "_law_script" mg fa h) :
    PySem.W.WalkO q loose XP YP PySem.Challenge.rw_foreheads_k10_great_crowds.row.toRowW d [] (fun f vs => PySem.call f vs) :=
  walk_ofTsG (l := PySem.Challenge.rw_foreheads_k10_great_crowds) (n := 63) (k := 13) (x := "_law_script") rfl (by decide) hdf ⟨rfl, by decide, by decide⟩ hY F
end FH
open PySem PySem.W PyProof.Rows
set_option maxRecDepth 100000 in
set_option maxHeartbeats 0 in
theorem PySem.Challenge.cw_foreheads_k10_great_crowds_holds : PySem.Challenge.rw_foreheads_k10_great_crowds.Holds := by
  w_on; o_law; k_head; (case hw => w_witness2)
  k_fill
  refine FH.walk rfl (fun w h Y => PySem.W.km_in_of Y) ?F
  case F =>
    intro w mg fa h Y KX G hmg
    refine' FH.all_mk KX G hmg ?aI ?lI ?cI ?kI ?aN ?lN ?cN ?kN ?aQ ?lQ ?cQ ?kQ ?aCw ?lCw ?cCw ?kCw ?aB ?lB ?cB ?kB ?aH ?lH ?cH ?kH ?aY ?lY ?cY ?kY ?aZ ?lZ ?cZ ?kZ ?aCm ?lCm ?cCm ?kCm ?aPl ?lPl ?cPl ?kPl ?aWi ?lWi ?cWi ?kWi ?aBo ?lBo ?cBo ?kBo ?aSo ?lSo ?cSo ?kSo ?aCo ?lCo ?cCo ?kCo ?aWn ?lWn ?cWn ?kWn ?aMb ?lMb ?cMb ?kMb ?aD ?lD ?cD ?kD ?aP ?lP ?cP ?kP ?aS ?lS ?cS ?kS ?aT ?lT ?cT ?kT ?aL ?lL ?cL ?kL ?aSp ?lSp ?cSp ?kSp ?aHa ?lHa ?cHa ?kHa ?aGr ?lGr ?cGr ?kGr ?aEd ?lEd ?cEd ?kEd ?aW ?lW ?cW ?kW ?aIN ?aNO ?aC ?pgC ?hdC ?poC ?saC ?mkC ?kcC ?nCstarts ?nCperiods ?nCrows ?aJ ?iJ ?lJ ?cJ ?kJ ?aBs ?iBs ?lBs ?cBs ?kBs ?aSg ?iSg ?lSg ?cSg ?kSg ?aCn ?iCn ?lCn ?cCn ?kCn ?aEq ?iEq ?lEq ?cEq ?kEq ?aAn ?iAn ?lAn ?cAn ?kAn ?aOr ?iOr ?lOr ?cOr ?kOr ?aSu ?iSu ?lSu ?cSu ?kSu ?aXo ?iXo ?lXo ?cXo ?kXo ?aIv ?iIv ?lIv ?cIv ?kIv ?aLo ?iLo ?lLo ?cLo ?kLo ?aLt ?iLt ?lLt ?cLt ?kLt ?aBl ?iBl ?lBl ?cBl ?kBl ?haC ?hnO ?htO ?hmC ?kOC ?sne ?nfC ?sfC ?rdC ?gaC ?atAl ?rcAl ?fiAl ?lAl ?cAl ?kAl ?aX ?xX ?rX ?saX ?gaX ?ggX ?nwX ?iX ?tX ?kX ?eX ?yX ?hX ?uX ?vX ?sX ?oX ?zX ?lX ?cX ?dX ?f2X ?f3X ?ccX ?te ?tqBs ?tlBs ?tpBs ?thBs ?tnBs ?ttBs ?z0 ?z1 ?z2 ?z3 ?z4 ?z5 ?z6 ?z7 ?z8 ?z9 ?z10 ?z11 ?z12 ?z13 ?z14 ?z15 ?z16
    (case aI => k_is)
    (case lI => k_is)
    (case cI => k_is)
    (case kI => k_is)
    (case aN => k_is)
    (case lN => k_is)
    (case cN => k_is)
    (case kN => k_is)
    (case aQ => k_is)
    (case lQ => k_is)
    (case cQ => k_is)
    (case kQ => k_is)
    (case aCw => k_is)
    (case lCw => k_is)
    (case cCw => k_is)
    (case kCw => k_is)
    (case aB => k_is)
    (case lB => k_is)
    (case cB => k_is)
    (case kB => k_is)
    (case aH => k_is)
    (case lH => k_is)
    (case cH => k_is)
    (case kH => k_is)
    (case aY => k_is)
    (case lY => k_is)
    (case cY => k_is)
    (case kY => k_is)
    (case aZ => k_is)
    (case lZ => k_is)
    (case cZ => k_is)
    (case kZ => k_is)
    (case aCm => k_is)
    (case lCm => k_is)
    (case cCm => k_is)
    (case kCm => k_is)
    (case aPl => k_is)
    (case lPl => k_is)
    (case cPl => k_is)
    (case kPl => k_is)
    (case aWi => k_is)
    (case lWi => k_is)
    (case cWi => k_is)
    (case kWi => k_is)
    (case aBo => k_is)
    (case lBo => k_is)
    (case cBo => k_is)
    (case kBo => k_is)
    (case aSo => k_is)
    (case lSo => k_is)
    (case cSo => k_is)
    (case kSo => k_is)
    (case aCo => k_is)
    (case lCo => k_is)
    (case cCo => k_is)
    (case kCo => k_is)
    (case aWn => k_is)
    (case lWn => k_is)
    (case cWn => k_is)
    (case kWn => k_is)
    (case aMb => k_is)
    (case lMb => k_is)
    (case cMb => k_is)
    (case kMb => k_is)
    (case aD => k_is)
    (case lD => k_is)
    (case cD => k_is)
    (case kD => k_is)
    (case aP => k_is)
    (case lP => k_is)
    (case cP => k_is)
    (case kP => k_is)
    (case aS => k_is)
    (case lS => k_is)
    (case cS => k_is)
    (case kS => k_is)
    (case aT => k_is)
    (case lT => k_is)
    (case cT => k_is)
    (case kT => k_is)
    (case aL => k_is)
    (case lL => k_is)
    (case cL => k_is)
    (case kL => k_is)
    (case aSp => k_is)
    (case lSp => k_is)
    (case cSp => k_is)
    (case kSp => k_is)
    (case aHa => k_is)
    (case lHa => k_is)
    (case cHa => k_is)
    (case kHa => k_is)
    (case aGr => k_is)
    (case lGr => k_is)
    (case cGr => k_is)
    (case kGr => k_is)
    (case aEd => k_is)
    (case lEd => k_is)
    (case cEd => k_is)
    (case kEd => k_is)
    (case aW => k_is)
    (case lW => k_is)
    (case cW => k_is)
    (case kW => k_is)
    (case aIN => k_is)
    (case aNO => k_is)
    (case aC => k_is)
    (case pgC => k_is)
    (case hdC => k_is)
    (case poC => k_is)
    (case saC => k_is)
    (case mkC => k_is)
    (case kcC => k_is)
    (case nCstarts => k_is)
    (case nCperiods => k_is)
    (case nCrows => k_is)
    (case aJ => k_is)
    (case iJ => k_is)
    (case lJ => k_is)
    (case cJ => k_is)
    (case kJ => k_is)
    (case aBs => k_is)
    (case iBs => k_is)
    (case lBs => k_is)
    (case cBs => k_is)
    (case kBs => k_is)
    (case aSg => k_is)
    (case iSg => k_is)
    (case lSg => k_is)
    (case cSg => k_is)
    (case kSg => k_is)
    (case aCn => k_is)
    (case iCn => k_is)
    (case lCn => k_is)
    (case cCn => k_is)
    (case kCn => k_is)
    (case aEq => k_is)
    (case iEq => k_is)
    (case lEq => k_is)
    (case cEq => k_is)
    (case kEq => k_is)
    (case aAn => k_is)
    (case iAn => k_is)
    (case lAn => k_is)
    (case cAn => k_is)
    (case kAn => k_is)
    (case aOr => k_is)
    (case iOr => k_is)
    (case lOr => k_is)
    (case cOr => k_is)
    (case kOr => k_is)
    (case aSu => k_is)
    (case iSu => k_is)
    (case lSu => k_is)
    (case cSu => k_is)
    (case kSu => k_is)
    (case aXo => k_is)
    (case iXo => k_is)
    (case lXo => k_is)
    (case cXo => k_is)
    (case kXo => k_is)
    (case aIv => k_is)
    (case iIv => k_is)
    (case lIv => k_is)
    (case cIv => k_is)
    (case kIv => k_is)
    (case aLo => k_is)
    (case iLo => k_is)
    (case lLo => k_is)
    (case cLo => k_is)
    (case kLo => k_is)
    (case aLt => k_is)
    (case iLt => k_is)
    (case lLt => k_is)
    (case cLt => k_is)
    (case kLt => k_is)
    (case aBl => k_is)
    (case iBl => k_is)
    (case lBl => k_is)
    (case cBl => k_is)
    (case kBl => k_is)
    (case haC => k_is)
    (case hnO => k_is)
    (case htO => k_is)
    (case hmC => k_is)
    (case kOC => kit_is)
    (case sne => k_is)
    (case nfC => k_is)
    (case sfC => k_is)
    (case rdC => k_is)
    (case gaC => k_is)
    (case atAl => k_is)
    (case rcAl => k_is)
    (case fiAl => k_is)
    (case lAl => k_is)
    (case cAl => k_is)
    (case kAl => k_is)
    (case aX => k_is)
    (case xX => k_is)
    (case rX => first | rfl | decide +kernel)
    (case saX => k_is)
    (case gaX => k_is)
    (case ggX => k_is)
    (case nwX => k_is)
    (case iX => k_is)
    (case tX => k_is)
    (case kX => k_is)
    (case eX => k_is)
    (case yX => k_is)
    (case hX => k_is)
    (case uX => ks_is)
    (case vX => k_is)
    (case sX => k_is)
    (case oX => k_is)
    (case zX => k_is)
    (case lX => k_is)
    (case cX => k_is)
    (case dX => k_is)
    (case f2X => rfl)
    (case f3X => first | rfl | decide +kernel)
    (case ccX => k_is)
    (case te => kts_exm)
    (case tqBs => rfl)
    (case tlBs => k_is)
    (case tpBs => rfl)
    (case thBs => first | k_is | kernel_rfl | (unfold PySem.W.codeHdIn; rfl))
    (case tnBs => first | k_is | kernel_rfl | rfl)
    (case ttBs => exact PySem.W.km_tabs_of Y _ (by decide))
    (case z0 => k_is)
    (case z1 => k_is)
    (case z2 => k_is)
    (case z3 => k_is)
    (case z4 => k_is)
    (case z5 => k_is)
    (case z6 => k_is)
    (case z7 => k_is)
    (case z8 => k_is)
    (case z9 => k_is)
    (case z10 => k_is)
    (case z11 => k_is)
    (case z12 => k_is)
    (case z13 => k_is)
    (case z14 => k_is)
    (case z15 => k_is)
    (case z16 => k_is)
