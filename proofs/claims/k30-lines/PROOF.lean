import PyProof.Rows.All
import Wide.All
import OpenK.AllK
import Wide.FinOn
import KE.KExcSuper
import HandS.ForExc
import HandS.ExcField
import HandS.ExcIs
import HandS.IsInst
import PyProof.InstEq
import HandS.ForMost
import HandS.OwnEq
import HandS.Conv
import HandS.Defaults
import KE.RegKIsAll
import KE.RegKSuper
import KE.RegKTryMore
import PySem.Challenge.RW_foreheads_k30_lines_made_and_refused
set_option Elab.async false
set_option linter.all false
set_option maxRecDepth 100000
set_option maxHeartbeats 2000000
/-! An own error whose maker says super, then keeps one thing. -/
namespace PySem
namespace ErrX
open PySem.W PySem.Calls PyProof.Rows PySem.HandSPX
def iA (n : Nat) : Arguments :=
  { posonlyargs := [], args := [{ arg := "self", annotation := none, pos := ⟨n, 17, n, 21⟩ }, { arg := "word", annotation := none, pos := ⟨n, 23, n, 27⟩ }],
    vararg := none, kwonlyargs := [], kw_defaults := [], kwarg := none, defaults := [] }
def iB (n m : Nat) : List Stmt :=
  [.Expr (.Call (.Attribute (.Call (.Name "super" ⟨n, 8, n, 13⟩) [] [] ⟨n, 8, n, 15⟩) "__init__" ⟨n, 8, n, 24⟩) [.Name "word" ⟨n, 25, n, 29⟩] [] ⟨n, 8, n, 30⟩) ⟨n, 8, n, 30⟩,
   .Assign [.Attribute (.Name "self" ⟨m, 8, m, 12⟩) "word" ⟨m, 8, m, 17⟩] (.Name "word" ⟨m, 20, m, 24⟩) ⟨m, 8, m, 24⟩]
theorem mcp {o : Expr} {env : Env} {a b c d e f n : Nat} : methodCallPos true o env ⟨a, b, n, c⟩ ⟨n, d, e, f⟩ = pure ⟨n, d, e, f⟩ := by
  simp [methodCallPos]
/-- a method's call in one line -/
theorem meth_line {o : Expr} {name : Str} {a b c d e f n : Nat} {args : List Expr} {env : Env} (hf : methodCallForm (args.length + 0) (backTo ⟨n, d, e, f⟩ (starEach args env)) [] = true) :
    eval (.Call (.Attribute o name ⟨a, b, n, c⟩) args [] ⟨n, d, e, f⟩) env = (do
      let ov ← attributeBase o name env (eval o env)
      standAt (Pos.atName ⟨a, b, n, c⟩)
      let (f', first) ← holding [ov] (getMethod ov name (do return (← importBound o env).getD true))
      callWith ⟨n, d, e, f⟩ f' first (backTo ⟨n, d, e, f⟩ (starEach args env)) []) := by
  rw [arm_eval_Call]
  have hk : backToKw ⟨n, d, e, f⟩ (keywordEach [] env) = [] := rfl
  rw [hk]
  have hl : args.length + ([] : List Keyword).length = args.length + 0 := rfl
  rw [hl]
  simp only [methodCall, hf, calleeOf, if_true, mcp, pure_bind]
def iS : Scope :=
  { kind := .function, names := [(PySem.Str.ofString "self", .local), (PySem.Str.ofString "word", .local), (PySem.Str.ofString "__class__", .free), (PySem.Str.ofString "super", .globalImplicit)],
    isGenerator := false, isCoroutine := false, more := [] }
structure ErrTxt (P : Program) (K : Frag) (mg : Str → Option Value) (cn : Str) (C fI : Addr) : Prop where
  gC : mg cn = some (.ref C)
  cls : ∃ nm q N bs bm sn sub ab col dd k0 k1 k2 k3 k5,
    K.lookup C = some (excClassObj nm q C N bs bm true sn sub ab col dd k0 k1 k2 k3 k5 "ValueError.__new__") ∧ refsVE bm = true
  sa : findIn K (.ref C) "__setattr__" = some (some (.builtin "object.__setattr__"))
  ga : findIn K (.ref C) "__getattribute__" = some (some (.builtin "BaseException.__getattribute__"))
  gg : findIn K (.ref C) "__getattr__" = some none
  noN : findIn K (.ref C) "word" = some none
  iC : findIn K (.ref C) "__init__" = some (some (.ref fI))
  tC : typeIn K (.ref fI) = some (.type "function")
  kC : keepIn K (.ref C) = true
  exC : subIn K (.ref C) (.type "BaseException") = some true
  tyC : typeIn K (.ref C) = some (.type "type")
  hdC : hasDictIn K C = true
  sup : ks_superIn K C C "__init__" = some (some (.builtin "ValueError.__init__"))
  sV : subIn K (.ref C) (.type "ValueError") = some true
  sS : mroIn K C (.ref C) = some true
  op : nsIn K cStatics "thirdparty.any" = some none
  su : nsIn K mainGlobals "super" = some none
  top : (P.main.scope.names.lookup ("super" : Str)).isSome = false
  fn : ∃ (qual : Str) (oc : Value) (od : Option Addr) (doc pm : Value) (an : Option Addr) (ct : Value) (osl : Array (Option Value)) (n1 n2 n3 : Nat) (cc cda : Addr),
    K.lookup fI = some ⟨oc, od, .func (ksFn "__init__" qual (iA n1) (iB n2 n3) iS .none .none doc pm an (.ref cda) ct cc), osl⟩ ∧ codeIn K (.ref cda) qual = true ∧
    (∃ ccl cdd vs ccs file tf, K.lookup cda = some ⟨ccl, cdd, .fields vs, ccs⟩ ∧ vs[2]? = some (.str file tf) ∧ ((P.main.file : Str) == file) = true) ∧
    ∃ cl cld csl, K.lookup cc = some ⟨cl, cld, .cell (some (.ref C)), csl⟩
/-- what the maker leaves of a fresh error at x -/
structure InitEnd (h h' : Heap) (x C dx : Addr) (v : Value) : Prop where
  keep : ∀ b o, b ≠ x → h.get? b = some o → h'.get? b = some o
  obj : ∃ t1 : Addr, h'.get? x = some { cls := .ref C, dict := some dx, data := .fields #[.ref t1, .none, .none, .none, .bool false, .none] }
  dbig : h.objs.size ≤ dx
  dne : dx ≠ x
  ns : h'.Ns1 dx (fun y => if y = "word" then some v else none)
structure Made (h h' : Heap) (e C d : Addr) (v : Value) : Prop where
  keep : ∀ b o, h.get? b = some o → h'.get? b = some o
  new : h.objs.size ≤ e
  obj : ∃ t1 : Addr, h'.get? e = some ({ cls := .ref C, dict := some d, data := .fields #[.ref t1, .none, .none, .none, .bool false, .none] } : Obj)
  dbig : h.objs.size ≤ d
  dne : d ≠ e
  ns : h'.Ns1 d (fun y => if y = "word" then some v else none)
theorem one_fits (v : Value) : [v].length ≤ sizeLine := by
  rw [sizeLine_eq]; exact (by decide : 1 ≤ 16777216)
theorem noCell : ∀ y ∈ iS.names, y.2 ≠ .cell := by decide
theorem isLoc (x : Addr) (v : Value) : ∀ y ∈ [((("self" : Str), Value.ref x) : Str × Value), ("word", v)], iS.names.lookup y.1 = some .local := by
  intro y hy
  rcases List.mem_cons.mp hy with rfl | hy
  · rfl
  · rcases List.mem_cons.mp hy with rfl | hy
    · rfl
    · cases hy
theorem bootSuper : bootBuiltins "super" = some (.type "super") := by decide +kernel
section
variable {prog : Program} {w : World} {A : Around} {E : Value → Shared → Prop} {h : Heap} {g : Array GenState} {d : Drawn} {t : Nat} {os : OsState}
/-- the bound built-in maker, called -/
theorem call_mw {nm q : Str} {C N u x t0 : Addr} {bs bm : List Value} {hdct : Bool} {sn : List Str} {sub : List Value} {ab : Bool} {col : Option Bool} {dd : Option Addr} {k0 k1 k2 k3 k5 : Option Value} {rest : List Value} {Q : Value → Shared → Prop}
    (hC : h.get? C = some (excClassObj nm q C N bs bm hdct sn sub ab col dd k0 k1 k2 k3 k5 "ValueError.__new__")) (he : h.get? x = some (excO C t0)) (hu : h.get? u = some (kxs_mw "ValueError.__init__" x)) (hz : rest.length ≤ sizeLine)
    (hq : ∀ h' t1, (∀ b o, b ≠ x → h.get? b = some o → h'.get? b = some o) → h'.get? x = some (excO C t1) → Q .none ⟨h', g, d, t, os⟩) :
    wpAny (model prog w) A (call (.ref u) rest) Q E ⟨h, g, d, t, os⟩ := by
  have FB := F.excBase_ValueError
  refine wpAny_call (codeAny_of_tree ?_)
  show wpAny _ A.in1 (callAny (.ref u) ⟨rest, []⟩) _ _ _
  simp only [callAny]
  refine wpAny_bind (wpAny_load hu ?_)
  have z : (Value.type "method-wrapper" == Value.type "method" || Value.type "method-wrapper" == Value.type "builtin_function_or_method" || Value.type "method-wrapper" == Value.type "method-wrapper") = true := by decide
  simp only [kxs_mw, z, if_true]
  refine KFB.if_so (by decide) ?_
  refine wpAny_bind (check_bound_init FB.toExcCallFacts hC he rfl ?_)
  refine wpAny_bind (wpAny_pure (wpAny_pure ?_))
  refine ⟨plainId_quiet FB.init.plain _, codeAny_builtin FB.initEntry ?_⟩
  exact exc_init_tree (cls := .ref C) (t0 := t0) (dv := none) (c2 := .none) (c3 := .none) (b4 := .bool false) he hz fun h' k e' _ => hq h' _ k e'
end
theorem ldC {M : Model} {A : Around} {E : Value → Shared → Prop} {s : Shared} {env : Env} {m : Str → Option Value} {x : Str} {pos : Pos} {v : Value} {Q : Value → Shared → Prop} (hn : s.heap.Ns env.locals m) (hv : m x = some v) (h : Q v s)
    (hk : env.scope.kind = .function := by rfl) (hl : env.kindOf x = some .local := by rfl) (hd : (x == ("__debug__" : Str)) = false := by decide) :
    wpAny M A (eval (.Name x pos) env) Q E s := wpAny_Name (wpAny_loadName_local hk hl hn hv h) hd
section
variable {prog : Program} {w : World} {A : Around} {E : Value → Shared → Prop} {R : Result → Shared → Prop} {s : Shared} {K : Frag} {mg : Str → Option Value} {cn : Str} {C fI : Addr}
theorem err_init (T : ErrTxt prog K mg cn C fI) {x t0 : Addr} {v : Value} (X : K.In s.heap) (hlim : s.heap.NoLimit) (hG : s.heap.Ns mainGlobals mg)
    (hB : ∃ mb, s.heap.Ns builtinsNs mb ∧ ∀ x : Str, x ≠ "__name__" → mb x = bootBuiltins x) (hx : s.heap.get? x = some (excO C t0)) (hnx : K.lookup x = none) (hroom : A.depth < recursionLimit)
    (hq : ∀ h' tk dx, InitEnd s.heap h' x C dx v → R (.ok (.ret .none)) { s with heap := h', toks := tk }) :
    codeAny (model prog w) A (.call (.ref fI) ⟨[.ref x, v], []⟩) R s := by
  obtain ⟨qual, oc, od, doc, pm, an, ct, osl, n1, n2, n3, cc, cda, ho, hcd, ⟨ccl, cdd, vs, ccs, file, tf, hcode, hvs, hfile⟩, cl, cld, csl, hcell⟩ := T.fn
  obtain ⟨nm, qn, N, bs, bm, sn, sub, ab, col, dd, k0, k1, k2, k3, k5, hC, hbm⟩ := T.cls
  have hcl : clsIn K C = some { name := nm, bases := bs, mro := .ref C :: bm, ns := N, qualname := qn, hasDict := true, slotNames := sn, subclasses := sub, abstract := ab, collection := col, hasDel := false } := by
    unfold clsIn; rw [hC] <;> rfl
  obtain ⟨mb, hb, hbb⟩ := hB
  have hxC : x ≠ C := fun z => by
    rw [z] at hnx
    rw [hC] at hnx
    cases hnx
  have hbi : BindsTo s (ksFn "__init__" qual (iA n1) (iB n2 n3) iS .none .none doc pm an (.ref cda) ct cc) ⟨[.ref x, v], []⟩ [("self", .ref x), ("word", v)] := BindsTo.of_eq (by first | rfl | with_unfolding_all rfl)
  refine ks_codeAny_call_defAt (fd := ksFn "__init__" qual (iA n1) (iB n2 n3) iS .none .none doc pm an (.ref cda) ct cc) (body := iB n2 n3) (binds := [("self", .ref x), ("word", v)]) hroom (X _ _ ho) rfl hlim
    (codeRec_of X hcd) rfl hbi noCell (isLoc x v) (fun h1 hns hk1 => ?_)
  have X1 : K.In h1 := X.keeps hk1
  have hx1 := hk1 _ _ hx
  show wpAt _ _ (.func (iB n2 n3) (ksEnv qual iS s.heap.objs.size fI (.ref cda) cc)) (execs (iB n2 n3) (ksEnv qual iS s.heap.objs.size fI (.ref cda) cc)) _ _ _
  unfold iB
  refine ks_wpAt_execs_cons ?_
  refine ks_wpAt_Expr_any ?_
  refine ks_wpAt_MethodCall ?_ (meth_line rfl)
  refine ks_wpAt_super_base (env := ksEnv qual iS s.heap.objs.size fI (.ref cda) cc) rfl rfl (by decide) rfl (X1 _ _ ho) rfl rfl rfl (X1 _ _ hcode) rfl hvs hfile T.top ?_
  refine ks_loadName_global rfl rfl (loadGlobal_builtin (env := ksEnv qual iS s.heap.objs.size fI (.ref cda) cc) (hG.keeps hk1) (mg_none_of X hG T.su) (hb.keeps hk1) ((hbb _ (by decide)).trans bootSuper) ⟨rfl, ?_⟩)
  refine wpAny_loadName_free rfl rfl rfl ⟨_, X1 _ _ hcell, rfl⟩ ?_
  refine wpAny_loadName_local rfl rfl hns (by first | rfl | with_unfolding_all rfl) ?_
  refine ks_wpAny_isType_cls (X1 _ _ hC) rfl ⟨rfl, ?_⟩
  refine ks_wpAny_call_super (X1 _ _ hC) rfl hx1 rfl (fun c e => by cases e) (looks_mroIn X1 T.sS) (fun h2 hso hk2 => ?_)
  have X2 : K.In h2 := X1.keeps hk2
  have hx2 := hk2 _ _ hx1
  have hI : Looks (model prog w) h2 (isInstance (.ref x) (.type "ValueError")) true := (show InstAt h2 x (excO C t0) C none from ⟨hx2, rfl, rfl, trivial⟩).type.andThen (looks_subIn X2 T.sV)
  have hsup : alongIn K "__init__" (((Value.ref C :: bm).dropWhile (· != .ref C)).drop 1) = some (some (.builtin "ValueError.__init__")) := by
    have z := T.sup
    unfold ks_superIn at z
    rw [hcl] at z
    exact z
  refine kxs_getMethod kxs_ValueError hso (looks_opaque X2 T.op) (l₀ := .ref C :: bm) (fun A' Q' E' s' k q' => wpAny_bind ((looks_clsIn X2 hcl) A' _ E' s' k (wpAny_pure q'))) rfl X2 hsup hI hxC (by decide) ?_
  have hk3 : ∀ b o, h2.get? b = some o → (h2.push (kxs_mw "ValueError.__init__" x)).get? b = some o := fun b o e => Heap.get?_push_of_some _ e
  have hu3 : (h2.push (kxs_mw "ValueError.__init__" x)).get? h2.objs.size = some (kxs_mw "ValueError.__init__" x) := Heap.get?_push_at rfl rfl
  have hn3 : (h2.push (kxs_mw "ValueError.__init__" x)).Ns s.heap.objs.size (fun y => ([(("self" : Str), Value.ref x), ("word", v)] : List (Str × Value)).reverse.lookup y) := (hns.keeps hk2).keeps hk3
  refine kxs_callWith (i := "ValueError.__init__") (x := x) rfl ?_
  refine evalArgs_plain (x := eval (.Name "word" ⟨n2, 25, n2, 29⟩) (ksEnv qual iS s.heap.objs.size fI (.ref cda) cc)) (rest := []) ?_
  refine spliced_cons ?_
  refine ldC (v := v) hn3 (by first | rfl | with_unfolding_all rfl | kernel_rfl) ?_
  refine spliced_nil ⟨hu3, ?_⟩
  refine call_mw (X2.keeps hk3 _ _ hC) (hk3 _ _ hx2) hu3 (one_fits v) fun h4 t1 hk4 hx4 => ?_
  show wpAt _ _ _ (execs _ _) _ _ _
  have hL : s.heap.objs.size ≠ x := Nat.ne_of_gt (Heap.lt_size hx)
  have kx : ∀ b o, b ≠ x → s.heap.get? b = some o → h4.get? b = some o := fun b o hb e => hk4 b o hb (hk3 _ _ (hk2 _ _ (hk1 _ _ e)))
  have X4 : K.In h4 := fun a o e => hk4 a o (fun z => by rw [z, hnx] at e; cases e) (X2.keeps hk3 a o e)
  have hn4 : h4.Ns s.heap.objs.size (fun y => ([(("self" : Str), Value.ref x), ("word", v)] : List (Str × Value)).reverse.lookup y) := by
    obtain ⟨o, es, ep, e, r⟩ := hn3
    exact ⟨o, es, ep, hk4 _ _ hL e, r⟩
  refine wpAt_of_wpAny ?_
  refine wpAny_execs_cons (plainObj_wpAny_Assign_Attribute ?_)
  refine ldC (v := v) hn4 (by first | rfl | with_unfolding_all rfl | kernel_rfl) (ldC (v := .ref x) hn4 (by first | rfl | with_unfolding_all rfl | kernel_rfl) ?_)
  refine set_plain X4 (ox := excO C t1) (od := none) ⟨hx4, rfl, rfl, trivial⟩ T.sa ?_
  refine exc_osa X4 hx4 hcl (show refsVE (.ref C :: bm) = true from hbm) rfl T.noN (fun h5 tk5 dx hk5 dn dne hx5 hn5 => ?_)
  have z : s.heap.objs.size < h1.objs.size := hns.lt
  have z2 : h1.objs.size ≤ h2.objs.size := Nat.le_of_lt (Heap.lt_size hso)
  have z3 : h2.objs.size < h4.objs.size := by
    have e := hk4 _ _ (fun q => absurd (Heap.lt_size hx2) (by rw [q]; exact Nat.lt_irrefl _)) hu3
    exact Heap.lt_size e
  show wpAny _ _ (execs _ _) _ _ _
  exact wpAny_execs_nil (hq h5 tk5 dx ⟨fun b o hb e => hk5 b o hb (kx b o hb e), ⟨_, hx5⟩, by have dn' : h4.objs.size ≤ dx := dn; omega, dne, hn5⟩)
theorem err_made (T : ErrTxt prog K mg cn C fI) {v : Value} (X : K.In s.heap) (hlim : s.heap.NoLimit) (hG : s.heap.Ns mainGlobals mg)
    (hB : ∃ mb, s.heap.Ns builtinsNs mb ∧ ∀ x : Str, x ≠ "__name__" → mb x = bootBuiltins x) (hroom : A.depth + 1 < recursionLimit)
    (hq : ∀ h' tk e d, Made s.heap h' e C d v → R (.ok (.ret (.ref e))) { s with heap := h', toks := tk }) :
    codeAny (model prog w) A (.call (.ref C) ⟨[v], []⟩) R s := by
  obtain ⟨nm, q, N, bs, bm, sn, sub, ab, col, dd, k0, k1, k2, k3, k5, hC, hbm⟩ := T.cls
  obtain ⟨hp, g, dr, tk, os⟩ := s
  have k : ∀ b o, hp.get? b = some o → ((hp.push (kdv_tup [v])).push (excO C hp.objs.size)).get? b = some o := fun b o e => Heap.get?_push_of_some _ (Heap.get?_push_of_some _ e)
  have hget : ((hp.push (kdv_tup [v])).push (excO C hp.objs.size)).get? (hp.objs.size + 1) = some (excO C hp.objs.size) := by heap_get
  have hnx : K.lookup (hp.objs.size + 1) = none := by
    cases e : K.lookup (hp.objs.size + 1) with
    | none => rfl
    | some o =>
      have z : hp.get? (hp.objs.size + 1) = some o := X _ _ e
      exact absurd (Nat.lt_of_succ_lt (Heap.lt_size z)) (Nat.lt_irrefl _)
  obtain ⟨mb, hb, hbb⟩ := hB
  refine call_own F.excBase_ValueError (fun X => refsVE_contains X bm hbm) (X _ _ hC) (looks_findIn X T.iC) (fun self => bind_fn X self T.tC) (one_fits v) ?_
  refine err_init (s := ⟨(hp.push (kdv_tup [v])).push (excO C hp.objs.size), g, dr, tk, os⟩) T (X.keeps k) (hlim.keeps k) (hG.keeps k) ⟨mb, hb.keeps k, hbb⟩ hget hnx ?_ fun h' tk' dx I => ?_
  · show A.depth + 1 < recursionLimit
    exact hroom
  · have old : ∀ b o, hp.get? b = some o → h'.get? b = some o := fun b o e => I.keep b o (Nat.ne_of_lt (Nat.lt_succ_of_lt (Heap.lt_size e))) (k b o e)
    have z : hp.objs.size + 1 + 1 ≤ dx := by
      first
        | (simpa only [Heap.size_push] using I.dbig)
        | exact I.dbig
    exact ⟨rfl, hq h' tk' (hp.objs.size + 1) dx ⟨old, Nat.le_succ _, I.obj, by show hp.objs.size ≤ dx; omega, I.dne, I.ns⟩⟩
end
end ErrX
end PySem
namespace L2
open PySem PySem.Spec PyProof.Rows
theorem relO_word {v : V} {v' : Value} (r : RelV v v') (f : Str) : RelO (List.lookup f [(("word" : Str), v)]) (if f = "word" then some v' else none) := by
  by_cases hw : f = "word"
  · subst hw
    rw [if_pos rfl, show List.lookup ("word" : Str) [(("word" : Str), v)] = some v by simp [List.lookup]]
    exact r
  · rw [if_neg hw]
    have qw : (f == ("word" : Str)) = false := by simpa using hw
    rw [show List.lookup f [(("word" : Str), v)] = none by simp [List.lookup, qw]]
    trivial
section
variable {X : Cx} {C fI : Addr} {cn : Str}
/-- C(e), C an own error that keeps its word -/
def tMkErr (C : Addr) (ta : TA) : St → Hp → XK → Prop := fun σ H Q => ta σ H fun vs H1 => ∃ v, vs = [v] ∧ ∀ d, H1 d = none → Q (.ref C) (some d) (upd H1 d (.xd [(("word" : Str), v)]))
theorem pmk_err {a : Expr} {ta : TA} {p pos : Pos} {k : Nat} (T : PySem.ErrX.ErrTxt X.prog X.K X.mg cn C fI) (hr : Room k X.A) (ha : PA X [a] ta) (hg : Gl X cn) (hdb : (cn == ("__debug__" : Str)) = false := by decide)
    (he : starEach (a :: []) X.env = (false, eval a X.env) :: starEach [] X.env := by rfl) (hpl : (backTo pos (starEach [] X.env)).any (·.1) = false := by rfl) :
    PMk X (.Call (.Name cn p) [a] [] pos) (tMkErr C ta) := by
  intro pins s σ H Q I h
  refine wpAny_Call_Name_kw (ld_glob I hg T.gC ?_ hdb)
  refine PySem.W.callWith_K (h₀ := X.base) I.ok.mod.kin T.kC (thn (ha.run pos pins s σ H _ I h) fun us s1 hh => ?_) he hpl
  obtain ⟨vs, H1, I1, r1, v, ev, q1⟩ := hh
  subst ev
  refine ⟨I1.kIn, ?_⟩
  cases r1 with
  | cons rv rn =>
    rename_i v' us'
    cases rn
    show wpAny _ _ (call (.ref C) [v']) _ _ _
    have hlim := I1.nolimit
    have hgl := I1.mod.glob.keeps I1.bk
    obtain ⟨mb, hb, hbb⟩ := I1.mod.blt
    have hb' := hb.keeps I1.bk
    have kin := I1.kIn
    obtain ⟨hp, g, dr, tk, os⟩ := s1
    refine wpAny_call (PySem.ErrX.err_made T kin hlim hgl ⟨mb, hb', hbb⟩ (by have := hr.dp; omega) fun h' tk' e d M => ?_)
    show MkP X pins σ Q (.ref e) ⟨h', g, dr, tk', os⟩
    obtain ⟨t1, hoe⟩ := M.obj
    have hns := M.ns
    obtain ⟨G', g1, g2⟩ := restrict h' fun b => decide (b ≠ e)
    have gk : ∀ b, b ≠ e → G'.get? b = h'.get? b := fun b hb => g1 b (decide_eq_true hb)
    have ge : G'.get? e = none := g2 e (by simp)
    have old : ∀ b o, hp.get? b = some o → G'.get? b = some o := fun b o q => (gk b (Nat.ne_of_lt (Nat.lt_of_lt_of_le (Heap.lt_size q) M.new))).trans (M.keep b o q)
    have ob : ObjOk X.prog X.w (upd H1 d (.xd [(("word" : Str), v)])) G' d (.xd [(("word" : Str), v)]) :=
      ⟨_, hns.at (fun o q => (gk d M.dne).trans q), fun f => relO_word rv f⟩
    have J : Inv X pins σ (upd H1 d (.xd [(("word" : Str), v)])) ⟨G', g, dr, tk', os⟩ := I1.laid (t' := tk') old M.dbig ob
    refine ⟨e, _, _, ⟨G', g, dr, tk', os⟩, _, .ref C, some d, rfl, J, fun b o q => ?_, ge, hoe, ⟨rfl, rfl⟩, rfl, rfl, ?_, rfl, I1.bare, raises_own T.exC T.tyC, q1 d (I1.hok.fresh M.dbig)⟩
    · by_cases hb : b = e
      · have q' : G'.get? b = some o := q
        rw [hb, ge] at q'; cases q'
      · exact (gk b hb).symm.trans q
    · rw [upd_ne (Ne.symm M.dne)]
      exact I1.hok.fresh M.new
/-- raise C(e) -/
def tRaiseErr (C : Addr) (W : WX) (ta : TA) : TS := fun _ σ H => tMkErr C ta σ H fun cls d H' => W cls d σ H'
theorem ps_raiseErr {a : Expr} {ta : TA} {W : WX} {p pos pos2 : Pos} {k : Nat} (hc : X.calm = true) (T : PySem.ErrX.ErrTxt X.prog X.K X.mg cn C fI) (hr : Room k X.A) (tk : Takes X W) (ha : PA X [a] ta) (hg : Gl X cn) (hdb : (cn == ("__debug__" : Str)) = false := by decide)
    (he : starEach (a :: []) X.env = (false, eval a X.env) :: starEach [] X.env := by rfl) (hpl : (backTo pos (starEach [] X.env)).any (·.1) = false := by rfl) :
    PS X (.Raise (some (.Call (.Name cn p) [a] [] pos)) none pos2) (tRaiseErr C W ta) := ps_raise hc tk (pmk_err T hr ha hg hdb he hpl)
end
end L2
namespace PySem.W
open PySem PySem.Spec PySem.Calls PyProof.Rows
section
variable {prog : Program} {w : World} {A : Around} {E : Value → Shared → Prop} {s : Shared} {K : Frag} {x D : Addr} {ox : Obj} {od : Option Obj}
/-- what an error's class says of the name of its class -/
structure EcC (K : Frag) (D : Addr) : Prop where
  hg : findIn K (.ref D) "__getattribute__" = some (some (.builtin "BaseException.__getattribute__"))
  hk : findIn K (.ref D) "__getattr__" = some none
  hs : subIn K (.ref D) (.type "BaseException") = some true
  hd : hasDictIn K D = true
  ha : findIn K (.ref D) "__class__" = some (some (.builtin "object.__class__"))
  hn : specialIn K (.builtin "object.__class__") "__get__" = some (some (.builtin "getset_descriptor.__get__"))
  ht : takesIn K (.builtin "object.__class__") = some true
  hm : mroIn K D (.type "object") = some true
theorem ec_find (T : EcC K D) : findObj K D od "__class__" = some (.bind (.builtin "getset_descriptor.__get__") (.builtin "object.__class__")) := by
  obtain ⟨cd, hc, _⟩ := any_some T.hd
  unfold findObj
  rw [hc, Option.bind_some, T.ha, Option.bind_some]
  simp [T.hn, T.ht]
theorem ec_class (T : EcC K D) {Q : Option Value → Shared → Prop} (X : K.In s.heap) (I : InstAt s.heap x ox D od) (h : Q (some (.ref D)) { s with toks := s.toks + 1 }) : wpAny (model prog w) A (getAttr? (.ref x) "__class__") Q E s := by
  have hf := ec_find (od := od) T
  obtain ⟨hp, g, d, t, os⟩ := s
  have L0 := I.type (M := model prog w)
  have L1 := looks_findIn (M := model prog w) X T.hg
  have L2 := looks_findIn (M := model prog w) X T.hk
  have L3 := looks_find (M := model prog w) X I hf
  have su : Looks (model prog w) hp (isInstance (.ref x) (.type "BaseException")) true := L0.andThen (looks_subIn X T.hs)
  have z0 : (false && onTheHeap (Value.builtin "BaseException.__getattribute__")) = false := rfl
  have z2 : (Value.builtin "BaseException.__getattribute__" == Value.builtin "object.__getattribute__") = false := by decide +kernel
  have z1 : (onTheHeap (Value.ref D) && Value.builtin "BaseException.__getattribute__" == Value.builtin "object.__getattribute__") = false := by rw [z2]; rfl
  unfold getAttr? getAttrBy? getAttrBy
  refine wpAny_bind (wpAny_mkText (wpAny_bind (wpAny_attempt (wpAny_holding (wpAny_bind (L0.at (wpAny_bind (L1.at ?_)))))) ))
  show wpAny _ _ (if (onTheHeap (Value.ref D) && Value.builtin "BaseException.__getattribute__" == Value.builtin "object.__getattribute__") = true then _ else _) _ _ _
  rw [z1, if_neg Bool.false_ne_true]
  unfold getAttrByItsOwn hookBefore
  refine wpAny_bind ?_
  rw [if_pos (show onTheHeap (Value.ref D) = true from rfl)]
  refine L2.at (wpAny_bind (wpAny_attempt (wpAny_holding ?_)))
  unfold callGetattribute
  rw [z0, if_neg Bool.false_ne_true]
  unfold boundAndCalled
  rw [PySem.F.excAttr_ValueError.ga.bind (.ref x)]
  refine wpAny_bind (wpAny_pure ?_)
  show wpAny _ _ (call (.builtin "BaseException.__getattribute__") [.ref x, .str "__class__" t]) _ _ _
  refine wpAny_call (codeAny_call_builtin PySem.F.excAttr_ValueError.ga.plain PySem.F.entry_bexc_ga ?_)
  refine @check_slot (model prog w) _ _ ⟨hp, g, d, t + 1, os⟩ "BaseException.__getattribute__" "BaseException" "__getattribute__" (.ref x) [.str "__class__" t] [] _ (by decide +kernel) (by decide +kernel) su (PySem.F.args_bexc_ga (.ref x) (.str "__class__" t)) ?_
  unfold Builtin.«object.__getattribute__»
  refine wpAny_bind (wpAny_of_eq (a := ((Value.ref x : Value), [Value.str "__class__" t])) (by first | rfl | (simp only [slotArgs]; rfl)) ?_)
  refine wpAny_bind (wpAny_pure (wpAny_bind (L0.at (wpAny_bind (L3.at ?_)))))
  show wpAny _ _ (holding [Value.builtin "object.__class__"] (call (.builtin "getset_descriptor.__get__") [.builtin "object.__class__", .ref x, .ref D]) >>= ret) _ _ _
  refine wpAny_bind (wpAny_holding (wpAny_call (class_get (s := ⟨hp, g, d, t + 1, os⟩) (ox := ox) (od := od) X I T.hm (wpAny_pure ?_))))
  show wpAny _ _ (handedOut (.ref D)) _ _ _
  rw [handedOut_of (v := .ref D) rfl]
  first
    | exact wpAny_pure (wpAny_pure h)
    | exact wpAny_pure h
    | exact wpAny_pure (wpAny_bind (wpAny_pure (wpAny_pure h)))
theorem ec_kit (T : EcC K D) : KitX K (.ref x) (.ref D) (fun h => InstAt h x ox D od) where
  ty := fun _ _ _ I => I.type
  it := fun _ _ X _ => by
    obtain ⟨cd, hc, _⟩ := any_some T.hd
    unfold clsIn at hc
    split at hc
    · rename_i c' d' cd' sl' ho
      intro A' Q' E' s' k q
      unfold isType loadHead
      exact wpAny_bind (wpAny_loadPart (k _ _ (X _ _ ho)) (wpAny_pure q))
    · cases hc
  ne := fun h tp dd its n sl X htp => by
    obtain ⟨cd, hc, _⟩ := any_some T.hd
    refine Bool.eq_false_iff.mpr fun q => ?_
    have e : D = tp := Value.ref.inj (beq_iff_eq.mp q)
    subst e
    unfold clsIn at hc
    split at hc
    · rename_i c' d' cd' sl' ho
      cases (X _ _ ho).symm.trans htp
    · cases hc
  ca := fun X I k => ec_class T X I k
end
end PySem.W
namespace L2
open PySem PySem.Spec PyProof.Rows
/-- isinstance(e, c), e the error that the suite holds, with a dict of its own -/
def rIsEd (K : PySem.W.Frag) (D a : Addr) (cls : Value) (d : Option Addr) : List V → Hp → VK → Prop := fun xs H Q => ∃ (c : V) (cv : Value) (b : Bool) (dd : Addr) (fs : List (Str × V)),
  xs = [.ref a, c] ∧ cls = .ref D ∧ ClsV c cv ∧ d = some dd ∧ H dd = some (.xd fs) ∧ PySem.W.kitOne K (.ref D) cv = some b ∧ Q (.bl b) H
theorem call_isEd {X : Cx} {a D : Addr} {cls : Value} {d : Option Addr} {oe : Obj} {pn : List (Addr × Obj)} (C : PySem.W.EcC X.K D) (hz : Zc cls d oe) (hf : ∃ vs, oe.data = .fields vs) :
    CallR (X.suite a ((a, oe) :: pn)) (.builtin "isinstance") (rIsEd X.K D a cls d) := by
  intro pins s σ H xs us Q I r h
  obtain ⟨c, cv, b, dd, fs, rfl, rfl, hcv, rfl, hdd, e, q⟩ := h
  cases r with
  | cons rx rr =>
    cases rr with
    | cons rt rr =>
      cases rr
      cases rx
      have ec := hcv.eq rt
      subst ec
      obtain ⟨hget, _⟩ := I.pin (a, oe) (List.mem_append.mpr (.inl List.mem_cons_self))
      obtain ⟨vs, hv⟩ := hf
      obtain ⟨mA, hns, _⟩ := (show ObjOk X.prog X.w H s.heap dd (.xd fs) from I.hok dd _ hdd)
      obtain ⟨od, ho, _⟩ := lookIn_ns hns
      have J : PySem.W.InstAt s.heap a oe D (some od) := ⟨hget, hz.1, by unfold PySem.W.notCls; rw [hv] <;> rfl, by rw [hz.2]; exact ho⟩
      exact PySem.W.kia_one (PySem.W.ec_kit C) I.kIn J e (fun z => nomatch z) fun tk => ⟨.bl b, H, I.kept (t' := tk) fun _ _ z => z, rfl, q⟩
end L2

set_option Elab.async false
set_option linter.all false
set_option maxRecDepth 100000
set_option maxHeartbeats 2000000
namespace PySem.W
open PySem PySem.Calls PyProof.Rows
section
variable {prog : Program} {w : World} {A : Around} {E : Value → Shared → Prop} {s : Shared} {K : Frag} {x C f : Addr} {ox : Obj} {od : Option Obj} {b tb : Value}
/-- != of an instance whose class writes == alone -/
theorem ne_own {Q : Value → Shared → Prop} (hu : A.units + 1 < cLine) (X : K.In s.heap) (I : InstAt s.heap x ox C od) (hb : Looks (model prog w) s.heap (typeOf b) tb) (hn : notFirst K C tb = true)
    (hs : findIn K (.ref C) "__eq__" = some (some (.ref f))) (hf : isFn K (.ref f) = true) (hne : findIn K (.ref C) "__ne__" = some (some (.builtin "object.__ne__"))) (hob : mroIn K C (.type "object") = some true)
    (h : wpAny (model prog w) A.in1 (call (.ref f) [.ref x, b]) (fun v s' => ∃ c, v = .bool c ∧ Q (.bool (!c)) s') E s) : wpAny (model prog w) A (richCompare .NotEq (.ref x) b) Q E s := by
  have SN := F.cmp_object.ne
  have sub : Looks (model prog w) s.heap (isInstance (.ref x) (.type "object")) true := I.type.andThen (looks_mroIn X hob)
  have one : wpAny (model prog w) A (tryCompare (.ref x) "__ne__" b) (fun r s' => ∃ v, r = some v ∧ Q v s') E s := by
    unfold tryCompare
    simp only [callSpecialIfBound?, bindSpecialIfBound?]
    have cal : wpAny (model prog w) A (call (.builtin "object.__ne__") [.ref x, b]) (fun v s' => ∃ c, v = .bool c ∧ Q v s') E s := by
      refine wpAny_call (codeAny_call_builtin SN.plain F.cmpEntry_ne (check_slot F.cmpKind_ne F.cmpSplit_ne sub (F.cmpArgs_ne _ _) ?_))
      unfold Builtin.«object.__ne__»
      refine wpAny_bind (wpAny_of_eq (a := ((Value.ref x : Value), [b])) (by first | rfl | (simp only [slotArgs]; rfl)) ?_)
      refine wpAny_bind (wpAny_cRoomFor hu ?_)
      refine wpAny_bind (ifBound_K X I hs hf (wpAny_mono h (fun v s' hv => ?_) fun _ _ e => e))
      obtain ⟨c, rfl, hq⟩ := hv
      exact wpAny_bind (wpAny_truthy_bool (wpAny_pure ⟨!c, rfl, hq⟩))
    refine wpAny_bind (wpAny_holding (wpAny_bind (wpAny_bind (wpAny_bind (I.type.here ((looks_findIn X hne).here ?_))))))
    refine wpAny_bind (wpAny_askSetting (wpAny_ite ?_))
    have bnd := SN.bind (.ref x)
    split
    · refine wpAny_bind (wpAny_of_eq bnd (wpAny_pure ?_))
      refine wpAny_bind (wpAny_mono cal (fun v s' hv => wpAny_pure ?_) fun _ _ e => e)
      obtain ⟨c, rfl, hq⟩ := hv
      exact wpAny_pure ⟨_, rfl, hq⟩
    · refine wpAny_tryCatch (wpAny_bind (wpAny_of_eq bnd (wpAny_pure ?_)))
      refine wpAny_bind (wpAny_mono cal (fun v s' hv => wpAny_pure ?_) fun _ _ e => e)
      obtain ⟨c, rfl, hq⟩ := hv
      exact wpAny_pure ⟨_, rfl, hq⟩
  unfold richCompare
  simp only [oneThing_ref]
  refine wpAny_holding (wpAny_bind (wpAny_cRoomFor (Nat.lt_of_succ_lt hu) ?_))
  rw [cmpInfo_NotEq]
  dsimp only
  refine wpAny_bind (I.type.here (wpAny_bind (hb.here ?_)))
  split
  · rename_i q
    have e : subIn K tb (.ref C) = some false := by
      rcases Bool.or_eq_true_iff.mp hn with e | e
      · rw [beq_iff_eq.mp e] at q; simp at q
      · exact beq_iff_eq.mp e
    refine wpAny_bind ((looks_subIn X e).here ?_)
    simp only [Bool.false_eq_true, if_false]
    refine wpAny_bind (wpAny_mono one (fun r s' z => ?_) fun _ _ e => e)
    obtain ⟨v, rfl, hq⟩ := z
    exact wpAny_pure hq
  · refine wpAny_bind (wpAny_pure ?_)
    simp only [Bool.false_eq_true, if_false]
    refine wpAny_bind (wpAny_mono one (fun r s' z => ?_) fun _ _ e => e)
    obtain ⟨v, rfl, hq⟩ := z
    exact wpAny_pure hq
end
end PySem.W
namespace L2
open PySem PySem.Spec PyProof.Rows
section
variable {X : Cx} {C f : Addr} {fd : FuncData} {ps : List Str} {n : Nat}
/-- the type of any value, as the look of the library -/
theorem TyX.look {pins : List (Addr × Obj)} {σ : St} {H : Hp} {s : Shared} {x : V} {u t : Value} (I : Inv X pins σ H s) (rx : RelV x u) (ty : TyX X.K H x t) : PySem.W.Looks (model X.prog X.w) s.heap (typeOf u) t := by
  obtain ⟨P, Z, p, _⟩ := kit_of I rx ty
  exact Z.ty _ _ I.kIn p
/-- what an own == or the like is asked: it answers with a bool -/
def rOwn (K : PySem.W.Frag) (C : Addr) (sp : Sp) (g : Bool → Bool) : R2 := fun x y H Q => ∃ (a dx : Addr) (fs : List (Str × V)) (t : Value), x = .ref a ∧ H a = some (.ins C dx fs) ∧ TyX K H y t ∧ PySem.W.notFirst K C t = true ∧
  sp [x, y] H (fun z H' => ∃ b, z = .bl b ∧ Q (.bl (g b)) H') fun _ _ _ => False
theorem run_own {A : Around} {pins : List (Addr × Obj)} {σ : St} {H : Hp} {s : Shared} {a : Addr} {y : V} {v : Value} {sp : Sp} {R : VK} {CX : CXT} (F : FnOk X.prog X.w X.K X.mg X.base CX n f fd ps sp) (hr : Room n A) (hfr : A.frames = X.A.frames) (hb : Binds X.K fd ps [])
    (hx : Passes CX X (fun _ _ _ => False)) (I : Inv X pins σ H s) (ry : RelV y v) (h : sp [.ref a, y] H R fun _ _ _ => False) :
    wpAny (model X.prog X.w) A (call (.ref f) [.ref a, v]) (EP X pins σ R) X.xe s := by
  have e0 : Env0 X.prog X.w X.K X.mg X.base A X.stack s H := by
    have e := I.env0
    exact ⟨by rw [hfr]; exact e.frames, e.mod, e.bs, e.bsz, e.funs, e.frf, e.hok, e.bare⟩
  have r2 : Vals [V.ref a, y] [Value.ref a, v] := .cons rfl (.cons ry .nil)
  have hl := F.len _ _ _ _ h
  refine wpAny_call (codeAny_mono (F.run A X.stack s H ⟨[.ref a, v], []⟩ [.ref a, v] [.ref a, y] _ _ hr e0 (by
    have := hb s [.ref a, v] I.kIn (by simpa using hl)
    simpa using this) r2 h) fun r s' hq => ?_)
  cases r with
  | error e => exact hx pins σ H s e s' I hq
  | ok fl =>
    cases fl with
    | ret u => exact I.after hq
    | next => exact False.elim hq
    | brk => exact False.elim hq
    | cont => exact False.elim hq
theorem op_eqOwn {sp : Sp} {CX : CXT} (F : FnOk X.prog X.w X.K X.mg X.base CX n f fd ps sp) (hr : Room n X.A) (hb : Binds X.K fd ps []) (hx : Passes CX X (fun _ _ _ => False))
    (hs : PySem.W.findIn X.K (.ref C) "__eq__" = some (some (.ref f))) (hf : PySem.W.isFn X.K (.ref f) = true) : OpR X (compareOp .Eq) (rOwn X.K C sp id) := by
  intro pins s σ H x y u v Q I rx ry h
  obtain ⟨a, dx, fs, t, rfl, ha, ty, nf, q⟩ := h
  cases rx
  obtain ⟨mA, J, _⟩ := ins_get I.hok ha
  obtain ⟨od, J, _⟩ := J.look
  obtain ⟨m, hF⟩ := I.fr
  show wpAny (model X.prog X.w) X.A (richCompare .Eq (.ref a) v) _ _ _
  refine PySem.W.cmp_K (op := .Eq) hr.units0 hF I.ok.mod.kin J (TyX.look I ry ty) nf hs hf ?_
  refine wpAny_mono (run_own F hr rfl hb hx I ry q) (fun z s' hz => ?_) fun _ _ e => e
  obtain ⟨z', H', I', rz, b, rfl, q'⟩ := hz
  cases rz
  exact ⟨.bl b, H', I', rfl, q'⟩
theorem op_neOwn {sp : Sp} {CX : CXT} (F : FnOk X.prog X.w X.K X.mg X.base CX n f fd ps sp) (hr : Room (n + 1) X.A) (hb : Binds X.K fd ps []) (hx : Passes CX X (fun _ _ _ => False))
    (hs : PySem.W.findIn X.K (.ref C) "__eq__" = some (some (.ref f))) (hf : PySem.W.isFn X.K (.ref f) = true) (hne : PySem.W.findIn X.K (.ref C) "__ne__" = some (some (.builtin "object.__ne__"))) (hob : PySem.W.mroIn X.K C (.type "object") = some true) :
    OpR X (compareOp .NotEq) (rOwn X.K C sp not) := by
  intro pins s σ H x y u v Q I rx ry h
  obtain ⟨a, dx, fs, t, rfl, ha, ty, nf, q⟩ := h
  cases rx
  obtain ⟨mA, J, _⟩ := ins_get I.hok ha
  obtain ⟨od, J, _⟩ := J.look
  show wpAny (model X.prog X.w) X.A (richCompare .NotEq (.ref a) v) _ _ _
  refine PySem.W.ne_own (hu_of hr) I.kIn J (TyX.look I ry ty) nf hs hf hne hob ?_
  refine wpAny_mono (run_own (A := X.A.in1) F hr.in1 rfl hb hx I ry q) (fun z s' hz => ?_) fun _ _ e => e
  obtain ⟨z', H', I', rz, b, rfl, q'⟩ := hz
  cases rz
  exact ⟨b, rfl, .bl (!b), H', I', rfl, q'⟩
end
/-! ### repr of data: where nothing is being shown -/
section
variable {X : Cx}
def rRepr (K : PySem.W.Frag) : List V → Hp → VK → Prop := fun xs H Q => ∃ (x : V) (d : PyData), xs = [x] ∧ Dp K H x d ∧ d.showable = true ∧ d.hasDict = false ∧ d.depth ≤ 40 ∧ d.shown.length ≤ sizeLine ∧ Q (.str d.shown) H
theorem call_reprD {k : Nat} (hr : Room k X.A) (hg : X.A.guards = some []) : CallR X (.builtin "repr") (rRepr X.K) := by
  intro pins s σ H xs us Q I r h
  obtain ⟨x, d, rfl, hd, hs, hn, hdp, hz, q⟩ := h
  obtain ⟨u, rfl, ru⟩ := r.one
  obtain ⟨as, rd⟩ := Dp.reads I d x u hd ru
  have hu := hr.units
  have fin : ∀ h' (u' : Tok) tk, (∀ b o, s.heap.get? b = some o → h'.get? b = some o) → EP X pins σ Q (.str d.shown u') { s with heap := h', toks := tk } := fun h' u' tk k => ⟨.str d.shown, H, I.kept (t' := tk) k, ⟨_, rfl⟩, q⟩
  cases hd with
  | non =>
    cases (show u = Value.none from ru)
    exact P.repr_of_none (fin s.heap _ _ fun _ _ e => e)
  | bl b =>
    cases (show u = Value.bool b from ru)
    exact P.repr_of_bool (fin s.heap _ _ fun _ _ e => e)
  | int i =>
    obtain ⟨t, e⟩ := (show ∃ t, u = Value.int i t from ru)
    cases e
    exact P.repr_of_int (by simpa [PyData.showable] using hs) (fin s.heap _ _ fun _ _ e => e)
  | str y =>
    obtain ⟨t, e⟩ := (show ∃ t, u = Value.str y t from ru)
    cases e
    exact P.repr_of_str (fin s.heap _ _ fun _ _ e => e) hz
  | lst h1 h2 =>
    cases ru
    exact repr_of_reads' rd hs (by rw [hn]; intro z; cases z) hg (by omega) (fun _ _ e => e) fin hz
  | tup h1 h2 =>
    cases ru
    exact repr_of_reads' rd hs (by rw [hn]; intro z; cases z) hg (by omega) (fun _ _ e => e) fin hz
end
end L2

set_option Elab.async false
set_option linter.all false
set_option maxRecDepth 100000
set_option maxHeartbeats 2000000
namespace L2
open PySem PySem.Spec PyProof.Rows
/-- a promise that is kept where nothing is being shown -/
structure FnG (P : Program) (w : World) (K : PySem.W.Frag) (mg : Str → Option Value) (base : Heap) (k : Nat) (f : Addr) (fd : FuncData) (ps : List Str) (sp : Sp) : Prop where
  len : ∀ vs H Q E, sp vs H Q E → vs.length = ps.length
  run : ∀ (A : Around) (outer : List Env) (s : Shared) (H : Hp) (args : Args) (us : List Value) (vs : List V) (Q : VK) (E : XK), A.guards = some [] → Room k A → Env0 P w K mg base A outer s H → BindsTo s fd args (ps.zip us) → Vals vs us → sp vs H Q E →
    codeAny (model P w) A (.call (.ref f) args) (CR CX0 outer P w H s Q E) s
section
variable {P : Program} {w : World} {K : PySem.W.Frag} {mg : Str → Option Value} {base : Heap}
theorem Fun.okG {x qual : Str} {st : Stmt} {f : Addr} {fd : FuncData} {N ps : List Str} {k : Nat} {sp : Sp} (F : Fun K x qual st f fd) (S : FnScope N ps (defScope st)) (len : ∀ vs H Q E, sp vs H Q E → vs.length = ps.length)
    (hbody : ∀ (cdv : Value) (A : Around) (outer : List Env) (s : Shared) (H : Hp) (vs : List V) (Q : VK) (E : XK), (A.deeper (envOfC qual (defScope st) s.heap.objs.size f cdv)).guards = some [] →
      Room k (A.deeper (envOfC qual (defScope st) s.heap.objs.size f cdv)) → sp vs H Q E →
      ∃ t, PSs (cxOf CX0 P w K mg base N qual (defScope st) f cdv A outer s H E).nox (defBody st) t ∧ t { nx := fun _ H' => Q .non H', rt := Q } (start N vs) H) : FnG P w K mg base (k + 1) f fd ps sp := by
  obtain ⟨oc, od, kV, doc, pm, an, cdv, ct, osl, rfl, lk, hcd⟩ := F.ex
  refine ⟨len, fun A outer s H args us vs Q E hg hr e0 hb r hsp => ?_⟩
  -- at this one A the promise's own walk is the plain one's: it asks the body at A alone
  have hl := len _ _ _ _ hsp
  have kin : K.In s.heap := e0.mod.kin.keeps fun b o e => (e0.bs b o e).1
  have lim : s.heap.NoLimit := e0.mod.nolimit.keeps fun b o e => (e0.bs b o e).1
  have hkd : ∀ y ∈ ps.zip us, (defScope st).names.lookup y.1 = some .local ∨ ((defScope st).names.lookup y.1 = some .cell ∧ ((cellsFrom (s.heap.objs.size + 1) (defScope st).names []).lookup y.1).isSome = true) := fun y hy => by
    rcases S.par y.1 (List.of_mem_zip hy).1 with q | q
    · exact .inl q
    · exact .inr ⟨q, PySem.W.cellsFrom_some _ _ _ (.inl q)⟩
  refine codeAny_call_function hr.depth (kin _ _ lk) rfl S.co S.gen rfl (PySem.W.codeRec_of kin hcd) (hb _ _ _ _ (wpAny_newFunctionEnv_cells S.kind hkd fun env he s1 x => ?_))
  subst he
  refine ⟨lim.keeps x.toInCall.keep, codeAny_func ?_⟩
  obtain ⟨t, ht, hq⟩ := hbody cdv A outer s H vs Q E hg (hr.deeper _) hsp
  have I : Inv (cxOf CX0 P w K mg base N qual (defScope st) f cdv A outer s H E) [] (start N vs) H s1 := inv_start S hr.hd e0 hl r x
  refine wpAny_mono (ht.nox.run [] s1 (start N vs) H _ I hq) (fun fl s' hs => ?_) fun e s' hs => hs
  cases fl with
  | ret u =>
    obtain ⟨v, σ', H', J, rv, q⟩ := hs
    exact ⟨v, H', J.os, J.bare, J.base, J.hok, rv, q⟩
  | next =>
    obtain ⟨σ', H', J, q⟩ := hs
    exact ⟨V.non, H', J.os, J.bare, J.base, J.hok, rfl, q⟩
  | brk => exact hs.elim fun _ z => z.elim fun _ z => False.elim z.2
  | cont => exact hs.elim fun _ z => z.elim fun _ z => False.elim z.2
end
/-- the plain promise, of the caller's frame alone -/
theorem FnG.at {P : Program} {w : World} {K : PySem.W.Frag} {mg : Str → Option Value} {base : Heap} {k : Nat} {f : Addr} {fd : FuncData} {ps : List Str} {sp : Sp} (F : FnG P w K mg base k f fd ps sp) {s : Shared} {H : Hp} {args : Args} {us : List Value} {vs : List V} {Q : VK} {E : XK}
    (hr : Room k callerA) (e0 : Env0 P w K mg base callerA [] s H) (hb : BindsTo s fd args (ps.zip us)) (r : Vals vs us) (h : sp vs H Q E) : codeAny (model P w) callerA (.call (.ref f) args) (CR CX0 [] P w H s Q E) s :=
  F.run callerA [] s H args us vs Q E rfl hr e0 hb r h
theorem law_callG {P : Program} {w : World} {K : PySem.W.Frag} {mg mb : Str → Option Value} {k : Nat} {fa a : Addr} {fd : FuncData} {x : Str} {sp : Sp} {s1 : Shared} {vs : List Value} {ns : List Int}
    (kin : K.In s1.heap) (hns : s1.heap.Ns mainGlobals mg) (hb : s1.heap.Ns builtinsNs mb) (hbb : ∀ x : Str, x ≠ "__name__" → mb x = bootBuiltins x) (hlim : s1.heap.NoLimit) (hg : s1.gens = #[])
    (ha : s1.heap.get? a = some { cls := .type "list", data := .seq vs.toArray }) (hi : IntsAre vs ns) (hl : ns.length ≤ sizeLine) (hr : Room k callerA)
    (F : ∀ base : Heap, K.In base → base.Ns mainGlobals mg → FnG P w K mg base k fa fd [x] sp) (hbind : ∀ (s : Shared) (u : Value), BindsTo s fd ⟨[u], []⟩ [(x, u)])
    (hsp : ∀ H : Hp, Only H → SqL K H a (ns.map V.int) → sp [.ref a] H (fun v _ => v = .bl true) fun _ _ _ => False) :
    codeAny (model P w) callerA (.call (.ref fa) ⟨[.ref a], []⟩) (fun r s' => r = .ok (.ret (.bool true)) ∧ OldK s1.heap s'.heap ∧ s'.os = s1.os ∧ AllBare s'.gens) s1 := by
  have rv := vals_ints hi
  have core : ∀ H : Hp, Only H → SqL K H a (ns.map V.int) → HOk P w H s1.heap → (∀ b, H b ≠ none → b = a) → (H a ≠ none → K.lookup a = none) →
      codeAny (model P w) callerA (.call (.ref fa) ⟨[.ref a], []⟩) (fun r s' => r = .ok (.ret (.bool true)) ∧ OldK s1.heap s'.heap ∧ s'.os = s1.os ∧ AllBare s'.gens) s1 := by
    intro H hO hS hok hA hK
    have free : ∀ {b : Addr} {o : Obj}, s1.heap.get? b = some o → (b = a → False) → H b = none := fun {b o} _ n => by
      cases q : H b with
      | none => rfl
      | some u => exact (n (hA b (by rw [q]; simp))).elim
    have nsK : ∀ {b : Addr} {m : Str → Option Value}, s1.heap.Ns b m → (hidT s1.heap H).Ns b m := fun {b m} ⟨o, es, ep, e, d, r⟩ => ⟨o, es, ep, hidT_get e (free e fun z => by
      subst z
      rw [ha] at e
      cases e
      have d' : Data.seq vs.toArray _ = Data.dict es ep := d
      cases d'), d, r⟩
    have hKb : K.In (hidT s1.heap H) := fun b o e => hidT_get (kin b o e) (by
      cases q : H b with
      | none => rfl
      | some u =>
        have z : b = a := hA b (by rw [q]; simp)
        subst z
        rw [hK (by rw [q]; simp)] at e
        cases e)
    have hM : Mod K mg (hidT s1.heap H) := ⟨hKb, nsK hns, ⟨mb, nsK hb, hbb⟩, let ⟨mc, h1, h2⟩ := hlim; ⟨mc, nsK h1, h2⟩⟩
    have e0 : Env0 P w K mg (hidT s1.heap H) callerA [] s1 H := ⟨rfl, hM, fun b o e => of_hidT e, Nat.le_of_eq (hidT_size _ _), trivial, fun b z => absurd (show b ∈ ([] : List Addr) from z) (by simp), hok, .of_eq hg⟩
    refine codeAny_mono ((F _ hKb (nsK hns)).at (us := [.ref a]) (vs := [.ref a]) hr e0 (hbind s1 (.ref a)) (.cons rfl .nil) (hsp H hO hS)) fun r s' h => ?_
    cases r with
    | error e => exact h.elim
    | ok fl =>
      cases fl with
      | ret u =>
        obtain ⟨v, H', os, bare, un, hok', r', q⟩ := h
        have q' : v = .bl true := q
        subst q'
        obtain rfl : u = Value.bool true := r'
        refine ⟨rfl, OldK.of_keep fun b o e => ?_, os, bare⟩
        cases q : H b with
        | none => exact un.keep b o e q (by intro z; exact absurd (show b ∈ ([] : List Addr) from z) (by simp)) (by simp)
        | some u =>
          rcases hO b with z | ⟨ob, xs, z⟩
          · rw [q] at z; cases z
          · have z2 := un.frzs b ob _ z
            obtain ⟨e1, _⟩ := hok b _ z
            obtain ⟨e2, _⟩ := hok' b _ z2
            rw [e] at e1; cases e1
            exact e2
      | next => exact h.elim
      | brk => exact h.elim
      | cont => exact h.elim
  cases hk : K.lookup a with
  | some o =>
    have e := kin a o hk
    rw [ha] at e
    cases e
    exact core (fun _ => none) (fun _ => .inl rfl) (.inr ⟨_, vs.toArray, _, hk, rfl, rfl, rfl, by rw [List.size_toArray, hi.length]; exact hl, by simpa using rv⟩)
      (fun b u z => by have z' : (none : Option HO) = some u := z; cases z') (fun b z => absurd rfl z) fun z => absurd rfl z
  | none =>
    refine core (fun b => if b = a then some (.frz { cls := .type "list", data := .seq vs.toArray } (.lst (ns.map V.int))) else none) (fun b => ?_) (.inl (.inr ⟨{ cls := .type "list", data := .seq vs.toArray }, if_pos rfl⟩)) (fun b u z => ?_) (fun b z => ?_) fun _ => hk
    · by_cases hb : b = a
      · exact .inr ⟨_, _, if_pos hb⟩
      · exact .inl (if_neg hb)
    · by_cases hb : b = a
      · cases (if_pos hb).symm.trans z
        subst hb
        exact ⟨ha, by rw [List.length_map]; exact hl, vs, _, rv, ha⟩
      · cases (if_neg hb).symm.trans z
    · by_cases hb : b = a
      · exact hb
      · exact absurd (if_neg hb) z
theorem walk_ofG {l : PySem.W.OpenLaw} {n k : Nat} {q : Program} {loose : List Str} {XP : (Str → Option Value) → Heap → Prop} {YP : World → Heap → Prop} {d : DefRec} {K : Params → PySem.W.Frag} {sp : PySem.W.Frag → Sp} {x : Str}
    (hn : l.most = some n) (hn2 : n ≤ sizeLine) (hdf : d.params.defaults = []) (hr : Room k callerA) (hY : ∀ (w : World) (h : Heap), YP w h → (K w.params).In h)
    (F : ∀ (w : World) (mg : Str → Option Value) (fa : Addr) (h : Heap), (K w.params).In h → h.Ns mainGlobals mg → mg d.name = some (.ref fa) →
      ∃ fd : FuncData, (∀ (s : Shared) (u : Value), BindsTo s fd ⟨[u], []⟩ [(x, u)]) ∧ ∀ base : Heap, (K w.params).In base → base.Ns mainGlobals mg → FnG l.prog w (K w.params) mg base k fa fd [x] (sp (K w.params)))
    (hsp : ∀ (K : PySem.W.Frag) (H : Hp) (a : Addr) (ns : List Int), ns.length ≤ n → Only H → SqL K H a (ns.map V.int) → sp K [.ref a] H (fun v _ => v = .bl true) fun _ _ _ => False) :
    PySem.W.WalkO q loose XP YP l.row.toRowW d [] (fun f vs => PySem.call f vs) := by
  refine Att.attach_call hn hdf fun w s0 s1 mg mb fa o pm cd doc a vs ns G Y ho hd hcd hmg hobj hints hlen hg => ?_
  obtain ⟨fd, hb, hF⟩ := F w mg fa _ (hY w _ Y) G.T.g hmg
  exact law_callG (hY w _ Y) G.T.g G.T.b G.T.builtins G.T.nolimit hg hobj hints (Nat.le_trans hlen hn2) hr hF hb fun H hO hS => hsp _ H a ns hlen hO hS
section
variable {X : Cx} {CX : CXT} {k : Nat} {f C : Addr} {fd : FuncData} {ps : List Str} {ds : List Value} {dvs : List V} {sp : Sp} {x : Str} {p pos : Pos} {e : Expr} {es : List Expr} {t : TA} {E : St → XK}
/-- C(e, ..) where what is raised is wished for at the slots -/
def tMakeS (C : Addr) (sp : Sp) (dvs : List V) (E : St → XK) (t : TA) : TE := fun σ H Q => t σ H fun vs H1 => ∀ x dx, H1 x = none → H1 dx = none → dx ≠ x →
  sp (.ref x :: (vs ++ dvs)) (upd (upd H1 dx (.own x)) x (.ins C dx [])) (fun v H2 => v = .non ∧ Q (.ref x) H2) (E σ)
theorem pe_makeS (M : Mk X.K C f) (F : FnOk X.prog X.w X.K X.mg X.base CX k f fd ps sp) (hr : Room (k + 1) X.A) (hg : Gl X x) (hm : X.mg x = some (.ref C)) (hb : Binds X.K fd ps ds) (hd : Vals dvs ds) (hx : ∀ σ, PassesAt CX X σ (E σ))
    (ha : PA X (e :: es) t) (hdb : (x == ("__debug__" : Str)) = false := by decide) (he : starEach (e :: es) X.env = (false, eval e X.env) :: starEach es X.env := by rfl) (hpl : (backTo pos (starEach es X.env)).any (·.1) = false := by rfl) :
    PE X (.Call (.Name x p) (e :: es) [] pos) (tMakeS C sp dvs E t) := by
  refine ⟨fun pins s0 σ H0 Q I0 h0 => wpAny_Call_Name_kw (ld_glob I0 hg hm ?_ hdb)⟩
  refine PySem.W.callWith_K (h₀ := X.base) I0.ok.mod.kin M.kp (thn (ha.run pos pins s0 σ H0 _ I0 h0) fun us s ⟨vs, H, I, r, h⟩ => ⟨I.kIn, ?_⟩) he hpl
  have hq := h (s.heap.objs.size + 1) s.heap.objs.size (I.hok.fresh (Nat.le_succ _)) (I.hok.fresh (Nat.le_refl _)) (Nat.ne_of_lt (Nat.lt_succ_self _))
  have I2 := Inv.made (C := C) I
  have r2 : Vals (V.ref (s.heap.objs.size + 1) :: (vs ++ dvs)) (Value.ref (s.heap.objs.size + 1) :: (us ++ ds)) := .cons rfl (r.append hd)
  have hl : (Value.ref (s.heap.objs.size + 1) :: us ++ ds).length = ps.length := r2.length.symm.trans (F.len _ _ _ _ hq)
  refine wpAny_call (make_map (f := f) I.kIn M.makes M.init (beq_iff_eq.mp M.fn) (codeAny_mono (F.run _ X.stack _ _ ⟨Value.ref (s.heap.objs.size + 1) :: us, []⟩ (Value.ref (s.heap.objs.size + 1) :: (us ++ ds)) _ _ (E σ) (hr.make C us [])
    (I2.env0.make C us []) (hb _ (Value.ref (s.heap.objs.size + 1) :: us) I2.kIn hl) r2 hq) fun r s' z => ?_))
  cases r with
  | error e => exact hx σ pins _ _ e s' I2 z
  | ok fl =>
    cases fl with
    | ret u =>
      obtain ⟨v, H', I3, rv, ev, q3⟩ := I2.after z
      subst ev
      exact ⟨rv, ⟨V.ref (s.heap.objs.size + 1), H', I3, rfl, q3⟩⟩
    | next => exact False.elim z
    | brk => exact False.elim z
    | cont => exact False.elim z
end
end L2

set_option Elab.async false
set_option linter.all false
set_option maxRecDepth 100000
set_option maxHeartbeats 1000000
namespace L2
open PySem
/-! comprehensions whose turns change nothing that is tracked -/
theorem take_fm {α β : Type} (o : α → Option β) {xs : List α} {i : Nat} {x : α} (h : xs[i]? = some x) : (xs.take (i + 1)).filterMap o = (xs.take i).filterMap o ++ (o x).toList := by
  have hi : i < xs.length := (List.getElem?_eq_some_iff.mp h).1
  have e : xs[i] = x := (List.getElem?_eq_some_iff.mp h).2
  rw [List.take_succ_eq_append_getElem hi, List.filterMap_append, e]
  cases q : o x <;> simp [q]
theorem fm_len {α β : Type} (o : α → Option β) (xs : List α) (i : Nat) : ((xs.take i).filterMap o).length ≤ xs.length :=
  Nat.le_trans (List.length_filterMap_le _ _) (by rw [List.length_take]; exact Nat.min_le_right _ _)
section
variable {K : PySem.W.Frag} {a : Addr} {xs : List V} {g : TG} {tt : TT} {te : TE} {vs : List Nat} {σ : St} {H1 : Hp} {D : Addr} {Qd : Hp → Prop}
theorem lc_fmL (nD : H1 D = none) (hl : SqL K H1 a xs) (hz : xs.length < 100000) (o : V → Option V)
    (hs : ∀ (i : Nat) (x : V) (H : Hp) (Nx : Hp → Prop), xs[i]? = some x → Same H1 H → (∀ H' y, Same H H' → o x = some y → ∃ acc, H' D = some (.lst acc) ∧ acc.length < sizeLine ∧ Nx (upd H' D (.lst (acc ++ [y])))) → (∀ H', Same H H' → o x = none → Nx H') →
      g x (wipe σ vs) H fun σ2 H2 => wipe σ2 vs = wipe σ vs ∧ tt σ2 H2 fun b H3 => if b = true then te σ2 H3 fun y H4 => ∃ acc, H4 D = some (.lst acc) ∧ acc.length < sizeLine ∧ Nx (upd H4 D (.lst (acc ++ [y]))) else Nx H3)
    (hd : ∀ H, Same H1 H → H D = some (.lst (xs.filterMap o)) → Qd H) :
    ∃ W : Nat → Nat → Hp → Prop, (∃ m, W 0 m (upd H1 D (.lst []))) ∧ ∀ i m H, W i m H →
      ((Itl K a).stop i H ∧ Qd H) ∨ ((Itl K a).go i H ∧ ∃ Nx : Hp → Prop, (∀ H', Nx H' → ∃ m', m' < m ∧ W (i + 1) m' H') ∧ ∀ x H', (Itl K a).yld i H x H' → g x (wipe σ vs) H' fun σ2 H2 => wipe σ2 vs = wipe σ vs ∧ tt σ2 H2 fun b H3 =>
        if b = true then te σ2 H3 fun y H4 => ∃ acc, H4 D = some (.lst acc) ∧ acc.length < sizeLine ∧ Nx (upd H4 D (.lst (acc ++ [y]))) else Nx H3) := by
  have sm : Same H1 (upd H1 D (.lst [])) := fun b x e => by rw [upd_ne (ne_of_none e nD)]; exact e
  refine lc_list (Pv := fun i H => Same H1 H ∧ H D = some (.lst ((xs.take i).filterMap o))) ⟨sm, upd_same⟩ (fun i H _ h => h.1.seq hl) (fun i x H hx h => ?_) (fun H h => ?_)
  · refine hs i x H _ hx h.1 (fun H' y s e => ⟨_, s _ _ h.2, ?_, fun b z q => ?_, ?_⟩) (fun H' s e => ⟨h.1.trans s, ?_⟩)
    · exact Nat.lt_of_le_of_lt (fm_len o xs i) (Nat.lt_trans hz (by decide))
    · rw [upd_ne (ne_of_none q nD)]
      exact s _ _ (h.1 _ _ q)
    · rw [upd_same, take_fm o hx, e]
      rfl
    · rw [s _ _ h.2, take_fm o hx, e]
      simp
  · exact hd H h.1 (by rw [h.2, List.take_length])
theorem lc_fmT (nD : H1 D = none) (hl : SqT K H1 a xs) (hz : xs.length < 100000) (o : V → Option V)
    (hs : ∀ (i : Nat) (x : V) (H : Hp) (Nx : Hp → Prop), xs[i]? = some x → Same H1 H → (∀ H' y, Same H H' → o x = some y → ∃ acc, H' D = some (.lst acc) ∧ acc.length < sizeLine ∧ Nx (upd H' D (.lst (acc ++ [y])))) → (∀ H', Same H H' → o x = none → Nx H') →
      g x (wipe σ vs) H fun σ2 H2 => wipe σ2 vs = wipe σ vs ∧ tt σ2 H2 fun b H3 => if b = true then te σ2 H3 fun y H4 => ∃ acc, H4 D = some (.lst acc) ∧ acc.length < sizeLine ∧ Nx (upd H4 D (.lst (acc ++ [y]))) else Nx H3)
    (hd : ∀ H, Same H1 H → H D = some (.lst (xs.filterMap o)) → Qd H) :
    ∃ W : Nat → Nat → Hp → Prop, (∃ m, W 0 m (upd H1 D (.lst []))) ∧ ∀ i m H, W i m H →
      ((Itt K a).stop i H ∧ Qd H) ∨ ((Itt K a).go i H ∧ ∃ Nx : Hp → Prop, (∀ H', Nx H' → ∃ m', m' < m ∧ W (i + 1) m' H') ∧ ∀ x H', (Itt K a).yld i H x H' → g x (wipe σ vs) H' fun σ2 H2 => wipe σ2 vs = wipe σ vs ∧ tt σ2 H2 fun b H3 =>
        if b = true then te σ2 H3 fun y H4 => ∃ acc, H4 D = some (.lst acc) ∧ acc.length < sizeLine ∧ Nx (upd H4 D (.lst (acc ++ [y]))) else Nx H3) := by
  have sm : Same H1 (upd H1 D (.lst [])) := fun b x e => by rw [upd_ne (ne_of_none e nD)]; exact e
  have st : ∀ H, Same H1 H → SqT K H a xs := fun H s => by
    rcases hl with (h | ⟨ob, h⟩) | h
    · exact .inl (.inl (s _ _ h))
    · exact .inl (.inr ⟨ob, s _ _ h⟩)
    · exact .inr h
  refine lc_tup (Pv := fun i H => Same H1 H ∧ H D = some (.lst ((xs.take i).filterMap o))) ⟨sm, upd_same⟩ (fun i H _ h => st H h.1) (fun i x H hx h => ?_) (fun H h => ?_)
  · refine hs i x H _ hx h.1 (fun H' y s e => ⟨_, s _ _ h.2, ?_, fun b z q => ?_, ?_⟩) (fun H' s e => ⟨h.1.trans s, ?_⟩)
    · exact Nat.lt_of_le_of_lt (fm_len o xs i) (Nat.lt_trans hz (by decide))
    · rw [upd_ne (ne_of_none q nD)]
      exact s _ _ (h.1 _ _ q)
    · rw [upd_same, take_fm o hx, e]
      rfl
    · rw [s _ _ h.2, take_fm o hx, e]
      simp
  · exact hd H h.1 (by rw [h.2, List.take_length])
theorem lc_fmR {lo : Int} {n : Nat} (nD : H1 D = none) (hz : n < 100000) (o : Nat → Option V)
    (hs : ∀ (i : Nat) (H : Hp) (Nx : Hp → Prop), i < n → Same H1 H → (∀ H' y, Same H H' → o i = some y → ∃ acc, H' D = some (.lst acc) ∧ acc.length < sizeLine ∧ Nx (upd H' D (.lst (acc ++ [y])))) → (∀ H', Same H H' → o i = none → Nx H') →
      g (.int (lo + i)) (wipe σ vs) H fun σ2 H2 => wipe σ2 vs = wipe σ vs ∧ tt σ2 H2 fun b H3 => if b = true then te σ2 H3 fun y H4 => ∃ acc, H4 D = some (.lst acc) ∧ acc.length < sizeLine ∧ Nx (upd H4 D (.lst (acc ++ [y]))) else Nx H3)
    (hd : ∀ H, Same H1 H → H D = some (.lst ((List.range n).filterMap o)) → Qd H) :
    ∃ W : Nat → Nat → Hp → Prop, (∃ m, W 0 m (upd H1 D (.lst []))) ∧ ∀ i m H, W i m H →
      ((Itr lo n).stop i H ∧ Qd H) ∨ ((Itr lo n).go i H ∧ ∃ Nx : Hp → Prop, (∀ H', Nx H' → ∃ m', m' < m ∧ W (i + 1) m' H') ∧ ∀ x H', (Itr lo n).yld i H x H' → g x (wipe σ vs) H' fun σ2 H2 => wipe σ2 vs = wipe σ vs ∧ tt σ2 H2 fun b H3 =>
        if b = true then te σ2 H3 fun y H4 => ∃ acc, H4 D = some (.lst acc) ∧ acc.length < sizeLine ∧ Nx (upd H4 D (.lst (acc ++ [y]))) else Nx H3) := by
  have sm : Same H1 (upd H1 D (.lst [])) := fun b x e => by rw [upd_ne (ne_of_none e nD)]; exact e
  have rg : ∀ i, i < n → (List.range n)[i]? = some i := fun i hi => by simp [hi]
  refine lc_range (Pv := fun i H => Same H1 H ∧ H D = some (.lst (((List.range n).take i).filterMap o))) ⟨sm, upd_same⟩ (fun i H hi h => ?_) (fun H h => ?_)
  · refine hs i H _ hi h.1 (fun H' y s e => ⟨_, s _ _ h.2, ?_, fun b z q => ?_, ?_⟩) (fun H' s e => ⟨h.1.trans s, ?_⟩)
    · exact Nat.lt_of_le_of_lt (fm_len o _ i) (by rw [List.length_range]; exact Nat.lt_trans hz (by decide))
    · rw [upd_ne (ne_of_none q nD)]
      exact s _ _ (h.1 _ _ q)
    · rw [upd_same, take_fm o (rg i hi), e]
      rfl
    · rw [s _ _ h.2, take_fm o (rg i hi), e]
      simp
  · exact hd H h.1 (by rw [h.2]; congr 2; rw [List.take_of_length_le (by simp)])
/-- a list or a tuple walked -/
def iSeq (K : PySem.W.Frag) (tl : TE) : TI := fun σ H R => tl σ H fun x H1 => ∃ (a : Addr) (xs : List V), x = .ref a ∧ ((SqL K H1 a xs ∧ R (Itl K a) H1) ∨ (SqT K H1 a xs ∧ R (Itt K a) H1))
theorem piSK {X : Cx} {tg l : Expr} {tl : TE} (h : X.K = K) (hl : PE X l tl) : PI X tg l (iSeq K tl) := by
  subst h
  refine ⟨fun pins s σ H R I h => ?_⟩
  refine thn (hl.run pins s σ H _ I h) fun v s1 ⟨x, H1, I1, r1, a, xs, e, q⟩ => ?_
  subst e
  cases r1
  have fp : ∀ b ∈ [s1.heap.objs.size], FpOk X pins H1 b := fun b hb => by
    have e : b = s1.heap.objs.size := by simpa using hb
    subst e
    exact I1.fpOk (Nat.le_refl _) (I1.hok.fresh (Nat.le_refl _))
  rcases q with ⟨hq, q⟩ | ⟨hq, q⟩
  · obtain ⟨its, rv, p, hz⟩ := I1.list hq
    exact wpAny_pyIter_list p.isList ⟨_, [s1.heap.objs.size], _, _, H1, rfl, I1.kept (t' := s1.toks) fun b o e => Heap.get?_push_of_some _ e, turn_list a _, ⟨_, Heap.get?_push_size _ rfl, rfl, rfl⟩, fp, q⟩
  · obtain ⟨its, rv, p, hz⟩ := I1.tuple hq
    exact wpAny_pyIter_tuple (show s1.heap.IsTuple a its.toArray from p) ⟨_, [s1.heap.objs.size], _, _, H1, rfl, I1.kept (t' := s1.toks) fun b o e => Heap.get?_push_of_some _ e, turn_tuple a _, ⟨_, Heap.get?_push_size _ rfl, rfl, rfl⟩, fp, q⟩
theorem lc_seqV {H : Hp} {Q : VK} {k : Nat} (hv : σ[k]? = some (some (.ref a))) (hl : SqL K H a xs ∨ SqT K H a xs) (hz : xs.length < 100000) (o : V → Option V)
    (hs : ∀ (D : Addr) (i : Nat) (x : V) (H1 : Hp) (Nx : Hp → Prop), H D = none → xs[i]? = some x → Same H H1 → (∀ H' y, Same H1 H' → o x = some y → ∃ acc, H' D = some (.lst acc) ∧ acc.length < sizeLine ∧ Nx (upd H' D (.lst (acc ++ [y])))) → (∀ H', Same H1 H' → o x = none → Nx H') →
      g x (wipe σ vs) H1 fun σ2 H2 => wipe σ2 vs = wipe σ vs ∧ tt σ2 H2 fun b H3 => if b = true then te σ2 H3 fun y H4 => ∃ acc, H4 D = some (.lst acc) ∧ acc.length < sizeLine ∧ Nx (upd H4 D (.lst (acc ++ [y]))) else Nx H3)
    (hd : ∀ (D : Addr) (H1 : Hp), H D = none → Same H H1 → H1 D = some (.lst (xs.filterMap o)) → Q (.ref D) H1) :
    tLc (iSeq K (tVar k)) g tt te vs σ H Q := by
  refine ⟨_, hv, a, xs, rfl, ?_⟩
  rcases hl with h | h
  · exact .inl ⟨h, fun D nD => lc_fmL nD h hz o (fun i x H1 Nx => hs D i x H1 Nx nD) (fun H1 => hd D H1 nD)⟩
  · exact .inr ⟨h, fun D nD => lc_fmT nD h hz o (fun i x H1 Nx => hs D i x H1 Nx nD) (fun H1 => hd D H1 nD)⟩
end
/-- a statement by what it leads to, whatever follows -/
theorem viaS {t : TS} {D : Ends} {σ : St} {H : Hp} (Post : St → Hp → Prop) (a : ∀ σ2 H2, Post σ2 H2 → D.nx σ2 H2) (b : ∀ nx' : St → Hp → Prop, (∀ σ2 H2, Post σ2 H2 → nx' σ2 H2) → t { D with nx := nx' } σ H) : t D σ H := b D.nx a
end L2

set_option Elab.async false
set_option linter.all false
set_option maxRecDepth 100000
set_option maxHeartbeats 1000000
namespace L2
open PySem PySem.Spec PyProof.Rows
/-! rules whose reading names the written part by a letter of one's own (for blocks) -/
section
variable {X : Cx} {K : PySem.W.Frag}
theorem ixLK (h : X.K = K) : IxR X (rIxL K) := by subst h; exact ix_list
theorem ixTK (h : X.K = K) : IxR X (rIxT K) := by subst h; exact ix_tup
theorem inK (h : X.K = K) : OpR X (compareOp .In) (rIn K false) := by subst h; exact op_in_seq
theorem ninK (h : X.K = K) : OpR X (compareOp .NotIn) (rIn K true) := by subst h; exact op_notIn_seq
theorem slLK (h : X.K = K) : SlR X (rSlL K) := by subst h; exact sl_list
def rLen (K : PySem.W.Frag) : List V → Hp → VK → Prop := fun xs H Q => ∃ p ys, xs = [.ref p] ∧ (SqL K H p ys ∨ SqT K H p ys) ∧ Q (.int ys.length) H
theorem lenK (h : X.K = K) : CallR X (.builtin "len") (rLen K) := by subst h; exact call_len_seq
def rTupOf (K : PySem.W.Frag) : List V → Hp → VK → Prop := fun xs H Q => ∃ p ys, xs = [.ref p] ∧ ((SqL K H p ys ∧ ∀ l, H l = none → Q (.ref l) (upd H l (.tup ys))) ∨ (SqT K H p ys ∧ Q (.ref p) H))
theorem tupK (h : X.K = K) : CallR X (.type "tuple") (rTupOf K) := by subst h; exact call_tuple_of
def rLstOf (K : PySem.W.Frag) : List V → Hp → VK → Prop := fun xs H Q => ∃ p ys, xs = [.ref p] ∧ (SqL K H p ys ∨ SqT K H p ys) ∧ ∀ l, H l = none → Q (.ref l) (upd H l (.lst ys))
theorem lstK (h : X.K = K) : CallR X (.type "list") (rLstOf K) := by subst h; exact call_list_of
theorem allK (h : X.K = K) (hc : X.calm = true) : CallR X (.builtin "all") (rAll K) := by subst h; exact cr_all hc
theorem anyK (h : X.K = K) (hc : X.calm = true) : CallR X (.builtin "any") (rAny K) := by subst h; exact cr_any hc
theorem isiK (h : X.K = K) : CallR X (.builtin "isinstance") (rIsi K) := by subst h; exact call_isi
theorem isiTK (h : X.K = K) : CallR X (.builtin "isinstance") (rIsiT K) := by subst h; exact call_isiT
theorem fldK {e : Expr} {f : Str} {pos : Pos} {ta : TE} (h : X.K = K) (he : PE X e ta) (hb : attributeBase e f X.env (eval e X.env) = eval e X.env := by rfl) : PE X (.Attribute e f pos) (tFld K ta f) := by subst h; exact pe_fld he hb
theorem piLK {tg l : Expr} {tl : TE} (h : X.K = K) (hl : PE X l tl) : PI X tg l (iList K tl) := by subst h; exact pi_list hl
theorem piTK {tg l : Expr} {tl : TE} (h : X.K = K) (hl : PE X l tl) : PI X tg l (iTup K tl) := by subst h; exact pi_tup hl
theorem eqDK (h : X.K = K) (hu : X.A.units + 64 < cLine) : OpR X (compareOp .Eq) (rEqD K) := by subst h; exact op_eqD hu
theorem neDK (h : X.K = K) (hu : X.A.units + 64 < cLine) : OpR X (compareOp .NotEq) (rNeD K) := by subst h; exact op_neD hu
end
end L2

set_option Elab.async false
set_option linter.all false
set_option maxRecDepth 100000
set_option maxHeartbeats 1000000
namespace L2
open PySem
/-! data: tuples of ints -/
def tI (ns : List Int) : PyData := .tuple (ns.map PyData.int)
theorem dp_ints {K : PySem.W.Frag} {H : Hp} : ∀ ns : List Int, DpAll K H (ns.map V.int) (ns.map PyData.int)
  | [] => .nil
  | n :: r => .cons (.int n) (dp_ints r)
theorem dp_tI {K : PySem.W.Frag} {H : Hp} {a : Addr} {ns : List Int} (h : H a = some (.tup (ns.map V.int))) : Dp K H (.ref a) (tI ns) := .tup (SqT.of h) (dp_ints ns)
theorem eqv_ints : ∀ ns ms : List Int, PyData.eqvAll (ns.map PyData.int) (ms.map PyData.int) = decide (ns = ms)
  | [], [] => rfl
  | [], m :: r => by simp [PyData.eqvAll]
  | n :: r, [] => by simp [PyData.eqvAll]
  | n :: r, m :: s => by
    show (n == m && PyData.eqvAll (r.map PyData.int) (s.map PyData.int)) = _
    rw [eqv_ints r s]
    by_cases h : n = m <;> by_cases h2 : r = s <;> simp [h, h2]
theorem eqv_tI (ns ms : List Int) : PyData.eqv (tI ns) (tI ms) = decide (ns = ms) := eqv_ints ns ms
theorem lay_ints : ∀ ns : List Int, PyData.canLayAll0 (ns.map PyData.int) = true
  | [] => rfl
  | n :: r => by
    show (PyData.canLay0 (.int n) && PyData.canLayAll0 (r.map PyData.int)) = true
    rw [lay_ints r]; rfl
theorem depth_ints : ∀ ns : List Int, PyData.depthAll (ns.map PyData.int) = 0
  | [] => rfl
  | n :: r => by
    show max (PyData.depth (.int n)) (PyData.depthAll (r.map PyData.int)) = 0
    rw [depth_ints r]; rfl
theorem depth_tI (ns : List Int) : (tI ns).depth = 1 := by
  show PyData.depthAll (ns.map PyData.int) + 1 = 1
  rw [depth_ints]
theorem shaped_tI (ns : List Int) : SeqAt.shaped (tI ns) = true := by
  unfold SeqAt.shaped
  rw [depth_tI]
  show (PyData.canLayAll0 (ns.map PyData.int) && _) = true
  rw [lay_ints]; rfl
theorem noDict_ints : ∀ ns : List Int, PyData.hasDictAll (ns.map PyData.int) = false
  | [] => rfl
  | n :: r => by
    show (PyData.hasDict (.int n) || PyData.hasDictAll (r.map PyData.int)) = false
    rw [noDict_ints r]; rfl
theorem noDict_tI (ns : List Int) : (tI ns).hasDict = false := noDict_ints ns
theorem show_ints : ∀ ns : List Int, (∀ n ∈ ns, n.natAbs ≤ 1000000) → PyData.showableAll (ns.map PyData.int) = true
  | [], _ => rfl
  | n :: r, h => by
    show (decide (n.natAbs.log2 < 1920) && PyData.showableAll (r.map PyData.int)) = true
    rw [show_ints r fun m hm => h m (List.mem_cons_of_mem _ hm)]
    have h1 := h n (List.mem_cons_self ..)
    have h2 : n.natAbs.log2 < 1920 := by
      by_cases z : n.natAbs = 0
      · rw [z]; decide
      · have : n.natAbs.log2 < 20 := (Nat.log2_lt z).mpr (by omega)
        omega
    rw [decide_eq_true h2]; rfl
end L2

set_option Elab.async false
set_option linter.all false
set_option maxRecDepth 100000
set_option maxHeartbeats 1000000
namespace K30
open PySem L2
def topS (i : Nat) : Stmt := PySem.Challenge.pw_foreheads_k30_lines_made_and_refused.main.body.getD i (.Pass ⟨0, 0, 0, 0⟩)
/-- names that the top leaves to the built-ins -/
structure Bt (mg : Str → Option Value) : Prop where
  m_int : mg "int" = none
  m_len : mg "len" = none
  m_range : mg "range" = none
  m_list : mg "list" = none
  m_tuple : mg "tuple" = none
  m_all : mg "all" = none
  m_any : mg "any" = none
  m_isinstance : mg "isinstance" = none
  m_max : mg "max" = none
  m_min : mg "min" = none
  m_repr : mg "repr" = none
  m_bool : mg "bool" = none
  m_str : mg "str" = none
/-! ### heaps -/
def Xt (b : Addr) (H H' : Hp) : Prop := ∀ a o, a ≠ b → H a = some o → H' a = some o
theorem Xt.refl (b : Addr) (H : Hp) : Xt b H H := fun _ _ _ h => h
theorem Xt.trans {b : Addr} {H H1 H2 : Hp} (x : Xt b H H1) (y : Xt b H1 H2) : Xt b H H2 := fun a o n h => y a o n (x a o n h)
theorem Xt.of {b : Addr} {H H' : Hp} (x : Same H H') : Xt b H H' := fun a o _ h => x a o h
theorem Xt.put {b : Addr} {H : Hp} {o : HO} : Xt b H (upd H b o) := fun a u n h => by rw [upd_ne n]; exact h
theorem same_new {H : Hp} {p : Addr} {o : HO} (h : H p = none) : Same H (upd H p o) := fun b x e => by
  rw [upd_ne (ne_of_none e h)]; exact e
def BoxAt (H : Hp) (b : Addr) : Prop := ∃ i j : Int, H b = some (.lst [.int i, .int j]) ∧ 0 ≤ i ∧ 0 < j ∧ j < 4294967296
theorem BoxAt.same {H H' : Hp} {b : Addr} (x : Same H H') (h : BoxAt H b) : BoxAt H' b := by
  obtain ⟨i, j, e, r⟩ := h
  exact ⟨i, j, x _ _ e, r⟩
local macro_rules | `(tactic| walk_at "seq") => `(tactic| first | assumption | exact SqL.of (by assumption) | exact SqT.of (by assumption) | exact SqL.of upd_same | exact SqT.of upd_same)
local macro_rules | `(tactic| walk_at "at") => `(tactic| first | exact atI_nat (j := 0) rfl | exact atI_nat (j := 1) rfl | exact atI_nat (j := 2) rfl | exact atI_nat (by assumption) | assumption)
local macro_rules | `(tactic| walk_at "ar") => `(tactic| first | omega | exact ⟨by omega, by omega⟩ | exact Or.inl ⟨by omega, by omega⟩ | exact Or.inr ⟨by omega, by omega⟩ | exact ⟨by decide, by decide⟩ | exact Or.inr ⟨by decide, by decide⟩ | exact Or.inl ⟨by decide, by decide⟩ | exact ⟨by decide, by decide, by omega⟩ | exact ⟨by decide, by decide, by decide⟩)
local macro_rules | `(tactic| walk_at "r") => `(tactic| repeat (first
  | refine ⟨_, rfl, ?_⟩
  | refine ⟨_, _, rfl, rfl, ?_⟩
  | refine ⟨_, _, _, _, rfl, rfl, by walk_at "seq", by walk_at "at", ?_⟩
  | refine ⟨_, _, _, _, rfl, rfl, by assumption, rfl, ?_⟩
  | refine ⟨_, _, rfl, Or.inl (by walk_at "seq"), ?_⟩
  | refine Or.inl ⟨_, rfl, ?_⟩
  | refine Or.inr ⟨_, rfl, ?_⟩
  | refine And.intro (by walk_at "ar") ?_))
/-! ### take -/
def spTake : Sp := fun vs H Q _ => ∃ (b : Addr) (n : Int), vs = [.ref b, .int n] ∧ BoxAt H b ∧ 0 < n ∧ n < 1000000 ∧
  ∀ (r : Int) (H' : Hp), 0 ≤ r → r < n → Xt b H H' → BoxAt H' b → Q (.int r) H'
section
variable {P : Program} {w : World} {K : PySem.W.Frag} {mg : Str → Option Value} {base : Heap}
theorem sc__law_take : FnScope ["_law_box", "_law_many", "_law_digit", "_law_one"] ["_law_box", "_law_many"] (defScope (topS 20)) := ⟨rfl, rfl, rfl, by decide +kernel, rfl, by decide +kernel, by decide +kernel⟩
theorem ok_take {f : Addr} {fd : FuncData} {k : Nat} (F : Fun K "_law_take" "_law_take" (topS 20) f fd) (T : Bt mg) : FnOk P w K mg base CX0 (k + 1) f fd ["_law_box", "_law_many"] spTake := by
  refine F.ok sc__law_take (fun vs H Q E h => ?_) (fun cdv A outer s H vs Q E hr h => ?_)
  · obtain ⟨b, n, rfl, _⟩ := h
    rfl
  · obtain ⟨b, n, rfl, ⟨i, j, hb, hi, hj, hj2⟩, hn, hn2, q⟩ := h
    refine ⟨_, (pss_cons (ps_if (pt_cmpR op_gt (pe_ix (ixLK (K := K) rfl) (pv 0) pe_int (fun _ _ => rfl)) pe_int (nomark _)) (pss_cons (ps_set (i := 2) sc__law_take.nd rfl (by first | exact Or.inl rfl | exact Or.inr rfl) (pe_op op_mod (pe_callTy call_int1 (by rfl) T.m_int (by decide +kernel) (pa_cons (pe_ix (ixLK (K := K) rfl) (pv 0) pe_int (fun _ _ => rfl)) pa_nil)) (pv 1)))
  (pss_cons (ps_asg (pe_op op_fdiv (pe_ix (ixLK (K := K) rfl) (pv 0) pe_int (fun _ _ => rfl)) (pv 1)) (pg_sub (pv 0) pe_int set_list))
  (pss_one (ps_ret (pv 2))))) pss_nil)
  (pss_cons (ps_set (i := 3) sc__law_take.nd rfl (by first | exact Or.inl rfl | exact Or.inr rfl) (pe_op op_mod (pe_callTy call_int1 (by rfl) T.m_int (by decide +kernel) (pa_cons (pe_op op_mul (pe_ix (ixLK (K := K) rfl) (pv 0) pe_int (fun _ _ => rfl)) pe_int) pa_nil)) pe_int))
  (pss_cons (ps_asg (pe_op op_add (pe_op op_mod (pe_callTy call_int1 (by rfl) T.m_int (by decide +kernel) (pa_cons (pe_op op_add (pe_op op_mul (pv 3) pe_int) pe_int) pa_nil)) pe_int) pe_int) (pg_sub (pv 0) pe_int set_list))
  (pss_one (ps_ret (pe_op op_mod (pe_callTy call_int1 (by rfl) T.m_int (by decide +kernel) (pa_cons (pe_op op_fdiv (pe_op op_add (pe_op op_mul (pv 3) pe_int) (pe_ix (ixLK (K := K) rfl) (pv 0) pe_int (fun _ _ => rfl))) pe_int) pa_nil)) (pv 1))))))), ?_⟩
    walk_at "r"
    refine ite2 (fun e => ?_) (fun e => ?_)
    · have hi0 : 0 < i := of_decide_eq_true e
      walk_at "r"
      refine q _ _ (Int.emod_nonneg _ (by omega)) (Int.emod_lt_of_pos _ hn) Xt.put ⟨_, _, upd_same, ?_, hj, hj2⟩
      exact Int.ediv_nonneg hi (by omega)
    · walk_at "r"
      refine q _ _ (Int.emod_nonneg _ (by omega)) (Int.emod_lt_of_pos _ hn) Xt.put ⟨_, _, upd_same, hi, ?_, ?_⟩
      · have := Int.emod_nonneg (j * 69623 % 2147483647 * 48271 + 30103) (b := 2147483629) (by decide)
        omega
      · have := Int.emod_lt_of_pos (j * 69623 % 2147483647 * 48271 + 30103) (b := 2147483629) (by decide)
        omega
/-! ### pick -/
def spPick (K : PySem.W.Frag) : Sp := fun vs H Q _ => ∃ (b l : Addr) (xs : List V), vs = [.ref b, .ref l] ∧ BoxAt H b ∧ SqL K H l xs ∧ b ≠ l ∧ 0 < xs.length ∧ xs.length < 1000 ∧
  ∀ (x : V) (H' : Hp), x ∈ xs → Xt b H H' → BoxAt H' b → Q x H'
theorem xt_l {K : PySem.W.Frag} {b a : Addr} {H H' : Hp} {xs : List V} (x : Xt b H H') (n : a ≠ b) (h : SqL K H a xs) : SqL K H' a xs := by
  rcases h with (h | ⟨o, h⟩) | h
  · exact .inl (.inl (x _ _ n h))
  · exact .inl (.inr ⟨o, x _ _ n h⟩)
  · exact .inr h
theorem xt_t {K : PySem.W.Frag} {b a : Addr} {H H' : Hp} {xs : List V} (x : Xt b H H') (n : a ≠ b) (h : SqT K H a xs) : SqT K H' a xs := by
  rcases h with (h | ⟨o, h⟩) | h
  · exact .inl (.inl (x _ _ n h))
  · exact .inl (.inr ⟨o, x _ _ n h⟩)
  · exact .inr h
theorem atI_mem {xs : List V} {r : Int} (h0 : 0 ≤ r) (h1 : r < xs.length) : ∃ v, atI xs r = some v ∧ v ∈ xs := by
  obtain ⟨n, rfl⟩ := Int.eq_ofNat_of_zero_le h0
  have hn : n < xs.length := by omega
  exact ⟨xs[n], atI_nat (List.getElem?_eq_getElem hn), List.getElem_mem hn⟩
theorem sc__law_pick : FnScope ["_law_box", "_law_some_here"] ["_law_box", "_law_some_here"] (defScope (topS 21)) := ⟨rfl, rfl, rfl, by decide +kernel, rfl, by decide +kernel, by decide +kernel⟩
theorem ok_pick {f fT : Addr} {fd fdT : FuncData} {k : Nat} (F : Fun K "_law_pick" "_law_pick" (topS 21) f fd) (T : Bt mg) (FT : Fun K "_law_take" "_law_take" (topS 20) fT fdT) (bT : Binds K fdT ["_law_box", "_law_many"] []) (gT : mg "_law_take" = some (.ref fT)) :
    FnOk P w K mg base CX0 (k + 2) f fd ["_law_box", "_law_some_here"] (spPick K) := by
  have GT : FnOk P w K mg base CX0 (k + 1) fT fdT ["_law_box", "_law_many"] spTake := ok_take FT T
  refine F.ok sc__law_pick (fun vs H Q E h => ?_) (fun cdv A outer s H vs Q E hr h => ?_)
  · obtain ⟨b, l, xs, rfl, _⟩ := h
    rfl
  · obtain ⟨b, l, xs, rfl, hb, hl, hbl, h0, h1, q⟩ := h
    refine ⟨_, (pss_one (ps_ret (pe_ix (ixLK (K := K) rfl) (pv 1) (pe_call GT hr (by rfl) gT FT.kp bT .nil pass0 (pa_cons (pv 0) (pa_cons (pe_callB (lenK (K := K) rfl) (by rfl) T.m_len PySem.boot_len (pa_cons (pv 1) pa_nil)) pa_nil))) (fun _ _ => rfl)))), ?_⟩
    walk_at "r"
    refine ⟨b, xs.length, rfl, hb, by omega, by omega, fun r H' r0 r1 x hb' => ?_⟩
    obtain ⟨v, ev, hv⟩ := atI_mem r0 r1
    exact ⟨l, xs, r, v, rfl, rfl, xt_l x hbl.symm hl, ev, q v H' hv x hb'⟩
/-! ### feed -/
def spFeed (K : PySem.W.Frag) : Sp := fun vs H Q _ => ∃ (a : Addr) (ns : List Int) (n : Nat), vs = [.ref a, .int n] ∧ SqL K H a (ns.map V.int) ∧ n < 100 ∧
  ∀ (p : Addr) (H' : Hp), Same H H' → H p = none → BoxAt H' p → Q (.ref p) H'
theorem sc__law_feed : FnScope ["_law_script", "_law_k", "_law_cell", "_law_seed"] ["_law_script", "_law_k"] (defScope (topS 19)) := ⟨rfl, rfl, rfl, by decide +kernel, rfl, by decide +kernel, by decide +kernel⟩
theorem ok_feed {f : Addr} {fd : FuncData} {k : Nat} (F : Fun K "_law_feed" "_law_feed" (topS 19) f fd) (T : Bt mg) : FnOk P w K mg base CX0 (k + 1) f fd ["_law_script", "_law_k"] (spFeed K) := by
  refine F.ok sc__law_feed (fun vs H Q E h => ?_) (fun cdv A outer s H vs Q E hr h => ?_)
  · obtain ⟨a, ns, n, rfl, _⟩ := h
    rfl
  · obtain ⟨a, ns, n, rfl, ha, hn, q⟩ := h
    refine ⟨_, (pss_cons (ps_set (i := 2) sc__law_feed.nd rfl (by first | exact Or.inl rfl | exact Or.inr rfl) (pe_op op_add (pe_op op_mul pe_int (pv 1)) pe_int))
  (pss_cons (ps_if (pt_cmpR op_lt (pv 1) (pe_callB (lenK (K := K) rfl) (by rfl) T.m_len PySem.boot_len (pa_cons (pv 0) pa_nil)) (nomark _)) (pss_one (ps_set (i := 2) sc__law_feed.nd rfl (by first | exact Or.inl rfl | exact Or.inr rfl) (pe_ix (ixLK (K := K) rfl) (pv 0) (pv 1) (fun _ _ => rfl)))) (pss_one (ps_if (pt_cmpR op_gt (pe_callB (lenK (K := K) rfl) (by rfl) T.m_len PySem.boot_len (pa_cons (pv 0) pa_nil)) pe_int (nomark _)) (pss_one (ps_set (i := 2) sc__law_feed.nd rfl (by first | exact Or.inl rfl | exact Or.inr rfl) (pe_op op_add (pv 2) (pe_op op_mul (pe_op op_mod (pe_callTy call_int1 (by rfl) T.m_int (by decide +kernel) (pa_cons (pe_ix (ixLK (K := K) rfl) (pv 0) (pe_op op_mod (pv 1) (pe_callB (lenK (K := K) rfl) (by rfl) T.m_len PySem.boot_len (pa_cons (pv 0) pa_nil))) (fun _ _ => rfl)) pa_nil)) pe_int) pe_int)))) pss_nil)))
  (pss_cons (ps_set (i := 3) sc__law_feed.nd rfl (by first | exact Or.inl rfl | exact Or.inr rfl) (pe_op op_mod (pe_op op_pow (pe_op op_add (pe_op op_add (pe_op op_mod (pe_callTy call_int1 (by rfl) T.m_int (by decide +kernel) (pa_cons (pv 2) pa_nil)) pe_int) (pe_op op_mul pe_int (pv 1))) pe_int) pe_int) pe_int))
  (pss_one (ps_ret (pe_lst (pa_cons (pe_ix (ixLK (K := K) rfl) (pe_lst (pa_cons pe_int (pa_cons (pv 2) pa_nil))) (pe_callTy call_int1 (by rfl) T.m_int (by decide +kernel) (pa_cons (pe_cmpR op_ge (pv 2) (pe_op op_pow pe_int pe_int) (nomark _)) pa_nil)) (fun _ _ => rfl)) (pa_cons (pe_op op_add (pe_op op_mod (pe_callTy call_int1 (by rfl) T.m_int (by decide +kernel) (pa_cons (pv 3) pa_nil)) pe_int) pe_int) pa_nil)))))))), ?_⟩
    have pk : ∀ c : Int, ∃ c' : Int, 0 ≤ c' ∧ atI [V.int 0, V.int c] (if decide ((10 : Int) ^ Int.toNat 18 ≤ c) = true then 1 else 0) = some (.int c') := fun c => by
      by_cases h : (10 : Int) ^ Int.toNat 18 ≤ c
      · rw [decide_eq_true h, if_pos rfl]
        exact ⟨c, by have : (0 : Int) ≤ 10 ^ Int.toNat 18 := by decide
                     omega, atI_nat (j := 1) rfl⟩
      · rw [decide_eq_false h, if_neg Bool.false_ne_true]
        exact ⟨0, by omega, atI_nat (j := 0) rfl⟩
    have sd : ∀ z : Int, 0 < z % 2147483646 + 1 ∧ z % 2147483646 + 1 < 4294967296 := fun z => by
      have h1 := Int.emod_nonneg z (b := 2147483646) (by decide)
      have h2 := Int.emod_lt_of_pos z (b := 2147483646) (by decide)
      omega
    walk_at "r"
    refine ite2 (fun e => ?_) (fun e => ?_)
    · have e' : (n : Int) < ((ns.map V.int).length : Int) := of_decide_eq_true e
      obtain ⟨c, hc⟩ : ∃ c, (ns.map V.int)[n]? = some (.int c) := by
        rw [List.length_map] at e'
        have hl : n < ns.length := by omega
        exact ⟨ns[n], by rw [List.getElem?_map, List.getElem?_eq_getElem hl]; rfl⟩
      obtain ⟨c', h0, hp'⟩ := pk c
      walk_at "r"
      refine ⟨by show 2 ≤ sizeLine; decide, fun p np => ?_⟩
      walk_at "r"
      refine ⟨by show 2 ≤ sizeLine; decide, fun p2 np2 => ?_⟩
      exact q p2 _ ((same_new np).trans (same_new np2)) ((same_new np).free np2) ⟨_, _, upd_same, h0, sd _⟩
    · walk_at "r"
      refine ite2 (fun e2 => ?_) (fun e2 => ?_)
      · have e' : (0 : Int) < ((ns.map V.int).length : Int) := of_decide_eq_true e2
        obtain ⟨c, hc⟩ : ∃ c, atI (ns.map V.int) ((n : Int) % ((ns.map V.int).length : Int)) = some (.int c) := by
          obtain ⟨v, hv, hm⟩ := atI_mem (xs := ns.map V.int) (Int.emod_nonneg (n : Int) (by omega)) (Int.emod_lt_of_pos (n : Int) e')
          obtain ⟨x, _, rfl⟩ := List.mem_map.mp hm
          exact ⟨x, hv⟩
        walk_at "r"
        obtain ⟨c', h0, hp'⟩ := pk (7919 * (n : Int) + 11 + c % 2147483629 * 69623)
        refine ⟨by show 2 ≤ sizeLine; decide, fun p np => ?_⟩
        walk_at "r"
        refine ⟨by show 2 ≤ sizeLine; decide, fun p2 np2 => ?_⟩
        exact q p2 _ ((same_new np).trans (same_new np2)) ((same_new np).free np2) ⟨_, _, upd_same, h0, sd _⟩
      · obtain ⟨c', h0, hp'⟩ := pk (7919 * (n : Int) + 11)
        walk_at "r"
        refine ⟨by show 2 ≤ sizeLine; decide, fun p np => ?_⟩
        walk_at "r"
        refine ⟨by show 2 ≤ sizeLine; decide, fun p2 np2 => ?_⟩
        exact q p2 _ ((same_new np).trans (same_new np2)) ((same_new np).free np2) ⟨_, _, upd_same, h0, sd _⟩
end
end K30

set_option Elab.async false
set_option linter.all false
set_option maxRecDepth 100000
set_option maxHeartbeats 1000000
namespace K30
open PySem L2
local macro_rules | `(tactic| walk_at "seq") => `(tactic| first | assumption | exact SqL.of (by assumption) | exact SqT.of (by assumption) | exact SqL.of upd_same | exact SqT.of upd_same)
local macro_rules | `(tactic| walk_at "at") => `(tactic| first | exact atI_nat (j := 0) rfl | exact atI_nat (j := 1) rfl | exact atI_nat (j := 2) rfl | exact atI_nat (by assumption) | assumption)
local macro_rules | `(tactic| walk_at "ar") => `(tactic| first | omega | exact ⟨by omega, by omega⟩ | exact Or.inl ⟨by omega, by omega⟩ | exact Or.inr ⟨by omega, by omega⟩ | exact ⟨by decide, by decide⟩ | exact Or.inr ⟨by decide, by decide⟩ | exact Or.inl ⟨by decide, by decide⟩ | exact ⟨by decide, by decide, by omega⟩ | exact ⟨by decide, by decide, by decide⟩)
local macro_rules | `(tactic| walk_at "r") => `(tactic| repeat (first
  | refine ⟨_, rfl, ?_⟩
  | refine ⟨_, _, rfl, rfl, ?_⟩
  | refine ⟨_, _, _, _, rfl, rfl, by walk_at "seq", by walk_at "at", ?_⟩
  | refine ⟨_, _, _, _, rfl, rfl, by assumption, rfl, ?_⟩
  | refine ⟨_, _, rfl, Or.inl (by walk_at "seq"), ?_⟩
  | refine Or.inl ⟨_, rfl, ?_⟩
  | refine Or.inr ⟨_, rfl, ?_⟩
  | refine And.intro (by walk_at "ar") ?_))
/-! ### sorts of values -/
inductive Srt where
  | non | bl | int | str | lst | tup | line
  deriving DecidableEq
def Srt.ty (C : Addr) : Srt → Value
  | .non => .type "NoneType" | .bl => .type "bool" | .int => .type "int" | .str => .type "str" | .lst => .type "list" | .tup => .type "tuple" | .line => .ref C
inductive Sk (C : Addr) (H : Hp) : V → Srt → Prop
  | non : Sk C H .non .non
  | bl (b : Bool) : Sk C H (.bl b) .bl
  | int (i : Int) : Sk C H (.int i) .int
  | str (x : Str) : Sk C H (.str x) .str
  | lst {a : Addr} {xs : List V} (h : H a = some (.lst xs)) : Sk C H (.ref a) .lst
  | tup {a : Addr} {xs : List V} (h : H a = some (.tup xs)) : Sk C H (.ref a) .tup
  | line {a dx : Addr} {fs : List (Str × V)} (h : H a = some (.ins C dx fs)) : Sk C H (.ref a) .line
theorem Sk.same {C : Addr} {H H' : Hp} {v : V} {s : Srt} (x : Same H H') (h : Sk C H v s) : Sk C H' v s := by
  cases h with
  | non => exact .non
  | bl b => exact .bl b
  | int i => exact .int i
  | str z => exact .str z
  | lst h => exact .lst (x _ _ h)
  | tup h => exact .tup (x _ _ h)
  | line h => exact .line (x _ _ h)
/-- what the top says of the class Line -/
structure LineC (K : PySem.W.Frag) (mg : Str → Option Value) (C : Addr) : Prop where
  cl : Cls K C
  nP : NoAttr K C "people"
  nG : NoAttr K C "goes"
  nE : NoAttr K C "edges"
  mgL : mg "Line" = some (.ref C)
  ha : PySem.W.findIn K (.ref C) "__class__" = some (some (.builtin "object.__class__"))
  hn : PySem.W.specialIn K (.builtin "object.__class__") "__get__" = some (some (.builtin "getset_descriptor.__get__"))
  ht : PySem.W.takesIn K (.builtin "object.__class__") = some true
  hm : PySem.W.mroIn K C (.type "object") = some true
  kInt : PySem.W.kitOne K (.ref C) (.type "int") = some false
  kBool : PySem.W.kitOne K (.ref C) (.type "bool") = some false
  kList : PySem.W.kitOne K (.ref C) (.type "list") = some false
  kTup : PySem.W.kitOne K (.ref C) (.type "tuple") = some false
  kStr : PySem.W.kitOne K (.ref C) (.type "str") = some false
  kOwn : PySem.W.kitOne K (.ref C) (.ref C) = some true
  kTL : PySem.W.kitOne K (.type "tuple") (.ref C) = some false
  kNL : PySem.W.kitOne K (.type "NoneType") (.ref C) = some false
  fTL : PySem.W.notFirst K C (.type "tuple") = true
  fNL : PySem.W.notFirst K C (.type "NoneType") = true
theorem Sk.tyx {K : PySem.W.Frag} {mg : Str → Option Value} {C : Addr} {H : Hp} {v : V} {s : Srt} (L : LineC K mg C) (h : Sk C H v s) : TyX K H v (s.ty C) := by
  cases h with
  | non => exact .base .non
  | bl b => exact .base (.bl b)
  | int i => exact .base (.int i)
  | str z => exact .base (.str z)
  | lst h => exact .base (.lst h)
  | tup h => exact .base (.tup h)
  | line h => exact .base (.ins h L.cl L.ha L.hn L.ht L.hm)
theorem kit_int {K : PySem.W.Frag} {mg : Str → Option Value} {C : Addr} (L : LineC K mg C) (s : Srt) : PySem.W.kitOne K (s.ty C) (.type "int") = some (s == .int || s == .bl) := by
  cases s <;> first | exact kit_ty (by decide +kernel) | exact L.kInt
theorem kit_bool {K : PySem.W.Frag} {mg : Str → Option Value} {C : Addr} (L : LineC K mg C) (s : Srt) : PySem.W.kitOne K (s.ty C) (.type "bool") = some (s == .bl) := by
  cases s <;> first | exact kit_ty (by decide +kernel) | exact L.kBool
theorem kit_str {K : PySem.W.Frag} {mg : Str → Option Value} {C : Addr} (L : LineC K mg C) (s : Srt) : PySem.W.kitOne K (s.ty C) (.type "str") = some (s == .str) := by
  cases s <;> first | exact kit_ty (by decide +kernel) | exact L.kStr
theorem kit_seq {K : PySem.W.Frag} {mg : Str → Option Value} {C : Addr} (L : LineC K mg C) (s : Srt) : PySem.W.kitAny K (s.ty C) [.type "list", .type "tuple"] = some (s == .lst || s == .tup) := by
  have h1 : PySem.W.kitOne K (s.ty C) (.type "list") = some (s == .lst) := by cases s <;> first | exact kit_ty (by decide +kernel) | exact L.kList
  have h2 : PySem.W.kitOne K (s.ty C) (.type "tuple") = some (s == .tup) := by cases s <;> first | exact kit_ty (by decide +kernel) | exact L.kTup
  refine kitAny_cons h1 (fun e => ?_) (fun e => by rw [e]; rfl)
  refine kitAny_cons (r := (s == .lst || s == .tup)) h2 (fun e2 => ?_) (fun e2 => by rw [e2]; cases (s == Srt.lst) <;> rfl)
  rw [e, e2]
  rfl
section
variable {P : Program} {w : World} {K : PySem.W.Frag} {mg : Str → Option Value} {base : Heap} {C : Addr}
/-! ### is_integer, is_number, is_sequence -/
def spInt (C : Addr) : Sp := fun vs H Q _ => ∃ (v : V) (s : Srt), vs = [v] ∧ Sk C H v s ∧ Q (.bl (s == .int)) H
theorem sc_is_integer : FnScope ["value"] ["value"] (defScope (topS 6)) := ⟨rfl, rfl, rfl, by decide +kernel, rfl, by decide +kernel, by decide +kernel⟩
theorem ok_isInt {f : Addr} {fd : FuncData} {k : Nat} (F : Fun K "is_integer" "is_integer" (topS 6) f fd) (T : Bt mg) (L : LineC K mg C) : FnOk P w K mg base CX0 (k + 1) f fd ["value"] (spInt C) := by
  refine F.ok sc_is_integer (fun vs H Q E h => ?_) (fun cdv A outer s H vs Q E hr h => ?_)
  · obtain ⟨v, s, rfl, _⟩ := h
    rfl
  · obtain ⟨v, sv, rfl, hs, q⟩ := h
    refine ⟨_, (pss_one (ps_ret (pe_and (pe_callB call_isi (by rfl) T.m_isinstance (by decide +kernel) (pa_cons (pv 0) (pa_cons (pe_bltn (v := .ty "int") (by rfl) T.m_int (by decide +kernel) rfl) pa_nil))) (pe_one (pe_not (pe_callB call_isi (by rfl) T.m_isinstance (by decide +kernel) (pa_cons (pv 0) (pa_cons (pe_bltn (v := .ty "bool") (by rfl) T.m_bool (by decide +kernel) rfl) pa_nil)))))))), ?_⟩
    refine ⟨_, rfl, _, _, _, _, _, rfl, .ty _, hs.tyx L, kit_int L sv, _, rfl, ite2 (fun e => ?_) (fun e => ?_)⟩
    · refine ⟨_, rfl, _, _, _, _, _, rfl, .ty _, hs.tyx L, kit_bool L sv, _, rfl, ?_⟩
      cases sv <;> first | exact q | cases e
    · cases sv <;> first | exact q | exact (e rfl).elim
def isNum : V → Bool
  | .int i => decide (0 ≤ i)
  | _ => false
def spNum (C : Addr) : Sp := fun vs H Q _ => ∃ (v : V) (s : Srt), vs = [v] ∧ Sk C H v s ∧ Q (.bl (isNum v)) H
theorem sc_is_number : FnScope ["value"] ["value"] (defScope (topS 7)) := ⟨rfl, rfl, rfl, by decide +kernel, rfl, by decide +kernel, by decide +kernel⟩
theorem ok_isNum {f fI : Addr} {fd fdI : FuncData} {k : Nat} (F : Fun K "is_number" "is_number" (topS 7) f fd) (T : Bt mg) (L : LineC K mg C) (FI : Fun K "is_integer" "is_integer" (topS 6) fI fdI) (bI : Binds K fdI ["value"] []) (gI : mg "is_integer" = some (.ref fI)) :
    FnOk P w K mg base CX0 (k + 2) f fd ["value"] (spNum C) := by
  have GI : FnOk P w K mg base CX0 (k + 1) fI fdI ["value"] (spInt C) := ok_isInt FI T L
  refine F.ok sc_is_number (fun vs H Q E h => ?_) (fun cdv A outer s H vs Q E hr h => ?_)
  · obtain ⟨v, s, rfl, _⟩ := h
    rfl
  · obtain ⟨v, sv, rfl, hs, q⟩ := h
    refine ⟨_, (pss_one (ps_ret (pe_and (pe_call GI hr (by rfl) gI FI.kp bI .nil pass0 (pa_cons (pv 0) pa_nil)) (pe_one (pe_cmpR op_ge (pv 0) pe_int (nomark _)))))), ?_⟩
    refine ⟨_, rfl, v, sv, rfl, hs, _, rfl, ite2 (fun e => ?_) (fun e => ?_)⟩
    · cases hs <;> first | (cases e; done) | skip
      walk_at "r"
      exact q
    · cases hs <;> first | exact q | exact (e rfl).elim
def spSeq (C : Addr) : Sp := fun vs H Q _ => ∃ (v : V) (s : Srt), vs = [v] ∧ Sk C H v s ∧ ∀ H', Same H H' → Q (.bl (s == .lst || s == .tup)) H'
theorem sc_is_sequence : FnScope ["value"] ["value"] (defScope (topS 8)) := ⟨rfl, rfl, rfl, by decide +kernel, rfl, by decide +kernel, by decide +kernel⟩
theorem ok_isSeq {f : Addr} {fd : FuncData} {k : Nat} (F : Fun K "is_sequence" "is_sequence" (topS 8) f fd) (T : Bt mg) (L : LineC K mg C) : FnOk P w K mg base CX0 (k + 1) f fd ["value"] (spSeq C) := by
  refine F.ok sc_is_sequence (fun vs H Q E h => ?_) (fun cdv A outer s H vs Q E hr h => ?_)
  · obtain ⟨v, s, rfl, _⟩ := h
    rfl
  · obtain ⟨v, sv, rfl, hs, q⟩ := h
    refine ⟨_, (pss_one (ps_ret (pe_callB call_isiT (by rfl) T.m_isinstance (by decide +kernel) (pa_cons (pv 0) (pa_cons (pe_tup (pa_cons (pe_bltn (v := .ty "list") (by rfl) T.m_list (by decide +kernel) rfl) (pa_cons (pe_bltn (v := .ty "tuple") (by rfl) T.m_tuple (by decide +kernel) rfl) pa_nil))) pa_nil))))), ?_⟩
    refine ⟨_, rfl, by show 2 ≤ sizeLine; decide, fun p np => ?_⟩
    exact ⟨_, p, _, _, _, _, rfl, upd_same, .cons (.ty _) (.cons (.ty _) .nil), (hs.same (same_new np)).tyx L, kit_seq L sv, q _ (same_new np)⟩
end
end K30

set_option Elab.async false
set_option linter.all false
set_option maxRecDepth 100000
set_option maxHeartbeats 1000000
namespace K30
open PySem L2
local macro_rules | `(tactic| walk_at "seq") => `(tactic| first | assumption | exact SqL.of (by assumption) | exact SqT.of (by assumption) | exact SqL.of upd_same | exact SqT.of upd_same)
local macro_rules | `(tactic| walk_at "at") => `(tactic| first | exact atI_nat (j := 0) rfl | exact atI_nat (j := 1) rfl | exact atI_nat (j := 2) rfl | exact atI_nat (by assumption) | assumption)
local macro_rules | `(tactic| walk_at "ar") => `(tactic| first | omega | exact ⟨by omega, by omega⟩ | exact Or.inl ⟨by omega, by omega⟩ | exact Or.inr ⟨by omega, by omega⟩ | exact ⟨by decide, by decide⟩ | exact Or.inr ⟨by decide, by decide⟩ | exact Or.inl ⟨by decide, by decide⟩ | exact ⟨by decide, by decide, by omega⟩ | exact ⟨by decide, by decide, by decide⟩)
local macro_rules | `(tactic| walk_at "r") => `(tactic| repeat (first
  | refine ⟨_, rfl, ?_⟩
  | refine ⟨_, _, rfl, rfl, ?_⟩
  | refine ⟨_, _, _, _, rfl, rfl, by walk_at "seq", by walk_at "at", ?_⟩
  | refine ⟨_, _, _, _, rfl, rfl, by assumption, rfl, ?_⟩
  | refine ⟨_, _, rfl, Or.inl (by walk_at "seq"), ?_⟩
  | refine Or.inl ⟨_, rfl, ?_⟩
  | refine Or.inr ⟨_, rfl, ?_⟩
  | refine And.intro (by walk_at "ar") ?_))
/-! ### numbers_of -/
def goodI (lo hi : Int) : V → Bool
  | .int i => decide (lo ≤ i) && decide (i ≤ hi)
  | _ => false
def goodO (lo hi : Int) : Option (List V) → Bool
  | some xs => xs.all (goodI lo hi)
  | none => false
/-- those of lo, lo + 1, .. (n of them) that are among xs -/
def sel (lo : Int) (n : Nat) (xs : List V) : List Int := (List.range n).filterMap fun (i : Nat) => if inV (.int (lo + (i : Int))) xs = true then some (lo + (i : Int)) else none
inductive Arg (C : Addr) (H : Hp) : V → Option (List V) → Prop
  | atom {v : V} {s : Srt} (h : Sk C H v s) (n : (s == .lst || s == .tup) = false) : Arg C H v none
  | lst {a : Addr} {xs : List V} (h : H a = some (.lst xs)) (it : ∀ x ∈ xs, ∃ s, Sk C H x s) : Arg C H (.ref a) (some xs)
  | tup {a : Addr} {xs : List V} (h : H a = some (.tup xs)) (it : ∀ x ∈ xs, ∃ s, Sk C H x s) : Arg C H (.ref a) (some xs)
theorem Arg.same {C : Addr} {H H' : Hp} {v : V} {o : Option (List V)} (x : Same H H') (h : Arg C H v o) : Arg C H' v o := by
  cases h with
  | atom h n => exact .atom (h.same x) n
  | lst h it => exact .lst (x _ _ h) fun y hy => let ⟨s, z⟩ := it y hy; ⟨s, z.same x⟩
  | tup h it => exact .tup (x _ _ h) fun y hy => let ⟨s, z⟩ := it y hy; ⟨s, z.same x⟩
theorem Sk.isInt {C : Addr} {H : Hp} {v : V} {s : Srt} (h : Sk C H v s) (e : (s == .int) = true) : ∃ z, v = .int z := by
  cases h <;> first | (cases e; done) | exact ⟨_, rfl⟩
def spNums (C CE : Addr) : Sp := fun vs H Q E => ∃ (v : V) (o : Option (List V)) (lo hi : Int) (word : Str), vs = [v, .int lo, .int hi, .str word] ∧ Arg C H v o ∧ 0 ≤ lo ∧ lo ≤ 1 ∧ 0 ≤ hi ∧ hi ≤ 100 ∧ (∀ xs, o = some xs → xs.length ≤ 1000) ∧
  (goodO lo hi o = true → ∀ (xs : List V) (p : Addr) (H' : Hp), o = some xs → Same H H' → H p = none → H' p = some (.tup ((sel lo (hi + 1 - lo).toNat xs).map V.int)) → Q (.ref p) H') ∧
  (goodO lo hi o = false → ∀ (d : Addr) (H' : Hp), Same H H' → H d = none → H' d = some (.xd [(("word" : Str), .str word)]) → E (.ref CE) (some d) H')
theorem good_flat {lo hi : Int} {xs : List V} (h : xs.all (goodI lo hi) = true) : xs.all flatV = true := by
  rw [List.all_eq_true] at h ⊢
  intro x hx
  have := h x hx
  cases x <;> first | rfl | cases this
theorem fm_bl (f : V → Bool) (xs : List V) : xs.filterMap (fun x => some (V.bl (f x))) = (xs.map f).map V.bl := by
  induction xs with
  | nil => rfl
  | cons x r ih => simp [ih]
theorem all_map (f : V → Bool) (xs : List V) : (xs.map f).all id = xs.all f := by
  rw [List.all_map]
  rfl
theorem sel_map (lo : Int) (n : Nat) (xs : List V) : (List.range n).filterMap (fun (i : Nat) => if inV (.int (lo + (i : Int))) xs = true then some (V.int (lo + (i : Int))) else none) = (sel lo n xs).map V.int := by
  unfold sel
  rw [List.map_filterMap]
  congr 1
  funext i
  split <;> rfl
section
variable {P : Program} {w : World} {K : PySem.W.Frag} {mg : Str → Option Value} {base : Heap} {C CE fE : Addr}
theorem sc_numbers_of : FnScope ["value", "least", "people", "word", "one"] ["value", "least", "people", "word"] (defScope (topS 16)) := ⟨rfl, rfl, rfl, by decide +kernel, rfl, by decide +kernel, by decide +kernel⟩
theorem ok_nums {f fI fS : Addr} {fd fdI fdS : FuncData} {k : Nat} (F : Fun K "numbers_of" "numbers_of" (topS 16) f fd) (T : Bt mg) (L : LineC K mg C) (XE : PySem.ErrX.ErrTxt P K mg "InvalidLine" CE fE)
    (FI : Fun K "is_integer" "is_integer" (topS 6) fI fdI) (bI : Binds K fdI ["value"] []) (gI : mg "is_integer" = some (.ref fI))
    (FS : Fun K "is_sequence" "is_sequence" (topS 8) fS fdS) (bS : Binds K fdS ["value"] []) (gS : mg "is_sequence" = some (.ref fS)) :
    FnOk P w K mg base (L2.CX P w) (k + 2) f fd ["value", "least", "people", "word"] (spNums C CE) := by
  have GI : FnOk P w K mg base CX0 (k + 1) fI fdI ["value"] (spInt C) := ok_isInt FI T L
  have GS : FnOk P w K mg base CX0 (k + 1) fS fdS ["value"] (spSeq C) := ok_isSeq FS T L
  refine F.okX sc_numbers_of (fun vs H Q E h => ?_) (fun cdv A outer s H vs Q E hr h => ?_)
  · obtain ⟨v, o, lo, hi, word, rfl, _⟩ := h
    rfl
  · obtain ⟨v, o, lo, hi, word, rfl, ha, l0, l1, h0, h1, hz, yes, no⟩ := h
    cases ha with
    | atom h n =>
      refine ⟨_, (pss_cons (ps_if (PT.nox (PW.pt (pw_or (pt_not (pt_val (pe_call GS hr (by rfl) gS FS.kp bS .nil pass0 (pa_cons (pv 0) pa_nil)))) (pw_or1 (pt_not (pt_val (pe_callB (allK (K := K) rfl rfl) (by rfl) T.m_all (by decide +kernel) (pa_cons (pe_lc (own := [("one", 4)]) (g := gName 4) (tt := tYes) rfl sc_numbers_of.nd (piLK (K := K) rfl (pv 0)) (blkOk_by (own := [("one", 4)]) (N := ["value", "least", "people", "word", "one"]) (sc := defScope (topS 16)) (by decide +kernel)) (fun _ _ _ _ _ => (pg_name (i := 4) sc_numbers_of.nd rfl (by first | exact Or.inl rfl | exact Or.inr rfl))) (fun _ _ _ _ _ => pts_nil) (fun _ _ _ _ _ => (pe_and (pe_call GI hr (by rfl) gI FI.kp bI .nil pass0 (pa_cons (pv 4) pa_nil)) (pe_one (pe_chain op_le op_le (pv 1) (pv 4) (pv 2)))))) pa_nil)))))))) (pss_one (ps_raiseErr rfl XE hr (takes_of rfl rfl rfl rfl) (pa_cons (pv 3) pa_nil) (by rfl))) pss_nil) (PSs.nox (pss_one (ps_ret (pe_callTy (tupK (K := K) rfl) (by rfl) T.m_tuple (by decide +kernel) (pa_cons (pe_lc (own := [("one", 4)]) (g := gName 4) rfl sc_numbers_of.nd (pi_range2 (by rfl) T.m_range (pa_cons (pv 1) (pa_cons (pe_op op_add (pv 2) pe_int) pa_nil))) (blkOk_by (own := [("one", 4)]) (N := ["value", "least", "people", "word", "one"]) (sc := defScope (topS 16)) (by decide +kernel)) (fun _ _ _ _ _ => (pg_name (i := 4) sc_numbers_of.nd rfl (by first | exact Or.inl rfl | exact Or.inr rfl))) (fun _ _ _ _ _ => (pts_one (pt_cmpR (inK (K := K) rfl) (pv 4) (pv 0) (by rfl)))) (fun _ _ _ _ _ => (pv 4))) pa_nil)))))), ?_⟩
      refine ⟨_, rfl, v, _, rfl, h, fun H1 s1 => ⟨_, rfl, ?_⟩⟩
      rw [n]
      refine iteT (iteT ⟨_, rfl, _, rfl, fun d nd => no rfl d _ (s1.trans (same_new nd)) (s1.free nd) upd_same⟩)
    | @lst a xs h it =>
      have hl : xs.length ≤ 1000 := hz xs rfl
      refine ⟨_, (pss_cons (ps_if (PT.nox (PW.pt (pw_or (pt_not (pt_val (pe_call GS hr (by rfl) gS FS.kp bS .nil pass0 (pa_cons (pv 0) pa_nil)))) (pw_or1 (pt_not (pt_val (pe_callB (allK (K := K) rfl rfl) (by rfl) T.m_all (by decide +kernel) (pa_cons (pe_lc (own := [("one", 4)]) (g := gName 4) (tt := tYes) rfl sc_numbers_of.nd (piLK (K := K) rfl (pv 0)) (blkOk_by (own := [("one", 4)]) (N := ["value", "least", "people", "word", "one"]) (sc := defScope (topS 16)) (by decide +kernel)) (fun _ _ _ _ _ => (pg_name (i := 4) sc_numbers_of.nd rfl (by first | exact Or.inl rfl | exact Or.inr rfl))) (fun _ _ _ _ _ => pts_nil) (fun _ _ _ _ _ => (pe_and (pe_call GI hr (by rfl) gI FI.kp bI .nil pass0 (pa_cons (pv 4) pa_nil)) (pe_one (pe_chain op_le op_le (pv 1) (pv 4) (pv 2)))))) pa_nil)))))))) (pss_one (ps_raiseErr rfl XE hr (takes_of rfl rfl rfl rfl) (pa_cons (pv 3) pa_nil) (by rfl))) pss_nil) (PSs.nox (pss_one (ps_ret (pe_callTy (tupK (K := K) rfl) (by rfl) T.m_tuple (by decide +kernel) (pa_cons (pe_lc (own := [("one", 4)]) (g := gName 4) rfl sc_numbers_of.nd (pi_range2 (by rfl) T.m_range (pa_cons (pv 1) (pa_cons (pe_op op_add (pv 2) pe_int) pa_nil))) (blkOk_by (own := [("one", 4)]) (N := ["value", "least", "people", "word", "one"]) (sc := defScope (topS 16)) (by decide +kernel)) (fun _ _ _ _ _ => (pg_name (i := 4) sc_numbers_of.nd rfl (by first | exact Or.inl rfl | exact Or.inr rfl))) (fun _ _ _ _ _ => (pts_one (pt_cmpR (inK (K := K) rfl) (pv 4) (pv 0) (by rfl)))) (fun _ _ _ _ _ => (pv 4))) pa_nil)))))), ?_⟩
      refine ⟨_, rfl, _, _, rfl, .lst h, fun H1 s1 => ⟨_, rfl, iteF ?_⟩⟩
      refine ⟨_, rfl, a, rfl, ⟨xs, SqL.of (s1 _ _ h)⟩, fun D nD => lc_fmL nD (SqL.of (s1 _ _ h)) (by omega) (fun x => some (.bl (goodI lo hi x))) (fun i x H2 Nx hx s2 tk _ => ?_) (fun H2 s2 hD => ?_)⟩
      · obtain ⟨sx, hsx⟩ := it x (List.mem_of_getElem? hx)
        refine ⟨rfl, _, rfl, x, sx, rfl, (hsx.same s1).same s2, _, rfl, ite2 (fun e => ?_) (fun e => ?_)⟩
        · obtain ⟨z, rfl⟩ := hsx.isInt e
          walk_at "r"
          refine ite2 (fun e2 => ?_) (fun e2 => ?_)
          · walk_at "r"
            refine tk _ _ (fun _ _ q => q) ?_
            show some (V.bl (decide (lo ≤ z) && decide (z ≤ hi))) = _
            rw [e2]; rfl
          · refine tk _ _ (fun _ _ q => q) ?_
            show some (V.bl (decide (lo ≤ z) && decide (z ≤ hi))) = _
            rw [Bool.eq_false_iff.mpr e2]; rfl
        · refine tk _ _ (fun _ _ q => q) ?_
          cases hsx <;> first | rfl | exact (e rfl).elim
      · rw [fm_bl] at hD
        have s12 := s1.trans s2
        refine ⟨D, _, rfl, SqL.of hD, _, rfl, ?_⟩
        rw [all_map]
        cases hg : xs.all (goodI lo hi) with
        | false => exact iteT ⟨_, rfl, _, rfl, fun d nd => no hg d _ (s12.trans (same_new nd)) (s12.free nd) upd_same⟩
        | true =>
          refine iteF ?_
          refine ⟨_, rfl, _, rfl, _, _, rfl, rfl, _, _, rfl, ⟨by omega, by omega, by omega, by omega⟩, fun D2 nD2 => lc_fmR nD2 (by omega) (fun (i : Nat) => if inV (.int (lo + (i : Int))) xs = true then some (V.int (lo + (i : Int))) else none) (fun i H3 Nx hi' s3 tk nt => ?_) (fun H3 s3 hD3 => ?_)⟩
          · refine ⟨rfl, _, rfl, _, rfl, a, xs, rfl, .inl (SqL.of (s3 _ _ (s12 _ _ h))), rfl, good_flat hg, ?_⟩
            refine ⟨_, rfl, ite2 (fun e => ?_) (fun e => ?_)⟩
            · exact ⟨_, rfl, tk _ _ (fun _ _ q => q) (if_pos e)⟩
            · exact nt _ (fun _ _ q => q) (if_neg e)
          · rw [sel_map] at hD3
            refine ⟨D2, _, rfl, .inl ⟨SqL.of hD3, fun p np => ?_⟩⟩
            have s123 := s12.trans s3
            exact yes hg xs p _ rfl (s123.trans (same_new np)) (s123.free np) upd_same
    | @tup a xs h it =>
      have hl : xs.length ≤ 1000 := hz xs rfl
      refine ⟨_, (pss_cons (ps_if (PT.nox (PW.pt (pw_or (pt_not (pt_val (pe_call GS hr (by rfl) gS FS.kp bS .nil pass0 (pa_cons (pv 0) pa_nil)))) (pw_or1 (pt_not (pt_val (pe_callB (allK (K := K) rfl rfl) (by rfl) T.m_all (by decide +kernel) (pa_cons (pe_lc (own := [("one", 4)]) (g := gName 4) (tt := tYes) rfl sc_numbers_of.nd (piTK (K := K) rfl (pv 0)) (blkOk_by (own := [("one", 4)]) (N := ["value", "least", "people", "word", "one"]) (sc := defScope (topS 16)) (by decide +kernel)) (fun _ _ _ _ _ => (pg_name (i := 4) sc_numbers_of.nd rfl (by first | exact Or.inl rfl | exact Or.inr rfl))) (fun _ _ _ _ _ => pts_nil) (fun _ _ _ _ _ => (pe_and (pe_call GI hr (by rfl) gI FI.kp bI .nil pass0 (pa_cons (pv 4) pa_nil)) (pe_one (pe_chain op_le op_le (pv 1) (pv 4) (pv 2)))))) pa_nil)))))))) (pss_one (ps_raiseErr rfl XE hr (takes_of rfl rfl rfl rfl) (pa_cons (pv 3) pa_nil) (by rfl))) pss_nil) (PSs.nox (pss_one (ps_ret (pe_callTy (tupK (K := K) rfl) (by rfl) T.m_tuple (by decide +kernel) (pa_cons (pe_lc (own := [("one", 4)]) (g := gName 4) rfl sc_numbers_of.nd (pi_range2 (by rfl) T.m_range (pa_cons (pv 1) (pa_cons (pe_op op_add (pv 2) pe_int) pa_nil))) (blkOk_by (own := [("one", 4)]) (N := ["value", "least", "people", "word", "one"]) (sc := defScope (topS 16)) (by decide +kernel)) (fun _ _ _ _ _ => (pg_name (i := 4) sc_numbers_of.nd rfl (by first | exact Or.inl rfl | exact Or.inr rfl))) (fun _ _ _ _ _ => (pts_one (pt_cmpR (inK (K := K) rfl) (pv 4) (pv 0) (by rfl)))) (fun _ _ _ _ _ => (pv 4))) pa_nil)))))), ?_⟩
      refine ⟨_, rfl, _, _, rfl, .tup h, fun H1 s1 => ⟨_, rfl, iteF ?_⟩⟩
      refine ⟨_, rfl, a, rfl, ⟨xs, SqT.of (s1 _ _ h)⟩, fun D nD => lc_fmT nD (SqT.of (s1 _ _ h)) (by omega) (fun x => some (.bl (goodI lo hi x))) (fun i x H2 Nx hx s2 tk _ => ?_) (fun H2 s2 hD => ?_)⟩
      · obtain ⟨sx, hsx⟩ := it x (List.mem_of_getElem? hx)
        refine ⟨rfl, _, rfl, x, sx, rfl, (hsx.same s1).same s2, _, rfl, ite2 (fun e => ?_) (fun e => ?_)⟩
        · obtain ⟨z, rfl⟩ := hsx.isInt e
          walk_at "r"
          refine ite2 (fun e2 => ?_) (fun e2 => ?_)
          · walk_at "r"
            refine tk _ _ (fun _ _ q => q) ?_
            show some (V.bl (decide (lo ≤ z) && decide (z ≤ hi))) = _
            rw [e2]; rfl
          · refine tk _ _ (fun _ _ q => q) ?_
            show some (V.bl (decide (lo ≤ z) && decide (z ≤ hi))) = _
            rw [Bool.eq_false_iff.mpr e2]; rfl
        · refine tk _ _ (fun _ _ q => q) ?_
          cases hsx <;> first | rfl | exact (e rfl).elim
      · rw [fm_bl] at hD
        have s12 := s1.trans s2
        refine ⟨D, _, rfl, SqL.of hD, _, rfl, ?_⟩
        rw [all_map]
        cases hg : xs.all (goodI lo hi) with
        | false => exact iteT ⟨_, rfl, _, rfl, fun d nd => no hg d _ (s12.trans (same_new nd)) (s12.free nd) upd_same⟩
        | true =>
          refine iteF ?_
          refine ⟨_, rfl, _, rfl, _, _, rfl, rfl, _, _, rfl, ⟨by omega, by omega, by omega, by omega⟩, fun D2 nD2 => lc_fmR nD2 (by omega) (fun (i : Nat) => if inV (.int (lo + (i : Int))) xs = true then some (V.int (lo + (i : Int))) else none) (fun i H3 Nx hi' s3 tk nt => ?_) (fun H3 s3 hD3 => ?_)⟩
          · refine ⟨rfl, _, rfl, _, rfl, a, xs, rfl, .inr (SqT.of (s3 _ _ (s12 _ _ h))), rfl, good_flat hg, ?_⟩
            refine ⟨_, rfl, ite2 (fun e => ?_) (fun e => ?_)⟩
            · exact ⟨_, rfl, tk _ _ (fun _ _ q => q) (if_pos e)⟩
            · exact nt _ (fun _ _ q => q) (if_neg e)
          · rw [sel_map] at hD3
            refine ⟨D2, _, rfl, .inl ⟨SqL.of hD3, fun p np => ?_⟩⟩
            have s123 := s12.trans s3
            exact yes hg xs p _ rfl (s123.trans (same_new np)) (s123.free np) upd_same
end
end K30

set_option Elab.async false
set_option linter.all false
set_option maxRecDepth 100000
set_option maxHeartbeats 1000000
namespace K30
open PySem L2
local macro_rules | `(tactic| walk_at "seq") => `(tactic| first | assumption | exact SqL.of (by assumption) | exact SqT.of (by assumption) | exact SqL.of upd_same | exact SqT.of upd_same)
local macro_rules | `(tactic| walk_at "at") => `(tactic| first | exact atI_nat (j := 0) rfl | exact atI_nat (j := 1) rfl | exact atI_nat (j := 2) rfl | exact atI_nat (by assumption) | assumption)
local macro_rules | `(tactic| walk_at "ar") => `(tactic| first | omega | exact ⟨by omega, by omega⟩ | exact Or.inl ⟨by omega, by omega⟩ | exact Or.inr ⟨by omega, by omega⟩ | exact ⟨by decide, by decide⟩ | exact Or.inr ⟨by decide, by decide⟩ | exact Or.inl ⟨by decide, by decide⟩ | exact ⟨by decide, by decide, by omega⟩ | exact ⟨by decide, by decide, by decide⟩)
local macro_rules | `(tactic| walk_at "r") => `(tactic| repeat (first
  | refine ⟨_, rfl, ?_⟩
  | refine ⟨_, _, rfl, rfl, ?_⟩
  | refine ⟨_, _, _, _, rfl, rfl, by walk_at "seq", by walk_at "at", ?_⟩
  | refine ⟨_, _, _, _, rfl, rfl, by assumption, rfl, ?_⟩
  | refine ⟨_, _, rfl, Or.inl (by walk_at "seq"), ?_⟩
  | refine Or.inl ⟨_, rfl, ?_⟩
  | refine Or.inr ⟨_, rfl, ?_⟩
  | refine And.intro (by walk_at "ar") ?_))
/-! ### Line: the mirror -/
def memI (i : Int) (gs : List Int) : Bool := inV (.int i) (gs.map V.int)
def someL (n : Int) (gs : List Int) : List Int := (List.range (n + 1 - 1).toNat).filterMap fun (i : Nat) => if (memI (1 + (i : Int)) gs && memI (1 + (i : Int) - 1) gs) = true then some (1 + (i : Int)) else none
def upTo (n : Int) : List Int := (List.range (n + 1 - 0).toNat).map fun (i : Nat) => 0 + (i : Int)
def goesL (n : Int) (gv : V) (go : Option (List V)) : Option (List Int) :=
  if gv = .non then some (upTo n) else if goodO 0 n go = true then go.map (sel 0 (n + 1 - 0).toNat) else none
def edgesL (n : Int) (gs : List Int) (ev : V) (eo : Option (List V)) : Option (List Int) :=
  if ev = .non then some (someL n gs) else if goodO 1 n eo = true then eo.map (sel 1 (n + 1 - 1).toNat) else none
def lineR (p gv : V) (go : Option (List V)) (ev : V) (eo : Option (List V)) : Sum Str (Int × List Int × List Int) :=
  match p with
  | .int n => if 0 ≤ n then match goesL n gv go with
    | none => .inl "goes"
    | some gs => match edgesL n gs ev eo with
      | none => .inl "edges"
      | some es => if es.all (fun e => memI e (someL n gs)) = true then .inr (n, gs, es) else .inl "edges"
    else .inl "people"
  | _ => .inl "people"
/-! ### its attributes -/
def fl1 (p : V) : List (Str × V) := [("people", p)]
def fl2 (p g : V) : List (Str × V) := [("people", p), ("goes", g)]
def fl3 (p g e : V) : List (Str × V) := [("people", p), ("goes", g), ("edges", e)]
theorem nPG : ¬ (("people" : Str) = "goes") := by decide +kernel
theorem nPE : ¬ (("people" : Str) = "edges") := by decide +kernel
theorem nGE : ¬ (("goes" : Str) = "edges") := by decide +kernel
theorem put1 (p : V) : putF "people" p [] = fl1 p := rfl
theorem put2 (p g : V) : putF "goes" g (fl1 p) = fl2 p g := by
  show (if ("people" : Str) = "goes" then _ else (("people" : Str), p) :: putF "goes" g []) = _
  rw [if_neg nPG]; rfl
theorem put3 (p g e : V) : putF "edges" e (fl2 p g) = fl3 p g e := by
  show (if ("people" : Str) = "edges" then _ else (("people" : Str), p) :: (if ("goes" : Str) = "edges" then _ else (("goes" : Str), g) :: putF "edges" e [])) = _
  rw [if_neg nPE, if_neg nGE]; rfl
theorem get_p (p g e : V) : (fl3 p g e).lookup ("people" : Str) = some p := by simp [fl3, List.lookup]
theorem get_g2 (p g : V) : (fl2 p g).lookup ("goes" : Str) = some g := by
  have h : (("goes" : Str) == "people") = false := by decide +kernel
  simp [fl2, List.lookup, h]
theorem get_g (p g e : V) : (fl3 p g e).lookup ("goes" : Str) = some g := by
  have h : (("goes" : Str) == "people") = false := by decide +kernel
  simp [fl3, List.lookup, h]
theorem get_e (p g e : V) : (fl3 p g e).lookup ("edges" : Str) = some e := by
  have h : (("edges" : Str) == "people") = false := by decide +kernel
  have h2 : (("edges" : Str) == "goes") = false := by decide +kernel
  simp [fl3, List.lookup, h, h2]
theorem Sk.xt {C x dx dx' : Addr} {fs fs' : List (Str × V)} {H H' : Hp} {v : V} {s : Srt} (h0 : H x = some (.ins C dx fs)) (h1 : H' x = some (.ins C dx' fs')) (e : Xt x H H') (h : Sk C H v s) : Sk C H' v s := by
  cases h with
  | non => exact .non
  | bl b => exact .bl b
  | int i => exact .int i
  | str z => exact .str z
  | lst h => exact .lst (e _ _ (ne_of h h0 (by intro z; cases z)) h)
  | tup h => exact .tup (e _ _ (ne_of h h0 (by intro z; cases z)) h)
  | @line a dy gs h =>
    by_cases q : a = x
    · subst q
      exact .line h1
    · exact .line (e _ _ q h)
theorem Arg.xt {C x dx dx' : Addr} {fs fs' : List (Str × V)} {H H' : Hp} {v : V} {o : Option (List V)} (h0 : H x = some (.ins C dx fs)) (h1 : H' x = some (.ins C dx' fs')) (e : Xt x H H') (h : Arg C H v o) : Arg C H' v o := by
  cases h with
  | atom h n => exact .atom (h.xt h0 h1 e) n
  | lst h it => exact .lst (e _ _ (ne_of h h0 (by intro z; cases z)) h) fun y hy => let ⟨s, z⟩ := it y hy; ⟨s, z.xt h0 h1 e⟩
  | tup h it => exact .tup (e _ _ (ne_of h h0 (by intro z; cases z)) h) fun y hy => let ⟨s, z⟩ := it y hy; ⟨s, z.xt h0 h1 e⟩
def spInit (C CE : Addr) : Sp := fun vs H Q E => ∃ (x dx : Addr) (p gv ev : V) (sp : Srt) (go eo : Option (List V)), vs = [.ref x, p, gv, ev] ∧ H x = some (.ins C dx []) ∧ Sk C H p sp ∧ Arg C H gv go ∧ Arg C H ev eo ∧
  (∀ n, p = .int n → n ≤ 100) ∧ (∀ xs, go = some xs → xs.length ≤ 1000) ∧ (∀ xs, eo = some xs → xs.length ≤ 1000) ∧
  (∀ (n : Int) (gs es : List Int), lineR p gv go ev eo = .inr (n, gs, es) → ∀ (H' : Hp) (ag ae : Addr), Xt x H H' → H' x = some (.ins C dx (fl3 (.int n) (.ref ag) (.ref ae))) → H' ag = some (.tup (gs.map V.int)) → H' ae = some (.tup (es.map V.int)) → Q .non H') ∧
  (∀ word : Str, lineR p gv go ev eo = .inl word → ∀ (d : Addr) (H' : Hp), Xt x H H' → H d = none → H' d = some (.xd [(("word" : Str), .str word)]) → E (.ref CE) (some d) H')
/-- an expression by what it leads to, whatever follows -/
theorem via {t : TE} {σ : L2.St} {H : Hp} {Q : VK} (Post : V → Hp → Prop) (a : ∀ y H2, Post y H2 → Q y H2) (b : ∀ Q' : VK, (∀ y H2, Post y H2 → Q' y H2) → t σ H Q') : t σ H Q := b Q a
theorem upTo_v (n : Int) : rgV 0 (n + 1) = (upTo n).map V.int := by
  unfold rgV upTo
  rw [List.map_map]
  rfl
theorem flat_ints (gs : List Int) : (gs.map V.int).all flatV = true := by
  rw [List.all_map]
  induction gs with
  | nil => rfl
  | cons x r ih => simpa [flatV] using ih
theorem some_map (n : Int) (gs : List Int) : (List.range (n + 1 - 1).toNat).filterMap (fun (i : Nat) => if (memI (1 + (i : Int)) gs && memI (1 + (i : Int) - 1) gs) = true then some (V.int (1 + (i : Int))) else none) = (someL n gs).map V.int := by
  unfold someL
  rw [List.map_filterMap]
  congr 1
  funext i
  split <;> rfl
theorem fm_not (es : List Int) (f : Int → Bool) : (es.map V.int).filterMap (fun v => match v with | .int i => some (V.bl (!f i)) | _ => none) = (es.map fun e => !f e).map V.bl := by
  induction es with
  | nil => rfl
  | cons x r ih => simp [ih]
theorem any_not (es : List Int) (f : Int → Bool) : (es.map fun e => !f e).any id = !es.all f := by
  induction es with
  | nil => rfl
  | cons x r ih => simp [ih, Bool.not_and]
theorem sel_len (lo : Int) (n : Nat) (xs : List V) : (sel lo n xs).length ≤ n := by
  unfold sel
  exact Nat.le_trans (List.length_filterMap_le _ _) (by simp)
theorem some_len (n : Int) (gs : List Int) : (someL n gs).length ≤ (n + 1 - 1).toNat := by
  unfold someL
  exact Nat.le_trans (List.length_filterMap_le _ _) (by simp)
theorem edges_len {n : Int} {gs es : List Int} {ev : V} {eo : Option (List V)} (h : edgesL n gs ev eo = some es) : es.length ≤ (n + 1 - 1).toNat := by
  unfold edgesL at h
  split at h
  · cases h
    exact some_len n gs
  · split at h
    · cases eo with
      | none => cases h
      | some xs =>
        cases h
        exact sel_len _ _ _
    · cases h
section
variable {P : Program} {w : World} {K : PySem.W.Frag} {mg : Str → Option Value} {base : Heap} {C CE fE : Addr}
theorem sc_Line___init__ : FnScope ["self", "people", "goes", "edges", "some", "one"] ["self", "people", "goes", "edges"] (defScope (inClass (topS 17) 0)) := ⟨rfl, rfl, rfl, by decide +kernel, rfl, by decide +kernel, by decide +kernel⟩
abbrev sInit : Stmt := (inClass (topS 17) 0)
theorem ok_init {f fI fS fN fM : Addr} {fd fdI fdS fdN fdM : FuncData} {k : Nat} (F : FunD K "__init__" "Line.__init__" (defArgs sInit) (defBody sInit) (defScope sInit) [.non, .non] [] f fd) (T : Bt mg) (L : LineC K mg C) (XE : PySem.ErrX.ErrTxt P K mg "InvalidLine" CE fE)
    (FI : Fun K "is_integer" "is_integer" (topS 6) fI fdI) (bI : Binds K fdI ["value"] []) (gI : mg "is_integer" = some (.ref fI))
    (FS : Fun K "is_sequence" "is_sequence" (topS 8) fS fdS) (bS : Binds K fdS ["value"] []) (gS : mg "is_sequence" = some (.ref fS))
    (FN : Fun K "is_number" "is_number" (topS 7) fN fdN) (bN : Binds K fdN ["value"] []) (gN : mg "is_number" = some (.ref fN))
    (FM : Fun K "numbers_of" "numbers_of" (topS 16) fM fdM) (bM : Binds K fdM ["value", "least", "people", "word"] []) (gM : mg "numbers_of" = some (.ref fM)) :
    FnOk P w K mg base (L2.CX P w) (k + 3) f fd ["self", "people", "goes", "edges"] (spInit C CE) := by
  have GN : FnOk P w K mg base CX0 (k + 2) fN fdN ["value"] (spNum C) := ok_isNum FN T L FI bI gI
  have GM : FnOk P w K mg base (L2.CX P w) (k + 2) fM fdM ["value", "least", "people", "word"] (spNums C CE) := ok_nums FM T L XE FI bI gI FS bS gS
  refine F.ok sc_Line___init__ (fun vs H Q E h => ?_) (fun cdv A outer s H vs Q E hr h => ?_)
  · obtain ⟨x, dx, p, gv, ev, sp, go, eo, rfl, _⟩ := h
    rfl
  · obtain ⟨x, dx, p, gv, ev, sp, go, eo, rfl, hx, hp, hg, he, hn, zg, ze, yes, no⟩ := h
    refine ⟨_, (pss_cons (ps_if (PT.nox (pt_not (pt_val (pe_call GN hr (by rfl) gN FN.kp bN .nil pass0 (pa_cons (pv 1) pa_nil))))) (pss_one (ps_raiseErr rfl XE hr (takes_of rfl rfl rfl rfl) (pa_cons pe_str pa_nil) (by rfl))) pss_nil) (pss_cons (ps_fld (pv 0) (pv 1) rfl) (pss_cons (ps_fld (pv 0) (pe_ifExp (pt_cmpR op_isN (pv 2) pe_non (nomark _)) (pe_tupRg rfl (by rfl) T.m_tuple (prg_1 (by rfl) T.m_range (pe_op op_add (pv 1) pe_int))) (pe_call GM hr (by rfl) gM FM.kp bM .nil (passes_call (takes_of rfl rfl rfl rfl) (W := fun cls d _ H => E cls d H) (fun _ _ _ _ h => h)) (pa_cons (pv 2) (pa_cons pe_int (pa_cons (pv 1) (pa_cons pe_str pa_nil)))))) rfl) (pss_cons (ps_set (i := 4) sc_Line___init__.nd rfl (by first | exact Or.inl rfl | exact Or.inr rfl) (pe_callTy (tupK (K := K) rfl) (by rfl) T.m_tuple (by decide +kernel) (pa_cons (pe_lc (own := [("one", 5)]) (g := gName 5) rfl sc_Line___init__.nd (pi_range2 (by rfl) T.m_range (pa_cons pe_int (pa_cons (pe_op op_add (pv 1) pe_int) pa_nil))) (blkOk_by (own := [("one", 5)]) (N := ["self", "people", "goes", "edges", "some", "one"]) (sc := defScope (inClass (topS 17) 0)) (by decide +kernel)) (fun _ _ _ _ _ => (pg_name (i := 5) sc_Line___init__.nd rfl (by first | exact Or.inl rfl | exact Or.inr rfl))) (fun _ _ _ _ _ => (pts_one (PW.pt (pw_and (pt_cmpR (inK (K := K) rfl) (pv 5) (fldK (K := K) rfl (pv 0)) (by rfl)) (pw_and1 (pt_cmpR (inK (K := K) rfl) (pe_op op_sub (pv 5) pe_int) (fldK (K := K) rfl (pv 0)) (by rfl))))))) (fun _ _ _ _ _ => (pv 5))) pa_nil))) (pss_cons (ps_fld (pv 0) (pe_ifExp (pt_cmpR op_isN (pv 3) pe_non (nomark _)) (pv 4) (pe_call GM hr (by rfl) gM FM.kp bM .nil (passes_call (takes_of rfl rfl rfl rfl) (W := fun cls d _ H => E cls d H) (fun _ _ _ _ h => h)) (pa_cons (pv 3) (pa_cons pe_int (pa_cons (pv 1) (pa_cons pe_str pa_nil)))))) rfl) (pss_one (ps_if (PT.nox (pt_val (pe_callB (anyK (K := K) rfl rfl) (by rfl) T.m_any (by decide +kernel) (pa_cons (pe_lc (own := [("one", 5)]) (g := gName 5) (tt := tYes) rfl sc_Line___init__.nd (piTK (K := K) rfl (fldK (K := K) rfl (pv 0))) (blkOk_by (own := [("one", 5)]) (N := ["self", "people", "goes", "edges", "some", "one"]) (sc := defScope (inClass (topS 17) 0)) (by decide +kernel)) (fun _ _ _ _ _ => (pg_name (i := 5) sc_Line___init__.nd rfl (by first | exact Or.inl rfl | exact Or.inr rfl))) (fun _ _ _ _ _ => pts_nil) (fun _ _ _ _ _ => (pe_cmpR (ninK (K := K) rfl) (pv 5) (pv 4) (by rfl)))) pa_nil)))) (pss_one (ps_raiseErr rfl XE hr (takes_of rfl rfl rfl rfl) (pa_cons pe_str pa_nil) (by rfl))) pss_nil))))))), ?_⟩
    refine ⟨_, rfl, p, sp, rfl, hp, _, rfl, ?_⟩
    cases hpn : isNum p with
    | false =>
      refine iteT ⟨_, rfl, fun d nd => no "people" ?_ d _ (Xt.of (same_new nd)) nd upd_same⟩
      cases p <;> first | rfl | skip
      rename_i n
      have h0 : ¬ (0 ≤ n) := fun z => by
        have : isNum (.int n) = true := decide_eq_true z
        rw [hpn] at this
        cases this
      show (if 0 ≤ n then _ else Sum.inl ("people" : Str)) = _
      rw [if_neg h0]
    | true =>
      obtain ⟨n, rfl, hn0⟩ : ∃ n, p = .int n ∧ 0 ≤ n := by
        cases p <;> first | (cases hpn; done) | exact ⟨_, rfl, of_decide_eq_true hpn⟩
      have hn1 := hn n rfl
      have res : lineR (.int n) gv go ev eo = (match goesL n gv go with
        | none => .inl "goes"
        | some gs => match edgesL n gs ev eo with
          | none => .inl "edges"
          | some es => if es.all (fun e => memI e (someL n gs)) = true then .inr (n, gs, es) else .inl "edges") := by
        show (if 0 ≤ n then _ else Sum.inl ("people" : Str)) = _
        rw [if_pos hn0]
      refine iteF ⟨_, rfl, _, rfl, x, C, dx, [], rfl, hx, L.cl, L.nP, by decide, ?_⟩
      rw [put1]
      have x1 : Xt x H (upd H x (.ins C dx (fl1 (.int n)))) := Xt.put
      have hx1 : (upd H x (.ins C dx (fl1 (.int n)))) x = some (.ins C dx (fl1 (.int n))) := upd_same
      have hg1 := hg.xt hx hx1 x1
      have he1 := he.xt hx hx1 x1
      generalize upd H x (.ins C dx (fl1 (.int n))) = H1 at x1 hx1 hg1 he1 ⊢
      -- self.goes
      dsimp only [tSeq, sFld]
      refine via (fun y H2 => ∃ (gs : List Int) (ag : Addr), y = .ref ag ∧ goesL n gv go = some gs ∧ Same H1 H2 ∧ H1 ag = none ∧ H2 ag = some (.tup (gs.map V.int))) (fun y H2 hy => ?_) (fun Q' k' => ?_)
      rotate_left
      · refine ⟨_, rfl, rfl, _, rfl, ite2 (fun e => ?_) (fun e => ?_)⟩
        · have e' : gv = .non := of_decide_eq_true e
          refine ⟨_, rfl, _, _, rfl, rfl, n + 1, rfl, RgOk.of_le (by omega) (by omega) (by omega) (by omega), fun ag na => ?_⟩
          refine k' _ _ ⟨upTo n, ag, rfl, by unfold goesL; rw [if_pos e'], same_new na, na, ?_⟩
          rw [upTo_v]
          exact upd_same
        · have e' : ¬ gv = .non := fun z => e (decide_eq_true z)
          refine ⟨_, rfl, _, rfl, gv, go, 0, n, "goes", rfl, hg1, by omega, by omega, hn0, hn1, zg, fun gd xs ag H2 ho s2 na ht => ?_, fun bd d H2 s2 nd hd => ?_⟩
          · refine k' _ _ ⟨_, ag, rfl, ?_, s2, na, ht⟩
            unfold goesL
            rw [if_neg e', if_pos gd, ho]
            rfl
          · refine no "goes" ?_ d H2 (x1.trans (Xt.of s2)) ?_ hd
            · rw [res]
              have : goesL n gv go = none := by unfold goesL; rw [if_neg e', if_neg (by rw [bd]; decide)]
              rw [this]
            · cases q : H d with
              | none => rfl
              | some o =>
                by_cases z : d = x
                · subst z; rw [hx1] at nd; cases nd
                · rw [x1 _ _ z q] at nd; cases nd
      obtain ⟨gs, ag, rfl, hgs, s2, nag, hag⟩ := hy
      rw [hgs] at res
      refine ⟨_, rfl, x, C, dx, fl1 (.int n), rfl, s2 _ _ hx1, L.cl, L.nG, by show 1 < 1000; decide, ?_⟩
      rw [put2]
      have nxag : ag ≠ x := fun z => by rw [z, hx1] at nag; cases nag
      have x2 : Xt x H1 (upd H2 x (.ins C dx (fl2 (.int n) (.ref ag)))) := (Xt.of s2).trans Xt.put
      have hx2 : (upd H2 x (.ins C dx (fl2 (.int n) (.ref ag)))) x = some (.ins C dx (fl2 (.int n) (.ref ag))) := upd_same
      have hag2 : (upd H2 x (.ins C dx (fl2 (.int n) (.ref ag)))) ag = some (.tup (gs.map V.int)) := by rw [upd_ne nxag]; exact hag
      have he2 := he1.xt hx1 hx2 x2
      have x02 := x1.trans x2
      generalize upd H2 x (.ins C dx (fl2 (.int n) (.ref ag))) = H3 at x2 hx2 hag2 he2 x02 ⊢
      -- some
      refine ⟨_, rfl, _, _, rfl, rfl, 1, n + 1, rfl, ⟨by omega, by omega, by omega, by omega⟩, fun D nD => lc_fmR nD (by omega) (fun (i : Nat) => if (memI (1 + (i : Int)) gs && memI (1 + (i : Int) - 1) gs) = true then some (V.int (1 + (i : Int))) else none) (fun i H4 Nx hi s4 tk nt => ?_) (fun H4 s4 hD => ?_)⟩
      · refine ⟨rfl, _, rfl, _, rfl, x, C, dx, _, _, rfl, s4 _ _ hx2, L.cl, L.nG, get_g2 _ _, ag, gs.map V.int, rfl, .inr (SqT.of (s4 _ _ hag2)), rfl, flat_ints gs, _, rfl, ite2 (fun e1 => ?_) (fun e1 => ?_)⟩
        · refine ⟨_, rfl, _, _, rfl, rfl, _, rfl, x, C, dx, _, _, rfl, s4 _ _ hx2, L.cl, L.nG, get_g2 _ _, ag, gs.map V.int, rfl, .inr (SqT.of (s4 _ _ hag2)), rfl, flat_ints gs, _, rfl, ite2 (fun e2 => ?_) (fun e2 => ?_)⟩
          · exact ⟨_, rfl, tk _ _ (fun _ _ q => q) (if_pos (by rw [Bool.and_eq_true]; exact ⟨e1, e2⟩))⟩
          · exact nt _ (fun _ _ q => q) (if_neg (by rw [Bool.and_eq_true]; exact fun z => e2 z.2))
        · exact nt _ (fun _ _ q => q) (if_neg (by rw [Bool.and_eq_true]; exact fun z => e1 z.1))
      rw [some_map] at hD
      refine ⟨D, _, rfl, .inl ⟨SqL.of hD, fun asm nasm => ?_⟩⟩
      have s5 : Same H3 (upd H4 asm (.tup ((someL n gs).map V.int))) := s4.trans (same_new nasm)
      have hasm : (upd H4 asm (.tup ((someL n gs).map V.int))) asm = some (.tup ((someL n gs).map V.int)) := upd_same
      have nas : H3 asm = none := s4.free nasm
      generalize upd H4 asm (.tup ((someL n gs).map V.int)) = H5 at s5 hasm ⊢
      have hx5 := s5 _ _ hx2
      have hag5 := s5 _ _ hag2
      have he5 := he2.same s5
      have x05 := x02.trans (Xt.of s5)
      -- self.edges
      dsimp only [gName, tSeq, sFld]
      refine via (fun y H6 => ∃ (es : List Int) (ae : Addr), y = .ref ae ∧ edgesL n gs ev eo = some es ∧ Same H5 H6 ∧ H6 ae = some (.tup (es.map V.int))) (fun y H6 hy => ?_) (fun Q' k' => ?_)
      rotate_left
      · refine ⟨_, rfl, rfl, _, rfl, ite2 (fun e => ?_) (fun e => ?_)⟩
        · have e' : ev = .non := of_decide_eq_true e
          exact ⟨_, rfl, k' _ _ ⟨someL n gs, asm, rfl, by unfold edgesL; rw [if_pos e'], fun _ _ q => q, hasm⟩⟩
        · have e' : ¬ ev = .non := fun z => e (decide_eq_true z)
          refine ⟨_, rfl, _, rfl, ev, eo, 1, n, "edges", rfl, he5, by omega, by omega, hn0, hn1, ze, fun gd xs ae H6 ho s6 na ht => ?_, fun bd d H6 s6 nd hd => ?_⟩
          · refine k' _ _ ⟨_, ae, rfl, ?_, s6, ht⟩
            unfold edgesL
            rw [if_neg e', if_pos gd, ho]
            rfl
          · refine no "edges" ?_ d H6 (x05.trans (Xt.of s6)) ?_ hd
            · rw [res]
              have : edgesL n gs ev eo = none := by unfold edgesL; rw [if_neg e', if_neg (by rw [bd]; decide)]
              show (match edgesL n gs ev eo with | none => _ | some es => _) = _
              rw [this]
            · cases q : H d with
              | none => rfl
              | some o =>
                by_cases z : d = x
                · subst z; rw [hx5] at nd; cases nd
                · rw [x05 _ _ z q] at nd; cases nd
      obtain ⟨es, ae, rfl, hes, s6, hae⟩ := hy
      have res2 : lineR (.int n) gv go ev eo = if es.all (fun e => memI e (someL n gs)) = true then .inr (n, gs, es) else .inl "edges" := by
        rw [res]
        show (match edgesL n gs ev eo with | none => _ | some es => _) = _
        rw [hes]
      refine ⟨_, rfl, x, C, dx, fl2 (.int n) (.ref ag), rfl, s6 _ _ hx5, L.cl, L.nE, by show 2 < 1000; decide, ?_⟩
      rw [put3]
      have nxae : ae ≠ x := ne_of hae (s6 _ _ hx5) (by intro z; cases z)
      have nxas : asm ≠ x := ne_of hasm hx5 (by intro z; cases z)
      have x06 : Xt x H (upd H6 x (.ins C dx (fl3 (.int n) (.ref ag) (.ref ae)))) := (x05.trans (Xt.of s6)).trans Xt.put
      have hx6 : (upd H6 x (.ins C dx (fl3 (.int n) (.ref ag) (.ref ae)))) x = some (.ins C dx (fl3 (.int n) (.ref ag) (.ref ae))) := upd_same
      have hag6 : (upd H6 x (.ins C dx (fl3 (.int n) (.ref ag) (.ref ae)))) ag = some (.tup (gs.map V.int)) := by rw [upd_ne nxag]; exact s6 _ _ hag5
      have hae6 : (upd H6 x (.ins C dx (fl3 (.int n) (.ref ag) (.ref ae)))) ae = some (.tup (es.map V.int)) := by rw [upd_ne nxae]; exact hae
      have has6 : (upd H6 x (.ins C dx (fl3 (.int n) (.ref ag) (.ref ae)))) asm = some (.tup ((someL n gs).map V.int)) := by rw [upd_ne nxas]; exact s6 _ _ hasm
      generalize upd H6 x (.ins C dx (fl3 (.int n) (.ref ag) (.ref ae))) = H7 at x06 hx6 hag6 hae6 has6 ⊢
      have hel : es.length ≤ 100 := Nat.le_trans (edges_len hes) (by omega)
      refine ⟨_, rfl, x, C, dx, _, _, rfl, hx6, L.cl, L.nE, get_e _ _ _, ae, rfl, ⟨_, SqT.of hae6⟩, fun D2 nD2 => lc_fmT nD2 (SqT.of hae6) (by rw [List.length_map]; omega) (fun v => match v with | .int i => some (V.bl (!memI i (someL n gs))) | _ => none) (fun i v H8 Nx hv s8 tk nt => ?_) (fun H8 s8 hD2 => ?_)⟩
      · obtain ⟨z, _, rfl⟩ := List.mem_map.mp (List.mem_of_getElem? hv)
        exact ⟨rfl, _, rfl, _, rfl, asm, _, rfl, .inr (SqT.of (s8 _ _ has6)), rfl, flat_ints _, tk _ _ (fun _ _ q => q) rfl⟩
      rw [fm_not] at hD2
      refine ⟨D2, _, rfl, SqL.of hD2, _, rfl, ?_⟩
      rw [any_not]
      have x08 := x06.trans (Xt.of s8)
      cases hall : es.all (fun e => memI e (someL n gs)) with
      | true =>
        refine iteF ?_
        exact yes n gs es (by rw [res2, hall]; rfl) H8 ag ae x08 (s8 _ _ hx6) (s8 _ _ hag6) (s8 _ _ hae6)
      | false =>
        refine iteT ⟨_, rfl, fun d nd => ?_⟩
        refine no "edges" (by rw [res2, hall]; rfl) d _ (x08.trans (Xt.of (same_new nd))) ?_ upd_same
        cases q : H d with
        | none => rfl
        | some o =>
          by_cases z : d = x
          · subst z; rw [s8 _ _ hx6] at nd; cases nd
          · rw [x08 _ _ z q] at nd; cases nd
end
end K30

set_option Elab.async false
set_option linter.all false
set_option maxRecDepth 100000
set_option maxHeartbeats 1000000
namespace K30
open PySem L2
local macro_rules | `(tactic| walk_at "seq") => `(tactic| first | assumption | exact SqL.of (by assumption) | exact SqT.of (by assumption) | exact SqL.of upd_same | exact SqT.of upd_same)
local macro_rules | `(tactic| walk_at "at") => `(tactic| first | exact atI_nat (j := 0) rfl | exact atI_nat (j := 1) rfl | exact atI_nat (j := 2) rfl | exact atI_nat (by assumption) | assumption)
local macro_rules | `(tactic| walk_at "ar") => `(tactic| first | omega | exact ⟨by omega, by omega⟩ | exact Or.inl ⟨by omega, by omega⟩ | exact Or.inr ⟨by omega, by omega⟩ | exact ⟨by decide, by decide⟩ | exact Or.inr ⟨by decide, by decide⟩ | exact Or.inl ⟨by decide, by decide⟩ | exact ⟨by decide, by decide, by omega⟩ | exact ⟨by decide, by decide, by decide⟩)
local macro_rules | `(tactic| walk_at "r") => `(tactic| repeat (first
  | refine ⟨_, rfl, ?_⟩
  | refine ⟨_, _, rfl, rfl, ?_⟩
  | refine ⟨_, _, _, _, rfl, rfl, by walk_at "seq", by walk_at "at", ?_⟩
  | refine ⟨_, _, _, _, rfl, rfl, by assumption, rfl, ?_⟩
  | refine ⟨_, _, rfl, Or.inl (by walk_at "seq"), ?_⟩
  | refine Or.inl ⟨_, rfl, ?_⟩
  | refine Or.inr ⟨_, rfl, ?_⟩
  | refine And.intro (by walk_at "ar") ?_))
/-- a Line stands at a -/
def LineAt (C : Addr) (H : Hp) (a : Addr) (m : Int × List Int × List Int) : Prop :=
  ∃ dx ag ae : Addr, H a = some (.ins C dx (fl3 (.int m.1) (.ref ag) (.ref ae))) ∧ H ag = some (.tup (m.2.1.map V.int)) ∧ H ae = some (.tup (m.2.2.map V.int))
theorem LineAt.same {C a : Addr} {H H' : Hp} {m : Int × List Int × List Int} (x : Same H H') (h : LineAt C H a m) : LineAt C H' a m := by
  obtain ⟨dx, ag, ae, h1, h2, h3⟩ := h
  exact ⟨dx, ag, ae, x _ _ h1, x _ _ h2, x _ _ h3⟩
/-- what == is asked for -/
inductive Oth (C : Addr) (H : Hp) : V → Option (Int × List Int × List Int) → Prop
  | line {b : Addr} {m : Int × List Int × List Int} (h : LineAt C H b m) : Oth C H (.ref b) (some m)
  | tup {b : Addr} {xs : List V} (h : H b = some (.tup xs)) : Oth C H (.ref b) none
  | non : Oth C H .non none
def spEqL (C : Addr) : Sp := fun vs H Q _ => ∃ (a : Addr) (y : V) (m : Int × List Int × List Int) (o : Option (Int × List Int × List Int)), vs = [.ref a, y] ∧ LineAt C H a m ∧ Oth C H y o ∧ Q (.bl (decide (o = some m))) H
section
variable {P : Program} {w : World} {K : PySem.W.Frag} {mg : Str → Option Value} {base : Heap} {C CE fE : Addr}
theorem sc_Line___eq__ : FnScope ["self", "other"] ["self", "other"] (defScope (inClass (topS 17) 4)) := ⟨rfl, rfl, rfl, by decide +kernel, rfl, by decide +kernel, by decide +kernel⟩
theorem ok_eq {f : Addr} {fd : FuncData} {k : Nat} (F : Fun K "__eq__" "Line.__eq__" (inClass (topS 17) 4) f fd) (T : Bt mg) (L : LineC K mg C) : FnOk P w K mg base CX0 (k + 1) f fd ["self", "other"] (spEqL C) := by
  refine F.ok sc_Line___eq__ (fun vs H Q E h => ?_) (fun cdv A outer s H vs Q E hr h => ?_)
  · obtain ⟨a, y, m, o, rfl, _⟩ := h
    rfl
  · obtain ⟨a, y, ⟨n, gs, es⟩, o, rfl, ⟨dx, ag, ae, h1, h2, h3⟩, ho, q⟩ := h
    have hu := hr.units
    refine ⟨_, (pss_cons (ps_if (PW.pt (pw_or (pt_not (pt_val (pe_callB (isiK (K := K) rfl) (by rfl) T.m_isinstance (by decide +kernel) (pa_cons (pv 1) (pa_cons (pe_glob (v := .ref C) (by rfl) L.mgL rfl) pa_nil))))) (pw_or1 (pt_cmpR op_ne (fldK (K := K) rfl (pv 0)) (fldK (K := K) rfl (pv 1)) (nomark _))))) (pss_one (ps_ret pe_bl)) pss_nil)
  (pss_one (ps_ret (pe_and (pe_cmpR (eqDK (K := K) rfl hu) (fldK (K := K) rfl (pv 0)) (fldK (K := K) rfl (pv 1)) (nomark _)) (pe_one (pe_cmpR (eqDK (K := K) rfl hu) (fldK (K := K) rfl (pv 0)) (fldK (K := K) rfl (pv 1)) (nomark _))))))), ?_⟩
    cases ho with
    | @line b m' hb =>
      obtain ⟨n', gs', es'⟩ := m'
      obtain ⟨dy, bg, be, k1, k2, k3⟩ := hb
      refine ⟨_, rfl, _, _, _, _, _, rfl, .own C, .base (.ins k1 L.cl L.ha L.hn L.ht L.hm), L.kOwn, _, rfl, iteF ?_⟩
      refine ⟨_, rfl, a, C, dx, _, _, rfl, h1, L.cl, L.nP, get_p _ _ _, _, rfl, b, C, dy, _, _, rfl, k1, L.cl, L.nP, get_p _ _ _, rfl, _, rfl, ite2 (fun e => ?_) (fun e => ?_)⟩
      · have e' : n ≠ n' := fun z => by
          rw [z] at e
          simp at e
        have : decide (some (n', gs', es') = some (n, gs, es)) = false := decide_eq_false fun z => by
          cases z
          exact e' rfl
        rw [this] at q
        exact q
      · have e' : n = n' := by
          by_cases z : n = n'
          · exact z
          · exact (e (by simp [z])).elim
        subst e'
        refine ⟨_, rfl, a, C, dx, _, _, rfl, h1, L.cl, L.nG, get_g _ _ _, _, rfl, b, C, dy, _, _, rfl, k1, L.cl, L.nG, get_g _ _ _, _, _, dp_tI h2, dp_tI k2, shaped_tI _, shaped_tI _, ?_⟩
        rw [eqv_tI]
        refine ⟨_, rfl, ite2 (fun e2 => ?_) (fun e2 => ?_)⟩
        · have e3 : gs = gs' := of_decide_eq_true e2
          subst e3
          refine ⟨_, rfl, a, C, dx, _, _, rfl, h1, L.cl, L.nE, get_e _ _ _, _, rfl, b, C, dy, _, _, rfl, k1, L.cl, L.nE, get_e _ _ _, _, _, dp_tI h3, dp_tI k3, shaped_tI _, shaped_tI _, ?_⟩
          rw [eqv_tI]
          have : decide (some (n, gs, es') = some (n, gs, es)) = decide (es = es') := by
            by_cases z : es = es'
            · subst z; simp
            · have z' : ¬ es' = es := fun y => z y.symm
              simp [z, z']
          rw [this] at q
          exact q
        · have : decide (some (n, gs', es') = some (n, gs, es)) = false := decide_eq_false fun z => by
            cases z
            exact e2 (decide_eq_true rfl)
          rw [this] at q
          exact q
    | tup h =>
      exact ⟨_, rfl, _, _, _, _, _, rfl, .own C, .base (.tup h), L.kTL, _, rfl, iteT (iteT q)⟩
    | non =>
      exact ⟨_, rfl, _, _, _, _, _, rfl, .own C, .base .non, L.kNL, _, rfl, iteT (iteT q)⟩
end
end K30

set_option Elab.async false
set_option linter.all false
set_option maxRecDepth 100000
set_option maxHeartbeats 1000000
namespace K30
open PySem L2
local macro_rules | `(tactic| walk_at "seq") => `(tactic| first | assumption | exact SqL.of (by assumption) | exact SqT.of (by assumption) | exact SqL.of upd_same | exact SqT.of upd_same)
local macro_rules | `(tactic| walk_at "at") => `(tactic| first | exact atI_nat (j := 0) rfl | exact atI_nat (j := 1) rfl | exact atI_nat (j := 2) rfl | exact atI_nat (by assumption) | assumption)
local macro_rules | `(tactic| walk_at "ar") => `(tactic| first | omega | exact ⟨by omega, by omega⟩ | exact Or.inl ⟨by omega, by omega⟩ | exact Or.inr ⟨by omega, by omega⟩ | exact ⟨by decide, by decide⟩ | exact Or.inr ⟨by decide, by decide⟩ | exact Or.inl ⟨by decide, by decide⟩ | exact ⟨by decide, by decide, by omega⟩ | exact ⟨by decide, by decide, by decide⟩)
local macro_rules | `(tactic| walk_at "r") => `(tactic| repeat (first
  | refine ⟨_, rfl, ?_⟩
  | refine ⟨_, _, rfl, rfl, ?_⟩
  | refine ⟨_, _, _, _, rfl, rfl, by walk_at "seq", by walk_at "at", ?_⟩
  | refine ⟨_, _, _, _, rfl, rfl, by assumption, rfl, ?_⟩
  | refine ⟨_, _, rfl, Or.inl (by walk_at "seq"), ?_⟩
  | refine Or.inl ⟨_, rfl, ?_⟩
  | refine Or.inr ⟨_, rfl, ?_⟩
  | refine And.intro (by walk_at "ar") ?_))
/-! ### _law_is_good -/
def Dat1 (K : PySem.W.Frag) (H : Hp) (x : V) : Prop := ∃ d : PyData, Dp K H x d ∧ d.canLay0 = true ∧ d.depth ≤ 1
mutual
theorem Dp.same {K : PySem.W.Frag} {H H' : Hp} (e : Same H H') : ∀ (d : PyData) (x : V), Dp K H x d → Dp K H' x d
  | .none, _, .non => .non
  | .bool _, _, .bl b => .bl b
  | .int _, _, .int i => .int i
  | .str _, _, .str z => .str z
  | .list ds, _, .lst h1 h2 => .lst (e.seq h1) (DpAll.same e ds _ h2)
  | .tuple ds, _, .tup h1 h2 => .tup (by
      rcases h1 with (h | ⟨ob, h⟩) | h
      · exact .inl (.inl (e _ _ h))
      · exact .inl (.inr ⟨ob, e _ _ h⟩)
      · exact .inr h) (DpAll.same e ds _ h2)
  | .dict _, _, h => by cases h
theorem DpAll.same {K : PySem.W.Frag} {H H' : Hp} (e : Same H H') : ∀ (ds : List PyData) (xs : List V), DpAll K H xs ds → DpAll K H' xs ds
  | [], _, .nil => .nil
  | d :: ds, _, .cons h t => .cons (Dp.same e d _ h) (DpAll.same e ds _ t)
end
theorem Dat1.same {K : PySem.W.Frag} {H H' : Hp} {x : V} (e : Same H H') (h : Dat1 K H x) : Dat1 K H' x := by
  obtain ⟨d, h1, h2⟩ := h
  exact ⟨d, Dp.same e d x h1, h2⟩
theorem dat_all {K : PySem.W.Frag} {H : Hp} : ∀ {xs : List V}, (∀ x ∈ xs, Dat1 K H x) → ∃ ds, DpAll K H xs ds ∧ PyData.canLayAll0 ds = true ∧ PyData.depthAll ds ≤ 1 ∧ ds.length = xs.length
  | [], _ => ⟨[], .nil, rfl, by decide, rfl⟩
  | x :: xs, h => by
    obtain ⟨d, h1, h2, h3⟩ := h x (List.mem_cons_self ..)
    obtain ⟨ds, k1, k2, k3, k4⟩ := dat_all (xs := xs) fun y hy => h y (List.mem_cons_of_mem _ hy)
    refine ⟨d :: ds, .cons h1 k1, ?_, ?_, by simp [k4]⟩
    · show (d.canLay0 && PyData.canLayAll0 ds) = true
      rw [h2, k2]; rfl
    · show max d.depth (PyData.depthAll ds) ≤ 1
      omega
theorem eqv_nil (ds : List PyData) : PyData.eqv (.list ds) (.list []) = ds.isEmpty := by
  cases ds <;> rfl
/-- a list of data compared with the empty one -/
theorem eq_nil {K : PySem.W.Frag} {H : Hp} {a b : Addr} {xs : List V} (ha : SqL K H a xs) (hb : SqL K H b []) (h : ∀ x ∈ xs, Dat1 K H x) :
    ∃ d e, Dp K H (.ref a) d ∧ Dp K H (.ref b) e ∧ SeqAt.shaped d = true ∧ SeqAt.shaped e = true ∧ PyData.eqv d e = xs.isEmpty := by
  obtain ⟨ds, k1, k2, k3, k4⟩ := dat_all h
  refine ⟨.list ds, .list [], .lst ha k1, .lst hb .nil, ?_, by decide +kernel, ?_⟩
  · unfold SeqAt.shaped
    rw [Bool.and_eq_true]
    exact ⟨k2, decide_eq_true (by show PyData.depthAll ds + 1 ≤ 64; omega)⟩
  · rw [eqv_nil]
    cases ds <;> cases xs <;> first | rfl | (simp at k4)
def spGood (K : PySem.W.Frag) (C : Addr) : Sp := fun vs H Q _ => ∃ (v : V) (o : Option (List V)) (lo hi : Int), vs = [v, .int lo, .int hi] ∧ Arg C H v o ∧ (∀ xs, o = some xs → xs.length ≤ 1000 ∧ ∀ x ∈ xs, Dat1 K H x) ∧
  ∀ H', Same H H' → Q (.bl (goodO lo hi o)) H'
theorem bad_empty (f : V → Bool) (xs : List V) : (xs.filterMap fun x => if f x = true then none else some x).isEmpty = xs.all f := by
  induction xs with
  | nil => rfl
  | cons x r ih =>
    cases h : f x <;> simp [h, ih]
theorem bad_mem {f : V → Bool} {xs : List V} {x : V} (h : x ∈ xs.filterMap fun x => if f x = true then none else some x) : x ∈ xs := by
  obtain ⟨y, hy, e⟩ := List.mem_filterMap.mp h
  split at e
  · cases e
  · cases e; exact hy
section
variable {P : Program} {w : World} {K : PySem.W.Frag} {mg : Str → Option Value} {base : Heap} {C CE fE : Addr}
theorem sc__law_is_good : FnScope ["_law_value", "_law_low", "_law_high", "_law_k"] ["_law_value", "_law_low", "_law_high"] (defScope (topS 24)) := ⟨rfl, rfl, rfl, by decide +kernel, rfl, by decide +kernel, by decide +kernel⟩
theorem ok_good {f : Addr} {fd : FuncData} {k : Nat} (F : Fun K "_law_is_good" "_law_is_good" (topS 24) f fd) (T : Bt mg) (L : LineC K mg C) : FnOk P w K mg base CX0 (k + 1) f fd ["_law_value", "_law_low", "_law_high"] (spGood K C) := by
  refine F.ok sc__law_is_good (fun vs H Q E h => ?_) (fun cdv A outer s H vs Q E hr h => ?_)
  · obtain ⟨v, o, lo, hi, rfl, _⟩ := h
    rfl
  · obtain ⟨v, o, lo, hi, rfl, ha, hz, q⟩ := h
    have hu := hr.units
    -- one item: is it kept as a bad one
    have item : ∀ {x : V} {sx : Srt} {H2 : Hp}, Sk C H2 x sx → goodI lo hi x = (sx == .int && (match x with | .int i => decide (lo ≤ i) && decide (i ≤ hi) | _ => false)) := fun {x sx H2} h => by
      cases h <;> rfl
    cases ha with
    | @atom _ sv h n =>
      refine ⟨_, (pss_cons (ps_if (pt_not (pt_val (pe_callB (isiTK (K := K) rfl) (by rfl) T.m_isinstance (by decide +kernel) (pa_cons (pv 0) (pa_cons (pe_tup (pa_cons (pe_bltn (v := .ty "list") (by rfl) T.m_list (by decide +kernel) rfl) (pa_cons (pe_bltn (v := .ty "tuple") (by rfl) T.m_tuple (by decide +kernel) rfl) pa_nil))) pa_nil))))) (pss_one (ps_ret pe_bl)) pss_nil)
  (pss_one (ps_ret (pe_cmpR (eqDK (K := K) rfl hu) (pe_lc (own := [("_law_k", 3)]) (g := gName 3) rfl sc__law_is_good.nd (piLK (K := K) rfl (pv 0)) (blkOk_by (own := [("_law_k", 3)]) (N := ["_law_value", "_law_low", "_law_high", "_law_k"]) (sc := defScope (topS 24)) (by decide +kernel)) (fun _ _ _ _ _ => (pg_name (i := 3) sc__law_is_good.nd rfl (by first | exact Or.inl rfl | exact Or.inr rfl))) (fun _ _ _ _ _ => (pts_one (PW.pt (pw_or (pt_val (pe_callB (isiK (K := K) rfl) (by rfl) T.m_isinstance (by decide +kernel) (pa_cons (pv 3) (pa_cons (pe_bltn (v := .ty "bool") (by rfl) T.m_bool (by decide +kernel) rfl) pa_nil)))) (pw_or (pt_not (pt_val (pe_callB (isiK (K := K) rfl) (by rfl) T.m_isinstance (by decide +kernel) (pa_cons (pv 3) (pa_cons (pe_bltn (v := .ty "int") (by rfl) T.m_int (by decide +kernel) rfl) pa_nil))))) (pw_or1 (pt_not (pt_chain op_le op_le (pv 1) (pv 3) (pv 2))))))))) (fun _ _ _ _ _ => (pv 3))) (pe_lst pa_nil) (nomark _))))), ?_⟩
      refine ⟨_, rfl, by show 2 ≤ sizeLine; decide, fun p np => ?_⟩
      refine ⟨_, p, _, _, _, _, rfl, upd_same, .cons (.ty _) (.cons (.ty _) .nil), (h.same (same_new np)).tyx L, kit_seq L sv, _, rfl, ?_⟩
      rw [n]
      exact iteT (q _ (same_new np))
    | @lst a xs h it =>
      obtain ⟨hl, hd⟩ := hz xs rfl
      refine ⟨_, (pss_cons (ps_if (pt_not (pt_val (pe_callB (isiTK (K := K) rfl) (by rfl) T.m_isinstance (by decide +kernel) (pa_cons (pv 0) (pa_cons (pe_tup (pa_cons (pe_bltn (v := .ty "list") (by rfl) T.m_list (by decide +kernel) rfl) (pa_cons (pe_bltn (v := .ty "tuple") (by rfl) T.m_tuple (by decide +kernel) rfl) pa_nil))) pa_nil))))) (pss_one (ps_ret pe_bl)) pss_nil)
  (pss_one (ps_ret (pe_cmpR (eqDK (K := K) rfl hu) (pe_lc (own := [("_law_k", 3)]) (g := gName 3) rfl sc__law_is_good.nd (piLK (K := K) rfl (pv 0)) (blkOk_by (own := [("_law_k", 3)]) (N := ["_law_value", "_law_low", "_law_high", "_law_k"]) (sc := defScope (topS 24)) (by decide +kernel)) (fun _ _ _ _ _ => (pg_name (i := 3) sc__law_is_good.nd rfl (by first | exact Or.inl rfl | exact Or.inr rfl))) (fun _ _ _ _ _ => (pts_one (PW.pt (pw_or (pt_val (pe_callB (isiK (K := K) rfl) (by rfl) T.m_isinstance (by decide +kernel) (pa_cons (pv 3) (pa_cons (pe_bltn (v := .ty "bool") (by rfl) T.m_bool (by decide +kernel) rfl) pa_nil)))) (pw_or (pt_not (pt_val (pe_callB (isiK (K := K) rfl) (by rfl) T.m_isinstance (by decide +kernel) (pa_cons (pv 3) (pa_cons (pe_bltn (v := .ty "int") (by rfl) T.m_int (by decide +kernel) rfl) pa_nil))))) (pw_or1 (pt_not (pt_chain op_le op_le (pv 1) (pv 3) (pv 2))))))))) (fun _ _ _ _ _ => (pv 3))) (pe_lst pa_nil) (nomark _))))), ?_⟩
      refine ⟨_, rfl, by show 2 ≤ sizeLine; decide, fun p np => ?_⟩
      have s1 := same_new (o := .tup [.ty "list", .ty "tuple"]) np
      refine ⟨_, p, _, _, _, _, rfl, upd_same, .cons (.ty _) (.cons (.ty _) .nil), (Sk.lst (C := C) (s1 _ _ h)).tyx L, kit_seq L .lst, _, rfl, iteF ?_⟩
      refine ⟨_, rfl, a, rfl, ⟨xs, SqL.of (s1 _ _ h)⟩, fun D nD => lc_fmL nD (SqL.of (s1 _ _ h)) (by omega) (fun x => if goodI lo hi x = true then none else some x) (fun i x H2 Nx hx s2 tk nt => ?_) (fun H2 s2 hD => ?_)⟩
      · obtain ⟨sx, hsx⟩ := it x (List.mem_of_getElem? hx)
        have hs2 := (hsx.same s1).same s2
        have ev := item hs2
        refine ⟨rfl, _, rfl, _, _, _, _, _, rfl, .ty _, hs2.tyx L, kit_bool L sx, _, rfl, ite2 (fun e => ?_) (fun e => ?_)⟩
        · have : goodI lo hi x = false := by rw [ev]; cases sx <;> first | rfl | cases e
          exact ⟨_, rfl, tk _ _ (fun _ _ q => q) (by rw [this]; rfl)⟩
        · refine ⟨_, rfl, _, _, _, _, _, rfl, .ty _, hs2.tyx L, kit_int L sx, _, rfl, ?_⟩
          cases hsi : (sx == Srt.int) with
          | false =>
            have : goodI lo hi x = false := by rw [ev, hsi]; rfl
            have hb : (sx == Srt.int || sx == Srt.bl) = false := by rw [hsi]; cases sx <;> first | rfl | exact (e rfl).elim
            rw [← hsi, hb]
            exact iteT ⟨_, rfl, tk _ _ (fun _ _ q => q) (by rw [this]; rfl)⟩
          | true =>
            obtain ⟨z, rfl⟩ := hsx.isInt hsi
            refine iteF ?_
            walk_at "r"
            refine ite2 (fun e2 => ?_) (fun e2 => ?_)
            · walk_at "r"
              have e2' : lo ≤ z := of_decide_eq_true e2
              by_cases e3 : z ≤ hi
              · rw [decide_eq_true e3]
                have : goodI lo hi (.int z) = true := by show (decide (lo ≤ z) && decide (z ≤ hi)) = true; rw [e2, decide_eq_true e3]; rfl
                exact iteF (nt _ (fun _ _ q => q) (by rw [this]; rfl))
              · rw [decide_eq_false e3]
                have : goodI lo hi (.int z) = false := by show (decide (lo ≤ z) && decide (z ≤ hi)) = false; rw [decide_eq_false e3, Bool.and_false]
                exact iteT ⟨_, rfl, tk _ _ (fun _ _ q => q) (by rw [this]; rfl)⟩
            · have : goodI lo hi (.int z) = false := by show (decide (lo ≤ z) && decide (z ≤ hi)) = false; rw [Bool.eq_false_iff.mpr e2, Bool.false_and]
              exact ⟨_, rfl, iteT ⟨_, rfl, tk _ _ (fun _ _ q => q) (by rw [this]; rfl)⟩⟩
      · refine ⟨Nat.zero_le _, fun b nb => ?_⟩
        have s3 := s2.trans (same_new (o := .lst []) nb)
        obtain ⟨d, e, k1, k2, k3, k4, k5⟩ := eq_nil (K := K) (SqL.of (same_new (o := .lst []) nb _ _ hD)) (SqL.of (upd_same (H := H2) (a := b) (o := .lst []))) (fun x hx => ((hd x (bad_mem hx)).same s1).same s3)
        refine ⟨d, e, k1, k2, k3, k4, ?_⟩
        rw [k5, bad_empty]
        exact q _ (s1.trans s3)
    | @tup a xs h it =>
      obtain ⟨hl, hd⟩ := hz xs rfl
      refine ⟨_, (pss_cons (ps_if (pt_not (pt_val (pe_callB (isiTK (K := K) rfl) (by rfl) T.m_isinstance (by decide +kernel) (pa_cons (pv 0) (pa_cons (pe_tup (pa_cons (pe_bltn (v := .ty "list") (by rfl) T.m_list (by decide +kernel) rfl) (pa_cons (pe_bltn (v := .ty "tuple") (by rfl) T.m_tuple (by decide +kernel) rfl) pa_nil))) pa_nil))))) (pss_one (ps_ret pe_bl)) pss_nil)
  (pss_one (ps_ret (pe_cmpR (eqDK (K := K) rfl hu) (pe_lc (own := [("_law_k", 3)]) (g := gName 3) rfl sc__law_is_good.nd (piTK (K := K) rfl (pv 0)) (blkOk_by (own := [("_law_k", 3)]) (N := ["_law_value", "_law_low", "_law_high", "_law_k"]) (sc := defScope (topS 24)) (by decide +kernel)) (fun _ _ _ _ _ => (pg_name (i := 3) sc__law_is_good.nd rfl (by first | exact Or.inl rfl | exact Or.inr rfl))) (fun _ _ _ _ _ => (pts_one (PW.pt (pw_or (pt_val (pe_callB (isiK (K := K) rfl) (by rfl) T.m_isinstance (by decide +kernel) (pa_cons (pv 3) (pa_cons (pe_bltn (v := .ty "bool") (by rfl) T.m_bool (by decide +kernel) rfl) pa_nil)))) (pw_or (pt_not (pt_val (pe_callB (isiK (K := K) rfl) (by rfl) T.m_isinstance (by decide +kernel) (pa_cons (pv 3) (pa_cons (pe_bltn (v := .ty "int") (by rfl) T.m_int (by decide +kernel) rfl) pa_nil))))) (pw_or1 (pt_not (pt_chain op_le op_le (pv 1) (pv 3) (pv 2))))))))) (fun _ _ _ _ _ => (pv 3))) (pe_lst pa_nil) (nomark _))))), ?_⟩
      refine ⟨_, rfl, by show 2 ≤ sizeLine; decide, fun p np => ?_⟩
      have s1 := same_new (o := .tup [.ty "list", .ty "tuple"]) np
      refine ⟨_, p, _, _, _, _, rfl, upd_same, .cons (.ty _) (.cons (.ty _) .nil), (Sk.tup (C := C) (s1 _ _ h)).tyx L, kit_seq L .tup, _, rfl, iteF ?_⟩
      refine ⟨_, rfl, a, rfl, ⟨xs, SqT.of (s1 _ _ h)⟩, fun D nD => lc_fmT nD (SqT.of (s1 _ _ h)) (by omega) (fun x => if goodI lo hi x = true then none else some x) (fun i x H2 Nx hx s2 tk nt => ?_) (fun H2 s2 hD => ?_)⟩
      · obtain ⟨sx, hsx⟩ := it x (List.mem_of_getElem? hx)
        have hs2 := (hsx.same s1).same s2
        have ev := item hs2
        refine ⟨rfl, _, rfl, _, _, _, _, _, rfl, .ty _, hs2.tyx L, kit_bool L sx, _, rfl, ite2 (fun e => ?_) (fun e => ?_)⟩
        · have : goodI lo hi x = false := by rw [ev]; cases sx <;> first | rfl | cases e
          exact ⟨_, rfl, tk _ _ (fun _ _ q => q) (by rw [this]; rfl)⟩
        · refine ⟨_, rfl, _, _, _, _, _, rfl, .ty _, hs2.tyx L, kit_int L sx, _, rfl, ?_⟩
          cases hsi : (sx == Srt.int) with
          | false =>
            have : goodI lo hi x = false := by rw [ev, hsi]; rfl
            have hb : (sx == Srt.int || sx == Srt.bl) = false := by rw [hsi]; cases sx <;> first | rfl | exact (e rfl).elim
            rw [← hsi, hb]
            exact iteT ⟨_, rfl, tk _ _ (fun _ _ q => q) (by rw [this]; rfl)⟩
          | true =>
            obtain ⟨z, rfl⟩ := hsx.isInt hsi
            refine iteF ?_
            walk_at "r"
            refine ite2 (fun e2 => ?_) (fun e2 => ?_)
            · walk_at "r"
              have e2' : lo ≤ z := of_decide_eq_true e2
              by_cases e3 : z ≤ hi
              · rw [decide_eq_true e3]
                have : goodI lo hi (.int z) = true := by show (decide (lo ≤ z) && decide (z ≤ hi)) = true; rw [e2, decide_eq_true e3]; rfl
                exact iteF (nt _ (fun _ _ q => q) (by rw [this]; rfl))
              · rw [decide_eq_false e3]
                have : goodI lo hi (.int z) = false := by show (decide (lo ≤ z) && decide (z ≤ hi)) = false; rw [decide_eq_false e3, Bool.and_false]
                exact iteT ⟨_, rfl, tk _ _ (fun _ _ q => q) (by rw [this]; rfl)⟩
            · have : goodI lo hi (.int z) = false := by show (decide (lo ≤ z) && decide (z ≤ hi)) = false; rw [Bool.eq_false_iff.mpr e2, Bool.false_and]
              exact ⟨_, rfl, iteT ⟨_, rfl, tk _ _ (fun _ _ q => q) (by rw [this]; rfl)⟩⟩
      · refine ⟨Nat.zero_le _, fun b nb => ?_⟩
        have s3 := s2.trans (same_new (o := .lst []) nb)
        obtain ⟨d, e, k1, k2, k3, k4, k5⟩ := eq_nil (K := K) (SqL.of (same_new (o := .lst []) nb _ _ hD)) (SqL.of (upd_same (H := H2) (a := b) (o := .lst []))) (fun x hx => ((hd x (bad_mem hx)).same s1).same s3)
        refine ⟨d, e, k1, k2, k3, k4, ?_⟩
        rw [k5, bad_empty]
        exact q _ (s1.trans s3)
end
end K30

set_option Elab.async false
set_option linter.all false
set_option maxRecDepth 100000
set_option maxHeartbeats 1000000
namespace K30
open PySem L2
local macro_rules | `(tactic| walk_at "seq") => `(tactic| first | assumption | exact SqL.of (by assumption) | exact SqT.of (by assumption) | exact SqL.of upd_same | exact SqT.of upd_same)
local macro_rules | `(tactic| walk_at "at") => `(tactic| first | exact atI_nat (j := 0) rfl | exact atI_nat (j := 1) rfl | exact atI_nat (j := 2) rfl | exact atI_nat (by assumption) | assumption)
local macro_rules | `(tactic| walk_at "ar") => `(tactic| first | omega | exact ⟨by omega, by omega⟩ | exact Or.inl ⟨by omega, by omega⟩ | exact Or.inr ⟨by omega, by omega⟩ | exact ⟨by decide, by decide⟩ | exact Or.inr ⟨by decide, by decide⟩ | exact Or.inl ⟨by decide, by decide⟩ | exact ⟨by decide, by decide, by omega⟩ | exact ⟨by decide, by decide, by decide⟩)
local macro_rules | `(tactic| walk_at "r") => `(tactic| repeat (first
  | refine ⟨_, rfl, ?_⟩
  | refine ⟨_, _, rfl, rfl, ?_⟩
  | refine ⟨_, _, _, _, rfl, rfl, by walk_at "seq", by walk_at "at", ?_⟩
  | refine ⟨_, _, _, _, rfl, rfl, by assumption, rfl, ?_⟩
  | refine ⟨_, _, rfl, Or.inl (by walk_at "seq"), ?_⟩
  | refine Or.inl ⟨_, rfl, ?_⟩
  | refine Or.inr ⟨_, rfl, ?_⟩
  | refine And.intro (by walk_at "ar") ?_))
/-! ### _law_due: the mirror -/
def tiesL (n : Int) : List Int := (List.range (n + 1 - 1).toNat).map fun (i : Nat) => 1 + (i : Int)
def walksL (n : Int) (gv : V) (go : Option (List V)) : Option (List Int) :=
  if gv = .non then some (upTo n) else if goodO 0 n go = true then go.map fun xs => (upTo n).filter fun k => inV (.int k) xs else none
def betL (n : Int) (ws : List Int) : List Int := (tiesL n).filter fun k => memI k ws && memI (k - 1) ws
def lastL (n : Int) (bs : List Int) (ev : V) (eo : Option (List V)) : Option (List Int) :=
  if ev = .non then some bs else if goodO 1 n eo = true then match eo with
    | none => none
    | some xs => if xs.all (fun x => inV x (bs.map V.int)) = true then some (bs.filter fun k => inV (.int k) xs) else none
  else none
def dueR (p gv : V) (go : Option (List V)) (ev : V) (eo : Option (List V)) : Sum Str (Int × List Int × List Int) :=
  match p with
  | .int n => if 0 ≤ n then match walksL n gv go with
    | none => .inl "goes"
    | some ws => match lastL n (betL n ws) ev eo with
      | none => .inl "edges"
      | some es => .inr (n, ws, es)
    else .inl "people"
  | _ => .inl "people"
theorem fm_ints (p : V → Bool) (ws : List Int) : (ws.map V.int).filterMap (fun v => if p v = true then some v else none) = (ws.filter fun k => p (.int k)).map V.int := by
  induction ws with
  | nil => rfl
  | cons x r ih => cases h : p (.int x) <;> simp [h, ih]
theorem ties_v (n : Int) : rgV 1 (n + 1) = (tiesL n).map V.int := by
  unfold rgV tiesL
  rw [List.map_map]
  rfl
theorem up_len (n : Int) : (upTo n).length ≤ (n + 1).toNat := by unfold upTo; simp
theorem ties_len (n : Int) : (tiesL n).length ≤ (n + 1).toNat := by unfold tiesL; simp; omega
theorem bad_empty2 (f : V → Bool) (xs : List V) : (xs.filterMap fun x => if (!f x) = true then some x else none).isEmpty = xs.all f := by
  induction xs with
  | nil => rfl
  | cons x r ih =>
    cases h : f x with
    | true =>
      rw [List.filterMap_cons, List.all_cons, h]
      exact ih
    | false =>
      rw [List.filterMap_cons, List.all_cons, h]
      rfl
theorem bad_mem2 {f : V → Bool} {xs : List V} {x : V} (h : x ∈ xs.filterMap fun x => if f x = true then some x else none) : x ∈ xs := by
  obtain ⟨y, hy, e⟩ := List.mem_filterMap.mp h
  split at e
  · cases e; exact hy
  · cases e
theorem ne_nil {K : PySem.W.Frag} {H : Hp} {a b : Addr} {xs : List V} (ha : SqL K H a xs) (hb : SqL K H b []) (h : ∀ x ∈ xs, Dat1 K H x) :
    ∃ d e, Dp K H (.ref a) d ∧ Dp K H (.ref b) e ∧ SeqAt.shaped d = true ∧ SeqAt.shaped e = true ∧ PyData.eqv d e = xs.isEmpty := eq_nil ha hb h
def spDue (K : PySem.W.Frag) (C : Addr) : Sp := fun vs H Q _ => ∃ (p gv ev : V) (sp : Srt) (go eo : Option (List V)), vs = [p, gv, ev] ∧ Sk C H p sp ∧ Arg C H gv go ∧ Arg C H ev eo ∧
  (∀ n, p = .int n → n ≤ 100) ∧ (∀ xs, go = some xs → xs.length ≤ 1000 ∧ ∀ x ∈ xs, Dat1 K H x) ∧ (∀ xs, eo = some xs → xs.length ≤ 1000 ∧ ∀ x ∈ xs, Dat1 K H x) ∧
  (∀ word : Str, dueR p gv go ev eo = .inl word → ∀ H', Same H H' → Q (.str word) H') ∧
  (∀ (n : Int) (gs es : List Int), dueR p gv go ev eo = .inr (n, gs, es) → ∀ (t ag ae : Addr) (H' : Hp), Same H H' → H t = none → H' t = some (.tup [.ref ag, .ref ae]) → H' ag = some (.tup (gs.map V.int)) → H' ae = some (.tup (es.map V.int)) → Q (.ref t) H')
section
variable {P : Program} {w : World} {K : PySem.W.Frag} {mg : Str → Option Value} {base : Heap} {C CE fE : Addr}
theorem sc__law_due : FnScope ["_law_people", "_law_goes", "_law_edges_here", "_law_walks", "_law_ties", "_law_k", "_law_between"] ["_law_people", "_law_goes", "_law_edges_here"] (defScope (topS 23)) := ⟨rfl, rfl, rfl, by decide +kernel, rfl, by decide +kernel, by decide +kernel⟩
theorem ok_due {f fG : Addr} {fd fdG : FuncData} {k : Nat} (F : Fun K "_law_due" "_law_due" (topS 23) f fd) (T : Bt mg) (L : LineC K mg C)
    (FG : Fun K "_law_is_good" "_law_is_good" (topS 24) fG fdG) (bG : Binds K fdG ["_law_value", "_law_low", "_law_high"] []) (gG : mg "_law_is_good" = some (.ref fG)) :
    FnOk P w K mg base CX0 (k + 2) f fd ["_law_people", "_law_goes", "_law_edges_here"] (spDue K C) := by
  have GG : FnOk P w K mg base CX0 (k + 1) fG fdG ["_law_value", "_law_low", "_law_high"] (spGood K C) := ok_good FG T L
  refine F.ok sc__law_due (fun vs H Q E h => ?_) (fun cdv A outer s H vs Q E hr h => ?_)
  · obtain ⟨p, gv, ev, sp, go, eo, rfl, _⟩ := h
    rfl
  · obtain ⟨p, gv, ev, sp, go, eo, rfl, hp, hg, he, hn, zg, ze, no, yes⟩ := h
    have hu := hr.units
    refine ⟨_, (pss_cons (ps_if (PW.pt (pw_or (pt_val (pe_callB (isiK (K := K) rfl) (by rfl) T.m_isinstance (by decide +kernel) (pa_cons (pv 0) (pa_cons (pe_bltn (v := .ty "bool") (by rfl) T.m_bool (by decide +kernel) rfl) pa_nil)))) (pw_or (pt_not (pt_val (pe_callB (isiK (K := K) rfl) (by rfl) T.m_isinstance (by decide +kernel) (pa_cons (pv 0) (pa_cons (pe_bltn (v := .ty "int") (by rfl) T.m_int (by decide +kernel) rfl) pa_nil))))) (pw_or1 (pt_cmpR op_lt (pv 0) pe_int (nomark _)))))) (pss_one (ps_ret pe_str)) pss_nil)
  (pss_cons (ps_asg (pe_tup (pa_cons (pe_listRg rfl (by rfl) T.m_list (prg_1 (by rfl) T.m_range (pe_op op_add (pv 0) pe_int))) (pa_cons (pe_listRg rfl (by rfl) T.m_list (prg_2 (by rfl) T.m_range pe_int (pe_op op_add (pv 0) pe_int))) pa_nil))) (pg_tup rfl (pgs_cons (pg_name (i := 3) sc__law_due.nd rfl (by first | exact Or.inl rfl | exact Or.inr rfl)) (pgs_cons (pg_name (i := 4) sc__law_due.nd rfl (by first | exact Or.inl rfl | exact Or.inr rfl)) pgs_nil))))
  (pss_cons (ps_if (pt_cmpR op_notN (pv 1) pe_non (nomark _)) (pss_cons (ps_if (pt_not (pt_val (pe_call GG hr (by rfl) gG FG.kp bG .nil pass0 (pa_cons (pv 1) (pa_cons pe_int (pa_cons (pv 0) pa_nil)))))) (pss_one (ps_ret pe_str)) pss_nil)
  (pss_one (ps_set (i := 3) sc__law_due.nd rfl (by first | exact Or.inl rfl | exact Or.inr rfl) (pe_lc (own := [("_law_k", 5)]) (g := gName 5) rfl sc__law_due.nd (piLK (K := K) rfl (pv 3)) (blkOk_by (own := [("_law_k", 5)]) (N := ["_law_people", "_law_goes", "_law_edges_here", "_law_walks", "_law_ties", "_law_k", "_law_between"]) (sc := defScope (topS 23)) (by decide +kernel)) (fun _ _ _ _ _ => (pg_name (i := 5) sc__law_due.nd rfl (by first | exact Or.inl rfl | exact Or.inr rfl))) (fun _ _ _ _ _ => (pts_one (pt_cmpR (inK (K := K) rfl) (pv 5) (pv 1) (by rfl)))) (fun _ _ _ _ _ => (pv 5)))))) pss_nil)
  (pss_cons (ps_set (i := 6) sc__law_due.nd rfl (by first | exact Or.inl rfl | exact Or.inr rfl) (pe_lc (own := [("_law_k", 5)]) (g := gName 5) rfl sc__law_due.nd (piLK (K := K) rfl (pv 4)) (blkOk_by (own := [("_law_k", 5)]) (N := ["_law_people", "_law_goes", "_law_edges_here", "_law_walks", "_law_ties", "_law_k", "_law_between"]) (sc := defScope (topS 23)) (by decide +kernel)) (fun _ _ _ _ _ => (pg_name (i := 5) sc__law_due.nd rfl (by first | exact Or.inl rfl | exact Or.inr rfl))) (fun _ _ _ _ _ => (pts_one (PW.pt (pw_and (pt_cmpR (inK (K := K) rfl) (pv 5) (pv 3) (by rfl)) (pw_and1 (pt_cmpR (inK (K := K) rfl) (pe_op op_sub (pv 5) pe_int) (pv 3) (by rfl))))))) (fun _ _ _ _ _ => (pv 5))))
  (pss_cons (ps_if (pt_cmpR op_notN (pv 2) pe_non (nomark _)) (pss_cons (ps_if (PW.pt (pw_or (pt_not (pt_val (pe_call GG hr (by rfl) gG FG.kp bG .nil pass0 (pa_cons (pv 2) (pa_cons pe_int (pa_cons (pv 0) pa_nil)))))) (pw_or1 (pt_cmpR (neDK (K := K) rfl hu) (pe_lc (own := [("_law_k", 5)]) (g := gName 5) rfl sc__law_due.nd (piSK (K := K) rfl (pv 2)) (blkOk_by (own := [("_law_k", 5)]) (N := ["_law_people", "_law_goes", "_law_edges_here", "_law_walks", "_law_ties", "_law_k", "_law_between"]) (sc := defScope (topS 23)) (by decide +kernel)) (fun _ _ _ _ _ => (pg_name (i := 5) sc__law_due.nd rfl (by first | exact Or.inl rfl | exact Or.inr rfl))) (fun _ _ _ _ _ => (pts_one (pt_cmpR (ninK (K := K) rfl) (pv 5) (pv 6) (by rfl)))) (fun _ _ _ _ _ => (pv 5))) (pe_lst pa_nil) (nomark _))))) (pss_one (ps_ret pe_str)) pss_nil)
  (pss_one (ps_set (i := 6) sc__law_due.nd rfl (by first | exact Or.inl rfl | exact Or.inr rfl) (pe_lc (own := [("_law_k", 5)]) (g := gName 5) rfl sc__law_due.nd (piLK (K := K) rfl (pv 6)) (blkOk_by (own := [("_law_k", 5)]) (N := ["_law_people", "_law_goes", "_law_edges_here", "_law_walks", "_law_ties", "_law_k", "_law_between"]) (sc := defScope (topS 23)) (by decide +kernel)) (fun _ _ _ _ _ => (pg_name (i := 5) sc__law_due.nd rfl (by first | exact Or.inl rfl | exact Or.inr rfl))) (fun _ _ _ _ _ => (pts_one (pt_cmpR (inK (K := K) rfl) (pv 5) (pv 2) (by rfl)))) (fun _ _ _ _ _ => (pv 5)))))) pss_nil)
  (pss_one (ps_ret (pe_tup (pa_cons (pe_callTy (tupK (K := K) rfl) (by rfl) T.m_tuple (by decide +kernel) (pa_cons (pv 3) pa_nil)) (pa_cons (pe_callTy (tupK (K := K) rfl) (by rfl) T.m_tuple (by decide +kernel) (pa_cons (pv 6) pa_nil)) pa_nil)))))))))), ?_⟩
    refine ⟨_, rfl, _, _, _, _, _, rfl, .ty _, hp.tyx L, kit_bool L sp, _, rfl, ite2 (fun e => ?_) (fun e => ?_)⟩
    · refine no "people" ?_ H (fun _ _ q => q)
      cases hp <;> first | rfl | cases e
    refine ⟨_, rfl, _, _, _, _, _, rfl, .ty _, hp.tyx L, kit_int L sp, _, rfl, ite2 (fun e2 => ?_) (fun e2 => ?_)⟩
    · refine no "people" ?_ H (fun _ _ q => q)
      cases hp <;> first | rfl | cases e2
    obtain ⟨n, rfl⟩ : ∃ n, p = .int n := by
      cases hp <;> first | exact ⟨_, rfl⟩ | exact (e rfl).elim | exact (e2 rfl).elim
    walk_at "r"
    refine ite2 (fun e3 => ?_) (fun e3 => ?_)
    · have h0 : n < 0 := of_decide_eq_true e3
      refine no "people" ?_ H (fun _ _ q => q)
      show (if 0 ≤ n then _ else Sum.inl ("people" : Str)) = _
      rw [if_neg (by omega)]
    have hn0 : 0 ≤ n := by
      by_cases z : n < 0
      · exact (e3 (decide_eq_true z)).elim
      · omega
    have hn1 := hn n rfl
    have res : dueR (.int n) gv go ev eo = (match walksL n gv go with
      | none => .inl "goes"
      | some ws => match lastL n (betL n ws) ev eo with
        | none => .inl "edges"
        | some es => .inr (n, ws, es)) := by
      show (if 0 ≤ n then _ else Sum.inl ("people" : Str)) = _
      rw [if_pos hn0]
    refine ⟨_, rfl, _, _, rfl, rfl, n + 1, rfl, RgOk.of_le (by omega) (by omega) (by omega) (by omega), fun aw naw => ?_⟩
    refine ⟨_, rfl, _, _, rfl, rfl, 1, n + 1, rfl, rfl, RgOk.of_le (by omega) (by omega) (by omega) (by omega), fun at_ nat_ => ?_⟩
    refine ⟨by show 2 ≤ sizeLine; decide, fun tt ntt => ?_⟩
    have s0 : Same H (upd H aw (.lst (rgV 0 (n + 1)))) := same_new naw
    have s1 : Same (upd H aw (.lst (rgV 0 (n + 1)))) (upd (upd H aw (.lst (rgV 0 (n + 1)))) at_ (.lst (rgV 1 (n + 1)))) := same_new nat_
    have s2 := same_new (o := .tup [.ref aw, .ref at_]) ntt
    refine ⟨tt, _, rfl, SqT.of upd_same, rfl, _, _, rfl, _, _, rfl, rfl, ?_⟩
    have haw := s2 _ _ (s1 _ _ (upd_same (H := H) (a := aw) (o := .lst (rgV 0 (n + 1)))))
    have hat := s2 _ _ (upd_same (H := upd H aw (.lst (rgV 0 (n + 1)))) (a := at_) (o := .lst (rgV 1 (n + 1))))
    have s02 : Same H _ := (s0.trans s1).trans s2
    generalize upd (upd (upd H aw (.lst (rgV 0 (n + 1)))) at_ (.lst (rgV 1 (n + 1)))) tt (.tup [.ref aw, .ref at_]) = H1 at s02 haw hat ⊢
    rw [upTo_v] at haw
    rw [ties_v] at hat
    clear s0 s1 s2 naw nat_ ntt
    -- the walks
    dsimp only [tSeq]
    refine viaS (fun σ2 H2 => ∃ (ws : List Int) (ax : Addr), σ2 = [some (.int n), some gv, some ev, some (.ref ax), some (.ref at_), none, none] ∧ walksL n gv go = some ws ∧ ws.length ≤ 1000 ∧ Same H1 H2 ∧ H2 ax = some (.lst (ws.map V.int))) (fun σ2 H2 hP => ?_) (fun nx' k' => ?_)
    rotate_left
    · refine ⟨_, rfl, rfl, _, rfl, ?_⟩
      by_cases hgv : gv = .non
      · rw [decide_eq_true hgv]
        exact iteF (k' _ _ ⟨upTo n, aw, rfl, by unfold walksL; rw [if_pos hgv], Nat.le_trans (up_len n) (by omega), fun _ _ q => q, haw⟩)
      · rw [decide_eq_false hgv]
        refine iteT ⟨_, rfl, _, rfl, gv, go, 0, n, rfl, hg.same s02, fun xs e => ⟨(zg xs e).1, fun x hx => ((zg xs e).2 x hx).same s02⟩, fun H2 s3 => ⟨_, rfl, ?_⟩⟩
        cases hgd : goodO 0 n go with
        | false =>
          refine iteT (no "goes" ?_ H2 (s02.trans s3))
          have : walksL n gv go = none := by unfold walksL; rw [if_neg hgv, hgd]; rfl
          rw [res, this]
        | true =>
          obtain ⟨xs, rfl⟩ : ∃ xs, go = some xs := by
            cases go with
            | none => cases hgd
            | some xs => exact ⟨xs, rfl⟩
          have sq : ∃ a, gv = .ref a ∧ (SqL K H2 a xs ∨ SqT K H2 a xs) := by
            cases hg with
            | lst h it => exact ⟨_, rfl, .inl (SqL.of (s3 _ _ (s02 _ _ h)))⟩
            | tup h it => exact ⟨_, rfl, .inr (SqT.of (s3 _ _ (s02 _ _ h)))⟩
          obtain ⟨a, rfl, hsq⟩ := sq
          refine iteF ⟨_, rfl, aw, rfl, ⟨_, SqL.of (s3 _ _ haw)⟩, fun D nD => lc_fmL nD (SqL.of (s3 _ _ haw)) (by rw [List.length_map]; exact Nat.lt_of_le_of_lt (up_len n) (by omega)) (fun v => if inV v xs = true then some v else none) (fun i v H4 Nx hv s4 tk nt => ?_) (fun H4 s4 hD => ?_)⟩
          · obtain ⟨z, _, rfl⟩ := List.mem_map.mp (List.mem_of_getElem? hv)
            have sq4 : SqL K H4 a xs ∨ SqT K H4 a xs := by
              cases hg with
              | lst h it => exact .inl (SqL.of (s4 _ _ (s3 _ _ (s02 _ _ h))))
              | tup h it => exact .inr (SqT.of (s4 _ _ (s3 _ _ (s02 _ _ h))))
            refine ⟨rfl, _, rfl, _, rfl, a, xs, rfl, sq4, rfl, good_flat hgd, _, rfl, ite2 (fun e => ?_) (fun e => ?_)⟩
            · exact ⟨_, rfl, tk _ _ (fun _ _ q => q) (if_pos e)⟩
            · exact nt _ (fun _ _ q => q) (if_neg e)
          · rw [fm_ints] at hD
            refine k' _ _ ⟨_, D, rfl, by unfold walksL; rw [if_neg hgv, if_pos hgd]; rfl, ?_, s3.trans s4, hD⟩
            exact Nat.le_trans (List.length_filter_le _ _) (Nat.le_trans (up_len n) (by omega))
    obtain ⟨ws, ax, rfl, hws, hwl, s3, hax⟩ := hP
    rw [hws] at res
    have s03 := s02.trans s3
    have hat3 := s3 _ _ hat
    -- between
    refine ⟨_, rfl, at_, rfl, ⟨_, SqL.of hat3⟩, fun D nD => lc_fmL nD (SqL.of hat3) (by rw [List.length_map]; exact Nat.lt_of_le_of_lt (ties_len n) (by omega)) (fun v => if (match v with | .int k => memI k ws && memI (k - 1) ws | _ => false) = true then some v else none) (fun i v H4 Nx hv s4 tk nt => ?_) (fun H4 s4 hD => ?_)⟩
    · obtain ⟨z, _, rfl⟩ := List.mem_map.mp (List.mem_of_getElem? hv)
      refine ⟨rfl, _, rfl, _, rfl, ax, _, rfl, .inl (SqL.of (s4 _ _ hax)), rfl, flat_ints ws, _, rfl, ite2 (fun e1 => ?_) (fun e1 => ?_)⟩
      · refine ⟨_, rfl, _, _, rfl, rfl, _, rfl, ax, _, rfl, .inl (SqL.of (s4 _ _ hax)), rfl, flat_ints ws, _, rfl, ite2 (fun e2 => ?_) (fun e2 => ?_)⟩
        · exact ⟨_, rfl, tk _ _ (fun _ _ q => q) (if_pos (by show (memI z ws && memI (z - 1) ws) = true; rw [Bool.and_eq_true]; exact ⟨e1, e2⟩))⟩
        · exact nt _ (fun _ _ q => q) (if_neg (by show ¬ (memI z ws && memI (z - 1) ws) = true; rw [Bool.and_eq_true]; exact fun y => e2 y.2))
      · exact nt _ (fun _ _ q => q) (if_neg (by show ¬ (memI z ws && memI (z - 1) ws) = true; rw [Bool.and_eq_true]; exact fun y => e1 y.1))
    rw [fm_ints] at hD
    change H4 D = some (.lst ((betL n ws).map V.int)) at hD
    have s04 := s03.trans s4
    have hax4 := s4 _ _ hax
    have hbl : (betL n ws).length ≤ 1000 := Nat.le_trans (List.length_filter_le _ _) (Nat.le_trans (ties_len n) (by omega))
    dsimp only [gName, tSeq]
    refine viaS (fun σ2 H5 => ∃ (es : List Int) (ab : Addr) (y : Option V), σ2 = [some (.int n), some gv, some ev, some (.ref ax), some (.ref at_), none, some (.ref ab)] ∧ lastL n (betL n ws) ev eo = some es ∧ Same H4 H5 ∧ H5 ab = some (.lst (es.map V.int))) (fun σ2 H5 hP => ?_) (fun nx' k' => ?_)
    rotate_left
    · refine ⟨_, rfl, rfl, _, rfl, ?_⟩
      by_cases hev : ev = .non
      · rw [decide_eq_true hev]
        exact iteF (k' _ _ ⟨betL n ws, D, none, rfl, by unfold lastL; rw [if_pos hev], fun _ _ q => q, hD⟩)
      · rw [decide_eq_false hev]
        refine iteT ⟨_, rfl, _, rfl, ev, eo, 1, n, rfl, he.same s04, fun xs e => ⟨(ze xs e).1, fun x hx => ((ze xs e).2 x hx).same s04⟩, fun H5 s5 => ⟨_, rfl, ?_⟩⟩
        cases hgd : goodO 1 n eo with
        | false =>
          refine iteT (iteT (no "edges" ?_ H5 (s04.trans s5)))
          have : lastL n (betL n ws) ev eo = none := by unfold lastL; rw [if_neg hev, hgd]; rfl
          rw [res]
          show (match lastL n (betL n ws) ev eo with | none => _ | some es => _) = _
          rw [this]
        | true =>
          obtain ⟨xs, rfl⟩ : ∃ xs, eo = some xs := by
            cases eo with
            | none => cases hgd
            | some xs => exact ⟨xs, rfl⟩
          have sq : ∃ a, ev = .ref a ∧ ∀ H', Same H H' → (SqL K H' a xs ∨ SqT K H' a xs) := by
            cases he with
            | lst h it => exact ⟨_, rfl, fun H' s => .inl (SqL.of (s _ _ h))⟩
            | tup h it => exact ⟨_, rfl, fun H' s => .inr (SqT.of (s _ _ h))⟩
          obtain ⟨a, rfl, hsq⟩ := sq
          obtain ⟨hxl, hxd⟩ := ze xs rfl
          have s05 := s04.trans s5
          refine iteF ?_
          dsimp only [tTest, tOp]
          refine lc_seqV (k := 2) (by rfl) (hsq H5 s05) (by omega) (fun v => if (!inV v ((betL n ws).map V.int)) = true then some v else none) (fun D2 i v H6 Nx nD2 hv s6 tk nt => ?_) (fun D2 H6 nD2 s6 hD2 => ?_)
          · have fv : flatV v = true := List.all_eq_true.mp (good_flat hgd) v (List.mem_of_getElem? hv)
            refine ⟨rfl, _, rfl, _, rfl, D, _, rfl, .inl (SqL.of (s6 _ _ (s5 _ _ hD))), fv, flat_ints _, _, rfl, ite2 (fun e => ?_) (fun e => ?_)⟩
            · exact ⟨_, rfl, tk _ _ (fun _ _ q => q) (if_pos e)⟩
            · exact nt _ (fun _ _ q => q) (if_neg e)
          · refine ⟨Nat.zero_le _, fun b nb => ?_⟩
            have s7 := s6.trans (same_new (o := .lst []) nb)
            obtain ⟨d1, d2, k1, k2, k3, k4, k5⟩ := ne_nil (K := K) (SqL.of (same_new (o := .lst []) nb _ _ hD2)) (SqL.of (upd_same (H := H6) (a := b) (o := .lst []))) (fun x hx => ((hxd x (bad_mem2 hx)).same s05).same s7)
            refine ⟨d1, d2, k1, k2, k3, k4, _, rfl, ?_⟩
            rw [k5, bad_empty2]
            have s07 := s05.trans s7
            cases hal : xs.all (fun x => inV x ((betL n ws).map V.int)) with
            | false =>
              refine iteT (no "edges" ?_ _ s07)
              have : lastL n (betL n ws) (.ref a) (some xs) = none := by
                unfold lastL
                rw [if_neg hev, if_pos hgd]
                show (if xs.all (fun x => inV x ((betL n ws).map V.int)) = true then some _ else none) = none
                rw [hal]
                rfl
              rw [res]
              show (match lastL n (betL n ws) (.ref a) (some xs) with | none => _ | some es => _) = _
              rw [this]
            | true =>
              have hD7 := s7 _ _ (s5 _ _ hD)
              refine iteF ⟨_, rfl, D, rfl, ⟨_, SqL.of hD7⟩, fun D3 nD3 => lc_fmL nD3 (SqL.of hD7) (by rw [List.length_map]; omega) (fun v => if inV v xs = true then some v else none) (fun i v H8 Nx hv s8 tk nt => ?_) (fun H8 s8 hD3 => ?_)⟩
              · obtain ⟨z, _, rfl⟩ := List.mem_map.mp (List.mem_of_getElem? hv)
                refine ⟨rfl, _, rfl, _, rfl, a, xs, rfl, hsq H8 (s07.trans s8), rfl, good_flat hgd, _, rfl, ite2 (fun e => ?_) (fun e => ?_)⟩
                · exact ⟨_, rfl, tk _ _ (fun _ _ q => q) (if_pos e)⟩
                · exact nt _ (fun _ _ q => q) (if_neg e)
              · rw [fm_ints] at hD3
                refine k' _ _ ⟨_, D3, none, rfl, ?_, (s5.trans s7).trans s8, hD3⟩
                unfold lastL
                rw [if_neg hev, if_pos hgd]
                show (if xs.all (fun x => inV x ((betL n ws).map V.int)) = true then some _ else none) = _
                rw [hal]
                rfl
    obtain ⟨es, ab, y, rfl, hes, s5, hab⟩ := hP
    have res2 : dueR (.int n) gv go ev eo = .inr (n, ws, es) := by
      rw [res]
      show (match lastL n (betL n ws) ev eo with | none => _ | some es => _) = _
      rw [hes]
    have hax5 := s5 _ _ hax4
    refine ⟨_, rfl, ax, _, rfl, .inl ⟨SqL.of hax5, fun ag nag => ?_⟩⟩
    have hab6 := same_new (o := .tup (ws.map V.int)) nag _ _ hab
    refine ⟨_, rfl, ab, _, rfl, .inl ⟨SqL.of hab6, fun ae nae => ?_⟩⟩
    refine ⟨by show 2 ≤ sizeLine; decide, fun t nt => ?_⟩
    have sg := same_new (o := .tup (ws.map V.int)) nag
    have se := same_new (o := .tup (es.map V.int)) nae
    have st := same_new (o := .tup [.ref ag, .ref ae]) nt
    have s05 := s04.trans s5
    refine yes n ws es res2 t ag ae _ (((s05.trans sg).trans se).trans st) (((s05.trans sg).trans se).free nt) upd_same (st _ _ (se _ _ upd_same)) (st _ _ upd_same)
end
end K30

set_option Elab.async false
set_option linter.all false
set_option maxRecDepth 100000
set_option maxHeartbeats 1000000
namespace K30
open PySem L2
/-! ### the plain law: what is due is what is made -/
theorem eqV_int (i j : Int) : eqV (.int i) (.int j) = decide (i = j) := by
  by_cases h : i = j
  · subst h; simp [eqV]
  · simp [eqV, h]
theorem memI_iff {i : Int} {gs : List Int} : memI i gs = true ↔ i ∈ gs := by
  unfold memI inV
  rw [List.any_map, List.any_eq_true]
  constructor
  · rintro ⟨x, hx, e⟩
    have e' : eqV (.int x) (.int i) = true := e
    rw [eqV_int] at e'
    rw [← of_decide_eq_true e']
    exact hx
  · intro h
    exact ⟨i, h, by show eqV (.int i) (.int i) = true; rw [eqV_int]; simp⟩
theorem inV_iff {lo hi : Int} {xs : List V} (hg : xs.all (goodI lo hi) = true) {k : Int} : inV (.int k) xs = true ↔ V.int k ∈ xs := by
  unfold inV
  rw [List.any_eq_true]
  rw [List.all_eq_true] at hg
  constructor
  · rintro ⟨x, hx, e⟩
    have hgx := hg x hx
    cases x <;> first | (cases hgx; done) | skip
    rename_i i
    rw [eqV_int] at e
    rw [← of_decide_eq_true e]
    exact hx
  · intro h
    exact ⟨_, h, by rw [eqV_int]; simp⟩
theorem filter_map {α β : Type} (f : α → β) (p : β → Bool) (l : List α) : (l.map f).filter p = l.filterMap fun a => if p (f a) = true then some (f a) else none := by
  induction l with
  | nil => rfl
  | cons x r ih => cases h : p (f x) <;> simp [h, ih]
theorem walks_is (n : Int) (gv : V) (go : Option (List V)) : walksL n gv go = goesL n gv go := by
  unfold walksL goesL
  split
  · rfl
  · split
    · cases go with
      | none => rfl
      | some xs =>
        show some _ = some _
        congr 1
        unfold upTo sel
        dsimp only
        rw [filter_map]
    · rfl
theorem bet_is (n : Int) (gs : List Int) : betL n gs = someL n gs := by
  unfold betL someL tiesL
  rw [filter_map]
theorem mem_ties {n k : Int} : k ∈ tiesL n ↔ 1 ≤ k ∧ k ≤ n := by
  unfold tiesL
  rw [List.mem_map]
  constructor
  · rintro ⟨i, hi, rfl⟩
    rw [List.mem_range] at hi
    omega
  · rintro ⟨h1, h2⟩
    exact ⟨(k - 1).toNat, by rw [List.mem_range]; omega, by omega⟩
theorem sel_is (n : Int) (xs : List V) : sel 1 (n + 1 - 1).toNat xs = (tiesL n).filter fun k => inV (.int k) xs := by
  unfold sel tiesL
  rw [filter_map]
theorem due_is (p gv : V) (go : Option (List V)) (ev : V) (eo : Option (List V)) : dueR p gv go ev eo = lineR p gv go ev eo := by
  cases p <;> first | rfl | skip
  rename_i n
  show (if 0 ≤ n then _ else Sum.inl ("people" : Str)) = (if 0 ≤ n then _ else Sum.inl ("people" : Str))
  split
  · rw [walks_is]
    cases goesL n gv go with
    | none => rfl
    | some gs =>
      show (match lastL n (betL n gs) ev eo with | none => _ | some es => _) = (match edgesL n gs ev eo with | none => _ | some es => _)
      rw [bet_is]
      unfold lastL edgesL
      by_cases hev : ev = .non
      · rw [if_pos hev, if_pos hev]
        have : (someL n gs).all (fun e => memI e (someL n gs)) = true := by
          rw [List.all_eq_true]
          intro x hx
          exact memI_iff.mpr hx
        show _ = (if (someL n gs).all (fun e => memI e (someL n gs)) = true then _ else _)
        rw [if_pos this]
      · rw [if_neg hev, if_neg hev]
        by_cases hg : goodO 1 n eo = true
        · rw [if_pos hg, if_pos hg]
          cases eo with
          | none => cases hg
          | some xs =>
            have hg' : xs.all (goodI 1 n) = true := hg
            have hall := List.all_eq_true.mp hg'
            have key : xs.all (fun x => inV x ((someL n gs).map V.int)) = (sel 1 (n + 1 - 1).toNat xs).all (fun e => memI e (someL n gs)) := by
              rw [Bool.eq_iff_iff, List.all_eq_true, List.all_eq_true]
              constructor
              · intro h e he
                rw [sel_is, List.mem_filter] at he
                exact h _ ((inV_iff hg').mp he.2)
              · intro h x hx
                have hgx := hall x hx
                cases x <;> first | (cases hgx; done) | skip
                rename_i i
                have hb : (decide (1 ≤ i) && decide (i ≤ n)) = true := hgx
                rw [Bool.and_eq_true] at hb
                refine h i ?_
                rw [sel_is, List.mem_filter]
                exact ⟨mem_ties.mpr ⟨of_decide_eq_true hb.1, of_decide_eq_true hb.2⟩, (inV_iff hg').mpr hx⟩
            show (match (if xs.all (fun x => inV x ((someL n gs).map V.int)) = true then some ((someL n gs).filter fun k => inV (.int k) xs) else none) with | none => _ | some es => _) = (if (sel 1 (n + 1 - 1).toNat xs).all (fun e => memI e (someL n gs)) = true then _ else _)
            rw [key]
            by_cases ha : (sel 1 (n + 1 - 1).toNat xs).all (fun e => memI e (someL n gs)) = true
            · rw [if_pos ha, if_pos ha]
              show Sum.inr (n, gs, (someL n gs).filter fun k => inV (.int k) xs) = Sum.inr (n, gs, sel 1 (n + 1 - 1).toNat xs)
              congr 3
              rw [sel_is] at ha ⊢
              rw [← bet_is]
              unfold betL
              rw [List.filter_filter]
              apply List.filter_congr
              intro k hk
              cases hq : inV (.int k) xs with
              | false => rfl
              | true =>
                have := List.all_eq_true.mp ha k (List.mem_filter.mpr ⟨hk, hq⟩)
                rw [← bet_is] at this
                have := memI_iff.mp this
                unfold betL at this
                rw [List.mem_filter] at this
                rw [this.2]; rfl
            · rw [if_neg ha, if_neg ha]
        · rw [if_neg hg, if_neg hg]
  · rfl
end K30

set_option Elab.async false
set_option linter.all false
set_option maxRecDepth 100000
set_option maxHeartbeats 1000000
namespace K30
open PySem L2
local macro_rules | `(tactic| walk_at "seq") => `(tactic| first | assumption | exact SqL.of (by assumption) | exact SqT.of (by assumption) | exact SqL.of upd_same | exact SqT.of upd_same)
local macro_rules | `(tactic| walk_at "at") => `(tactic| first | exact atI_nat (j := 0) rfl | exact atI_nat (j := 1) rfl | exact atI_nat (j := 2) rfl | exact atI_nat (by assumption) | assumption)
local macro_rules | `(tactic| walk_at "ar") => `(tactic| first | omega | exact ⟨by omega, by omega⟩ | exact Or.inl ⟨by omega, by omega⟩ | exact Or.inr ⟨by omega, by omega⟩ | exact ⟨by decide, by decide⟩ | exact Or.inr ⟨by decide, by decide⟩ | exact Or.inl ⟨by decide, by decide⟩ | exact ⟨by decide, by decide, by omega⟩ | exact ⟨by decide, by decide, by decide⟩)
local macro_rules | `(tactic| walk_at "r") => `(tactic| repeat (first
  | refine ⟨_, rfl, ?_⟩
  | refine ⟨_, _, rfl, rfl, ?_⟩
  | refine ⟨_, _, _, _, rfl, rfl, by walk_at "seq", by walk_at "at", ?_⟩
  | refine ⟨_, _, _, _, rfl, rfl, by assumption, rfl, ?_⟩
  | refine ⟨_, _, rfl, Or.inl (by walk_at "seq"), ?_⟩
  | refine Or.inl ⟨_, rfl, ?_⟩
  | refine Or.inr ⟨_, rfl, ?_⟩
  | refine And.intro (by walk_at "ar") ?_))
/-! ### _law_answer -/
def spAns (C : Addr) : Sp := fun vs H Q _ => ∃ (p gv ev : V) (sp : Srt) (go eo : Option (List V)), vs = [p, gv, ev] ∧ Sk C H p sp ∧ Arg C H gv go ∧ Arg C H ev eo ∧
  (∀ n, p = .int n → n ≤ 100) ∧ (∀ xs, go = some xs → xs.length ≤ 1000) ∧ (∀ xs, eo = some xs → xs.length ≤ 1000) ∧
  (∀ word : Str, lineR p gv go ev eo = .inl word → ∀ H', Same H H' → Q (.str word) H') ∧
  (∀ (n : Int) (gs es : List Int), lineR p gv go ev eo = .inr (n, gs, es) → ∀ (t ag ae : Addr) (H' : Hp), Same H H' → H t = none → H' t = some (.tup [.ref ag, .ref ae]) → H' ag = some (.tup (gs.map V.int)) → H' ae = some (.tup (es.map V.int)) → Q (.ref t) H')
theorem lookw (v : V) : List.lookup ("word" : Str) [(("word" : Str), v)] = some v := by simp [List.lookup]
theorem made_same {H H' : Hp} {x dx C : Addr} {o : HO} (nx : H x = none) (nd : H dx = none) (e : Xt x (upd (upd H dx (.own x)) x o) H') : Same H H' := fun b u h =>
  e b u (ne_of_none h nx) (by rw [upd_ne (ne_of_none h nx), upd_ne (ne_of_none h nd)]; exact h)
theorem made_up {H : Hp} {x dx : Addr} {o : HO} (nx : H x = none) (nd : H dx = none) : Same H (upd (upd H dx (.own x)) x o) := fun b u h => by
  rw [upd_ne (ne_of_none h nx), upd_ne (ne_of_none h nd)]; exact h
theorem lineR_int {p gv : V} {go : Option (List V)} {ev : V} {eo : Option (List V)} {n : Int} {gs es : List Int} (h : lineR p gv go ev eo = .inr (n, gs, es)) : p = .int n := by
  cases p <;> first | (cases h; done) | skip
  rename_i m
  have h' : (if 0 ≤ m then (match goesL m gv go with
    | none => Sum.inl ("goes" : Str)
    | some gs => match edgesL m gs ev eo with
      | none => .inl "edges"
      | some es => if es.all (fun e => memI e (someL m gs)) = true then .inr (m, gs, es) else .inl "edges")
    else Sum.inl ("people" : Str)) = .inr (n, gs, es) := h
  split at h'
  · split at h'
    · cases h'
    · split at h'
      · cases h'
      · split at h'
        · cases h'; rfl
        · cases h'
  · cases h'
section
variable {P : Program} {w : World} {K : PySem.W.Frag} {mg : Str → Option Value} {base : Heap} {C CE CK CT fE : Addr}
theorem sc__law_answer : FnScope ["_law_people", "_law_goes", "_law_edges_here", "_law_found", "_law_made", "e"] ["_law_people", "_law_goes", "_law_edges_here"] (defScope (topS 25)) := ⟨rfl, rfl, rfl, by decide +kernel, rfl, by decide +kernel, by decide +kernel⟩
theorem ok_ans {f fL : Addr} {fd fdL : FuncData} {k : Nat} (F : Fun K "_law_answer" "_law_answer" (topS 25) f fd) (T : Bt mg) (L : LineC K mg C) (XE : PySem.ErrX.ErrTxt P K mg "InvalidLine" CE fE)
    (GL : FnOk P w K mg base (L2.CX P w) (k + 3) fL fdL ["self", "people", "goes", "edges"] (spInit C CE)) (bL : Binds K fdL ["self", "people", "goes", "edges"] []) (MK : Mk K C fL)
    (EC : PySem.W.EcC K CE) (XF : XfC K CE) (te : PySem.W.exmOne K (.ref CE) (.ref CE) = some true) (gK : mg "KnowError" = some (.ref CK)) (gT : mg "InvalidTalk" = some (.ref CT)) (kK : PySem.W.kitOne K (.ref CE) (.ref CK) = some true) (kT : PySem.W.kitOne K (.ref CE) (.ref CT) = some false) :
    FnOk P w K mg base CX0 (k + 5) f fd ["_law_people", "_law_goes", "_law_edges_here"] (spAns C) := by
  refine F.ok sc__law_answer (fun vs H Q E h => ?_) (fun cdv A outer s H vs Q E hr h => ?_)
  · obtain ⟨p, gv, ev, sp, go, eo, rfl, _⟩ := h
    rfl
  · obtain ⟨p, gv, ev, sp, go, eo, rfl, hp, hg, he, hn, zg, ze, no, yes⟩ := h
    have hr1 : Room (k + 4) _ := hr
    refine ⟨_, (pss_cons (ps_set (i := 3) sc__law_answer.nd rfl (by first | exact Or.inl rfl | exact Or.inr rfl) pe_str) (pss_cons (ps_try_as (i := 5) (Wout := fun _ _ _ _ => False) rfl rfl sc__law_answer.nd rfl rfl ⟨rfl, by decide, .inl XE.gC⟩ takes0 (fun W pn xe tk _ => (pss_cons (ps_set (i := 4) sc__law_answer.nd rfl (by first | exact Or.inl rfl | exact Or.inr rfl) (pe_makeS MK GL hr1 (by rfl) L.mgL bL .nil (fun σ => passAt tk σ) (pa_cons (pv 0) (pa_cons (pv 1) (pa_cons (pv 2) pa_nil)))))
  (pss_one (ps_set (i := 3) sc__law_answer.nd rfl (by first | exact Or.inl rfl | exact Or.inr rfl) (pe_ifExp (pt_cmpR op_eq (fldK (K := K) rfl (pv 4)) (pv 0) (nomark _)) (pe_tup (pa_cons (fldK (K := K) rfl (pv 4)) (pa_cons (fldK (K := K) rfl (pv 4)) pa_nil))) pe_str))))) (fun a oe cls d pn hz hf => (pss_one (ps_set (i := 3) sc__law_answer.nd rfl (Or.inl rfl) (pe_ifExp (PW.pt (pw_and (pt_val (pe_callB (call_isEd EC hz hf) (by rfl) T.m_isinstance (by decide +kernel) (pa_cons (pv 5) (pa_cons (pe_glob (v := .ref CK) (by rfl) gK rfl) pa_nil)))) (pw_and1 (pt_not (pt_val (pe_callB (call_isEd EC hz hf) (by rfl) T.m_isinstance (by decide +kernel) (pa_cons (pv 5) (pa_cons (pe_glob (v := .ref CT) (by rfl) gT rfl) pa_nil)))))))) (pe_xf XF XE.noN hz hf (pv 5)) pe_str))))) (pss_one (ps_ret (pv 3))))), ?_⟩
    refine ⟨_, rfl, _, rfl, _, rfl, fun x dx nx ndx nex => ?_⟩
    have su := made_up (o := .ins C dx []) nx ndx
    refine ⟨x, dx, p, gv, ev, sp, go, eo, rfl, upd_same, hp.same su, hg.same su, he.same su, hn, zg, ze, fun n gs es er H' ag ae xt hx hag hae => ⟨rfl, ?_⟩, fun word er d H' xt nd hd => ?_⟩
    · have sm := made_same (C := C) nx ndx xt
      obtain rfl := lineR_int er
      refine ⟨_, rfl, x, C, dx, _, _, rfl, hx, L.cl, L.nP, get_p _ _ _, _, rfl, rfl, _, rfl, ite2 (fun e => ?_) (fun e => (e (decide_eq_true rfl)).elim)⟩
      refine ⟨_, rfl, x, C, dx, _, _, rfl, hx, L.cl, L.nG, get_g _ _ _, _, rfl, x, C, dx, _, _, rfl, hx, L.cl, L.nE, get_e _ _ _, by show 2 ≤ sizeLine; decide, fun t nt => ?_⟩
      have st := same_new (o := .tup [.ref ag, .ref ae]) nt
      exact ⟨_, rfl, yes n gs es er t ag ae _ (sm.trans st) (sm.free nt) upd_same (st _ _ hag) (st _ _ hae)⟩
    · have sm := made_same (C := C) nx ndx xt
      refine ⟨true, te, fun _ a na => ?_, fun q => Bool.noConfusion q⟩
      refine ⟨_, rfl, _, _, _, d, _, rfl, rfl, .own CK, rfl, hd, kK, _, rfl, ?_⟩
      refine ⟨_, rfl, _, _, _, d, _, rfl, rfl, .own CT, rfl, hd, kT, _, rfl, ?_⟩
      refine ⟨_, rfl, rfl, rfl, d, _, .str word, rfl, hd, lookw _, _, rfl, ?_⟩
      exact no word er _ sm
end
end K30

set_option Elab.async false
set_option linter.all false
set_option maxRecDepth 100000
set_option maxHeartbeats 1000000
namespace K30
open PySem L2
local macro_rules | `(tactic| walk_at "seq") => `(tactic| first | assumption | exact SqL.of (by assumption) | exact SqT.of (by assumption) | exact SqL.of upd_same | exact SqT.of upd_same)
local macro_rules | `(tactic| walk_at "at") => `(tactic| first | exact atI_nat (j := 0) rfl | exact atI_nat (j := 1) rfl | exact atI_nat (j := 2) rfl | exact atI_nat (by assumption) | assumption)
local macro_rules | `(tactic| walk_at "ar") => `(tactic| first | omega | exact ⟨by omega, by omega⟩ | exact Or.inl ⟨by omega, by omega⟩ | exact Or.inr ⟨by omega, by omega⟩ | exact ⟨by decide, by decide⟩ | exact Or.inr ⟨by decide, by decide⟩ | exact Or.inl ⟨by decide, by decide⟩ | exact ⟨by decide, by decide, by omega⟩ | exact ⟨by decide, by decide, by decide⟩)
local macro_rules | `(tactic| walk_at "r") => `(tactic| repeat (first
  | refine ⟨_, rfl, ?_⟩
  | refine ⟨_, _, rfl, rfl, ?_⟩
  | refine ⟨_, _, _, _, rfl, rfl, by walk_at "seq", by walk_at "at", ?_⟩
  | refine ⟨_, _, _, _, rfl, rfl, by assumption, rfl, ?_⟩
  | refine ⟨_, _, rfl, Or.inl (by walk_at "seq"), ?_⟩
  | refine Or.inl ⟨_, rfl, ?_⟩
  | refine Or.inr ⟨_, rfl, ?_⟩
  | refine And.intro (by walk_at "ar") ?_))
theorem passF {X : Cx} {P : Program} {w : World} : Passes (L2.CX P w) X E0 := fun _ _ _ _ _ _ _ h => by
  obtain ⟨_, _, _, _, _, _, _, _, _, _, _, _, z⟩ := h
  exact z.elim
theorem lc_rangeC {lo c : Int} {n : Nat} {g : TG} {tt : TT} {te : TE} {vs : List Nat} {σ : L2.St} {H1 : Hp} {D : Addr} {Qd : Hp → Prop} (Pv : Nat → Hp → Prop) (h0 : Pv 0 (upd H1 D (.lst [])))
    (hs : ∀ i H, i < n → Pv i H → g (.int (lo + (i : Nat) * c)) (wipe σ vs) H fun σ2 H2 => wipe σ2 vs = wipe σ vs ∧ tt σ2 H2 fun b H3 =>
      if b = true then te σ2 H3 fun y H4 => ∃ acc, H4 D = some (.lst acc) ∧ acc.length < sizeLine ∧ Pv (i + 1) (upd H4 D (.lst (acc ++ [y]))) else Pv (i + 1) H3) (hd : ∀ H, Pv n H → Qd H) :
    ∃ W : Nat → Nat → Hp → Prop, (∃ m, W 0 m (upd H1 D (.lst []))) ∧ ∀ i m H, W i m H →
      ((Itc lo c n).stop i H ∧ Qd H) ∨ ((Itc lo c n).go i H ∧ ∃ Nx : Hp → Prop, (∀ H', Nx H' → ∃ m', m' < m ∧ W (i + 1) m' H') ∧ ∀ x H', (Itc lo c n).yld i H x H' → g x (wipe σ vs) H' fun σ2 H2 => wipe σ2 vs = wipe σ vs ∧ tt σ2 H2 fun b H3 =>
        if b = true then te σ2 H3 fun y H4 => ∃ acc, H4 D = some (.lst acc) ∧ acc.length < sizeLine ∧ Nx (upd H4 D (.lst (acc ++ [y]))) else Nx H3) := by
  refine ⟨fun i m H => m = n - i ∧ i ≤ n ∧ Pv i H, ⟨n, by simp, Nat.zero_le _, h0⟩, fun i m H h => ?_⟩
  obtain ⟨rfl, hi, p⟩ := h
  by_cases hn : i < n
  · refine .inr ⟨hn, Pv (i + 1), fun H' q => ⟨n - (i + 1), by omega, rfl, by omega, q⟩, fun x H' y => ?_⟩
    obtain ⟨rfl, rfl⟩ := y
    exact hs i H' hn p
  · have e : i = n := by omega
    subst e
    exact .inl ⟨Nat.le_refl _, hd H p⟩
/-- a value as it is drawn for goes or edges -/
def Drawn (K : PySem.W.Frag) (C : Addr) (H : Hp) (v : V) : Prop := ∃ o, Arg C H v o ∧ ∀ xs, o = some xs → xs.length ≤ 1000 ∧ ∀ x ∈ xs, Dat1 K H x
theorem Drawn.same {K : PySem.W.Frag} {C : Addr} {H H' : Hp} {v : V} (e : Same H H') (h : Drawn K C H v) : Drawn K C H' v := by
  obtain ⟨o, h1, h2⟩ := h
  exact ⟨o, h1.same e, fun xs q => ⟨(h2 xs q).1, fun x hx => ((h2 xs q).2 x hx).same e⟩⟩
/-- drawn, and not touched by the box -/
def DrawnS (K : PySem.W.Frag) (C b : Addr) (H : Hp) (v : V) : Prop := ∀ H', Xt b H H' → Drawn K C H' v
theorem DrawnS.now {K : PySem.W.Frag} {C b : Addr} {H : Hp} {v : V} (h : DrawnS K C b H v) : Drawn K C H v := h H fun _ _ _ e => e
theorem DrawnS.xt {K : PySem.W.Frag} {C b : Addr} {H H' : Hp} {v : V} (h : DrawnS K C b H v) (x : Xt b H H') : DrawnS K C b H' v := fun H2 y => h H2 (x.trans y)
theorem dat_int (K : PySem.W.Frag) (H : Hp) (i : Int) : Dat1 K H (.int i) := ⟨.int i, .int i, rfl, Nat.zero_le _⟩
theorem drawn_ints {K : PySem.W.Frag} {C a : Addr} {H : Hp} {ns : List Int} (h : H a = some (.lst (ns.map V.int)) ∨ H a = some (.tup (ns.map V.int))) (hl : ns.length ≤ 1000) : Drawn K C H (.ref a) := by
  have it : ∀ x ∈ ns.map V.int, ∃ s, Sk C H x s := fun x hx => by
    obtain ⟨z, _, rfl⟩ := List.mem_map.mp hx
    exact ⟨_, .int z⟩
  have fin : ∀ xs, some (ns.map V.int) = some xs → xs.length ≤ 1000 ∧ ∀ x ∈ xs, Dat1 K H x := fun xs e => by
    cases e
    refine ⟨by rw [List.length_map]; exact hl, fun x hx => ?_⟩
    obtain ⟨z, _, rfl⟩ := List.mem_map.mp hx
    exact dat_int K H z
  rcases h with h | h
  · exact ⟨_, .lst h it, fin⟩
  · exact ⟨_, .tup h it, fin⟩
theorem drawn_atom {K : PySem.W.Frag} {C : Addr} {H : Hp} {v : V} {s : Srt} (h : Sk C H v s) (n : (s == .lst || s == .tup) = false) : Drawn K C H v := ⟨none, .atom h n, fun xs e => by cases e⟩
theorem drawn_one {K : PySem.W.Frag} {C a : Addr} {H : Hp} {v : V} {s : Srt} (h : H a = some (.lst [v])) (hs : Sk C H v s) (hd : Dat1 K H v) : Drawn K C H (.ref a) :=
  ⟨some [v], .lst h fun x hx => by rw [List.mem_singleton.mp hx]; exact ⟨s, hs⟩, fun xs e => by
    cases e
    exact ⟨by show 1 ≤ 1000; decide, fun x hx => by rw [List.mem_singleton.mp hx]; exact hd⟩⟩
def spSome (K : PySem.W.Frag) (C : Addr) : Sp := fun vs H Q _ => ∃ (b : Addr) (lo hi : Int), vs = [.ref b, .int lo, .int hi] ∧ BoxAt H b ∧ 0 ≤ lo ∧ lo ≤ 1 ∧ 0 ≤ hi ∧ hi ≤ 10 ∧
  ∀ (v : V) (H' : Hp), Xt b H H' → BoxAt H' b → DrawnS K C b H' v → Q v H'
theorem line2 : lineR (.int 2) .non none .non none = .inr (2, [0, 1, 2], [1, 2]) := by rfl
theorem box_ne {H : Hp} {b p : Addr} (h : BoxAt H b) (n : H p = none) : p ≠ b := fun e => by
  obtain ⟨i, j, z, _⟩ := h
  rw [e, z] at n
  cases n
section
variable {P : Program} {w : World} {K : PySem.W.Frag} {mg : Str → Option Value} {base : Heap} {C CE CK CT fE : Addr}
theorem sc__law_some : FnScope ["_law_box", "_law_low", "_law_high", "_law_found", "_law_k"] ["_law_box", "_law_low", "_law_high"] (defScope (topS 22)) := ⟨rfl, rfl, rfl, by decide +kernel, rfl, by decide +kernel, by decide +kernel⟩
theorem ok_some {f fL fT fP : Addr} {fd fdL fdT fdP : FuncData} {k : Nat} {ds2 : List Value} (F : Fun K "_law_some" "_law_some" (topS 22) f fd) (T : Bt mg) (L : LineC K mg C)
    (FT : Fun K "_law_take" "_law_take" (topS 20) fT fdT) (bT : Binds K fdT ["_law_box", "_law_many"] []) (gT : mg "_law_take" = some (.ref fT))
    (FP : Fun K "_law_pick" "_law_pick" (topS 21) fP fdP) (bP : Binds K fdP ["_law_box", "_law_some_here"] []) (gP : mg "_law_pick" = some (.ref fP))
    (GL : FnOk P w K mg base (L2.CX P w) (k + 3) fL fdL ["self", "people", "goes", "edges"] (spInit C CE)) (bL2 : Binds K fdL ["self", "people", "goes", "edges"] ds2) (vL2 : Vals [.non, .non] ds2) (MK : Mk K C fL) :
    FnOk P w K mg base CX0 (k + 5) f fd ["_law_box", "_law_low", "_law_high"] (spSome K C) := by
  have GT : FnOk P w K mg base CX0 (k + 4) fT fdT ["_law_box", "_law_many"] spTake := ok_take FT T
  have GP : FnOk P w K mg base CX0 (k + 4) fP fdP ["_law_box", "_law_some_here"] (spPick K) := ok_pick FP T FT bT gT
  refine F.ok sc__law_some (fun vs H Q E h => ?_) (fun cdv A outer s H vs Q E hr h => ?_)
  · obtain ⟨b, lo, hi, rfl, _⟩ := h
    rfl
  · obtain ⟨b, lo, hi, rfl, hb, l0, l1, h0, h1, q⟩ := h
    refine ⟨_, (pss_cons (ps_setLc (i := 3) (own := [("_law_k", 4)]) (g := gName 4) (tt := tYes) rfl sc__law_some.nd rfl rfl (sw_true rfl rfl rfl (by decide +kernel)) (pi_range1 (by rfl) T.m_range (pa_cons (pe_call GT hr (by rfl) gT FT.kp bT .nil pass0 (pa_cons (pv 0) (pa_cons (pe_op op_add (pv 2) pe_int) pa_nil))) pa_nil)) (blkOk_by (own := [("_law_k", 4)]) (N := ["_law_box", "_law_low", "_law_high", "_law_found", "_law_k"]) (sc := defScope (topS 22)) (by decide +kernel)) (fun _ _ _ _ _ => (pg_name (i := 4) sc__law_some.nd rfl (by first | exact Or.inl rfl | exact Or.inr rfl))) (fun _ _ _ _ _ => pts_nil) (fun _ _ _ _ _ => (pe_op op_add (pv 1) (pe_call GT hr (by rfl) gT FT.kp bT .nil pass0 (pa_cons (pv 0) (pa_cons (pe_op op_add (pe_op op_sub (pv 2) (pv 1)) pe_int) pa_nil))))))
  (pss_cons (ps_if (pt_cmpR op_eq (pe_call GT hr (by rfl) gT FT.kp bT .nil pass0 (pa_cons (pv 0) (pa_cons pe_int pa_nil))) pe_int (nomark _)) (pss_one (ps_ret (pe_call GP hr (by rfl) gP FP.kp bP .nil pass0 (pa_cons (pv 0) (pa_cons (pe_lst (pa_cons pe_non (pa_cons pe_non (pa_cons pe_str (pa_cons pe_int (pa_cons (pe_lst (pa_cons pe_non pa_nil)) (pa_cons (pe_lst (pa_cons pe_bl pa_nil)) (pa_cons (pe_lst (pa_cons (pe_tup (pa_cons pe_int pa_nil)) pa_nil)) (pa_cons (pe_lst (pa_cons (pe_op op_sub pe_int pe_int) pa_nil)) (pa_cons (pe_make MK GL hr (by rfl) L.mgL bL2 vL2 passF (pa_cons pe_int pa_nil)) pa_nil)))))))))) pa_nil))))) pss_nil)
  (pss_one (ps_ret (pe_ifExp (pt_cmpR op_eq (pe_call GT hr (by rfl) gT FT.kp bT .nil pass0 (pa_cons (pv 0) (pa_cons pe_int pa_nil))) pe_int (nomark _)) (pe_callTy (tupK (K := K) rfl) (by rfl) T.m_tuple (by decide +kernel) (pa_cons (pv 3) pa_nil)) (pv 3)))))), ?_⟩
    walk_at "r"
    refine ⟨b, hi + 3, rfl, hb, by omega, by omega, fun m H1 m0 m1 x1 hb1 => ?_⟩
    refine ⟨m, rfl, by omega, by omega, fun D nD => lc_range (fun i H2 => ∃ ns : List Int, ns.length = i ∧ Xt b H1 H2 ∧ BoxAt H2 b ∧ H2 D = some (.lst (ns.map V.int))) ⟨[], rfl, Xt.of (same_new nD), hb1.same (same_new nD), upd_same⟩ (fun i H2 hi' hP => ?_) (fun H2 hP => ?_)⟩
    · obtain ⟨ns, hl, x2, hb2, hD⟩ := hP
      refine ⟨rfl, ?_⟩
      refine ⟨_, rfl, _, rfl, _, rfl, _, rfl, _, _, rfl, rfl, _, _, rfl, rfl, b, hi - lo + 2, rfl, hb2, by omega, by omega, fun r H3 r0 r1 x3 hb3 => ?_⟩
      have nDb : D ≠ b := box_ne hb1 nD
      refine ⟨_, _, rfl, rfl, _, x3 _ _ nDb hD, by rw [List.length_map]; exact small1000 (by omega), ns ++ [lo + r], by simp [hl], ?_, ?_, ?_⟩
      · intro a o n e
        by_cases z : a = D
        · subst z; rw [nD] at e; cases e
        · rw [upd_ne z]; exact x3 _ _ n (x2 _ _ n e)
      · obtain ⟨i', j', e', r'⟩ := hb3
        exact ⟨i', j', by rw [upd_ne (Ne.symm nDb)]; exact e', r'⟩
      · rw [upd_same, List.map_append]; rfl
    obtain ⟨ns, hl, x2, hb2, hD⟩ := hP
    have x02 := x1.trans x2
    have nDb : D ≠ b := box_ne hb1 nD
    have okl : ∀ v : V, [v].length ≤ sizeLine := fun v => by show 1 ≤ sizeLine; decide
    refine ⟨_, rfl, b, 7, rfl, hb2, by omega, by omega, fun r H3 r0 r1 x3 hb3 => ⟨rfl, _, rfl, ite2 (fun e => ?_) (fun e => ?_)⟩⟩
    · refine ⟨_, rfl, okl _, fun p1 n1 => ⟨okl _, fun p2 n2 => ⟨okl _, fun p3 n3 => ⟨okl _, fun p4 n4 => ⟨_, _, rfl, rfl, okl _, fun p5 n5 => ?_⟩⟩⟩⟩⟩
      have s1 := same_new (o := .lst [.non]) n1
      have s2 := same_new (o := .lst [.bl true]) n2
      have s3 := same_new (o := .tup [.int 1]) n3
      have s4 := same_new (o := .lst [.ref p3]) n4
      have s5 := same_new (o := .lst [.int (0 - 1)]) n5
      have g1 := s5 _ _ (s4 _ _ (s3 _ _ (s2 _ _ (upd_same (H := H3) (a := p1) (o := .lst [.non])))))
      have g2 := s5 _ _ (s4 _ _ (s3 _ _ (upd_same (H := upd H3 p1 (.lst [.non])) (a := p2) (o := .lst [.bl true]))))
      have g3 := s5 _ _ (s4 _ _ (upd_same (H := upd (upd H3 p1 (.lst [.non])) p2 (.lst [.bl true])) (a := p3) (o := .tup [.int 1])))
      have g4 := s5 _ _ (upd_same (H := upd (upd (upd H3 p1 (.lst [.non])) p2 (.lst [.bl true])) p3 (.tup [.int 1])) (a := p4) (o := .lst [.ref p3]))
      have g5 := upd_same (H := upd (upd (upd (upd H3 p1 (.lst [.non])) p2 (.lst [.bl true])) p3 (.tup [.int 1])) p4 (.lst [.ref p3])) (a := p5) (o := .lst [.int (0 - 1)])
      have s35 : Same H3 _ := (((s1.trans s2).trans s3).trans s4).trans s5
      generalize upd (upd (upd (upd (upd H3 p1 (.lst [.non])) p2 (.lst [.bl true])) p3 (.tup [.int 1])) p4 (.lst [.ref p3])) p5 (.lst [.int (0 - 1)]) = H4 at g1 g2 g3 g4 g5 s35 ⊢
      intro x dx nx ndx nex
      have su := made_up (o := .ins C dx []) nx ndx
      refine ⟨x, dx, .int 2, .non, .non, .int, none, none, rfl, upd_same, .int 2, .atom .non rfl, .atom .non rfl, fun n e => by cases e; decide, fun xs e => (by cases e), fun xs e => (by cases e), fun n gs es er H5 ag ae xt hx hag hae => ⟨rfl, ?_⟩, fun word er => ?_⟩
      · have sm := made_same (C := C) nx ndx xt
        refine ⟨by show 9 ≤ sizeLine; decide, fun p6 n6 => ?_⟩
        have s6 := same_new (o := .lst [.non, .non, .str "12", .int 3, .ref p1, .ref p2, .ref p4, .ref p5, .ref x]) n6
        have hb6 := ((hb3.same s35).same sm).same s6
        have nb6 : p6 ≠ b := box_ne ((hb3.same s35).same sm) n6
        refine ⟨b, p6, _, rfl, hb6, SqL.of upd_same, Ne.symm nb6, by show 0 < 9; decide, by show 9 < 1000; decide, fun v H' hv xt' hb' => ?_⟩
        have X6 : Xt b H _ := (x02.trans x3).trans (Xt.of ((s35.trans sm).trans s6))
        refine q v H' (X6.trans xt') hb' (fun H2 y2 => ?_)
        have up : ∀ a o, a ≠ b → H4 a = some o → H2 a = some o := fun a o n h => y2 _ _ n (xt' _ _ n (s6 _ _ (sm _ _ h)))
        have hb4 := hb3.same s35
        have nbo : ∀ a, ∀ o : HO, H4 a = some o → (∀ i j : Int, o ≠ .lst [.int i, .int j]) → a ≠ b := fun a o h n z => by
          obtain ⟨i, j, z1, _⟩ := hb4
          rw [z, z1] at h
          exact n i j (Option.some.inj h).symm
        have k1 := up _ _ (nbo p1 _ g1 (by intro i j z; cases z)) g1
        have k2 := up _ _ (nbo p2 _ g2 (by intro i j z; cases z)) g2
        have k3 := up _ _ (nbo p3 _ g3 (by intro i j z; cases z)) g3
        have k4 := up _ _ (nbo p4 _ g4 (by intro i j z; cases z)) g4
        have k5 := up _ _ (nbo p5 _ g5 (by intro i j z; cases z)) g5
        have kx : H2 x = some (.ins C dx (fl3 (.int n) (.ref ag) (.ref ae))) := by
          have nz : x ≠ b := ?_
          exact y2 _ _ nz (xt' _ _ nz (s6 _ _ hx))
          intro z
          obtain ⟨i, j, z1, _⟩ := (hb3.same s35).same sm
          rw [z, z1] at hx
          cases hx
        simp only [List.mem_cons, List.not_mem_nil, or_false] at hv
        rcases hv with rfl | rfl | rfl | rfl | rfl | rfl | rfl | rfl | rfl
        · exact drawn_atom .non rfl
        · exact drawn_atom .non rfl
        · exact drawn_atom (.str _) rfl
        · exact drawn_atom (.int _) rfl
        · exact drawn_one k1 .non ⟨.none, .non, rfl, Nat.zero_le _⟩
        · exact drawn_one k2 (.bl _) ⟨.bool true, .bl true, rfl, Nat.zero_le _⟩
        · exact drawn_one k4 (.tup k3) ⟨.tuple [.int 1], .tup (SqT.of k3) (.cons (.int 1) .nil), rfl, by decide +kernel⟩
        · exact drawn_one k5 (.int _) (dat_int K H2 _)
        · exact drawn_atom (.line kx) rfl
      · rw [line2] at er
        cases er
    · refine ⟨_, rfl, b, 2, rfl, hb3, by omega, by omega, fun r2 H4 r20 r21 x4 hb4 => ⟨rfl, _, rfl, ite2 (fun e2 => ?_) (fun e2 => ?_)⟩⟩
      · refine ⟨_, rfl, D, _, rfl, .inl ⟨SqL.of (x4 _ _ nDb (x3 _ _ nDb hD)), fun p np => ?_⟩⟩
        exact q _ _ (((x02.trans x3).trans x4).trans (Xt.of (same_new np))) (hb4.same (same_new np)) (fun H2 y2 => drawn_ints (.inr (y2 _ _ (box_ne hb4 np) upd_same)) (by omega))
      · exact ⟨_, rfl, q _ _ ((x02.trans x3).trans x4) hb4 (fun H2 y2 => drawn_ints (.inl (y2 _ _ nDb (x4 _ _ nDb (x3 _ _ nDb hD)))) (by omega))⟩

def spEdges (K : PySem.W.Frag) (C : Addr) : Sp := fun vs H Q _ => ∃ (b : Addr) (n : Int) (gv : V), vs = [.ref b, .int n, gv] ∧ BoxAt H b ∧ 0 ≤ n ∧ n ≤ 10 ∧ DrawnS K C b H gv ∧
  ∀ (v : V) (H' : Hp), Xt b H H' → BoxAt H' b → DrawnS K C b H' v → Q v H'
theorem sc__law_edges : FnScope ["_law_box", "_law_size", "_law_goes", "_law_known_goes", "_law_k"] ["_law_box", "_law_size", "_law_goes"] (defScope (topS 26)) := ⟨rfl, rfl, rfl, by decide +kernel, rfl, by decide +kernel, by decide +kernel⟩
theorem ok_edges {f fL fT fP fS fG : Addr} {fd fdL fdT fdP fdS fdG : FuncData} {k : Nat} {ds2 : List Value} (F : Fun K "_law_edges" "_law_edges" (topS 26) f fd) (T : Bt mg) (L : LineC K mg C)
    (FT : Fun K "_law_take" "_law_take" (topS 20) fT fdT) (bT : Binds K fdT ["_law_box", "_law_many"] []) (gT : mg "_law_take" = some (.ref fT))
    (FS : Fun K "_law_some" "_law_some" (topS 22) fS fdS) (bS : Binds K fdS ["_law_box", "_law_low", "_law_high"] []) (gS : mg "_law_some" = some (.ref fS))
    (FG : Fun K "_law_is_good" "_law_is_good" (topS 24) fG fdG) (bG : Binds K fdG ["_law_value", "_law_low", "_law_high"] []) (gG : mg "_law_is_good" = some (.ref fG))
    (GS : FnOk P w K mg base CX0 (k + 5) fS fdS ["_law_box", "_law_low", "_law_high"] (spSome K C)) :
    FnOk P w K mg base CX0 (k + 6) f fd ["_law_box", "_law_size", "_law_goes"] (spEdges K C) := by
  have GT : FnOk P w K mg base CX0 (k + 5) fT fdT ["_law_box", "_law_many"] spTake := ok_take FT T
  have GG : FnOk P w K mg base CX0 (k + 5) fG fdG ["_law_value", "_law_low", "_law_high"] (spGood K C) := ok_good FG T L
  refine F.ok sc__law_edges (fun vs H Q E h => ?_) (fun cdv A outer s H vs Q E hr h => ?_)
  · obtain ⟨b, n, gv, rfl, _⟩ := h
    rfl
  · obtain ⟨b, n, gv, rfl, hb, n0, n1, hg, q⟩ := h
    refine ⟨_, (pss_cons (ps_if (pt_cmpR op_eq (pe_call GT hr (by rfl) gT FT.kp bT .nil pass0 (pa_cons (pv 0) (pa_cons pe_int pa_nil))) pe_int (nomark _)) (pss_one (ps_ret (pe_call GS hr (by rfl) gS FS.kp bS .nil pass0 (pa_cons (pv 0) (pa_cons pe_int (pa_cons (pv 1) pa_nil)))))) pss_nil)
  (pss_cons (ps_set (i := 3) sc__law_edges.nd rfl (by first | exact Or.inl rfl | exact Or.inr rfl) (pe_ifExp (PW.pt (pw_or (pt_cmpR op_isN (pv 2) pe_non (nomark _)) (pw_or1 (pt_not (pt_val (pe_call GG hr (by rfl) gG FG.kp bG .nil pass0 (pa_cons (pv 2) (pa_cons pe_int (pa_cons (pv 1) pa_nil))))))))) (pe_listRg rfl (by rfl) T.m_list (prg_1 (by rfl) T.m_range (pe_op op_add (pv 1) pe_int))) (pe_callTy (lstK (K := K) rfl) (by rfl) T.m_list (by decide +kernel) (pa_cons (pv 2) pa_nil))))
  (pss_one (ps_ret (pe_lc (own := [("_law_k", 4)]) (g := gName 4) rfl sc__law_edges.nd (pi_range3 (by rfl) T.m_range (pa_cons (pv 1) (pa_cons pe_int (pa_cons (pe_op op_sub pe_int pe_int) pa_nil)))) (blkOk_by (own := [("_law_k", 4)]) (N := ["_law_box", "_law_size", "_law_goes", "_law_known_goes", "_law_k"]) (sc := defScope (topS 26)) (by decide +kernel)) (fun _ _ _ _ _ => (pg_name (i := 4) sc__law_edges.nd rfl (by first | exact Or.inl rfl | exact Or.inr rfl))) (fun _ _ _ _ _ => (pts_one (PW.pt (pw_and (pt_cmpR (inK (K := K) rfl) (pv 4) (pv 3) (by rfl)) (pw_and (pt_cmpR (inK (K := K) rfl) (pe_op op_sub (pv 4) pe_int) (pv 3) (by rfl)) (pw_and1 (pt_cmpR op_gt (pe_call GT hr (by rfl) gT FT.kp bT .nil pass0 (pa_cons (pv 0) (pa_cons pe_int pa_nil))) pe_int (nomark _)))))))) (fun _ _ _ _ _ => (pv 4))))))), ?_⟩
    refine ⟨_, rfl, b, 3, rfl, hb, by omega, by omega, fun r H1 r0 r1 x1 hb1 => ⟨rfl, _, rfl, ite2 (fun e => ?_) (fun e => ?_)⟩⟩
    · exact ⟨_, rfl, _, rfl, b, 1, n, rfl, hb1, by omega, by omega, by omega, by omega, fun v H2 x2 hb2 d2 => q v H2 (x1.trans x2) hb2 d2⟩
    obtain ⟨o, ag, dg⟩ := (hg.xt x1).now
    dsimp only [tNext, tSeq, tAsg]
    refine via (fun y H2 => ∃ (kn : List V) (ak : Addr), y = .ref ak ∧ kn.all flatV = true ∧ Xt b H1 H2 ∧ BoxAt H2 b ∧ ak ≠ b ∧ H2 ak = some (.lst kn)) (fun y H2 hy => ?_) (fun Q' k' => ?_)
    rotate_left
    · have upw : ∀ H2, Same H1 H2 → tLstRg (tRg1 (tOp (rI0 fun i j => V.int (i + j)) (tVar 1) (tC (V.int 1)))) (L2.start ["_law_box", "_law_size", "_law_goes", "_law_known_goes", "_law_k"] [V.ref b, V.int n, gv]) H2 Q' := fun H2 s2 => by
        refine ⟨_, rfl, _, _, rfl, rfl, n + 1, rfl, RgOk.of_le (by omega) (by omega) (by omega) (by omega), fun aw naw => ?_⟩
        refine k' _ _ ⟨_, aw, rfl, ?_, Xt.of (s2.trans (same_new naw)), (hb1.same s2).same (same_new naw), box_ne (hb1.same s2) naw, upd_same⟩
        rw [upTo_v]
        exact flat_ints _
      refine ⟨_, rfl, rfl, _, rfl, ?_⟩
      by_cases hgv : gv = .non
      · rw [decide_eq_true hgv]
        exact iteT (iteT (upw H1 fun _ _ q => q))
      · rw [decide_eq_false hgv]
        refine iteF ⟨_, rfl, _, rfl, gv, o, 0, n, rfl, ag, dg, fun H2 s2 => ⟨_, rfl, ?_⟩⟩
        cases hgd : goodO 0 n o with
        | false => exact iteT (upw H2 s2)
        | true =>
          obtain ⟨xs, rfl⟩ : ∃ xs, o = some xs := by
            cases o with
            | none => cases hgd
            | some xs => exact ⟨xs, rfl⟩
          have sq : ∃ a, gv = .ref a ∧ (SqL K H2 a xs ∨ SqT K H2 a xs) := by
            cases ag with
            | lst h it => exact ⟨_, rfl, .inl (SqL.of (s2 _ _ h))⟩
            | tup h it => exact ⟨_, rfl, .inr (SqT.of (s2 _ _ h))⟩
          obtain ⟨a, rfl, hsq⟩ := sq
          refine iteF ⟨_, rfl, a, xs, rfl, hsq, fun l nl => ?_⟩
          exact k' _ _ ⟨_, l, rfl, good_flat hgd, Xt.of (s2.trans (same_new nl)), (hb1.same s2).same (same_new nl), box_ne (hb1.same s2) nl, upd_same⟩
    obtain ⟨kn, ak, rfl, kf, x2, hb2, nak, hak⟩ := hy
    have x02 := x1.trans x2
    refine ⟨_, rfl, _, _, rfl, rfl, n, 0, -1, (n - 0).toNat, rfl, RgC.neg (by omega) (by omega) (by omega) (by omega), fun D nD => ?_⟩
    have nDb : D ≠ b := box_ne hb2 nD
    have nDk : D ≠ ak := fun z => by rw [z, hak] at nD; cases nD
    refine lc_rangeC (fun i H3 => ∃ ns : List Int, ns.length ≤ i ∧ Xt b H2 H3 ∧ BoxAt H3 b ∧ H3 D = some (.lst (ns.map V.int))) ⟨[], Nat.le_refl _, Xt.of (same_new nD), hb2.same (same_new nD), upd_same⟩ (fun i H3 hi hP => ?_) (fun H3 hP => ?_)
    · obtain ⟨ns, hl, x3, hb3, hD⟩ := hP
      refine ⟨rfl, ?_⟩
      have hk3 := x3 _ _ nak hak
      refine ⟨_, rfl, _, rfl, ak, kn, rfl, .inl (SqL.of hk3), rfl, kf, _, rfl, ite2 (fun e1 => ?_) (fun e1 => ⟨ns, by omega, x3, hb3, hD⟩)⟩
      refine ⟨_, rfl, _, _, rfl, rfl, _, rfl, ak, kn, rfl, .inl (SqL.of hk3), rfl, kf, _, rfl, ite2 (fun e2 => ?_) (fun e2 => ⟨ns, by omega, x3, hb3, hD⟩)⟩
      refine ⟨_, rfl, b, 3, rfl, hb3, by omega, by omega, fun r2 H4 r20 r21 x4 hb4 => ⟨_, _, rfl, rfl, _, rfl, ite2 (fun e3 => ?_) (fun e3 => ⟨ns, by omega, x3.trans x4, hb4, x4 _ _ nDb hD⟩)⟩⟩
      refine ⟨_, rfl, _, x4 _ _ nDb hD, by rw [List.length_map]; exact small1000 (by omega), ns ++ [n + (i : Int) * (-1)], by rw [List.length_append]; show ns.length + 1 ≤ i + 1; omega, ?_, ?_, ?_⟩
      · intro a o n e
        by_cases z : a = D
        · subst z; rw [nD] at e; cases e
        · rw [upd_ne z]; exact x4 _ _ n (x3 _ _ n e)
      · obtain ⟨i', j', e', r'⟩ := hb4
        exact ⟨i', j', by rw [upd_ne (Ne.symm nDb)]; exact e', r'⟩
      · rw [upd_same, List.map_append]; rfl
    · obtain ⟨ns, hl, x3, hb3, hD⟩ := hP
      exact q _ _ (x02.trans x3) hb3 (fun H4 y4 => drawn_ints (.inl (y4 _ _ nDb hD)) (by omega))
end
end K30

set_option Elab.async false
set_option linter.all false
set_option maxRecDepth 100000
set_option maxHeartbeats 1000000
namespace K30
open PySem L2
/-! ### what a made Line holds, and how it is shown -/
theorem sel_mem {lo : Int} {n : Nat} {xs : List V} {z : Int} (h : z ∈ sel lo n xs) : lo ≤ z ∧ z < lo + n := by
  unfold sel at h
  obtain ⟨i, hi, e⟩ := List.mem_filterMap.mp h
  have := List.mem_range.mp hi
  split at e
  · cases e; omega
  · cases e
theorem some_mem {n : Int} {gs : List Int} {z : Int} (h : z ∈ someL n gs) : 1 ≤ z ∧ z ≤ n := by
  unfold someL at h
  obtain ⟨i, hi, e⟩ := List.mem_filterMap.mp h
  have := List.mem_range.mp hi
  split at e
  · cases e; omega
  · cases e
theorem up_mem {n z : Int} (h : z ∈ upTo n) : 0 ≤ z ∧ z ≤ n := by
  unfold upTo at h
  obtain ⟨i, hi, e⟩ := List.mem_map.mp h
  have := List.mem_range.mp hi
  omega
def Fine (ns : List Int) : Prop := ns.length ≤ 1000 ∧ ∀ z ∈ ns, z.natAbs ≤ 1000
theorem lineR_fine {p gv : V} {go : Option (List V)} {ev : V} {eo : Option (List V)} {n : Int} {gs es : List Int} (h : lineR p gv go ev eo = .inr (n, gs, es)) (hn : ∀ m, p = .int m → m ≤ 100) : p = .int n ∧ 0 ≤ n ∧ n ≤ 100 ∧ Fine gs ∧ Fine es := by
  cases p <;> first | (cases h; done) | skip
  rename_i m
  have hm := hn m rfl
  have h' : (if 0 ≤ m then (match goesL m gv go with
    | none => Sum.inl ("goes" : Str)
    | some gs => match edgesL m gs ev eo with
      | none => .inl "edges"
      | some es => if es.all (fun e => memI e (someL m gs)) = true then .inr (m, gs, es) else .inl "edges")
    else Sum.inl ("people" : Str)) = .inr (n, gs, es) := h
  split at h'
  · rename_i h0
    split at h'
    · cases h'
    · rename_i gs' eg
      split at h'
      · cases h'
      · rename_i es' ee
        split at h'
        · cases h'
          refine ⟨rfl, h0, hm, ?_, ?_⟩
          · unfold goesL at eg
            split at eg
            · cases eg
              refine ⟨by unfold upTo; simp; omega, fun z hz => ?_⟩
              have := up_mem hz
              omega
            · split at eg
              · cases go with
                | none => cases eg
                | some xs =>
                  cases eg
                  refine ⟨Nat.le_trans (sel_len _ _ _) (by omega), fun z hz => ?_⟩
                  have := sel_mem hz
                  omega
              · cases eg
          · refine ⟨Nat.le_trans (edges_len ee) (by omega), fun z hz => ?_⟩
            unfold edgesL at ee
            split at ee
            · cases ee
              have := some_mem hz
              omega
            · split at ee
              · cases eo with
                | none => cases ee
                | some xs =>
                  cases ee
                  have := sel_mem hz
                  omega
              · cases ee
        · cases h'
  · cases h'
theorem lineR_word {p gv : V} {go : Option (List V)} {ev : V} {eo : Option (List V)} {word : Str} (h : lineR p gv go ev eo = .inl word) : word = "people" ∨ word = "goes" ∨ word = "edges" := by
  cases p <;> first | (cases h; exact .inl rfl) | skip
  rename_i m
  have h' : (if 0 ≤ m then (match goesL m gv go with
    | none => Sum.inl ("goes" : Str)
    | some gs => match edgesL m gs ev eo with
      | none => .inl "edges"
      | some es => if es.all (fun e => memI e (someL m gs)) = true then .inr (m, gs, es) else .inl "edges")
    else Sum.inl ("people" : Str)) = .inl word := h
  split at h'
  · split at h'
    · cases h'; exact .inr (.inl rfl)
    · split at h'
      · cases h'; exact .inr (.inr rfl)
      · split at h'
        · cases h'
        · cases h'; exact .inr (.inr rfl)
  · cases h'; exact .inl rfl
/-- data that repr takes -/
def Shows (d : PyData) : Prop := d.showable = true ∧ d.hasDict = false ∧ d.depth ≤ 40 ∧ d.shown.length ≤ sizeLine
theorem shows_word {word : Str} (h : word = "people" ∨ word = "goes" ∨ word = "edges") : Shows (.str word) := by
  rcases h with rfl | rfl | rfl <;> exact ⟨rfl, rfl, by decide +kernel, by decide +kernel⟩
theorem weight_ints : ∀ ns : List Int, (∀ z ∈ ns, z.natAbs ≤ 1000) → PyData.weightAll (ns.map PyData.int) ≤ 20 * ns.length
  | [], _ => Nat.le_refl _
  | n :: r, h => by
    have h1 := weight_ints r fun z hz => h z (List.mem_cons_of_mem _ hz)
    have h2 := h n (List.mem_cons_self ..)
    have h3 : (PyData.int n).weight ≤ 12 := by
      show (if n == 0 then 0 else n.natAbs.log2 + 1) ≤ 12
      split
      · exact Nat.zero_le _
      · rename_i z
        have nz : n.natAbs ≠ 0 := fun e => z (by have : n = 0 := by omega
                                                 subst this; rfl)
        have : n.natAbs.log2 < 11 := (Nat.log2_lt nz).mpr (by omega)
        omega
    show (PyData.int n).weight + 1 + PyData.weightAll (r.map PyData.int) ≤ 20 * (r.length + 1)
    omega
theorem shows_pair {gs es : List Int} (hg : Fine gs) (he : Fine es) : Shows (.tuple [tI gs, tI es]) := by
  refine ⟨?_, ?_, ?_, ?_⟩
  · show (PyData.showableAll (gs.map PyData.int) && (PyData.showableAll (es.map PyData.int) && true)) = true
    rw [show_ints gs fun n hn => Nat.le_trans (hg.2 n hn) (by decide), show_ints es fun n hn => Nat.le_trans (he.2 n hn) (by decide)]
    rfl
  · show (PyData.hasDict (tI gs) || (PyData.hasDict (tI es) || false)) = false
    rw [noDict_tI, noDict_tI]
    rfl
  · show max (tI gs).depth (max (tI es).depth 0) + 1 ≤ 40
    rw [depth_tI, depth_tI]
    decide
  · refine PyData.shown_fits_of_layable0 (B := 13) (by decide) (by decide) ?_ ?_
    · show (PyData.canLay0 (.tuple [tI gs, tI es]) && decide (PyData.depth (.tuple [tI gs, tI es]) ≤ 64) && decide (PyData.weight (.tuple [tI gs, tI es]) ≤ 2 ^ 20)) = true
      have e1 : PyData.canLay0 (.tuple [tI gs, tI es]) = true := by
        show (PyData.canLayAll0 (gs.map PyData.int) && (PyData.canLayAll0 (es.map PyData.int) && true)) = true
        rw [lay_ints, lay_ints]; rfl
      have e2 : PyData.depth (.tuple [tI gs, tI es]) ≤ 64 := by
        show max (tI gs).depth (max (tI es).depth 0) + 1 ≤ 64
        rw [depth_tI, depth_tI]; decide
      have e3 : PyData.weight (.tuple [tI gs, tI es]) ≤ 2 ^ 20 := by
        have w1 := weight_ints gs hg.2
        have w2 := weight_ints es he.2
        have l1 := hg.1
        have l2 := he.1
        show PyData.weightAll (gs.map PyData.int) + 1 + (PyData.weightAll (es.map PyData.int) + 1 + 0) ≤ 2 ^ 20
        have : (2 : Nat) ^ 20 = 1048576 := by decide
        omega
      rw [e1, decide_eq_true e2, decide_eq_true e3]; rfl
    · show (PyData.intsShortAll 13 (gs.map PyData.int) && (PyData.intsShortAll 13 (es.map PyData.int) && true)) = true
      rw [PyData.intsShortAll_ints gs fun n hn => Nat.lt_of_le_of_lt (hg.2 n hn) (by decide), PyData.intsShortAll_ints es fun n hn => Nat.lt_of_le_of_lt (he.2 n hn) (by decide)]; rfl
/-- what a made Line is compared by -/
def trD (m : Int × List Int × List Int) : PyData := .tuple [.int m.1, tI m.2.1, tI m.2.2]
theorem shaped_tr (m : Int × List Int × List Int) : SeqAt.shaped (trD m) = true := by
  unfold SeqAt.shaped
  have e1 : PyData.canLay0 (trD m) = true := by
    show (true && (PyData.canLayAll0 (m.2.1.map PyData.int) && (PyData.canLayAll0 (m.2.2.map PyData.int) && true))) = true
    rw [lay_ints, lay_ints]; rfl
  have e2 : PyData.depth (trD m) ≤ 64 := by
    show max 0 (max (tI m.2.1).depth (max (tI m.2.2).depth 0)) + 1 ≤ 64
    rw [depth_tI, depth_tI]; decide
  rw [e1]
  first | (rw [decide_eq_true e2]; rfl) | simp [e2]
theorem eqv_tr (m m' : Int × List Int × List Int) : PyData.eqv (trD m) (trD m') = decide (m = m') := by
  show (decide (m.1 = m'.1) && (PyData.eqv (tI m.2.1) (tI m'.2.1) && (PyData.eqv (tI m.2.2) (tI m'.2.2) && true))) = _
  rw [eqv_tI, eqv_tI]
  obtain ⟨a, b, c⟩ := m
  obtain ⟨a', b', c'⟩ := m'
  by_cases h : a = a' <;> by_cases h2 : b = b' <;> by_cases h3 : c = c' <;> simp [h, h2, h3]
end K30

set_option Elab.async false
set_option linter.all false
set_option maxRecDepth 100000
set_option maxHeartbeats 1000000
namespace K30
open PySem L2
local macro_rules | `(tactic| walk_at "seq") => `(tactic| first | assumption | exact SqL.of (by assumption) | exact SqT.of (by assumption) | exact SqL.of upd_same | exact SqT.of upd_same)
local macro_rules | `(tactic| walk_at "at") => `(tactic| first | exact atI_nat (j := 0) rfl | exact atI_nat (j := 1) rfl | exact atI_nat (j := 2) rfl | exact atI_nat (by assumption) | assumption)
local macro_rules | `(tactic| walk_at "ar") => `(tactic| first | omega | exact ⟨by omega, by omega⟩ | exact Or.inl ⟨by omega, by omega⟩ | exact Or.inr ⟨by omega, by omega⟩ | exact ⟨by decide, by decide⟩ | exact Or.inr ⟨by decide, by decide⟩ | exact Or.inl ⟨by decide, by decide⟩ | exact ⟨by decide, by decide, by omega⟩ | exact ⟨by decide, by decide, by decide⟩)
local macro_rules | `(tactic| walk_at "r") => `(tactic| repeat (first
  | refine ⟨_, rfl, ?_⟩
  | refine ⟨_, _, rfl, rfl, ?_⟩
  | refine ⟨_, _, _, _, rfl, rfl, by walk_at "seq", by walk_at "at", ?_⟩
  | refine ⟨_, _, _, _, rfl, rfl, by assumption, rfl, ?_⟩
  | refine ⟨_, _, rfl, Or.inl (by walk_at "seq"), ?_⟩
  | refine Or.inl ⟨_, rfl, ?_⟩
  | refine Or.inr ⟨_, rfl, ?_⟩
  | refine And.intro (by walk_at "ar") ?_))
/-- what is no list is kept -/
def Keeps (H H' : Hp) : Prop := ∀ a o, (∀ xs, o ≠ .lst xs) → H a = some o → H' a = some o
theorem Keeps.of {H H' : Hp} (h : Same H H') : Keeps H H' := fun a o _ e => h a o e
theorem Keeps.xt {H H' : Hp} {b : Addr} (hb : BoxAt H b) (h : Xt b H H') : Keeps H H' := fun a o n e => h a o (fun z => by
  obtain ⟨i, j, z1, _⟩ := hb
  rw [z, z1] at e
  exact n _ (Option.some.inj e).symm) e
theorem Keeps.put {H : Hp} {b : Addr} {xs : List V} {o : HO} (hb : H b = some (.lst xs)) : Keeps H (upd H b o) := fun a u n e => by
  by_cases z : a = b
  · rw [z, hb] at e
    exact (n _ (Option.some.inj e).symm).elim
  · rw [upd_ne z]; exact e
theorem Keeps.trans {H H1 H2 : Hp} (x : Keeps H H1) (y : Keeps H1 H2) : Keeps H H2 := fun a o n e => y a o n (x a o n e)
theorem LineAt.keeps {C a : Addr} {H H' : Hp} {m : Int × List Int × List Int} (x : Keeps H H') (h : LineAt C H a m) : LineAt C H' a m := by
  obtain ⟨dx, ag, ae, h1, h2, h3⟩ := h
  exact ⟨dx, ag, ae, x _ _ (by intro xs z; cases z) h1, x _ _ (by intro xs z; cases z) h2, x _ _ (by intro xs z; cases z) h3⟩
/-- a pair of a Line and what it is compared by -/
def MadeAt (C : Addr) (H : Hp) (v : V) : Prop := ∃ (t l tr ag ae : Addr) (m : Int × List Int × List Int), v = .ref t ∧ H t = some (.tup [.ref l, .ref tr]) ∧ LineAt C H l m ∧
  H tr = some (.tup [.int m.1, .ref ag, .ref ae]) ∧ H ag = some (.tup (m.2.1.map V.int)) ∧ H ae = some (.tup (m.2.2.map V.int))
theorem MadeAt.keeps {C : Addr} {H H' : Hp} {v : V} (x : Keeps H H') (h : MadeAt C H v) : MadeAt C H' v := by
  obtain ⟨t, l, tr, ag, ae, m, e, h1, h2, h3, h4, h5⟩ := h
  exact ⟨t, l, tr, ag, ae, m, e, x _ _ (by intro xs z; cases z) h1, h2.keeps x, x _ _ (by intro xs z; cases z) h3, x _ _ (by intro xs z; cases z) h4, x _ _ (by intro xs z; cases z) h5⟩
theorem dp_tr {K : PySem.W.Frag} {H : Hp} {tr ag ae : Addr} {m : Int × List Int × List Int} (h3 : H tr = some (.tup [.int m.1, .ref ag, .ref ae])) (h4 : H ag = some (.tup (m.2.1.map V.int))) (h5 : H ae = some (.tup (m.2.2.map V.int))) : Dp K H (.ref tr) (trD m) :=
  .tup (SqT.of h3) (.cons (.int _) (.cons (dp_tI h4) (.cons (dp_tI h5) .nil)))
theorem make_line {C CE : Addr} {H : Hp} {p gv ev : V} {sp : Srt} {go eo : Option (List V)} {m : Int × List Int × List Int} {R : Hp → Prop} {x dx : Addr} (nx : H x = none) (ndx : H dx = none) (nex : dx ≠ x) (hp : Sk C H p sp) (hg : Arg C H gv go) (he : Arg C H ev eo) (hn : ∀ n, p = .int n → n ≤ 100)
    (zg : ∀ xs, go = some xs → xs.length ≤ 1000) (ze : ∀ xs, eo = some xs → xs.length ≤ 1000) (hm : lineR p gv go ev eo = .inr m) (q : ∀ (H' : Hp), Same H H' → LineAt C H' x m → R H') :
    spInit C CE [.ref x, p, gv, ev] (upd (upd H dx (.own x)) x (.ins C dx [])) (fun v H2 => v = .non ∧ R H2) E0 := by
  have su := made_up (o := .ins C dx []) nx ndx
  refine ⟨x, dx, p, gv, ev, sp, go, eo, rfl, upd_same, hp.same su, hg.same su, he.same su, hn, zg, ze, fun n gs es er H' ag ae xt hx hag hae => ⟨rfl, ?_⟩, fun word er => ?_⟩
  · rw [hm] at er
    cases er
    exact q H' (made_same (C := C) nx ndx xt) ⟨dx, ag, ae, hx, hag, hae⟩
  · rw [hm] at er
    cases er
theorem eq_swap {m m' : Int × List Int × List Int} : decide (some m' = some m) = decide (m = m') := by
  by_cases h : m = m'
  · subst h; simp
  · have h' : ¬ m' = m := fun z => h z.symm
    simp [h, h']
theorem iteE {c : Bool} {p q : Prop} (h : c = false) (k : q) : if c = true then p else q := by rw [h]; exact k
theorem iteY {c : Bool} {p q : Prop} (h : c = true) (k : p) : if c = true then p else q := by rw [h]; exact k
theorem bl_ne (c : Bool) : (!decide (V.bl c = V.bl c)) = false := by cases c <;> decide
theorem bl_eq (c : Bool) : decide (V.bl (!c) = V.bl c) = false := by cases c <;> decide
theorem line_a (x y : Addr) : lineR (.int 3) (.ref x) (some ([2, 0, 1, 1].map V.int)) (.ref y) (some ([1].map V.int)) = .inr (3, [0, 1, 2], [1]) := by rfl
theorem line_b (x y : Addr) : lineR (.int 3) (.ref x) (some ([0, 1, 2].map V.int)) (.ref y) (some ([1].map V.int)) = .inr (3, [0, 1, 2], [1]) := by rfl
theorem line_c : lineR (.int 4) .non none .non none = .inr (4, [0, 1, 2, 3, 4], [1, 2, 3, 4]) := by rfl
theorem line_d : lineR (.int 0) .non none .non none = .inr (0, [0], []) := by rfl
theorem line_e (x y : Addr) : lineR (.int 0) (.ref x) (some ([0].map V.int)) (.ref y) (some (([] : List Int).map V.int)) = .inr (0, [0], []) := by rfl
theorem line_f (x : Addr) : lineR (.int 0) (.ref x) (some (([] : List Int).map V.int)) .non none = .inr (0, [], []) := by rfl
def spLaw (K : PySem.W.Frag) : Sp := fun vs H Q _ => ∃ (a : Addr) (ns : List Int), vs = [.ref a] ∧ SqL K H a (ns.map V.int) ∧ ns.length ≤ 1000000 ∧ ∀ H', Q (.bl true) H'
section
variable {P : Program} {w : World} {K : PySem.W.Frag} {mg : Str → Option Value} {base : Heap} {C CE : Addr}
theorem sc_law : FnScope ["_law_script", "_law_k", "_law_box", "_law_made", "_law_turn", "_law_size", "_law_people", "_law_goes", "_law_edges_here", "_law_due_here", "_law_one", "_law_first", "_law_other", "_law_last", "_law_handed", "_law_kept"] ["_law_script"] (defScope (topS 27)) := ⟨rfl, rfl, rfl, by decide +kernel, rfl, by decide +kernel, by decide +kernel⟩
theorem ok_law {f fL fT fP fF fS fD fU fA fE : Addr} {fd fdL fdT fdP fdF fdS fdD fdU fdA fdE : FuncData} {k : Nat} {ds1 ds2 : List Value} (F : Fun K "law" "law" (topS 27) f fd) (T : Bt mg) (L : LineC K mg C)
    (FT : Fun K "_law_take" "_law_take" (topS 20) fT fdT) (bT : Binds K fdT ["_law_box", "_law_many"] []) (gT : mg "_law_take" = some (.ref fT)) (GT : FnOk P w K mg base CX0 (k + 6) fT fdT ["_law_box", "_law_many"] spTake)
    (FP : Fun K "_law_pick" "_law_pick" (topS 21) fP fdP) (bP : Binds K fdP ["_law_box", "_law_some_here"] []) (gP : mg "_law_pick" = some (.ref fP)) (GP : FnOk P w K mg base CX0 (k + 6) fP fdP ["_law_box", "_law_some_here"] (spPick K))
    (FF : Fun K "_law_feed" "_law_feed" (topS 19) fF fdF) (bF : Binds K fdF ["_law_script", "_law_k"] []) (gF : mg "_law_feed" = some (.ref fF)) (GF : FnOk P w K mg base CX0 (k + 6) fF fdF ["_law_script", "_law_k"] (spFeed K))
    (FS : Fun K "_law_some" "_law_some" (topS 22) fS fdS) (bS : Binds K fdS ["_law_box", "_law_low", "_law_high"] []) (gS : mg "_law_some" = some (.ref fS)) (GS : FnOk P w K mg base CX0 (k + 6) fS fdS ["_law_box", "_law_low", "_law_high"] (spSome K C))
    (FD : Fun K "_law_edges" "_law_edges" (topS 26) fD fdD) (bD : Binds K fdD ["_law_box", "_law_size", "_law_goes"] []) (gD : mg "_law_edges" = some (.ref fD)) (GD : FnOk P w K mg base CX0 (k + 6) fD fdD ["_law_box", "_law_size", "_law_goes"] (spEdges K C))
    (FU : Fun K "_law_due" "_law_due" (topS 23) fU fdU) (bU : Binds K fdU ["_law_people", "_law_goes", "_law_edges_here"] []) (gU : mg "_law_due" = some (.ref fU)) (GU : FnOk P w K mg base CX0 (k + 6) fU fdU ["_law_people", "_law_goes", "_law_edges_here"] (spDue K C))
    (FA : Fun K "_law_answer" "_law_answer" (topS 25) fA fdA) (bA : Binds K fdA ["_law_people", "_law_goes", "_law_edges_here"] []) (gA : mg "_law_answer" = some (.ref fA)) (GA : FnOk P w K mg base CX0 (k + 6) fA fdA ["_law_people", "_law_goes", "_law_edges_here"] (spAns C))
    (FE : Fun K "__eq__" "Line.__eq__" (inClass (topS 17) 4) fE fdE) (bE : Binds K fdE ["self", "other"] []) (hsE : PySem.W.findIn K (.ref C) "__eq__" = some (some (.ref fE))) (hfE : PySem.W.isFn K (.ref fE) = true)
    (hne : PySem.W.findIn K (.ref C) "__ne__" = some (some (.builtin "object.__ne__"))) (hob : PySem.W.mroIn K C (.type "object") = some true)
    (GL : FnOk P w K mg base (L2.CX P w) (k + 5) fL fdL ["self", "people", "goes", "edges"] (spInit C CE)) (MK : Mk K C fL) (bL : Binds K fdL ["self", "people", "goes", "edges"] [])
    (bL1 : Binds K fdL ["self", "people", "goes", "edges"] ds1) (vL1 : Vals [.non] ds1) (bL2 : Binds K fdL ["self", "people", "goes", "edges"] ds2) (vL2 : Vals [.non, .non] ds2) :
    FnG P w K mg base (k + 7) f fd ["_law_script"] (spLaw K) := by
  have GE : FnOk P w K mg base CX0 (k + 6) fE fdE ["self", "other"] (spEqL C) := ok_eq FE T L
  have GE5 : FnOk P w K mg base CX0 (k + 5) fE fdE ["self", "other"] (spEqL C) := ok_eq FE T L
  refine F.okG sc_law (fun vs H Q E h => ?_) (fun cdv A outer s H vs Q E hg hr h => ?_)
  · obtain ⟨a, ns, rfl, _⟩ := h
    rfl
  · obtain ⟨a, ns, rfl, ha, hz, q⟩ := h
    have hu := hr.units
    refine ⟨_, (pss_cons (ps_for PassesOwn.never rfl (pi_range1 (by rfl) T.m_range (pa_cons (pe_callB (call_max2 rfl) (by rfl) T.m_max (by decide +kernel) (pa_cons pe_int (pa_cons (pe_callB (call_min2 rfl) (by rfl) T.m_min (by decide +kernel) (pa_cons pe_int (pa_cons (pe_callB (lenK (K := K) rfl) (by rfl) T.m_len PySem.boot_len (pa_cons (pv 0) pa_nil)) pa_nil))) pa_nil))) pa_nil)) (pg_name (i := 1) sc_law.nd rfl (by first | exact Or.inl rfl | exact Or.inr rfl)) (pss_cons (ps_set (i := 2) sc_law.nd rfl (by first | exact Or.inl rfl | exact Or.inr rfl) (pe_call GF hr (by rfl) gF FF.kp bF .nil pass0 (pa_cons (pv 0) (pa_cons (pv 1) pa_nil))))
  (pss_cons (ps_set (i := 3) sc_law.nd rfl (by first | exact Or.inl rfl | exact Or.inr rfl) (pe_lst pa_nil))
  (pss_cons (ps_for PassesOwn.never rfl (pi_range1 (by rfl) T.m_range (pa_cons pe_int pa_nil)) (pg_name (i := 4) sc_law.nd rfl (by first | exact Or.inl rfl | exact Or.inr rfl)) (pss_cons (ps_set (i := 5) sc_law.nd rfl (by first | exact Or.inl rfl | exact Or.inr rfl) (pe_call GT hr (by rfl) gT FT.kp bT .nil pass0 (pa_cons (pv 2) (pa_cons pe_int pa_nil))))
  (pss_cons (ps_set (i := 6) sc_law.nd rfl (by first | exact Or.inl rfl | exact Or.inr rfl) (pe_call GP hr (by rfl) gP FP.kp bP .nil pass0 (pa_cons (pv 2) (pa_cons (pe_lst (pa_cons (pv 5) (pa_cons (pv 5) (pa_cons (pv 5) (pa_cons (pv 5) (pa_cons (pv 5) (pa_cons (pe_op op_sub pe_int pe_int) (pa_cons pe_bl (pa_cons pe_non (pa_cons pe_str (pa_cons (pe_tup (pa_cons pe_int pa_nil)) pa_nil))))))))))) pa_nil))))
  (pss_cons (ps_set (i := 7) sc_law.nd rfl (by first | exact Or.inl rfl | exact Or.inr rfl) (pe_ifExp (pt_cmpR op_eq (pe_call GT hr (by rfl) gT FT.kp bT .nil pass0 (pa_cons (pv 2) (pa_cons pe_int pa_nil))) pe_int (nomark _)) pe_non (pe_call GS hr (by rfl) gS FS.kp bS .nil pass0 (pa_cons (pv 2) (pa_cons pe_int (pa_cons (pv 5) pa_nil))))))
  (pss_cons (ps_set (i := 8) sc_law.nd rfl (by first | exact Or.inl rfl | exact Or.inr rfl) (pe_ifExp (pt_cmpR op_eq (pe_call GT hr (by rfl) gT FT.kp bT .nil pass0 (pa_cons (pv 2) (pa_cons pe_int pa_nil))) pe_int (nomark _)) pe_non (pe_call GD hr (by rfl) gD FD.kp bD .nil pass0 (pa_cons (pv 2) (pa_cons (pv 5) (pa_cons (pv 7) pa_nil))))))
  (pss_cons (ps_set (i := 9) sc_law.nd rfl (by first | exact Or.inl rfl | exact Or.inr rfl) (pe_call GU hr (by rfl) gU FU.kp bU .nil pass0 (pa_cons (pv 6) (pa_cons (pv 7) (pa_cons (pv 8) pa_nil)))))
  (pss_cons (ps_if (pt_cmpR op_ne (pe_callB (call_reprD hr hg) (by rfl) T.m_repr (by decide +kernel) (pa_cons (pe_call GA hr (by rfl) gA FA.kp bA .nil pass0 (pa_cons (pv 6) (pa_cons (pv 7) (pa_cons (pv 8) pa_nil)))) pa_nil)) (pe_callB (call_reprD hr hg) (by rfl) T.m_repr (by decide +kernel) (pa_cons (pv 9) pa_nil)) (nomark _)) (pss_one (ps_ret pe_bl)) pss_nil)
  (pss_one (ps_if (pt_not (pt_val (pe_callB (isiK (K := K) rfl) (by rfl) T.m_isinstance (by decide +kernel) (pa_cons (pv 9) (pa_cons (pe_bltn (v := .ty "str") (by rfl) T.m_str (by decide +kernel) rfl) pa_nil))))) (pss_one (ps_expr (pe_bm PySem.F.plainAttrs_list PySem.F.slot_list_append PySem.F.type_list_append mt_append (pv 3) (pa_cons (pe_tup (pa_cons (pe_make MK GL hr (by rfl) L.mgL bL .nil passF (pa_cons (pv 6) (pa_cons (pv 7) (pa_cons (pv 8) pa_nil)))) (pa_cons (pe_op op_catT (pe_tup (pa_cons (pv 6) pa_nil)) (pv 9)) pa_nil))) pa_nil)))) pss_nil)))))))))
  (pss_cons (ps_for PassesOwn.never rfl (piLK (K := K) rfl (pv 3)) (pg_tup rfl (pgs_cons (pg_name (i := 10) sc_law.nd rfl (by first | exact Or.inl rfl | exact Or.inr rfl)) (pgs_cons (pg_name (i := 11) sc_law.nd rfl (by first | exact Or.inl rfl | exact Or.inr rfl)) pgs_nil))) (pss_cons (ps_for PassesOwn.never rfl (piLK (K := K) rfl (pv 3)) (pg_tup rfl (pgs_cons (pg_name (i := 12) sc_law.nd rfl (by first | exact Or.inl rfl | exact Or.inr rfl)) (pgs_cons (pg_name (i := 13) sc_law.nd rfl (by first | exact Or.inl rfl | exact Or.inr rfl)) pgs_nil))) (pss_one (ps_if (PW.pt (pw_or (pt_cmpR op_ne (pe_cmpR (op_eqOwn GE hr bE pass0 hsE hfE) (pv 10) (pv 12) (nomark _)) (pe_cmpR (eqDK (K := K) rfl hu) (pv 11) (pv 13) (nomark _)) (nomark _)) (pw_or1 (pt_cmpR op_eq (pe_cmpR (op_neOwn GE5 hr bE pass0 hsE hfE hne hob) (pv 10) (pv 12) (nomark _)) (pe_cmpR (eqDK (K := K) rfl hu) (pv 11) (pv 13) (nomark _)) (nomark _))))) (pss_one (ps_ret pe_bl)) pss_nil)))
  (pss_one (ps_if (PW.pt (pw_or (pt_cmpR (op_eqOwn GE hr bE pass0 hsE hfE) (pv 10) (pv 11) (nomark _)) (pw_or (pt_cmpR (op_eqOwn GE hr bE pass0 hsE hfE) (pv 10) pe_non (nomark _)) (pw_or1 (pt_cmpR (op_eqOwn GE hr bE pass0 hsE hfE) (pv 10) (fldK (K := K) rfl (pv 10)) (nomark _)))))) (pss_one (ps_ret pe_bl)) pss_nil))))
  (pss_cons (ps_set (i := 14) sc_law.nd rfl (by first | exact Or.inl rfl | exact Or.inr rfl) (pe_lst (pa_cons pe_int (pa_cons pe_int (pa_cons pe_int (pa_cons pe_int pa_nil))))))
  (pss_cons (ps_set (i := 15) sc_law.nd rfl (by first | exact Or.inl rfl | exact Or.inr rfl) (pe_make MK GL hr (by rfl) L.mgL bL .nil passF (pa_cons pe_int (pa_cons (pv 14) (pa_cons (pe_lst (pa_cons pe_int pa_nil)) pa_nil)))))
  (pss_cons (ps_expr (pe_bm PySem.F.plainAttrs_list PySem.F.slot_list_append PySem.F.type_list_append mt_append (pv 14) (pa_cons pe_int pa_nil)))
  (pss_one (ps_if (PW.pt (pw_or (pt_cmpR (op_neOwn GE5 hr bE pass0 hsE hfE hne hob) (pv 15) (pe_make MK GL hr (by rfl) L.mgL bL .nil passF (pa_cons pe_int (pa_cons (pe_tup (pa_cons pe_int (pa_cons pe_int (pa_cons pe_int pa_nil)))) (pa_cons (pe_tup (pa_cons pe_int pa_nil)) pa_nil)))) (nomark _)) (pw_or (pt_cmpR (neDK (K := K) rfl hu) (fldK (K := K) rfl (pv 15)) (pe_tup (pa_cons pe_int (pa_cons pe_int (pa_cons pe_int pa_nil)))) (nomark _)) (pw_or1 (pt_cmpR (neDK (K := K) rfl hu) (fldK (K := K) rfl (pe_make MK GL hr (by rfl) L.mgL bL2 vL2 passF (pa_cons pe_int pa_nil))) (pe_tup (pa_cons pe_int (pa_cons pe_int (pa_cons pe_int (pa_cons pe_int pa_nil))))) (nomark _)))))) (pss_one (ps_ret pe_bl)) pss_nil))))))))))
  (pss_one (ps_ret (pe_and (pe_cmpR (op_eqOwn GE hr bE pass0 hsE hfE) (pe_make MK GL hr (by rfl) L.mgL bL2 vL2 passF (pa_cons pe_int pa_nil)) (pe_make MK GL hr (by rfl) L.mgL bL .nil passF (pa_cons pe_int (pa_cons (pe_lst (pa_cons pe_int pa_nil)) (pa_cons (pe_tup pa_nil) pa_nil)))) (nomark _)) (pe_one (pe_cmpR (eqDK (K := K) rfl hu) (fldK (K := K) rfl (pe_make MK GL hr (by rfl) L.mgL bL1 vL1 passF (pa_cons pe_int (pa_cons (pe_lst pa_nil) pa_nil)))) (pe_tup pa_nil) (nomark _))))))), ?_⟩
    have hlen : (ns.map V.int).length = ns.length := List.length_map ..
    refine ⟨_, rfl, a, _, rfl, .inl ha, _, _, rfl, _, _, rfl, ?_⟩
    generalize hz1 : (if ((if ((ns.map V.int).length : Int) < 5 then ((ns.map V.int).length : Int) else 5)) > 2 then (if ((ns.map V.int).length : Int) < 5 then ((ns.map V.int).length : Int) else 5) else 2) = z
    have z0 : 2 ≤ z := by rw [← hz1]; split <;> omega
    have z1 : z ≤ 5 := by rw [← hz1]; split <;> (try split) <;> omega
    refine ⟨z, rfl, by omega, by omega, for_range (fun i σ H1 => ∃ o1 o2 o3 o4 o5 o6 o7 o8 o9 o10 o11 o12 o13 o14 o15 : Option V, σ = [some (.ref a), o1, o2, o3, o4, o5, o6, o7, o8, o9, o10, o11, o12, o13, o14, o15] ∧ Same H H1)
      ⟨_, _, _, _, _, _, _, _, _, _, _, _, _, _, _, rfl, fun _ _ e => e⟩ (fun i σ H1 hi hP => ?_) (fun σ H1 hP => ?_)⟩
    · obtain ⟨o1, o2, o3, o4, o5, o6, o7, o8, o9, o10, o11, o12, o13, o14, o15, rfl, s1⟩ := hP
      refine ⟨_, rfl, _, rfl, a, ns, i, ?_, ?_, by omega, fun b H2 s2 nb hb => ?_⟩
      · show [V.ref a, V.int (0 + (i : Int))] = _
        rw [Int.zero_add]
      · exact xt_l (b := a + 1) (Xt.of s1) (by intro e; exact absurd e.symm (Nat.succ_ne_self a)) ha
      refine ⟨Nat.zero_le _, fun m nm => ?_⟩
      have nmb : m ≠ b := box_ne hb nm
      have s3 := s2.trans (same_new (o := .lst []) nm)
      have hb3 := hb.same (same_new (o := .lst []) nm)
      dsimp only [tSeq, gName]
      refine ⟨8, rfl, by omega, by omega, for_range (fun t σ H3 => ∃ (o4 o5 o6 o7 o8 o9 : Option V) (xs : List V), σ = [some (.ref a), some (.int (0 + (i : Int))), some (.ref b), some (.ref m), o4, o5, o6, o7, o8, o9, o10, o11, o12, o13, o14, o15] ∧ Same H1 H3 ∧ BoxAt H3 b ∧ H3 m = some (.lst xs) ∧ xs.length ≤ t ∧ ∀ v ∈ xs, MadeAt C H3 v)
        ⟨_, _, _, _, _, _, [], rfl, s3, hb3, upd_same, Nat.le_refl _, fun v hv => by cases hv⟩ (fun t σ H3 ht hP => ?_) (fun σ H3 hP => ?_)⟩
      · clear o4 o5 o6 o7 o8 o9
        obtain ⟨o4, o5, o6, o7, o8, o9, xs, rfl, s13, hb3, hm, hxl, hmade⟩ := hP
        refine ⟨_, rfl, b, 6, rfl, hb3, by omega, by omega, fun sz H4 sz0 sz1 x4 hb4 => ?_⟩
        refine ⟨_, rfl, _, rfl, _, rfl, _, rfl, _, rfl, _, rfl, _, _, rfl, rfl, by show 1 ≤ sizeLine; decide, fun p5 n5 => ⟨by show 10 ≤ sizeLine; decide, fun pl npl => ?_⟩⟩
        have s5 := same_new (o := .tup [.int 2]) n5
        have s6 := same_new (o := .lst [.int sz, .int sz, .int sz, .int sz, .int sz, .int (0 - 1), .bl true, .non, .str "3", .ref p5]) npl
        have g5 := s6 _ _ (upd_same (H := H4) (a := p5) (o := .tup [.int 2]))
        have hb6 := (hb4.same s5).same s6
        refine ⟨b, pl, _, rfl, hb6, SqL.of upd_same, (box_ne (hb4.same s5) npl).symm, by show 0 < 10; decide, by show 10 < 1000; decide, fun pv H7 hv x7 hb7 => ?_⟩
        have x37 : Xt b H3 H7 := (x4.trans (Xt.of (s5.trans s6))).trans x7
        have k67 := Keeps.xt hb6 x7
        have g57 := k67 _ _ (by intro xs z; cases z) g5
        have hpe : ∀ H', Keeps H7 H' → ∃ sp, Sk C H' pv sp := fun H' kk => by
          have g5' := kk _ _ (by intro xs z; cases z) g57
          simp only [List.mem_cons, List.not_mem_nil, or_false] at hv
          rcases hv with rfl | rfl | rfl | rfl | rfl | rfl | rfl | rfl | rfl | rfl <;> first | exact ⟨_, .int _⟩ | exact ⟨_, .bl _⟩ | exact ⟨_, .non⟩ | exact ⟨_, .str _⟩ | exact ⟨_, .tup g5'⟩
        have hpn : ∀ n, pv = .int n → n ≤ 100 := fun n e => by
          subst e
          simp only [List.mem_cons, List.not_mem_nil, or_false, V.int.injEq, reduceCtorEq, false_or] at hv
          omega
        clear hv g57 k67 x7 g5 s6 s5
        -- goes
        dsimp only [tSeq, tAsg, gName]
        refine via (fun y H8 => Xt b H7 H8 ∧ BoxAt H8 b ∧ DrawnS K C b H8 y) (fun gv H8 hy => ?_) (fun Q' k' => ?_)
        rotate_left
        · refine ⟨_, rfl, b, 3, rfl, hb7, by omega, by omega, fun r H8 r0 r1 x8 hb8 => ⟨rfl, _, rfl, ite2 (fun e => ?_) (fun e => ?_)⟩⟩
          · exact k' _ _ ⟨x8, hb8, fun H9 _ => drawn_atom .non rfl⟩
          · exact ⟨_, rfl, _, rfl, b, 0, sz, rfl, hb8, by omega, by omega, by omega, by omega, fun v H9 x9 hb9 d9 => k' _ _ ⟨x8.trans x9, hb9, d9⟩⟩
        obtain ⟨x8, hb8, dg8⟩ := hy
        refine via (fun y H9 => Xt b H8 H9 ∧ BoxAt H9 b ∧ DrawnS K C b H9 y) (fun ev H9 hy => ?_) (fun Q' k' => ?_)
        rotate_left
        · refine ⟨_, rfl, b, 3, rfl, hb8, by omega, by omega, fun r H9 r0 r1 x9 hb9 => ⟨rfl, _, rfl, ite2 (fun e => ?_) (fun e => ?_)⟩⟩
          · exact k' _ _ ⟨x9, hb9, fun H9 _ => drawn_atom .non rfl⟩
          · exact ⟨_, rfl, _, rfl, _, rfl, b, sz, gv, rfl, hb9, by omega, by omega, dg8.xt x9, fun v H10 x10 hb10 d10 => k' _ _ ⟨x9.trans x10, hb10, d10⟩⟩
        obtain ⟨x9, hb9, de9⟩ := hy
        have k79 : Keeps H7 H9 := (Keeps.xt hb7 x8).trans (Keeps.xt hb8 x9)
        obtain ⟨go, ag9, zg9⟩ := (dg8.xt x9).now
        obtain ⟨eo, ae9, ze9⟩ := de9.now
        obtain ⟨sp, hp9⟩ := hpe H9 k79
        have x39 : Xt b H3 H9 := (x37.trans x8).trans x9
        clear dg8 de9 hpe k79 x8 hb8 x37 hb7
        have s19 : Same H1 H9 := fun c o e => x39 _ _ (fun z => by rw [z, nb] at e; cases e) (s13 _ _ e)
        have hm9 := x39 _ _ nmb hm
        have hmade9 : ∀ v ∈ xs, MadeAt C H9 v := fun v hv => (hmade v hv).keeps (Keeps.xt hb3 x39)
        refine ⟨_, rfl, _, rfl, _, rfl, pv, gv, ev, sp, go, eo, rfl, hp9, ag9, ae9, hpn, zg9, ze9, ?_⟩
        rw [due_is]
        cases hl : lineR pv gv go ev eo with
        | inl word =>
          refine ⟨fun word' e H10 s10 => ?_, fun n gs es e => by cases e⟩
          cases e
          have hw := shows_word (lineR_word hl)
          refine ⟨_, rfl, _, rfl, _, rfl, pv, gv, ev, sp, go, eo, rfl, hp9.same s10, ag9.same s10, ae9.same s10, hpn, fun xs e => (zg9 xs e).1, fun xs e => (ze9 xs e).1, fun word' e H11 s11 => ?_, fun n gs es e => by rw [hl] at e; cases e⟩
          rw [hl] at e
          cases e
          refine ⟨_, .str word, rfl, .str word, hw.1, hw.2.1, hw.2.2.1, hw.2.2.2, _, rfl, _, .str word, rfl, .str word, hw.1, hw.2.1, hw.2.2.1, hw.2.2.2, rfl, _, rfl, ?_⟩
          rw [decide_eq_true rfl]
          refine iteF ⟨_, rfl, _, _, _, _, _, rfl, .ty _, (Sk.str (C := C) (H := H11) word).tyx L, kit_str L .str, _, rfl, iteF ?_⟩
          have s911 := s10.trans s11
          exact ⟨_, _, _, _, _, _, xs, rfl, s19.trans s911, hb9.same s911, s911 _ _ hm9, by omega, fun v hv => (hmade9 v hv).keeps (Keeps.of s911)⟩
        | inr tr =>
          obtain ⟨n, gs, es⟩ := tr
          refine ⟨fun word' e => (by cases e), fun n' gs' es' e t1 ag1 ae1 H10 s10 nt1 ht1 hag1 hae1 => ?_⟩
          cases e
          obtain ⟨hpi, hn0, hn1, fg, fe⟩ := lineR_fine hl hpn
          have hw := shows_pair fg fe
          refine ⟨_, rfl, _, rfl, _, rfl, pv, gv, ev, sp, go, eo, rfl, hp9.same s10, ag9.same s10, ae9.same s10, hpn, fun xs e => (zg9 xs e).1, fun xs e => (ze9 xs e).1, fun word' e => (by rw [hl] at e; cases e), fun n' gs' es' e t2 ag2 ae2 H11 s11 nt2 ht2 hag2 hae2 => ?_⟩
          rw [hl] at e
          cases e
          have ht1' := s11 _ _ ht1
          have hag1' := s11 _ _ hag1
          have hae1' := s11 _ _ hae1
          refine ⟨_, .tuple [tI gs, tI es], rfl, .tup (SqT.of ht2) (.cons (dp_tI hag2) (.cons (dp_tI hae2) .nil)), hw.1, hw.2.1, hw.2.2.1, hw.2.2.2, _, rfl, _, .tuple [tI gs, tI es], rfl, .tup (SqT.of ht1') (.cons (dp_tI hag1') (.cons (dp_tI hae1') .nil)), hw.1, hw.2.1, hw.2.2.1, hw.2.2.2, rfl, _, rfl, ?_⟩
          rw [decide_eq_true rfl]
          refine iteF ⟨_, rfl, _, _, _, _, _, rfl, .ty _, (Sk.tup (C := C) ht1').tyx L, kit_str L .tup, _, rfl, iteT ?_⟩
          have s911 := s10.trans s11
          refine ⟨_, rfl, .inl ⟨rfl, _, SqL.of (s911 _ _ hm9)⟩, _, rfl, _, rfl, _, rfl, fun l dl nl ndl nel => make_line nl ndl nel (hp9.same s911) (ag9.same s911) (ae9.same s911) hpn (fun xs e => (zg9 xs e).1) (fun xs e => (ze9 xs e).1) hl fun H12 s12 hl12 => ?_⟩
          refine ⟨_, rfl, by show 1 ≤ sizeLine; decide, fun p1 np1 => ?_⟩
          have s13' := same_new (o := .tup [pv]) np1
          refine ⟨_, rfl, p1, t1, _, _, rfl, rfl, SqT.of upd_same, SqT.of (s13' _ _ (s12 _ _ ht1')), by simp, by show 3 ≤ sizeLine; decide, fun e => (by cases e), fun _ p2 np2 => ⟨by show 2 ≤ sizeLine; decide, fun p3 np3 => ?_⟩⟩
          have s14 := same_new (o := .tup ([pv] ++ [.ref ag1, .ref ae1])) np2
          have s15 := same_new (o := .tup [.ref l, .ref p2]) np3
          have s115 := ((s12.trans s13').trans s14).trans s15
          have s915 := s911.trans s115
          refine ⟨m, xs, _, rfl, rfl, s915 _ _ hm9, small1000 (by omega), ?_⟩
          have kp := Keeps.put (o := .lst (xs ++ [.ref p3])) (s915 _ _ hm9)
          refine ⟨_, _, _, _, _, _, xs ++ [.ref p3], rfl, ?_, ?_, upd_same, by rw [List.length_append]; show xs.length + 1 ≤ t + 1; omega, fun v hv => ?_⟩
          · intro c o e
            have := s915 _ _ (s19 _ _ e)
            by_cases zc : c = m
            · subst zc
              rw [s2.free nm] at e
              cases e
            · rw [upd_ne zc]; exact this
          · obtain ⟨i', j', e', r'⟩ := hb9.same s915
            exact ⟨i', j', by rw [upd_ne (Ne.symm nmb)]; exact e', r'⟩
          · rcases List.mem_append.mp hv with hv | hv
            · exact ((hmade9 v hv).keeps (Keeps.of s915)).keeps kp
            · rw [List.mem_singleton.mp hv]
              refine MadeAt.keeps kp ?_
              subst hpi
              exact ⟨p3, l, p2, ag1, ae1, (n, gs, es), rfl, upd_same, hl12.same ((s13'.trans s14).trans s15), s15 _ _ upd_same, s115 _ _ hag1', s115 _ _ hae1'⟩
      · clear o4 o5 o6 o7 o8 o9
        obtain ⟨o4, o5, o6, o7, o8, o9, xs, rfl, s13, hb3, hm, hxl, hmade⟩ := hP
        have nfC : PySem.W.notFirst K C (.ref C) = true := by
          unfold PySem.W.notFirst
          simp
        dsimp only [tSeq]
        refine ⟨_, rfl, m, rfl, ⟨_, SqL.of hm⟩, for_list (K := K) (a := m) (xs := xs) (fun j σ H4 => H4 = H3 ∧ ∃ o10 o11 o12 o13 : Option V, σ = [some (.ref a), some (.int (0 + (i : Int))), some (.ref b), some (.ref m), o4, o5, o6, o7, o8, o9, o10, o11, o12, o13, o14, o15])
          ⟨rfl, _, _, _, _, rfl⟩ (fun j σ H4 hj hp => by rw [hp.1]; exact SqL.of hm) (fun j v σ H4 hv hp => ?_) (fun σ H4 hp => ?_)⟩
        · obtain ⟨rfl, o10, o11, o12, o13, rfl⟩ := hp
          obtain ⟨t1, l1, tr1, ag1, ae1, m1, rfl, h1, hL1, h3, h4, h5⟩ := hmade v (List.mem_of_getElem? hv)
          obtain ⟨dx1, bg1, be1, hI1, hG1, hE1⟩ := id hL1
          refine ⟨t1, _, rfl, SqT.of h1, rfl, _, _, rfl, _, _, rfl, rfl, ?_⟩
          dsimp only [tSeq]
          refine ⟨_, rfl, m, rfl, ⟨_, SqL.of hm⟩, for_list (K := K) (a := m) (xs := xs) (fun j2 σ H5 => H5 = H4 ∧ ∃ o12 o13 : Option V, σ = [some (.ref a), some (.int (0 + (i : Int))), some (.ref b), some (.ref m), o4, o5, o6, o7, o8, o9, some (.ref l1), some (.ref tr1), o12, o13, o14, o15])
            ⟨rfl, _, _, rfl⟩ (fun j2 σ H5 hj hp => by rw [hp.1]; exact SqL.of hm) (fun j2 v σ H5 hv hp => ?_) (fun σ H5 hp => ?_)⟩
          · obtain ⟨rfl, o12, o13, rfl⟩ := hp
            obtain ⟨t2, l2, tr2, ag2, ae2, m2, rfl, k1, hL2, k3, k4, k5⟩ := hmade v (List.mem_of_getElem? hv)
            obtain ⟨dx2, bg2, be2, hI2, hG2, hE2⟩ := id hL2
            refine ⟨t2, _, rfl, SqT.of k1, rfl, _, _, rfl, _, _, rfl, rfl, ?_⟩
            refine ⟨_, rfl, _, rfl, l1, dx1, _, .ref C, rfl, hI1, (Sk.line (C := C) hI2).tyx L, nfC, l1, .ref l2, m1, some m2, rfl, hL1, .line hL2, _, rfl, ?_⟩
            rw [eq_swap]
            refine ⟨_, rfl, _, rfl, trD m1, trD m2, dp_tr h3 h4 h5, dp_tr k3 k4 k5, shaped_tr _, shaped_tr _, ?_⟩
            rw [eqv_tr]
            refine ⟨rfl, _, rfl, iteE (bl_ne _) ?_⟩
            refine ⟨_, rfl, _, rfl, l1, dx1, _, .ref C, rfl, hI1, (Sk.line (C := C) hI2).tyx L, nfC, l1, .ref l2, m1, some m2, rfl, hL1, .line hL2, _, rfl, ?_⟩
            rw [eq_swap]
            refine ⟨_, rfl, _, rfl, trD m1, trD m2, dp_tr h3 h4 h5, dp_tr k3 k4 k5, shaped_tr _, shaped_tr _, ?_⟩
            rw [eqv_tr]
            exact ⟨rfl, _, rfl, iteE (bl_eq _) ⟨rfl, _, _, rfl⟩⟩
          · obtain ⟨rfl, o12, o13, rfl⟩ := hp
            refine ⟨_, rfl, _, rfl, l1, dx1, _, .type "tuple", rfl, hI1, (Sk.tup (C := C) h3).tyx L, L.fTL, l1, .ref tr1, m1, none, rfl, hL1, .tup h3, _, rfl, _, rfl, iteE rfl ?_⟩
            refine ⟨_, rfl, l1, dx1, _, .type "NoneType", rfl, hI1, (Sk.non (C := C) (H := H5)).tyx L, L.fNL, l1, .non, m1, none, rfl, hL1, .non, _, rfl, _, rfl, iteE rfl ?_⟩
            refine ⟨_, rfl, _, rfl, l1, C, dx1, _, _, rfl, hI1, L.cl, L.nG, get_g _ _ _, l1, dx1, _, .type "tuple", rfl, hI1, (Sk.tup (C := C) hG1).tyx L, L.fTL, l1, .ref bg1, m1, none, rfl, hL1, .tup hG1, _, rfl, _, rfl, iteE rfl ?_⟩
            exact ⟨rfl, _, _, _, _, rfl⟩
        · obtain ⟨rfl, o10, o11, o12, o13, rfl⟩ := hp
          refine ⟨by show 4 ≤ sizeLine; decide, fun hd nhd => ?_⟩
          have sh := same_new (o := .lst [.int 2, .int 0, .int 1, .int 1]) nhd
          refine ⟨_, rfl, by show 1 ≤ sizeLine; decide, fun e1 ne1 => ?_⟩
          have se := same_new (o := .lst [.int 1]) ne1
          have hh1 := se _ _ (upd_same (H := H4) (a := hd) (o := .lst [.int 2, .int 0, .int 1, .int 1]))
          have he1 := upd_same (H := upd H4 hd (.lst [.int 2, .int 0, .int 1, .int 1])) (a := e1) (o := .lst [.int 1])
          have ski : ∀ (Hx : Hp) (ys : List Int), ∀ x ∈ ys.map V.int, ∃ s, Sk C Hx x s := fun Hx ys x hx => by
            obtain ⟨z, _, rfl⟩ := List.mem_map.mp hx
            exact ⟨_, .int z⟩
          have le : ∀ (ys : List V), ys.length ≤ 10 → ∀ xs, some ys = some xs → xs.length ≤ 1000 := fun ys hy xs e => by cases e; omega
          have n3 : ∀ (c n : Int), c ≤ 100 → V.int c = .int n → n ≤ 100 := fun c n h e => by cases e; exact h
          refine fun l dl nl ndl nel => make_line (m := (3, [0, 1, 2], [1])) nl ndl nel (.int 3) (.lst hh1 (ski _ [2, 0, 1, 1])) (.lst he1 (ski _ [1])) (fun n => n3 3 n (by decide)) (le _ (by show 4 ≤ 10; decide)) (le _ (by show 1 ≤ 10; decide)) (line_a _ _) fun H5 s5 hl5 => ?_
          have s35 := (sh.trans se).trans s5
          refine ⟨_, rfl, .inl ⟨rfl, _, SqL.of (s5 _ _ hh1)⟩, hd, _, _, rfl, rfl, s5 _ _ hh1, by show 4 < sizeLine; decide, ?_⟩
          have kp := Keeps.put (o := .lst ([.int 2, .int 0, .int 1, .int 1] ++ [.int 3])) (s5 _ _ hh1)
          have hl6 := hl5.keeps kp
          have sm6 : Same H4 (upd H5 hd (.lst ([.int 2, .int 0, .int 1, .int 1] ++ [.int 3]))) := fun c o e => by
            rw [upd_ne (ne_of_none e nhd)]
            exact s35 _ _ e
          generalize upd H5 hd (.lst ([.int 2, .int 0, .int 1, .int 1] ++ [.int 3])) = H6 at hl6 sm6 ⊢
          refine ⟨_, rfl, by show 3 ≤ sizeLine; decide, fun p1 n1 => ⟨by show 1 ≤ sizeLine; decide, fun p2 n2 => ?_⟩⟩
          have t1 := same_new (o := .tup [.int 0, .int 1, .int 2]) n1
          have t2 := same_new (o := .tup [.int 1]) n2
          have hp1 := t2 _ _ (upd_same (H := H6) (a := p1) (o := .tup [.int 0, .int 1, .int 2]))
          have hp2 := upd_same (H := upd H6 p1 (.tup [.int 0, .int 1, .int 2])) (a := p2) (o := .tup [.int 1])
          refine fun l2 dl2 nl2 ndl2 nel2 => make_line (m := (3, [0, 1, 2], [1])) nl2 ndl2 nel2 (.int 3) (.tup hp1 (ski _ [0, 1, 2])) (.tup hp2 (ski _ [1])) (fun n => n3 3 n (by decide)) (le _ (by show 3 ≤ 10; decide)) (le _ (by show 1 ≤ 10; decide)) (line_b _ _) fun H7 s7 hl7 => ?_
          have s67 := (t1.trans t2).trans s7
          have hk7 := hl6.same s67
          obtain ⟨dk, bgk, bek, hIk, hGk, hEk⟩ := id hk7
          obtain ⟨d2, bg2, be2, hI2, hG2, hE2⟩ := id hl7
          refine ⟨l, dk, _, .ref C, rfl, hIk, (Sk.line (C := C) hI2).tyx L, nfC, l, .ref l2, _, _, rfl, hk7, .line hl7, _, rfl, _, rfl, iteE (by decide) ?_⟩
          refine ⟨_, rfl, l, C, dk, _, _, rfl, hIk, L.cl, L.nG, get_g _ _ _, by show 3 ≤ sizeLine; decide, fun p3 n3' => ?_⟩
          have t3 := same_new (o := .tup [.int 0, .int 1, .int 2]) n3'
          refine ⟨tI [0, 1, 2], tI [0, 1, 2], dp_tI (t3 _ _ hGk), dp_tI (ns := [0, 1, 2]) upd_same, shaped_tI _, shaped_tI _, _, rfl, iteE (by rw [eqv_tI]; decide) ?_⟩
          refine fun l3 dl3 nl3 ndl3 nel3 => make_line (m := (4, [0, 1, 2, 3, 4], [1, 2, 3, 4])) nl3 ndl3 nel3 (.int 4) (.atom .non rfl) (.atom .non rfl) (fun n => n3 4 n (by decide)) (fun xs e => by cases e) (fun xs e => by cases e) line_c fun H8 s8 hl8 => ?_
          obtain ⟨d3, bg3, be3, hI3, hG3, hE3⟩ := id hl8
          refine ⟨l3, C, d3, _, _, rfl, hI3, L.cl, L.nE, get_e _ _ _, by show 4 ≤ sizeLine; decide, fun p4 n4 => ?_⟩
          have t4 := same_new (o := .tup [.int 1, .int 2, .int 3, .int 4]) n4
          refine ⟨tI [1, 2, 3, 4], tI [1, 2, 3, 4], dp_tI (t4 _ _ hE3), dp_tI (ns := [1, 2, 3, 4]) upd_same, shaped_tI _, shaped_tI _, _, rfl, iteE (by rw [eqv_tI]; decide) ?_⟩
          exact ⟨_, _, _, _, _, _, _, _, _, _, _, _, _, _, _, rfl, ((((s1.trans s13).trans sm6).trans s67).trans (t3.trans s8)).trans t4⟩
    · obtain ⟨o1, o2, o3, o4, o5, o6, o7, o8, o9, o10, o11, o12, o13, o14, o15, rfl, s1⟩ := hP
      have nfC : PySem.W.notFirst K C (.ref C) = true := by
        unfold PySem.W.notFirst
        simp
      have ski : ∀ (Hx : Hp) (ys : List Int), ∀ x ∈ ys.map V.int, ∃ s, Sk C Hx x s := fun Hx ys x hx => by
        obtain ⟨z, _, rfl⟩ := List.mem_map.mp hx
        exact ⟨_, .int z⟩
      have le : ∀ (ys : List V), ys.length ≤ 10 → ∀ xs, some ys = some xs → xs.length ≤ 1000 := fun ys hy xs e => by cases e; omega
      have n3 : ∀ (c n : Int), c ≤ 100 → V.int c = .int n → n ≤ 100 := fun c n h e => by cases e; exact h
      refine fun l1 dl1 nl1 ndl1 nel1 => make_line (m := (0, [0], [])) nl1 ndl1 nel1 (.int 0) (.atom .non rfl) (.atom .non rfl) (fun n => n3 0 n (by decide)) (fun xs e => by cases e) (fun xs e => by cases e) line_d fun H2 s2 hl2 => ?_
      refine ⟨by show 1 ≤ sizeLine; decide, fun p1 n1 => ⟨by show 0 ≤ sizeLine; decide, fun p2 n2 => ?_⟩⟩
      have t1 := same_new (o := .lst [.int 0]) n1
      have t2 := same_new (o := .tup []) n2
      have hp1 := t2 _ _ (upd_same (H := H2) (a := p1) (o := .lst [.int 0]))
      have hp2 := upd_same (H := upd H2 p1 (.lst [.int 0])) (a := p2) (o := .tup [])
      refine fun l2 dl2 nl2 ndl2 nel2 => make_line (m := (0, [0], [])) nl2 ndl2 nel2 (.int 0) (.lst hp1 (ski _ [0])) (.tup hp2 (ski _ [])) (fun n => n3 0 n (by decide)) (le _ (by show 1 ≤ 10; decide)) (le _ (by show 0 ≤ 10; decide)) (line_e _ _) fun H3 s3 hl3 => ?_
      have hk3 := ((hl2.same t1).same t2).same s3
      obtain ⟨dk, bgk, bek, hIk, hGk, hEk⟩ := id hk3
      obtain ⟨d2, bg2, be2, hI2, hG2, hE2⟩ := id hl3
      refine ⟨l1, dk, _, .ref C, rfl, hIk, (Sk.line (C := C) hI2).tyx L, nfC, l1, .ref l2, _, _, rfl, hk3, .line hl3, _, rfl, _, rfl, iteY (by decide) ?_⟩
      refine ⟨by show 0 ≤ sizeLine; decide, fun p4 n4 => ?_⟩
      refine fun l4 dl4 nl4 ndl4 nel4 => make_line (m := (0, [], [])) nl4 ndl4 nel4 (.int 0) (.lst (upd_same (H := H3) (a := p4) (o := .lst [])) (ski _ [])) (.atom .non rfl) (fun n => n3 0 n (by decide)) (le _ (by show 0 ≤ 10; decide)) (fun xs e => by cases e) (line_f _) fun H5 s5 hl5 => ?_
      obtain ⟨d5, bg5, be5, hI5, hG5, hE5⟩ := id hl5
      refine ⟨l4, C, d5, _, _, rfl, hI5, L.cl, L.nG, get_g _ _ _, by show 0 ≤ sizeLine; decide, fun p6 n6 => ?_⟩
      have t6 := same_new (o := .tup []) n6
      exact ⟨tI [], tI [], dp_tI (t6 _ _ hG5), dp_tI (ns := []) upd_same, shaped_tI _, shaped_tI _, q _⟩
end
end K30

set_option Elab.async false
set_option linter.all false
set_option maxRecDepth 100000
set_option maxHeartbeats 2000000
namespace K30
open PySem L2
theorem all_mk {w : World} {K : PySem.W.Frag} {h : Heap} {mg : Str → Option Value} {fa C : Addr} (X : K.In h) (G : h.Ns mainGlobals mg) (hfa : mg "law" = some (.ref fa))
    {fI : Addr} {odI anI : Option Addr} {slI : Array (Option Value)} {ocI kVI dcI pmI cdI ctI : Value}
    {fN : Addr} {odN anN : Option Addr} {slN : Array (Option Value)} {ocN kVN dcN pmN cdN ctN : Value}
    {fQ : Addr} {odQ anQ : Option Addr} {slQ : Array (Option Value)} {ocQ kVQ dcQ pmQ cdQ ctQ : Value}
    {fM : Addr} {odM anM : Option Addr} {slM : Array (Option Value)} {ocM kVM dcM pmM cdM ctM : Value}
    {fT : Addr} {odT anT : Option Addr} {slT : Array (Option Value)} {ocT kVT dcT pmT cdT ctT : Value}
    {fF : Addr} {odF anF : Option Addr} {slF : Array (Option Value)} {ocF kVF dcF pmF cdF ctF : Value}
    {fP : Addr} {odP anP : Option Addr} {slP : Array (Option Value)} {ocP kVP dcP pmP cdP ctP : Value}
    {fS : Addr} {odS anS : Option Addr} {slS : Array (Option Value)} {ocS kVS dcS pmS cdS ctS : Value}
    {fG : Addr} {odG anG : Option Addr} {slG : Array (Option Value)} {ocG kVG dcG pmG cdG ctG : Value}
    {fU : Addr} {odU anU : Option Addr} {slU : Array (Option Value)} {ocU kVU dcU pmU cdU ctU : Value}
    {fA : Addr} {odA anA : Option Addr} {slA : Array (Option Value)} {ocA kVA dcA pmA cdA ctA : Value}
    {fD : Addr} {odD anD : Option Addr} {slD : Array (Option Value)} {ocD kVD dcD pmD cdD ctD : Value}
    {fW : Addr} {odW anW : Option Addr} {slW : Array (Option Value)} {ocW kVW dcW pmW cdW ctW : Value}
    {fL : Addr} {odL anL : Option Addr} {slL : Array (Option Value)} {ocL kVL dcL pmL cdL ctL : Value}
    {fE : Addr} {odE anE : Option Addr} {slE : Array (Option Value)} {ocE kVE dcE pmE cdE ctE : Value}
    {TD : Addr} {ocZ : Value} {odZ : Option Addr} {itZ : Array Value} {nZ : Nat} {slZ : Array (Option Value)}
    {CE fX CK CT cc cda : Addr} {nm qn : Str} {NN : Addr} {bs bm : List Value} {sn : List Str} {sub : List Value} {ab : Bool} {col : Option Bool} {dd : Option Addr} {m0 m1 m2 m3 m5 : Option Value} {odX anX : Option Addr} {slX : Array (Option Value)} {ocX dcX pmX ctX : Value} {x1 x2 x3 : Nat} {ccl : Value} {cdd : Option Addr} {vs : Array Value} {ccs : Array (Option Value)} {file : Str} {tf : Tok} {cl : Value} {cld : Option Addr} {csl : Array (Option Value)}
    (aI : PySem.W.nsIn K mainGlobals "is_integer" = some (some (.ref fI)))
    (lI : K.lookup fI = some ⟨ocI, odI, .func (PySem.W.fnOf "is_integer" "is_integer" (defArgs (topS 6)) (defBody (topS 6)) (defScope (topS 6)) .none kVI dcI pmI anI cdI ctI), slI⟩)
    (cI : PySem.W.codeIn K cdI "is_integer" = true)
    (kI : PySem.W.keepIn K (.ref fI) = true)
    (aN : PySem.W.nsIn K mainGlobals "is_number" = some (some (.ref fN)))
    (lN : K.lookup fN = some ⟨ocN, odN, .func (PySem.W.fnOf "is_number" "is_number" (defArgs (topS 7)) (defBody (topS 7)) (defScope (topS 7)) .none kVN dcN pmN anN cdN ctN), slN⟩)
    (cN : PySem.W.codeIn K cdN "is_number" = true)
    (kN : PySem.W.keepIn K (.ref fN) = true)
    (aQ : PySem.W.nsIn K mainGlobals "is_sequence" = some (some (.ref fQ)))
    (lQ : K.lookup fQ = some ⟨ocQ, odQ, .func (PySem.W.fnOf "is_sequence" "is_sequence" (defArgs (topS 8)) (defBody (topS 8)) (defScope (topS 8)) .none kVQ dcQ pmQ anQ cdQ ctQ), slQ⟩)
    (cQ : PySem.W.codeIn K cdQ "is_sequence" = true)
    (kQ : PySem.W.keepIn K (.ref fQ) = true)
    (aM : PySem.W.nsIn K mainGlobals "numbers_of" = some (some (.ref fM)))
    (lM : K.lookup fM = some ⟨ocM, odM, .func (PySem.W.fnOf "numbers_of" "numbers_of" (defArgs (topS 16)) (defBody (topS 16)) (defScope (topS 16)) .none kVM dcM pmM anM cdM ctM), slM⟩)
    (cM : PySem.W.codeIn K cdM "numbers_of" = true)
    (kM : PySem.W.keepIn K (.ref fM) = true)
    (aT : PySem.W.nsIn K mainGlobals "_law_take" = some (some (.ref fT)))
    (lT : K.lookup fT = some ⟨ocT, odT, .func (PySem.W.fnOf "_law_take" "_law_take" (defArgs (topS 20)) (defBody (topS 20)) (defScope (topS 20)) .none kVT dcT pmT anT cdT ctT), slT⟩)
    (cT : PySem.W.codeIn K cdT "_law_take" = true)
    (kT : PySem.W.keepIn K (.ref fT) = true)
    (aF : PySem.W.nsIn K mainGlobals "_law_feed" = some (some (.ref fF)))
    (lF : K.lookup fF = some ⟨ocF, odF, .func (PySem.W.fnOf "_law_feed" "_law_feed" (defArgs (topS 19)) (defBody (topS 19)) (defScope (topS 19)) .none kVF dcF pmF anF cdF ctF), slF⟩)
    (cF : PySem.W.codeIn K cdF "_law_feed" = true)
    (kF : PySem.W.keepIn K (.ref fF) = true)
    (aP : PySem.W.nsIn K mainGlobals "_law_pick" = some (some (.ref fP)))
    (lP : K.lookup fP = some ⟨ocP, odP, .func (PySem.W.fnOf "_law_pick" "_law_pick" (defArgs (topS 21)) (defBody (topS 21)) (defScope (topS 21)) .none kVP dcP pmP anP cdP ctP), slP⟩)
    (cP : PySem.W.codeIn K cdP "_law_pick" = true)
    (kP : PySem.W.keepIn K (.ref fP) = true)
    (aS : PySem.W.nsIn K mainGlobals "_law_some" = some (some (.ref fS)))
    (lS : K.lookup fS = some ⟨ocS, odS, .func (PySem.W.fnOf "_law_some" "_law_some" (defArgs (topS 22)) (defBody (topS 22)) (defScope (topS 22)) .none kVS dcS pmS anS cdS ctS), slS⟩)
    (cS : PySem.W.codeIn K cdS "_law_some" = true)
    (kS : PySem.W.keepIn K (.ref fS) = true)
    (aG : PySem.W.nsIn K mainGlobals "_law_is_good" = some (some (.ref fG)))
    (lG : K.lookup fG = some ⟨ocG, odG, .func (PySem.W.fnOf "_law_is_good" "_law_is_good" (defArgs (topS 24)) (defBody (topS 24)) (defScope (topS 24)) .none kVG dcG pmG anG cdG ctG), slG⟩)
    (cG : PySem.W.codeIn K cdG "_law_is_good" = true)
    (kG : PySem.W.keepIn K (.ref fG) = true)
    (aU : PySem.W.nsIn K mainGlobals "_law_due" = some (some (.ref fU)))
    (lU : K.lookup fU = some ⟨ocU, odU, .func (PySem.W.fnOf "_law_due" "_law_due" (defArgs (topS 23)) (defBody (topS 23)) (defScope (topS 23)) .none kVU dcU pmU anU cdU ctU), slU⟩)
    (cU : PySem.W.codeIn K cdU "_law_due" = true)
    (kU : PySem.W.keepIn K (.ref fU) = true)
    (aA : PySem.W.nsIn K mainGlobals "_law_answer" = some (some (.ref fA)))
    (lA : K.lookup fA = some ⟨ocA, odA, .func (PySem.W.fnOf "_law_answer" "_law_answer" (defArgs (topS 25)) (defBody (topS 25)) (defScope (topS 25)) .none kVA dcA pmA anA cdA ctA), slA⟩)
    (cA : PySem.W.codeIn K cdA "_law_answer" = true)
    (kA : PySem.W.keepIn K (.ref fA) = true)
    (aD : PySem.W.nsIn K mainGlobals "_law_edges" = some (some (.ref fD)))
    (lD : K.lookup fD = some ⟨ocD, odD, .func (PySem.W.fnOf "_law_edges" "_law_edges" (defArgs (topS 26)) (defBody (topS 26)) (defScope (topS 26)) .none kVD dcD pmD anD cdD ctD), slD⟩)
    (cD : PySem.W.codeIn K cdD "_law_edges" = true)
    (kD : PySem.W.keepIn K (.ref fD) = true)
    (aW : PySem.W.nsIn K mainGlobals "law" = some (some (.ref fW)))
    (lW : K.lookup fW = some ⟨ocW, odW, .func (PySem.W.fnOf "law" "law" (defArgs (topS 27)) (defBody (topS 27)) (defScope (topS 27)) .none kVW dcW pmW anW cdW ctW), slW⟩)
    (cW : PySem.W.codeIn K cdW "law" = true)
    (kW : PySem.W.keepIn K (.ref fW) = true)
    (aC : PySem.W.nsIn K mainGlobals "Line" = some (some (.ref C)))
    (aL : PySem.W.findIn K (.ref C) "__init__" = some (some (.ref fL)))
    (iL : PySem.W.isFn K (.ref fL) = true)
    (lL : K.lookup fL = some ⟨ocL, odL, .func (PySem.W.fnOf "__init__" "Line.__init__" (defArgs (inClass (topS 17) 0)) (defBody (inClass (topS 17) 0)) (defScope (inClass (topS 17) 0)) (.ref TD) kVL dcL pmL anL cdL ctL), slL⟩)
    (cL : PySem.W.codeIn K cdL "Line.__init__" = true)
    (kL : PySem.W.keepIn K (.ref fL) = true)
    (aE : PySem.W.findIn K (.ref C) "__eq__" = some (some (.ref fE)))
    (iE : PySem.W.isFn K (.ref fE) = true)
    (lE : K.lookup fE = some ⟨ocE, odE, .func (PySem.W.fnOf "__eq__" "Line.__eq__" (defArgs (inClass (topS 17) 4)) (defBody (inClass (topS 17) 4)) (defScope (inClass (topS 17) 4)) .none kVE dcE pmE anE cdE ctE), slE⟩)
    (cE : PySem.W.codeIn K cdE "Line.__eq__" = true)
    (kE : PySem.W.keepIn K (.ref fE) = true)
    (lTD : K.lookup TD = some ⟨ocZ, odZ, .seq itZ nZ, slZ⟩)
    (qTD : itZ.toList = [.none, .none])
    (hne : PySem.W.findIn K (.ref C) "__ne__" = some (some (.builtin "object.__ne__")))
    (pg : PySem.W.plainGet K C Str.empty = true)
    (hd : PySem.W.hasDictIn K C = true)
    (po : PySem.W.plainOver K C = true)
    (sa : PySem.W.findIn K (.ref C) "__setattr__" = some (some (.builtin "object.__setattr__")))
    (mk : PySem.W.makesIn K C = true)
    (kc : PySem.W.keepIn K (.ref C) = true)
    (nP : PySem.W.findIn K (.ref C) "people" = some none)
    (nG : PySem.W.findIn K (.ref C) "goes" = some none)
    (nE : PySem.W.findIn K (.ref C) "edges" = some none)
    (ha : PySem.W.findIn K (.ref C) "__class__" = some (some (.builtin "object.__class__")))
    (hn : PySem.W.specialIn K (.builtin "object.__class__") "__get__" = some (some (.builtin "getset_descriptor.__get__")))
    (ht : PySem.W.takesIn K (.builtin "object.__class__") = some true)
    (hm : PySem.W.mroIn K C (.type "object") = some true)
    (kInt : PySem.W.kitOne K (.ref C) (.type "int") = some false)
    (kBool : PySem.W.kitOne K (.ref C) (.type "bool") = some false)
    (kList : PySem.W.kitOne K (.ref C) (.type "list") = some false)
    (kTup : PySem.W.kitOne K (.ref C) (.type "tuple") = some false)
    (kStr : PySem.W.kitOne K (.ref C) (.type "str") = some false)
    (kOwn : PySem.W.kitOne K (.ref C) (.ref C) = some true)
    (kTL : PySem.W.kitOne K (.type "tuple") (.ref C) = some false)
    (kNL : PySem.W.kitOne K (.type "NoneType") (.ref C) = some false)
    (fTL : PySem.W.notFirst K C (.type "tuple") = true)
    (fNL : PySem.W.notFirst K C (.type "NoneType") = true)
    (aX : PySem.W.nsIn K mainGlobals "InvalidLine" = some (some (.ref CE)))
    (xX : K.lookup CE = some (PySem.excClassObj nm qn CE NN bs bm true sn sub ab col dd m0 m1 m2 m3 m5 "ValueError.__new__"))
    (rX : PySem.HandSPX.refsVE bm = true)
    (saX : PySem.W.findIn K (.ref CE) "__setattr__" = some (some (.builtin "object.__setattr__")))
    (gaX : PySem.W.findIn K (.ref CE) "__getattribute__" = some (some (.builtin "BaseException.__getattribute__")))
    (ggX : PySem.W.findIn K (.ref CE) "__getattr__" = some none)
    (nwX : PySem.W.findIn K (.ref CE) "word" = some none)
    (iX : PySem.W.findIn K (.ref CE) "__init__" = some (some (.ref fX)))
    (tX : PySem.W.typeIn K (.ref fX) = some (.type "function"))
    (kX : PySem.W.keepIn K (.ref CE) = true)
    (eX : PySem.W.subIn K (.ref CE) (.type "BaseException") = some true)
    (yX : PySem.W.typeIn K (.ref CE) = some (.type "type"))
    (hX : PySem.W.hasDictIn K CE = true)
    (uX : PySem.W.ks_superIn K CE CE "__init__" = some (some (.builtin "ValueError.__init__")))
    (vX : PySem.W.subIn K (.ref CE) (.type "ValueError") = some true)
    (sX : PySem.W.mroIn K CE (.ref CE) = some true)
    (oX : PySem.W.nsIn K cStatics "thirdparty.any" = some none)
    (zX : PySem.W.nsIn K mainGlobals "super" = some none)
    (lX : K.lookup fX = some ⟨ocX, odX, .func (PySem.W.ksFn "__init__" "InvalidLine.__init__" (PySem.ErrX.iA x1) (PySem.ErrX.iB x2 x3) PySem.ErrX.iS .none .none dcX pmX anX (.ref cda) ctX cc), slX⟩)
    (cX : PySem.W.codeIn K (.ref cda) "InvalidLine.__init__" = true)
    (dX : K.lookup cda = some ⟨ccl, cdd, .fields vs, ccs⟩)
    (fX2 : vs[2]? = some (.str file tf))
    (fX3 : ((PySem.Challenge.pw_foreheads_k30_lines_made_and_refused.main.file : Str) == file) = true)
    (ccX : K.lookup cc = some ⟨cl, cld, .cell (some (.ref CE)), csl⟩)
    (ecA : PySem.W.findIn K (.ref CE) "__class__" = some (some (.builtin "object.__class__")))
    (ecM : PySem.W.mroIn K CE (.type "object") = some true)
    (te : PySem.W.exmOne K (.ref CE) (.ref CE) = some true)
    (aK : PySem.W.nsIn K mainGlobals "KnowError" = some (some (.ref CK)))
    (aV : PySem.W.nsIn K mainGlobals "InvalidTalk" = some (some (.ref CT)))
    (kK : PySem.W.kitOne K (.ref CE) (.ref CK) = some true)
    (kV : PySem.W.kitOne K (.ref CE) (.ref CT) = some false)
    (z0 : PySem.W.nsIn K mainGlobals "int" = some none)
    (z1 : PySem.W.nsIn K mainGlobals "len" = some none)
    (z2 : PySem.W.nsIn K mainGlobals "range" = some none)
    (z3 : PySem.W.nsIn K mainGlobals "list" = some none)
    (z4 : PySem.W.nsIn K mainGlobals "tuple" = some none)
    (z5 : PySem.W.nsIn K mainGlobals "all" = some none)
    (z6 : PySem.W.nsIn K mainGlobals "any" = some none)
    (z7 : PySem.W.nsIn K mainGlobals "isinstance" = some none)
    (z8 : PySem.W.nsIn K mainGlobals "max" = some none)
    (z9 : PySem.W.nsIn K mainGlobals "min" = some none)
    (z10 : PySem.W.nsIn K mainGlobals "repr" = some none)
    (z11 : PySem.W.nsIn K mainGlobals "bool" = some none)
    (z12 : PySem.W.nsIn K mainGlobals "str" = some none) :
    ∃ fd : FuncData, (∀ (s : Shared) (v : Value), BindsTo s fd ⟨[v], []⟩ [("_law_script", v)]) ∧ ∀ base : Heap, K.In base → base.Ns mainGlobals mg → FnG PySem.Challenge.pw_foreheads_k30_lines_made_and_refused w K mg base 7 fa fd ["_law_script"] (spLaw K) := by
  have e := hfa.symm.trans (PySem.W.mg_of X G aW)
  cases e
  have T : Bt mg := ⟨PySem.W.mg_none_of X G z0, PySem.W.mg_none_of X G z1, PySem.W.mg_none_of X G z2, PySem.W.mg_none_of X G z3, PySem.W.mg_none_of X G z4, PySem.W.mg_none_of X G z5, PySem.W.mg_none_of X G z6, PySem.W.mg_none_of X G z7, PySem.W.mg_none_of X G z8, PySem.W.mg_none_of X G z9, PySem.W.mg_none_of X G z10, PySem.W.mg_none_of X G z11, PySem.W.mg_none_of X G z12⟩
  have L : LineC K mg C := ⟨⟨pg, hd, po, sa⟩, nP, nG, nE, PySem.W.mg_of X G aC, ha, hn, ht, hm, kInt, kBool, kList, kTup, kStr, kOwn, kTL, kNL, fTL, fNL⟩
  have XE : PySem.ErrX.ErrTxt PySem.Challenge.pw_foreheads_k30_lines_made_and_refused K mg "InvalidLine" CE fX :=
    { gC := PySem.W.mg_of X G aX, cls := ⟨nm, qn, NN, bs, bm, sn, sub, ab, col, dd, m0, m1, m2, m3, m5, xX, rX⟩, sa := saX, ga := gaX, gg := ggX, noN := nwX, iC := iX, tC := tX, kC := kX, exC := eX, tyC := yX, hdC := hX, sup := uX, sV := vX, sS := sX, op := oX, su := zX, top := by decide +kernel,
      fn := ⟨_, _, _, _, _, _, _, _, _, _, _, cc, cda, lX, cX, ⟨_, _, _, _, _, _, dX, fX2, fX3⟩, _, _, _, ccX⟩ }
  have EC : PySem.W.EcC K CE := ⟨gaX, ggX, eX, hX, ecA, hn, ht, ecM⟩
  have XF : XfC K CE := ⟨gaX, ggX, eX, hX⟩
  have FI := fun_mk (st := topS 6) lI cI kI
  have bI := FI.binds (ps := ["value"]) fun _ _ _ _ _ _ us hl => match us, hl with | [_], _ => rfl
  have FN := fun_mk (st := topS 7) lN cN kN
  have bN := FN.binds (ps := ["value"]) fun _ _ _ _ _ _ us hl => match us, hl with | [_], _ => rfl
  have FQ := fun_mk (st := topS 8) lQ cQ kQ
  have bQ := FQ.binds (ps := ["value"]) fun _ _ _ _ _ _ us hl => match us, hl with | [_], _ => rfl
  have FM := fun_mk (st := topS 16) lM cM kM
  have bM := FM.binds (ps := ["value", "least", "people", "word"]) fun _ _ _ _ _ _ us hl => match us, hl with | [_, _, _, _], _ => rfl
  have FT := fun_mk (st := topS 20) lT cT kT
  have bT := FT.binds (ps := ["_law_box", "_law_many"]) fun _ _ _ _ _ _ us hl => match us, hl with | [_, _], _ => rfl
  have FF := fun_mk (st := topS 19) lF cF kF
  have bF := FF.binds (ps := ["_law_script", "_law_k"]) fun _ _ _ _ _ _ us hl => match us, hl with | [_, _], _ => rfl
  have FP := fun_mk (st := topS 21) lP cP kP
  have bP := FP.binds (ps := ["_law_box", "_law_some_here"]) fun _ _ _ _ _ _ us hl => match us, hl with | [_, _], _ => rfl
  have FS := fun_mk (st := topS 22) lS cS kS
  have bS := FS.binds (ps := ["_law_box", "_law_low", "_law_high"]) fun _ _ _ _ _ _ us hl => match us, hl with | [_, _, _], _ => rfl
  have FG := fun_mk (st := topS 24) lG cG kG
  have bG := FG.binds (ps := ["_law_value", "_law_low", "_law_high"]) fun _ _ _ _ _ _ us hl => match us, hl with | [_, _, _], _ => rfl
  have FU := fun_mk (st := topS 23) lU cU kU
  have bU := FU.binds (ps := ["_law_people", "_law_goes", "_law_edges_here"]) fun _ _ _ _ _ _ us hl => match us, hl with | [_, _, _], _ => rfl
  have FA := fun_mk (st := topS 25) lA cA kA
  have bA := FA.binds (ps := ["_law_people", "_law_goes", "_law_edges_here"]) fun _ _ _ _ _ _ us hl => match us, hl with | [_, _, _], _ => rfl
  have FD := fun_mk (st := topS 26) lD cD kD
  have bD := FD.binds (ps := ["_law_box", "_law_size", "_law_goes"]) fun _ _ _ _ _ _ us hl => match us, hl with | [_, _, _], _ => rfl
  have FW := fun_mk (st := topS 27) lW cW kW
  have bW := FW.binds (ps := ["_law_script"]) fun _ _ _ _ _ _ us hl => match us, hl with | [_], _ => rfl
  have FE := fun_mk (st := inClass (topS 17) 4) lE cE kE
  have bE := FE.binds (ps := ["self", "other"]) fun _ _ _ _ _ _ us hl => match us, hl with | [_, _], _ => rfl
  have FL : FunD K "__init__" "Line.__init__" (defArgs sInit) (defBody sInit) (defScope sInit) [.non, .non] [] fL _ := ⟨⟨_, _, _, _, _, _, _, _, _, _, rfl, lL, cL, .inr ⟨by simp, TD, _, itZ.toList, _, rfl, lTD, by show Data.seq itZ nZ = Data.seq itZ.toList.toArray nZ; rw [Array.toArray_toList], by rw [qTD]; exact .cons rfl (.cons rfl .nil)⟩, .inl rfl⟩, kL⟩
  have pL : List Str := ["self", "people", "goes", "edges"]
  obtain ⟨ds2, vL2, bL2⟩ := FL.binds1 (ps := ["self", "people", "goes", "edges"]) 2 0 (by simp) rfl fun _ _ _ _ _ _ _ us its hu hi => match us, hu, its, hi with | [_, _], _, [_, _], _ => ⟨_, rfl, rfl⟩
  obtain ⟨ds1, vL1, bL1⟩ := FL.binds1 (ps := ["self", "people", "goes", "edges"]) 3 1 (by simp) rfl fun _ _ _ _ _ _ _ us its hu hi => match us, hu, its, hi with | [_, _, _], _, [_, _], _ => ⟨_, rfl, rfl⟩
  obtain ⟨ds0, vL0, bL0⟩ := FL.binds1 (ps := ["self", "people", "goes", "edges"]) 4 2 (by simp) rfl fun _ _ _ _ _ _ _ us its hu hi => match us, hu, its, hi with | [_, _, _, _], _, [_, _], _ => ⟨_, rfl, rfl⟩
  cases vL0
  have MK : Mk K C fL := ⟨mk, aL, iL, kc⟩
  refine ⟨PySem.W.fnOf "law" "law" (defArgs (topS 27)) (defBody (topS 27)) (defScope (topS 27)) .none kVW dcW pmW anW cdW ctW, fun s v => .of_eq rfl, fun base _ _ => ?_⟩
  have GL : ∀ k, FnOk PySem.Challenge.pw_foreheads_k30_lines_made_and_refused w K mg base (L2.CX _ w) (k + 3) fL _ ["self", "people", "goes", "edges"] (spInit C CE) := fun k => ok_init FL T L XE FI bI (PySem.W.mg_of X G aI) FQ bQ (PySem.W.mg_of X G aQ) FN bN (PySem.W.mg_of X G aN) FM bM (PySem.W.mg_of X G aM)
  have GS : ∀ k, FnOk PySem.Challenge.pw_foreheads_k30_lines_made_and_refused w K mg base CX0 (k + 5) fS _ ["_law_box", "_law_low", "_law_high"] (spSome K C) := fun k => ok_some FS T L FT bT (PySem.W.mg_of X G aT) FP bP (PySem.W.mg_of X G aP) (GL k) bL2 vL2 MK
  exact ok_law (k := 0) FW T L FT bT (PySem.W.mg_of X G aT) (ok_take FT T) FP bP (PySem.W.mg_of X G aP) (ok_pick FP T FT bT (PySem.W.mg_of X G aT)) FF bF (PySem.W.mg_of X G aF) (ok_feed FF T) FS bS (PySem.W.mg_of X G aS) (GS 1) FD bD (PySem.W.mg_of X G aD) (ok_edges (k := 0) (fL := fL) (fP := fP) (fdL := PySem.W.fnOf "" "" (defArgs sInit) [] (defScope sInit) .none .none .none .none none .none .none) (fdP := PySem.W.fnOf "" "" (defArgs sInit) [] (defScope sInit) .none .none .none .none none .none .none) (ds2 := []) FD T L FT bT (PySem.W.mg_of X G aT) FS bS (PySem.W.mg_of X G aS) FG bG (PySem.W.mg_of X G aG) (GS 0))
    FU bU (PySem.W.mg_of X G aU) (ok_due (k := 4) FU T L FG bG (PySem.W.mg_of X G aG)) FA bA (PySem.W.mg_of X G aA) (ok_ans (k := 1) FA T L XE (GL 1) bL0 MK EC XF te (PySem.W.mg_of X G aK) (PySem.W.mg_of X G aV) kK kV) FE bE aE iE hne hm (GL 2) MK bL0 bL1 vL1 bL2 vL2
end K30
namespace K30
open PySem L2
theorem walk {l : PySem.W.OpenLaw} {q : Program} {loose : List Str} {XP : (Str → Option Value) → Heap → Prop} {YP : World → Heap → Prop} {d : DefRec} {K : Params → PySem.W.Frag} (hn : l.most = some 63) (hdf : d.params.defaults = [])
    (hY : ∀ (w : World) (h : Heap), YP w h → (K w.params).In h)
    (F : ∀ (w : World) (mg : Str → Option Value) (fa : Addr) (h : Heap), (K w.params).In h → h.Ns mainGlobals mg → mg d.name = some (.ref fa) →
      ∃ fd : FuncData, (∀ (s : Shared) (u : Value), BindsTo s fd ⟨[u], []⟩ [("_law_script", u)]) ∧ ∀ base : Heap, (K w.params).In base → base.Ns mainGlobals mg → FnG l.prog w (K w.params) mg base 7 fa fd ["_law_script"] (spLaw (K w.params))) :
    PySem.W.WalkO q loose XP YP l.row.toRowW d [] (fun f vs => PySem.call f vs) :=
  L2.walk_ofG (n := 63) (k := 7) (x := "_law_script") (sp := fun K => spLaw K) hn (by decide) hdf ⟨rfl, by decide, by decide⟩ hY F (fun _ _ a ns hl _ hS => ⟨a, ns, rfl, hS, Nat.le_trans hl (by decide), fun _ => rfl⟩)
end K30
open PySem PySem.W PyProof.Rows
set_option maxRecDepth 100000 in
set_option maxHeartbeats 0 in
theorem PySem.Challenge.cw_foreheads_k30_lines_made_and_refused_holds : PySem.Challenge.rw_foreheads_k30_lines_made_and_refused.Holds := by
  w_on; o_law; k_head; (case hw => w_witness2)
  k_fill
  refine K30.walk (l := PySem.Challenge.rw_foreheads_k30_lines_made_and_refused) rfl rfl (fun w h Y => PySem.W.kIn_of Y) ?F
  case F =>
    intro w mg fa h KX G hmg
    refine' K30.all_mk KX G hmg ?aI ?lI ?cI ?kI ?aN ?lN ?cN ?kN ?aQ ?lQ ?cQ ?kQ ?aM ?lM ?cM ?kM ?aT ?lT ?cT ?kT ?aF ?lF ?cF ?kF ?aP ?lP ?cP ?kP ?aS ?lS ?cS ?kS ?aG ?lG ?cG ?kG ?aU ?lU ?cU ?kU ?aA ?lA ?cA ?kA ?aD ?lD ?cD ?kD ?aW ?lW ?cW ?kW ?aC ?aL ?iL ?lL ?cL ?kL ?aE ?iE ?lE ?cE ?kE ?lTD ?qTD ?hne ?pg ?hd ?po ?sa ?mk ?kc ?nP ?nG ?nE ?ha ?hn ?ht ?hm ?kInt ?kBool ?kList ?kTup ?kStr ?kOwn ?kTL ?kNL ?fTL ?fNL ?aX ?xX ?rX ?saX ?gaX ?ggX ?nwX ?iX ?tX ?kX ?eX ?yX ?hX ?uX ?vX ?sX ?oX ?zX ?lX ?cX ?dX ?fX2 ?fX3 ?ccX ?ecA ?ecM ?te ?aK ?aV ?kK ?kV ?z0 ?z1 ?z2 ?z3 ?z4 ?z5 ?z6 ?z7 ?z8 ?z9 ?z10 ?z11 ?z12
    (case aI => k_is)
    (case lI => k_is)
    (case cI => k_is)
    (case kI => k_is)
    (case aN => k_is)
    (case lN => k_is)
    (case cN => k_is)
    (case kN => k_is)
    (case aQ => k_is)
    (case lQ => k_is)
    (case cQ => k_is)
    (case kQ => k_is)
    (case aM => k_is)
    (case lM => k_is)
    (case cM => k_is)
    (case kM => k_is)
    (case aT => k_is)
    (case lT => k_is)
    (case cT => k_is)
    (case kT => k_is)
    (case aF => k_is)
    (case lF => k_is)
    (case cF => k_is)
    (case kF => k_is)
    (case aP => k_is)
    (case lP => k_is)
    (case cP => k_is)
    (case kP => k_is)
    (case aS => k_is)
    (case lS => k_is)
    (case cS => k_is)
    (case kS => k_is)
    (case aG => k_is)
    (case lG => k_is)
    (case cG => k_is)
    (case kG => k_is)
    (case aU => k_is)
    (case lU => k_is)
    (case cU => k_is)
    (case kU => k_is)
    (case aA => k_is)
    (case lA => k_is)
    (case cA => k_is)
    (case kA => k_is)
    (case aD => k_is)
    (case lD => k_is)
    (case cD => k_is)
    (case kD => k_is)
    (case aW => k_is)
    (case lW => k_is)
    (case cW => k_is)
    (case kW => k_is)
    (case aC => k_is)
    (case aL => k_is)
    (case iL => k_is)
    (case lL => k_is)
    (case cL => k_is)
    (case kL => k_is)
    (case aE => k_is)
    (case iE => k_is)
    (case lE => k_is)
    (case cE => k_is)
    (case kE => k_is)
    (case lTD => k_is)
    (case qTD => rfl)
    (case hne => k_is)
    (case pg => k_is)
    (case hd => k_is)
    (case po => k_is)
    (case sa => k_is)
    (case mk => k_is)
    (case kc => k_is)
    (case nP => k_is)
    (case nG => k_is)
    (case nE => k_is)
    (case ha => k_is)
    (case hn => k_is)
    (case ht => k_is)
    (case hm => k_is)
    (case kInt => kit_is)
    (case kBool => kit_is)
    (case kList => kit_is)
    (case kTup => kit_is)
    (case kStr => kit_is)
    (case kOwn => kit_is)
    (case kTL => kit_is)
    (case kNL => kit_is)
    (case fTL => k_is)
    (case fNL => k_is)
    (case aX => k_is)
    (case xX => k_is)
    (case rX => first | rfl | decide +kernel)
    (case saX => k_is)
    (case gaX => k_is)
    (case ggX => k_is)
    (case nwX => k_is)
    (case iX => k_is)
    (case tX => k_is)
    (case kX => k_is)
    (case eX => k_is)
    (case yX => k_is)
    (case hX => k_is)
    (case uX => ks_is)
    (case vX => k_is)
    (case sX => k_is)
    (case oX => k_is)
    (case zX => k_is)
    (case lX => k_is)
    (case cX => k_is)
    (case dX => k_is)
    (case fX2 => rfl)
    (case fX3 => first | rfl | decide +kernel)
    (case ccX => k_is)
    (case ecA => k_is)
    (case ecM => k_is)
    (case te => kts_exm)
    (case aK => k_is)
    (case aV => k_is)
    (case kK => kit_is)
    (case kV => kit_is)
    (case z0 => k_is)
    (case z1 => k_is)
    (case z2 => k_is)
    (case z3 => k_is)
    (case z4 => k_is)
    (case z5 => k_is)
    (case z6 => k_is)
    (case z7 => k_is)
    (case z8 => k_is)
    (case z9 => k_is)
    (case z10 => k_is)
    (case z11 => k_is)
    (case z12 => k_is)
