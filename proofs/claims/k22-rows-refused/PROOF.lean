import PyProof.Rows.All
import Wide.All
import OpenK.AllK
import Wide.FinOn
import HandS.ForMost
import HandS.ForExc
import HandS.IsInst
import HandS.Conv
import HandS.Defaults
import HandS.Style
import KE.KExcSuper
import HandS.ExcField
import HandS.ExcIs
import KE.KSuper
import HandS.Nested
import HandS.ClsMeth
import KE.KStateDown
import HandS.Property
import HandS.Head0
import HandS.Head1
import HandS.Head2
import HandS.HeadEnd
import HandS.HeadHook1
import HandS.HeadHook2
import Open.Seg
import PyProof.InstEq
import HandS.OwnEq
import HandS.Text
import HandS.Zip
import HandS.Star
import HandS.FStr
import HandS.NoneIn
import HandS.TupAny
import HandS.ReplaceLit
import PyProof.ListStr
import KE.KOpsOwn
import KE.KCallOwn
import PyProof.ZipIter
import PyProof.Draws
import KE.KStar
import HandS.Iter
import KE.KLam
import KE.KNest
import HandS.Lambda
import HandS.Words
import HandS.Codes
import PyProof.P3In
import HandS.Deep
import HandS.WordsExc
import HandS.RaiseMore
import PyProof.EqAt
import PyProof.NeKinds
import PyProof.EqKinds
import PyProof.FString
import PyProof.NeData
import PySem.Challenge.RW_foreheads_k22_rows_refused
set_option Elab.async false
set_option linter.all false
set_option maxRecDepth 100000
set_option maxHeartbeats 1000000
namespace L2
open PySem
/-! comprehensions whose turns change nothing that is tracked -/
theorem take_fm {α β : Type} (o : α → Option β) {xs : List α} {i : Nat} {x : α} (h : xs[i]? = some x) : (xs.take (i + 1)).filterMap o = (xs.take i).filterMap o ++ (o x).toList := by
  have hi : i < xs.length := (List.getElem?_eq_some_iff.mp h).1
  have e : xs[i] = x := (List.getElem?_eq_some_iff.mp h).2
  rw [List.take_succ_eq_append_getElem hi, List.filterMap_append, e]
  cases q : o x <;> simp [q]
theorem fm_len {α β : Type} (o : α → Option β) (xs : List α) (i : Nat) : ((xs.take i).filterMap o).length ≤ xs.length :=
  Nat.le_trans (List.length_filterMap_le _ _) (by rw [List.length_take]; exact Nat.min_le_right _ _)
section
variable {K : PySem.W.Frag} {a : Addr} {xs : List V} {g : TG} {tt : TT} {te : TE} {vs : List Nat} {σ : St} {H1 : Hp} {D : Addr} {Qd : Hp → Prop}
theorem lc_fmL (nD : H1 D = none) (hl : SqL K H1 a xs) (hz : xs.length < 100000) (o : V → Option V)
    (hs : ∀ (i : Nat) (x : V) (H : Hp) (Nx : Hp → Prop), xs[i]? = some x → Same H1 H → (∀ H' y, Same H H' → o x = some y → ∃ acc, H' D = some (.lst acc) ∧ acc.length < sizeLine ∧ Nx (upd H' D (.lst (acc ++ [y])))) → (∀ H', Same H H' → o x = none → Nx H') →
      g x (wipe σ vs) H fun σ2 H2 => wipe σ2 vs = wipe σ vs ∧ tt σ2 H2 fun b H3 => if b = true then te σ2 H3 fun y H4 => ∃ acc, H4 D = some (.lst acc) ∧ acc.length < sizeLine ∧ Nx (upd H4 D (.lst (acc ++ [y]))) else Nx H3)
    (hd : ∀ H, Same H1 H → H D = some (.lst (xs.filterMap o)) → Qd H) :
    ∃ W : Nat → Nat → Hp → Prop, (∃ m, W 0 m (upd H1 D (.lst []))) ∧ ∀ i m H, W i m H →
      ((Itl K a).stop i H ∧ Qd H) ∨ ((Itl K a).go i H ∧ ∃ Nx : Hp → Prop, (∀ H', Nx H' → ∃ m', m' < m ∧ W (i + 1) m' H') ∧ ∀ x H', (Itl K a).yld i H x H' → g x (wipe σ vs) H' fun σ2 H2 => wipe σ2 vs = wipe σ vs ∧ tt σ2 H2 fun b H3 =>
        if b = true then te σ2 H3 fun y H4 => ∃ acc, H4 D = some (.lst acc) ∧ acc.length < sizeLine ∧ Nx (upd H4 D (.lst (acc ++ [y]))) else Nx H3) := by
  have sm : Same H1 (upd H1 D (.lst [])) := fun b x e => by rw [upd_ne (ne_of_none e nD)]; exact e
  refine lc_list (Pv := fun i H => Same H1 H ∧ H D = some (.lst ((xs.take i).filterMap o))) ⟨sm, upd_same⟩ (fun i H _ h => h.1.seq hl) (fun i x H hx h => ?_) (fun H h => ?_)
  · refine hs i x H _ hx h.1 (fun H' y s e => ⟨_, s _ _ h.2, ?_, fun b z q => ?_, ?_⟩) (fun H' s e => ⟨h.1.trans s, ?_⟩)
    · exact Nat.lt_of_le_of_lt (fm_len o xs i) (Nat.lt_trans hz (by decide))
    · rw [upd_ne (ne_of_none q nD)]
      exact s _ _ (h.1 _ _ q)
    · rw [upd_same, take_fm o hx, e]
      rfl
    · rw [s _ _ h.2, take_fm o hx, e]
      simp
  · exact hd H h.1 (by rw [h.2, List.take_length])
theorem lc_fmT (nD : H1 D = none) (hl : SqT K H1 a xs) (hz : xs.length < 100000) (o : V → Option V)
    (hs : ∀ (i : Nat) (x : V) (H : Hp) (Nx : Hp → Prop), xs[i]? = some x → Same H1 H → (∀ H' y, Same H H' → o x = some y → ∃ acc, H' D = some (.lst acc) ∧ acc.length < sizeLine ∧ Nx (upd H' D (.lst (acc ++ [y])))) → (∀ H', Same H H' → o x = none → Nx H') →
      g x (wipe σ vs) H fun σ2 H2 => wipe σ2 vs = wipe σ vs ∧ tt σ2 H2 fun b H3 => if b = true then te σ2 H3 fun y H4 => ∃ acc, H4 D = some (.lst acc) ∧ acc.length < sizeLine ∧ Nx (upd H4 D (.lst (acc ++ [y]))) else Nx H3)
    (hd : ∀ H, Same H1 H → H D = some (.lst (xs.filterMap o)) → Qd H) :
    ∃ W : Nat → Nat → Hp → Prop, (∃ m, W 0 m (upd H1 D (.lst []))) ∧ ∀ i m H, W i m H →
      ((Itt K a).stop i H ∧ Qd H) ∨ ((Itt K a).go i H ∧ ∃ Nx : Hp → Prop, (∀ H', Nx H' → ∃ m', m' < m ∧ W (i + 1) m' H') ∧ ∀ x H', (Itt K a).yld i H x H' → g x (wipe σ vs) H' fun σ2 H2 => wipe σ2 vs = wipe σ vs ∧ tt σ2 H2 fun b H3 =>
        if b = true then te σ2 H3 fun y H4 => ∃ acc, H4 D = some (.lst acc) ∧ acc.length < sizeLine ∧ Nx (upd H4 D (.lst (acc ++ [y]))) else Nx H3) := by
  have sm : Same H1 (upd H1 D (.lst [])) := fun b x e => by rw [upd_ne (ne_of_none e nD)]; exact e
  have st : ∀ H, Same H1 H → SqT K H a xs := fun H s => by
    rcases hl with (h | ⟨ob, h⟩) | h
    · exact .inl (.inl (s _ _ h))
    · exact .inl (.inr ⟨ob, s _ _ h⟩)
    · exact .inr h
  refine lc_tup (Pv := fun i H => Same H1 H ∧ H D = some (.lst ((xs.take i).filterMap o))) ⟨sm, upd_same⟩ (fun i H _ h => st H h.1) (fun i x H hx h => ?_) (fun H h => ?_)
  · refine hs i x H _ hx h.1 (fun H' y s e => ⟨_, s _ _ h.2, ?_, fun b z q => ?_, ?_⟩) (fun H' s e => ⟨h.1.trans s, ?_⟩)
    · exact Nat.lt_of_le_of_lt (fm_len o xs i) (Nat.lt_trans hz (by decide))
    · rw [upd_ne (ne_of_none q nD)]
      exact s _ _ (h.1 _ _ q)
    · rw [upd_same, take_fm o hx, e]
      rfl
    · rw [s _ _ h.2, take_fm o hx, e]
      simp
  · exact hd H h.1 (by rw [h.2, List.take_length])
theorem lc_fmR {lo : Int} {n : Nat} (nD : H1 D = none) (hz : n < 100000) (o : Nat → Option V)
    (hs : ∀ (i : Nat) (H : Hp) (Nx : Hp → Prop), i < n → Same H1 H → (∀ H' y, Same H H' → o i = some y → ∃ acc, H' D = some (.lst acc) ∧ acc.length < sizeLine ∧ Nx (upd H' D (.lst (acc ++ [y])))) → (∀ H', Same H H' → o i = none → Nx H') →
      g (.int (lo + i)) (wipe σ vs) H fun σ2 H2 => wipe σ2 vs = wipe σ vs ∧ tt σ2 H2 fun b H3 => if b = true then te σ2 H3 fun y H4 => ∃ acc, H4 D = some (.lst acc) ∧ acc.length < sizeLine ∧ Nx (upd H4 D (.lst (acc ++ [y]))) else Nx H3)
    (hd : ∀ H, Same H1 H → H D = some (.lst ((List.range n).filterMap o)) → Qd H) :
    ∃ W : Nat → Nat → Hp → Prop, (∃ m, W 0 m (upd H1 D (.lst []))) ∧ ∀ i m H, W i m H →
      ((Itr lo n).stop i H ∧ Qd H) ∨ ((Itr lo n).go i H ∧ ∃ Nx : Hp → Prop, (∀ H', Nx H' → ∃ m', m' < m ∧ W (i + 1) m' H') ∧ ∀ x H', (Itr lo n).yld i H x H' → g x (wipe σ vs) H' fun σ2 H2 => wipe σ2 vs = wipe σ vs ∧ tt σ2 H2 fun b H3 =>
        if b = true then te σ2 H3 fun y H4 => ∃ acc, H4 D = some (.lst acc) ∧ acc.length < sizeLine ∧ Nx (upd H4 D (.lst (acc ++ [y]))) else Nx H3) := by
  have sm : Same H1 (upd H1 D (.lst [])) := fun b x e => by rw [upd_ne (ne_of_none e nD)]; exact e
  have rg : ∀ i, i < n → (List.range n)[i]? = some i := fun i hi => by simp [hi]
  refine lc_range (Pv := fun i H => Same H1 H ∧ H D = some (.lst (((List.range n).take i).filterMap o))) ⟨sm, upd_same⟩ (fun i H hi h => ?_) (fun H h => ?_)
  · refine hs i H _ hi h.1 (fun H' y s e => ⟨_, s _ _ h.2, ?_, fun b z q => ?_, ?_⟩) (fun H' s e => ⟨h.1.trans s, ?_⟩)
    · exact Nat.lt_of_le_of_lt (fm_len o _ i) (by rw [List.length_range]; exact Nat.lt_trans hz (by decide))
    · rw [upd_ne (ne_of_none q nD)]
      exact s _ _ (h.1 _ _ q)
    · rw [upd_same, take_fm o (rg i hi), e]
      rfl
    · rw [s _ _ h.2, take_fm o (rg i hi), e]
      simp
  · exact hd H h.1 (by rw [h.2]; congr 2; rw [List.take_of_length_le (by simp)])
/-- a list or a tuple walked -/
def iSeq (K : PySem.W.Frag) (tl : TE) : TI := fun σ H R => tl σ H fun x H1 => ∃ (a : Addr) (xs : List V), x = .ref a ∧ ((SqL K H1 a xs ∧ R (Itl K a) H1) ∨ (SqT K H1 a xs ∧ R (Itt K a) H1))
theorem piSK {X : Cx} {tg l : Expr} {tl : TE} (h : X.K = K) (hl : PE X l tl) : PI X tg l (iSeq K tl) := by
  subst h
  refine ⟨fun pins s σ H R I h => ?_⟩
  refine thn (hl.run pins s σ H _ I h) fun v s1 ⟨x, H1, I1, r1, a, xs, e, q⟩ => ?_
  subst e
  cases r1
  have fp : ∀ b ∈ [s1.heap.objs.size], FpOk X pins H1 b := fun b hb => by
    have e : b = s1.heap.objs.size := by simpa using hb
    subst e
    exact I1.fpOk (Nat.le_refl _) (I1.hok.fresh (Nat.le_refl _))
  rcases q with ⟨hq, q⟩ | ⟨hq, q⟩
  · obtain ⟨its, rv, p, hz⟩ := I1.list hq
    exact wpAny_pyIter_list p.isList ⟨_, [s1.heap.objs.size], _, _, H1, rfl, I1.kept (t' := s1.toks) fun b o e => Heap.get?_push_of_some _ e, turn_list a _, ⟨_, Heap.get?_push_size _ rfl, rfl, rfl⟩, fp, q⟩
  · obtain ⟨its, rv, p, hz⟩ := I1.tuple hq
    exact wpAny_pyIter_tuple (show s1.heap.IsTuple a its.toArray from p) ⟨_, [s1.heap.objs.size], _, _, H1, rfl, I1.kept (t' := s1.toks) fun b o e => Heap.get?_push_of_some _ e, turn_tuple a _, ⟨_, Heap.get?_push_size _ rfl, rfl, rfl⟩, fp, q⟩
theorem lc_seqV {H : Hp} {Q : VK} {k : Nat} (hv : σ[k]? = some (some (.ref a))) (hl : SqL K H a xs ∨ SqT K H a xs) (hz : xs.length < 100000) (o : V → Option V)
    (hs : ∀ (D : Addr) (i : Nat) (x : V) (H1 : Hp) (Nx : Hp → Prop), H D = none → xs[i]? = some x → Same H H1 → (∀ H' y, Same H1 H' → o x = some y → ∃ acc, H' D = some (.lst acc) ∧ acc.length < sizeLine ∧ Nx (upd H' D (.lst (acc ++ [y])))) → (∀ H', Same H1 H' → o x = none → Nx H') →
      g x (wipe σ vs) H1 fun σ2 H2 => wipe σ2 vs = wipe σ vs ∧ tt σ2 H2 fun b H3 => if b = true then te σ2 H3 fun y H4 => ∃ acc, H4 D = some (.lst acc) ∧ acc.length < sizeLine ∧ Nx (upd H4 D (.lst (acc ++ [y]))) else Nx H3)
    (hd : ∀ (D : Addr) (H1 : Hp), H D = none → Same H H1 → H1 D = some (.lst (xs.filterMap o)) → Q (.ref D) H1) :
    tLc (iSeq K (tVar k)) g tt te vs σ H Q := by
  refine ⟨_, hv, a, xs, rfl, ?_⟩
  rcases hl with h | h
  · exact .inl ⟨h, fun D nD => lc_fmL nD h hz o (fun i x H1 Nx => hs D i x H1 Nx nD) (fun H1 => hd D H1 nD)⟩
  · exact .inr ⟨h, fun D nD => lc_fmT nD h hz o (fun i x H1 Nx => hs D i x H1 Nx nD) (fun H1 => hd D H1 nD)⟩
end
/-- a statement by what it leads to, whatever follows -/
theorem viaS {t : TS} {D : Ends} {σ : St} {H : Hp} (Post : St → Hp → Prop) (a : ∀ σ2 H2, Post σ2 H2 → D.nx σ2 H2) (b : ∀ nx' : St → Hp → Prop, (∀ σ2 H2, Post σ2 H2 → nx' σ2 H2) → t { D with nx := nx' } σ H) : t D σ H := b D.nx a
end L2

set_option Elab.async false
set_option linter.all false
set_option maxRecDepth 100000
set_option maxHeartbeats 1000000
namespace L2
open PySem PySem.Spec PyProof.Rows
/-! rules whose reading names the written part by a letter of one's own (for blocks) -/
section
variable {X : Cx} {K : PySem.W.Frag}
theorem ixLK (h : X.K = K) : IxR X (rIxL K) := by subst h; exact ix_list
theorem ixTK (h : X.K = K) : IxR X (rIxT K) := by subst h; exact ix_tup
theorem inK (h : X.K = K) : OpR X (compareOp .In) (rIn K false) := by subst h; exact op_in_seq
theorem ninK (h : X.K = K) : OpR X (compareOp .NotIn) (rIn K true) := by subst h; exact op_notIn_seq
theorem slLK (h : X.K = K) : SlR X (rSlL K) := by subst h; exact sl_list
def rLenSq (K : PySem.W.Frag) : List V → Hp → VK → Prop := fun xs H Q => ∃ p ys, xs = [.ref p] ∧ (SqL K H p ys ∨ SqT K H p ys) ∧ Q (.int ys.length) H
theorem lenK (h : X.K = K) : CallR X (.builtin "len") (rLenSq K) := by subst h; exact call_len_seq
def rTupOfQ (K : PySem.W.Frag) : List V → Hp → VK → Prop := fun xs H Q => ∃ p ys, xs = [.ref p] ∧ ((SqL K H p ys ∧ ∀ l, H l = none → Q (.ref l) (upd H l (.tup ys))) ∨ (SqT K H p ys ∧ Q (.ref p) H))
theorem tupK (h : X.K = K) : CallR X (.type "tuple") (rTupOfQ K) := by subst h; exact call_tuple_of
def rLstOfQ (K : PySem.W.Frag) : List V → Hp → VK → Prop := fun xs H Q => ∃ p ys, xs = [.ref p] ∧ (SqL K H p ys ∨ SqT K H p ys) ∧ ∀ l, H l = none → Q (.ref l) (upd H l (.lst ys))
theorem lstK (h : X.K = K) : CallR X (.type "list") (rLstOfQ K) := by subst h; exact call_list_of
theorem allK (h : X.K = K) (hc : X.calm = true) : CallR X (.builtin "all") (rAll K) := by subst h; exact cr_all hc
theorem anyK (h : X.K = K) (hc : X.calm = true) : CallR X (.builtin "any") (rAny K) := by subst h; exact cr_any hc
theorem isiK (h : X.K = K) : CallR X (.builtin "isinstance") (rIsi K) := by subst h; exact call_isi
theorem isiTK (h : X.K = K) : CallR X (.builtin "isinstance") (rIsiT K) := by subst h; exact call_isiT
theorem fldK {e : Expr} {f : Str} {pos : Pos} {ta : TE} (h : X.K = K) (he : PE X e ta) (hb : attributeBase e f X.env (eval e X.env) = eval e X.env := by rfl) : PE X (.Attribute e f pos) (tFld K ta f) := by subst h; exact pe_fld he hb
theorem piLK {tg l : Expr} {tl : TE} (h : X.K = K) (hl : PE X l tl) : PI X tg l (iList K tl) := by subst h; exact pi_list hl
theorem piTK {tg l : Expr} {tl : TE} (h : X.K = K) (hl : PE X l tl) : PI X tg l (iTup K tl) := by subst h; exact pi_tup hl
theorem eqDK (h : X.K = K) (hu : X.A.units + 64 < cLine) : OpR X (compareOp .Eq) (rEqD K) := by subst h; exact op_eqD hu
theorem neDK (h : X.K = K) (hu : X.A.units + 64 < cLine) : OpR X (compareOp .NotEq) (rNeD K) := by subst h; exact op_neD hu
end
end L2

set_option Elab.async false
set_option linter.all false
set_option maxRecDepth 100000
set_option maxHeartbeats 1000000
namespace L2
open PySem
/-! data: tuples of ints -/
def tI (ns : List Int) : PyData := .tuple (ns.map PyData.int)
theorem dp_ints {K : PySem.W.Frag} {H : Hp} : ∀ ns : List Int, DpAll K H (ns.map V.int) (ns.map PyData.int)
  | [] => .nil
  | n :: r => .cons (.int n) (dp_ints r)
theorem dp_tI {K : PySem.W.Frag} {H : Hp} {a : Addr} {ns : List Int} (h : H a = some (.tup (ns.map V.int))) : Dp K H (.ref a) (tI ns) := .tup (SqT.of h) (dp_ints ns)
theorem eqv_ints : ∀ ns ms : List Int, PyData.eqvAll (ns.map PyData.int) (ms.map PyData.int) = decide (ns = ms)
  | [], [] => rfl
  | [], m :: r => by simp [PyData.eqvAll]
  | n :: r, [] => by simp [PyData.eqvAll]
  | n :: r, m :: s => by
    show (n == m && PyData.eqvAll (r.map PyData.int) (s.map PyData.int)) = _
    rw [eqv_ints r s]
    by_cases h : n = m <;> by_cases h2 : r = s <;> simp [h, h2]
theorem eqv_tI (ns ms : List Int) : PyData.eqv (tI ns) (tI ms) = decide (ns = ms) := eqv_ints ns ms
theorem lay_ints : ∀ ns : List Int, PyData.canLayAll0 (ns.map PyData.int) = true
  | [] => rfl
  | n :: r => by
    show (PyData.canLay0 (.int n) && PyData.canLayAll0 (r.map PyData.int)) = true
    rw [lay_ints r]; rfl
theorem depth_ints : ∀ ns : List Int, PyData.depthAll (ns.map PyData.int) = 0
  | [] => rfl
  | n :: r => by
    show max (PyData.depth (.int n)) (PyData.depthAll (r.map PyData.int)) = 0
    rw [depth_ints r]; rfl
theorem depth_tI (ns : List Int) : (tI ns).depth = 1 := by
  show PyData.depthAll (ns.map PyData.int) + 1 = 1
  rw [depth_ints]
theorem shaped_tI (ns : List Int) : SeqAt.shaped (tI ns) = true := by
  unfold SeqAt.shaped
  rw [depth_tI]
  show (PyData.canLayAll0 (ns.map PyData.int) && _) = true
  rw [lay_ints]; rfl
theorem noDict_ints : ∀ ns : List Int, PyData.hasDictAll (ns.map PyData.int) = false
  | [] => rfl
  | n :: r => by
    show (PyData.hasDict (.int n) || PyData.hasDictAll (r.map PyData.int)) = false
    rw [noDict_ints r]; rfl
theorem noDict_tI (ns : List Int) : (tI ns).hasDict = false := noDict_ints ns
theorem show_ints : ∀ ns : List Int, (∀ n ∈ ns, n.natAbs ≤ 1000000) → PyData.showableAll (ns.map PyData.int) = true
  | [], _ => rfl
  | n :: r, h => by
    show (decide (n.natAbs.log2 < 1920) && PyData.showableAll (r.map PyData.int)) = true
    rw [show_ints r fun m hm => h m (List.mem_cons_of_mem _ hm)]
    have h1 := h n (List.mem_cons_self ..)
    have h2 : n.natAbs.log2 < 1920 := by
      by_cases z : n.natAbs = 0
      · rw [z]; decide
      · have : n.natAbs.log2 < 20 := (Nat.log2_lt z).mpr (by omega)
        omega
    rw [decide_eq_true h2]; rfl
end L2

set_option Elab.async false
set_option linter.all false
set_option maxRecDepth 100000
set_option maxHeartbeats 1000000
namespace FH
open PySem L2
local macro_rules | `(tactic| walk_at "seq") => `(tactic| first | assumption | exact SqL.of (by assumption) | exact SqT.of (by assumption) | exact SqL.of upd_same | exact SqT.of upd_same)
local macro_rules | `(tactic| walk_at "at") => `(tactic| first | exact atI_nat (j := 0) rfl | exact atI_nat (j := 1) rfl | exact atI_nat (j := 2) rfl | exact atI_nat (by assumption) | assumption)
local macro_rules | `(tactic| walk_at "ar") => `(tactic| first | omega | exact ⟨by omega, by omega⟩ | exact Or.inl ⟨by omega, by omega⟩ | exact Or.inr ⟨by omega, by omega⟩ | exact ⟨by decide, by decide⟩ | exact Or.inr ⟨by decide, by decide⟩ | exact Or.inl ⟨by decide, by decide⟩ | exact ⟨by decide, by decide, by omega⟩ | exact ⟨by decide, by decide, by decide⟩)
local macro_rules | `(tactic| walk_at "r") => `(tactic| repeat (first
  | refine ⟨_, rfl, ?_⟩
  | refine ⟨_, _, rfl, rfl, ?_⟩
  | refine ⟨_, _, _, _, rfl, rfl, by walk_at "seq", by walk_at "at", ?_⟩
  | refine ⟨_, _, _, _, rfl, rfl, by assumption, rfl, ?_⟩
  | refine ⟨_, _, rfl, Or.inl (by walk_at "seq"), ?_⟩
  | refine Or.inl ⟨_, rfl, ?_⟩
  | refine Or.inr ⟨_, rfl, ?_⟩
  | refine And.intro (by walk_at "ar") ?_))
def topS (i : Nat) : Stmt := PySem.Challenge.pw_foreheads_k22_rows_refused.main.body.getD i (.Pass ⟨0, 0, 0, 0⟩)
/-- names that the top leaves to the built-ins -/
structure Bt (mg : Str → Option Value) : Prop where
  m_int : mg "int" = none
  m_len : mg "len" = none
  m_range : mg "range" = none
  m_list : mg "list" = none
  m_tuple : mg "tuple" = none
  m_all : mg "all" = none
  m_any : mg "any" = none
  m_isinstance : mg "isinstance" = none
  m_bool : mg "bool" = none
  m_str : mg "str" = none
  m_abs : mg "abs" = none
  m_zip : mg "zip" = none
  m_repr : mg "repr" = none
  m_enumerate : mg "enumerate" = none
  m_max : mg "max" = none
  m_min : mg "min" = none
  m_sum : mg "sum" = none
/-! ### heaps -/
/-- all but d and c is kept -/
def Xt (d c : Addr) (H H' : Hp) : Prop := ∀ a o, a ≠ d → a ≠ c → H a = some o → H' a = some o
theorem Xt.refl (d c : Addr) (H : Hp) : Xt d c H H := fun _ _ _ _ h => h
theorem Xt.trans {d c : Addr} {H H1 H2 : Hp} (x : Xt d c H H1) (y : Xt d c H1 H2) : Xt d c H H2 := fun a o n m h => y a o n m (x a o n m h)
theorem Xt.of {d c : Addr} {H H' : Hp} (x : Same H H') : Xt d c H H' := fun a o _ _ h => x a o h
theorem same_new {H : Hp} {p : Addr} {o : HO} (h : H p = none) : Same H (upd H p o) := fun b x e => by
  rw [upd_ne (ne_of_none e h)]; exact e
/-- the deal at d, its digits at c -/
def BoxAt (H : Hp) (d c : Addr) : Prop := ∃ (ns : List Int) (m : Int), H d = some (.lst [.ref c, .int m]) ∧ H c = some (.lst (ns.map V.int)) ∧ (∀ n ∈ ns, 0 ≤ n) ∧ ns.length ≤ 100 ∧ 0 ≤ m ∧ m < 4294967296
theorem BoxAt.same {H H' : Hp} {d c : Addr} (x : Same H H') (h : BoxAt H d c) : BoxAt H' d c := by
  obtain ⟨ns, m, e, f, r⟩ := h
  exact ⟨ns, m, x _ _ e, x _ _ f, r⟩
theorem BoxAt.ne {H : Hp} {d c : Addr} (h : BoxAt H d c) : d ≠ c := fun z => by
  obtain ⟨ns, m, e, f, _⟩ := h
  rw [z, f] at e
  have e2 := Option.some.inj e
  cases ns with
  | nil => cases e2
  | cons n r => cases e2
theorem BoxAt.nd {H : Hp} {d c p : Addr} (h : BoxAt H d c) (n : H p = none) : p ≠ d ∧ p ≠ c := by
  obtain ⟨ns, m, e, f, _⟩ := h
  exact ⟨fun z => (by rw [z, e] at n; cases n), fun z => (by rw [z, f] at n; cases n)⟩
/-! data: lists of ints -/
def lI (ns : List Int) : PyData := .list (ns.map PyData.int)
theorem dp_lI {K : PySem.W.Frag} {H : Hp} {a : Addr} {ns : List Int} (h : H a = some (.lst (ns.map V.int))) : Dp K H (.ref a) (lI ns) := .lst (SqL.of h) (dp_ints ns)
theorem depth_lI (ns : List Int) : (lI ns).depth = 1 := by
  show PyData.depthAll (ns.map PyData.int) + 1 = 1
  rw [depth_ints]
theorem shaped_lI (ns : List Int) : SeqAt.shaped (lI ns) = true := by
  unfold SeqAt.shaped
  rw [depth_lI]
  show (PyData.canLayAll0 (ns.map PyData.int) && _) = true
  rw [lay_ints]; rfl
theorem eqv_lI (ns ms : List Int) : PyData.eqv (lI ns) (lI ms) = decide (ns = ms) := eqv_ints ns ms
theorem cut_ints (ns : List Int) (lo hi : Option Int) : ∃ ms : List Int, cutV (ns.map V.int) lo hi = ms.map V.int ∧ ms.length ≤ ns.length := by
  unfold cutV
  exact ⟨(ns.drop (HT.sIx (ns.map V.int).length 0 lo)).take (HT.sIx (ns.map V.int).length (ns.map V.int).length hi - HT.sIx (ns.map V.int).length 0 lo), by rw [List.map_take, List.map_drop], by rw [List.length_take, List.length_drop]; omega⟩
def spDraw : Sp := fun vs H Q _ => ∃ (d c : Addr) (n : Int), vs = [.ref d, .int n] ∧ BoxAt H d c ∧ 0 < n ∧ n < 2000000 ∧
  ∀ (r : Int) (H' : Hp), 0 ≤ r → r < n → Xt d c H H' → BoxAt H' d c → Q (.int r) H'
def spPick (K : PySem.W.Frag) : Sp := fun vs H Q _ => ∃ (d c l : Addr) (xs : List V), vs = [.ref d, .ref l] ∧ BoxAt H d c ∧ SqL K H l xs ∧ l ≠ d ∧ l ≠ c ∧ 0 < xs.length ∧ xs.length < 1000 ∧
  ∀ (x : V) (H' : Hp), x ∈ xs → Xt d c H H' → BoxAt H' d c → Q x H'
def spDeal (K : PySem.W.Frag) : Sp := fun vs H Q _ => ∃ (a : Addr) (ns : List Int), vs = [.ref a, .int 0] ∧ SqL K H a (ns.map V.int) ∧ ns.length ≤ 63 ∧
  ∀ (d c : Addr) (H' : Hp), Same H H' → H d = none → H c = none → BoxAt H' d c → Q (.ref d) H'
section
variable {P : Program} {w : World} {K : PySem.W.Frag} {mg : Str → Option Value} {base : Heap}
theorem xt_l {K : PySem.W.Frag} {d c a : Addr} {H H' : Hp} {xs : List V} (x : Xt d c H H') (n : a ≠ d) (n2 : a ≠ c) (h : SqL K H a xs) : SqL K H' a xs := by
  rcases h with (h | ⟨o, h⟩) | h
  · exact .inl (.inl (x _ _ n n2 h))
  · exact .inl (.inr ⟨o, x _ _ n n2 h⟩)
  · exact .inr h
theorem atI_mem {xs : List V} {r : Int} (h0 : 0 ≤ r) (h1 : r < xs.length) : ∃ v, atI xs r = some v ∧ v ∈ xs := by
  obtain ⟨n, rfl⟩ := Int.eq_ofNat_of_zero_le h0
  have hn : n < xs.length := by omega
  exact ⟨xs[n], atI_nat (List.getElem?_eq_getElem hn), List.getElem_mem hn⟩
end
end FH

set_option Elab.async false
set_option linter.all false
set_option maxRecDepth 100000
set_option maxHeartbeats 2000000
/-! An own error whose maker says super, then keeps one thing. -/
namespace PySem
namespace ErrX
open PySem.W PySem.Calls PyProof.Rows PySem.HandSPX
def iA (n : Nat) : Arguments :=
  { posonlyargs := [], args := [{ arg := "self", annotation := none, pos := ⟨n, 17, n, 21⟩ }, { arg := "word", annotation := none, pos := ⟨n, 23, n, 27⟩ }],
    vararg := none, kwonlyargs := [], kw_defaults := [], kwarg := none, defaults := [] }
def iB (n m : Nat) : List Stmt :=
  [.Expr (.Call (.Attribute (.Call (.Name "super" ⟨n, 8, n, 13⟩) [] [] ⟨n, 8, n, 15⟩) "__init__" ⟨n, 8, n, 24⟩) [.Name "word" ⟨n, 25, n, 29⟩] [] ⟨n, 8, n, 30⟩) ⟨n, 8, n, 30⟩,
   .Assign [.Attribute (.Name "self" ⟨m, 8, m, 12⟩) "word" ⟨m, 8, m, 17⟩] (.Name "word" ⟨m, 20, m, 24⟩) ⟨m, 8, m, 24⟩]
theorem mcp {o : Expr} {env : Env} {a b c d e f n : Nat} : methodCallPos true o env ⟨a, b, n, c⟩ ⟨n, d, e, f⟩ = pure ⟨n, d, e, f⟩ := by
  simp [methodCallPos]
/-- a method's call in one line -/
theorem meth_line {o : Expr} {name : Str} {a b c d e f n : Nat} {args : List Expr} {env : Env} (hf : methodCallForm (args.length + 0) (backTo ⟨n, d, e, f⟩ (starEach args env)) [] = true) :
    eval (.Call (.Attribute o name ⟨a, b, n, c⟩) args [] ⟨n, d, e, f⟩) env = (do
      let ov ← attributeBase o name env (eval o env)
      standAt (Pos.atName ⟨a, b, n, c⟩)
      let (f', first) ← holding [ov] (getMethod ov name (do return (← importBound o env).getD true))
      callWith ⟨n, d, e, f⟩ f' first (backTo ⟨n, d, e, f⟩ (starEach args env)) []) := by
  rw [arm_eval_Call]
  have hk : backToKw ⟨n, d, e, f⟩ (keywordEach [] env) = [] := rfl
  rw [hk]
  have hl : args.length + ([] : List Keyword).length = args.length + 0 := rfl
  rw [hl]
  simp only [methodCall, hf, calleeOf, if_true, mcp, pure_bind]
def iS : Scope :=
  { kind := .function, names := [(PySem.Str.ofString "self", .local), (PySem.Str.ofString "word", .local), (PySem.Str.ofString "__class__", .free), (PySem.Str.ofString "super", .globalImplicit)],
    isGenerator := false, isCoroutine := false, more := [] }
structure ErrTxt (P : Program) (K : Frag) (mg : Str → Option Value) (cn : Str) (C fI : Addr) : Prop where
  gC : mg cn = some (.ref C)
  cls : ∃ nm q N bs bm sn sub ab col dd k0 k1 k2 k3 k5,
    K.lookup C = some (excClassObj nm q C N bs bm true sn sub ab col dd k0 k1 k2 k3 k5 "ValueError.__new__") ∧ refsVE bm = true
  sa : findIn K (.ref C) "__setattr__" = some (some (.builtin "object.__setattr__"))
  ga : findIn K (.ref C) "__getattribute__" = some (some (.builtin "BaseException.__getattribute__"))
  gg : findIn K (.ref C) "__getattr__" = some none
  noN : findIn K (.ref C) "word" = some none
  iC : findIn K (.ref C) "__init__" = some (some (.ref fI))
  tC : typeIn K (.ref fI) = some (.type "function")
  kC : keepIn K (.ref C) = true
  exC : subIn K (.ref C) (.type "BaseException") = some true
  tyC : typeIn K (.ref C) = some (.type "type")
  hdC : hasDictIn K C = true
  sup : ks_superIn K C C "__init__" = some (some (.builtin "ValueError.__init__"))
  sV : subIn K (.ref C) (.type "ValueError") = some true
  sS : mroIn K C (.ref C) = some true
  op : nsIn K cStatics "thirdparty.any" = some none
  su : nsIn K mainGlobals "super" = some none
  top : (P.main.scope.names.lookup ("super" : Str)).isSome = false
  fn : ∃ (qual : Str) (oc : Value) (od : Option Addr) (doc pm : Value) (an : Option Addr) (ct : Value) (osl : Array (Option Value)) (n1 n2 n3 : Nat) (cc cda : Addr),
    K.lookup fI = some ⟨oc, od, .func (ksFn "__init__" qual (iA n1) (iB n2 n3) iS .none .none doc pm an (.ref cda) ct cc), osl⟩ ∧ codeIn K (.ref cda) qual = true ∧
    (∃ ccl cdd vs ccs file tf, K.lookup cda = some ⟨ccl, cdd, .fields vs, ccs⟩ ∧ vs[2]? = some (.str file tf) ∧ ((P.main.file : Str) == file) = true) ∧
    ∃ cl cld csl, K.lookup cc = some ⟨cl, cld, .cell (some (.ref C)), csl⟩
/-- what the maker leaves of a fresh error at x -/
structure InitEnd (h h' : Heap) (x C dx : Addr) (v : Value) : Prop where
  keep : ∀ b o, b ≠ x → h.get? b = some o → h'.get? b = some o
  obj : ∃ t1 : Addr, h'.get? x = some { cls := .ref C, dict := some dx, data := .fields #[.ref t1, .none, .none, .none, .bool false, .none] }
  dbig : h.objs.size ≤ dx
  dne : dx ≠ x
  ns : h'.Ns1 dx (fun y => if y = "word" then some v else none)
structure Made (h h' : Heap) (e C d : Addr) (v : Value) : Prop where
  keep : ∀ b o, h.get? b = some o → h'.get? b = some o
  new : h.objs.size ≤ e
  obj : ∃ t1 : Addr, h'.get? e = some ({ cls := .ref C, dict := some d, data := .fields #[.ref t1, .none, .none, .none, .bool false, .none] } : Obj)
  dbig : h.objs.size ≤ d
  dne : d ≠ e
  ns : h'.Ns1 d (fun y => if y = "word" then some v else none)
theorem one_fits (v : Value) : [v].length ≤ sizeLine := by
  rw [sizeLine_eq]; exact (by decide : 1 ≤ 16777216)
theorem noCell : ∀ y ∈ iS.names, y.2 ≠ .cell := by decide
theorem isLoc (x : Addr) (v : Value) : ∀ y ∈ [((("self" : Str), Value.ref x) : Str × Value), ("word", v)], iS.names.lookup y.1 = some .local := by
  intro y hy
  rcases List.mem_cons.mp hy with rfl | hy
  · rfl
  · rcases List.mem_cons.mp hy with rfl | hy
    · rfl
    · cases hy
theorem bootSuper : bootBuiltins "super" = some (.type "super") := by decide +kernel
section
variable {prog : Program} {w : World} {A : Around} {E : Value → Shared → Prop} {h : Heap} {g : Array GenState} {d : Drawn} {t : Nat} {os : OsState}
/-- the bound built-in maker, called -/
theorem call_mw {nm q : Str} {C N u x t0 : Addr} {bs bm : List Value} {hdct : Bool} {sn : List Str} {sub : List Value} {ab : Bool} {col : Option Bool} {dd : Option Addr} {k0 k1 k2 k3 k5 : Option Value} {rest : List Value} {Q : Value → Shared → Prop}
    (hC : h.get? C = some (excClassObj nm q C N bs bm hdct sn sub ab col dd k0 k1 k2 k3 k5 "ValueError.__new__")) (he : h.get? x = some (excO C t0)) (hu : h.get? u = some (kxs_mw "ValueError.__init__" x)) (hz : rest.length ≤ sizeLine)
    (hq : ∀ h' t1, (∀ b o, b ≠ x → h.get? b = some o → h'.get? b = some o) → h'.get? x = some (excO C t1) → Q .none ⟨h', g, d, t, os⟩) :
    wpAny (model prog w) A (call (.ref u) rest) Q E ⟨h, g, d, t, os⟩ := by
  have FB := F.excBase_ValueError
  refine wpAny_call (codeAny_of_tree ?_)
  show wpAny _ A.in1 (callAny (.ref u) ⟨rest, []⟩) _ _ _
  simp only [callAny]
  refine wpAny_bind (wpAny_load hu ?_)
  have z : (Value.type "method-wrapper" == Value.type "method" || Value.type "method-wrapper" == Value.type "builtin_function_or_method" || Value.type "method-wrapper" == Value.type "method-wrapper") = true := by decide
  simp only [kxs_mw, z, if_true]
  refine KFB.if_so (by decide) ?_
  refine wpAny_bind (check_bound_init FB.toExcCallFacts hC he rfl ?_)
  refine wpAny_bind (wpAny_pure (wpAny_pure ?_))
  refine ⟨plainId_quiet FB.init.plain _, codeAny_builtin FB.initEntry ?_⟩
  exact exc_init_tree (cls := .ref C) (t0 := t0) (dv := none) (c2 := .none) (c3 := .none) (b4 := .bool false) he hz fun h' k e' _ => hq h' _ k e'
end
theorem ldC {M : Model} {A : Around} {E : Value → Shared → Prop} {s : Shared} {env : Env} {m : Str → Option Value} {x : Str} {pos : Pos} {v : Value} {Q : Value → Shared → Prop} (hn : s.heap.Ns env.locals m) (hv : m x = some v) (h : Q v s)
    (hk : env.scope.kind = .function := by rfl) (hl : env.kindOf x = some .local := by rfl) (hd : (x == ("__debug__" : Str)) = false := by decide) :
    wpAny M A (eval (.Name x pos) env) Q E s := wpAny_Name (wpAny_loadName_local hk hl hn hv h) hd
section
variable {prog : Program} {w : World} {A : Around} {E : Value → Shared → Prop} {R : Result → Shared → Prop} {s : Shared} {K : Frag} {mg : Str → Option Value} {cn : Str} {C fI : Addr}
theorem err_init (T : ErrTxt prog K mg cn C fI) {x t0 : Addr} {v : Value} (X : K.In s.heap) (hlim : s.heap.NoLimit) (hG : s.heap.Ns mainGlobals mg)
    (hB : ∃ mb, s.heap.Ns builtinsNs mb ∧ ∀ x : Str, x ≠ "__name__" → mb x = bootBuiltins x) (hx : s.heap.get? x = some (excO C t0)) (hnx : K.lookup x = none) (hroom : A.depth < recursionLimit)
    (hq : ∀ h' tk dx, InitEnd s.heap h' x C dx v → R (.ok (.ret .none)) { s with heap := h', toks := tk }) :
    codeAny (model prog w) A (.call (.ref fI) ⟨[.ref x, v], []⟩) R s := by
  obtain ⟨qual, oc, od, doc, pm, an, ct, osl, n1, n2, n3, cc, cda, ho, hcd, ⟨ccl, cdd, vs, ccs, file, tf, hcode, hvs, hfile⟩, cl, cld, csl, hcell⟩ := T.fn
  obtain ⟨nm, qn, N, bs, bm, sn, sub, ab, col, dd, k0, k1, k2, k3, k5, hC, hbm⟩ := T.cls
  have hcl : clsIn K C = some { name := nm, bases := bs, mro := .ref C :: bm, ns := N, qualname := qn, hasDict := true, slotNames := sn, subclasses := sub, abstract := ab, collection := col, hasDel := false } := by
    unfold clsIn; rw [hC] <;> rfl
  obtain ⟨mb, hb, hbb⟩ := hB
  have hxC : x ≠ C := fun z => by
    rw [z] at hnx
    rw [hC] at hnx
    cases hnx
  have hbi : BindsTo s (ksFn "__init__" qual (iA n1) (iB n2 n3) iS .none .none doc pm an (.ref cda) ct cc) ⟨[.ref x, v], []⟩ [("self", .ref x), ("word", v)] := BindsTo.of_eq (by first | rfl | with_unfolding_all rfl)
  refine ks_codeAny_call_defAt (fd := ksFn "__init__" qual (iA n1) (iB n2 n3) iS .none .none doc pm an (.ref cda) ct cc) (body := iB n2 n3) (binds := [("self", .ref x), ("word", v)]) hroom (X _ _ ho) rfl hlim
    (codeRec_of X hcd) rfl hbi noCell (isLoc x v) (fun h1 hns hk1 => ?_)
  have X1 : K.In h1 := X.keeps hk1
  have hx1 := hk1 _ _ hx
  show wpAt _ _ (.func (iB n2 n3) (ksEnv qual iS s.heap.objs.size fI (.ref cda) cc)) (execs (iB n2 n3) (ksEnv qual iS s.heap.objs.size fI (.ref cda) cc)) _ _ _
  unfold iB
  refine ks_wpAt_execs_cons ?_
  refine ks_wpAt_Expr_any ?_
  refine ks_wpAt_MethodCall ?_ (meth_line rfl)
  refine ks_wpAt_super_base (env := ksEnv qual iS s.heap.objs.size fI (.ref cda) cc) rfl rfl (by decide) rfl (X1 _ _ ho) rfl rfl rfl (X1 _ _ hcode) rfl hvs hfile T.top ?_
  refine ks_loadName_global rfl rfl (loadGlobal_builtin (env := ksEnv qual iS s.heap.objs.size fI (.ref cda) cc) (hG.keeps hk1) (mg_none_of X hG T.su) (hb.keeps hk1) ((hbb _ (by decide)).trans bootSuper) ⟨rfl, ?_⟩)
  refine wpAny_loadName_free rfl rfl rfl ⟨_, X1 _ _ hcell, rfl⟩ ?_
  refine wpAny_loadName_local rfl rfl hns (by first | rfl | with_unfolding_all rfl) ?_
  refine ks_wpAny_isType_cls (X1 _ _ hC) rfl ⟨rfl, ?_⟩
  refine ks_wpAny_call_super (X1 _ _ hC) rfl hx1 rfl (fun c e => by cases e) (looks_mroIn X1 T.sS) (fun h2 hso hk2 => ?_)
  have X2 : K.In h2 := X1.keeps hk2
  have hx2 := hk2 _ _ hx1
  have hI : Looks (model prog w) h2 (isInstance (.ref x) (.type "ValueError")) true := (show InstAt h2 x (excO C t0) C none from ⟨hx2, rfl, rfl, trivial⟩).type.andThen (looks_subIn X2 T.sV)
  have hsup : alongIn K "__init__" (((Value.ref C :: bm).dropWhile (· != .ref C)).drop 1) = some (some (.builtin "ValueError.__init__")) := by
    have z := T.sup
    unfold ks_superIn at z
    rw [hcl] at z
    exact z
  refine kxs_getMethod kxs_ValueError hso (looks_opaque X2 T.op) (l₀ := .ref C :: bm) (fun A' Q' E' s' k q' => wpAny_bind ((looks_clsIn X2 hcl) A' _ E' s' k (wpAny_pure q'))) rfl X2 hsup hI hxC (by decide) ?_
  have hk3 : ∀ b o, h2.get? b = some o → (h2.push (kxs_mw "ValueError.__init__" x)).get? b = some o := fun b o e => Heap.get?_push_of_some _ e
  have hu3 : (h2.push (kxs_mw "ValueError.__init__" x)).get? h2.objs.size = some (kxs_mw "ValueError.__init__" x) := Heap.get?_push_at rfl rfl
  have hn3 : (h2.push (kxs_mw "ValueError.__init__" x)).Ns s.heap.objs.size (fun y => ([(("self" : Str), Value.ref x), ("word", v)] : List (Str × Value)).reverse.lookup y) := (hns.keeps hk2).keeps hk3
  refine kxs_callWith (i := "ValueError.__init__") (x := x) rfl ?_
  refine evalArgs_plain (x := eval (.Name "word" ⟨n2, 25, n2, 29⟩) (ksEnv qual iS s.heap.objs.size fI (.ref cda) cc)) (rest := []) ?_
  refine spliced_cons ?_
  refine ldC (v := v) hn3 (by first | rfl | with_unfolding_all rfl | kernel_rfl) ?_
  refine spliced_nil ⟨hu3, ?_⟩
  refine call_mw (X2.keeps hk3 _ _ hC) (hk3 _ _ hx2) hu3 (one_fits v) fun h4 t1 hk4 hx4 => ?_
  show wpAt _ _ _ (execs _ _) _ _ _
  have hL : s.heap.objs.size ≠ x := Nat.ne_of_gt (Heap.lt_size hx)
  have kx : ∀ b o, b ≠ x → s.heap.get? b = some o → h4.get? b = some o := fun b o hb e => hk4 b o hb (hk3 _ _ (hk2 _ _ (hk1 _ _ e)))
  have X4 : K.In h4 := fun a o e => hk4 a o (fun z => by rw [z, hnx] at e; cases e) (X2.keeps hk3 a o e)
  have hn4 : h4.Ns s.heap.objs.size (fun y => ([(("self" : Str), Value.ref x), ("word", v)] : List (Str × Value)).reverse.lookup y) := by
    obtain ⟨o, es, ep, e, r⟩ := hn3
    exact ⟨o, es, ep, hk4 _ _ hL e, r⟩
  refine wpAt_of_wpAny ?_
  refine wpAny_execs_cons (plainObj_wpAny_Assign_Attribute ?_)
  refine ldC (v := v) hn4 (by first | rfl | with_unfolding_all rfl | kernel_rfl) (ldC (v := .ref x) hn4 (by first | rfl | with_unfolding_all rfl | kernel_rfl) ?_)
  refine set_plain X4 (ox := excO C t1) (od := none) ⟨hx4, rfl, rfl, trivial⟩ T.sa ?_
  refine exc_osa X4 hx4 hcl (show refsVE (.ref C :: bm) = true from hbm) rfl T.noN (fun h5 tk5 dx hk5 dn dne hx5 hn5 => ?_)
  have z : s.heap.objs.size < h1.objs.size := hns.lt
  have z2 : h1.objs.size ≤ h2.objs.size := Nat.le_of_lt (Heap.lt_size hso)
  have z3 : h2.objs.size < h4.objs.size := by
    have e := hk4 _ _ (fun q => absurd (Heap.lt_size hx2) (by rw [q]; exact Nat.lt_irrefl _)) hu3
    exact Heap.lt_size e
  show wpAny _ _ (execs _ _) _ _ _
  exact wpAny_execs_nil (hq h5 tk5 dx ⟨fun b o hb e => hk5 b o hb (kx b o hb e), ⟨_, hx5⟩, by have dn' : h4.objs.size ≤ dx := dn; omega, dne, hn5⟩)
theorem err_made (T : ErrTxt prog K mg cn C fI) {v : Value} (X : K.In s.heap) (hlim : s.heap.NoLimit) (hG : s.heap.Ns mainGlobals mg)
    (hB : ∃ mb, s.heap.Ns builtinsNs mb ∧ ∀ x : Str, x ≠ "__name__" → mb x = bootBuiltins x) (hroom : A.depth + 1 < recursionLimit)
    (hq : ∀ h' tk e d, Made s.heap h' e C d v → R (.ok (.ret (.ref e))) { s with heap := h', toks := tk }) :
    codeAny (model prog w) A (.call (.ref C) ⟨[v], []⟩) R s := by
  obtain ⟨nm, q, N, bs, bm, sn, sub, ab, col, dd, k0, k1, k2, k3, k5, hC, hbm⟩ := T.cls
  obtain ⟨hp, g, dr, tk, os⟩ := s
  have k : ∀ b o, hp.get? b = some o → ((hp.push (kdv_tup [v])).push (excO C hp.objs.size)).get? b = some o := fun b o e => Heap.get?_push_of_some _ (Heap.get?_push_of_some _ e)
  have hget : ((hp.push (kdv_tup [v])).push (excO C hp.objs.size)).get? (hp.objs.size + 1) = some (excO C hp.objs.size) := by heap_get
  have hnx : K.lookup (hp.objs.size + 1) = none := by
    cases e : K.lookup (hp.objs.size + 1) with
    | none => rfl
    | some o =>
      have z : hp.get? (hp.objs.size + 1) = some o := X _ _ e
      exact absurd (Nat.lt_of_succ_lt (Heap.lt_size z)) (Nat.lt_irrefl _)
  obtain ⟨mb, hb, hbb⟩ := hB
  refine call_own F.excBase_ValueError (fun X => refsVE_contains X bm hbm) (X _ _ hC) (looks_findIn X T.iC) (fun self => bind_fn X self T.tC) (one_fits v) ?_
  refine err_init (s := ⟨(hp.push (kdv_tup [v])).push (excO C hp.objs.size), g, dr, tk, os⟩) T (X.keeps k) (hlim.keeps k) (hG.keeps k) ⟨mb, hb.keeps k, hbb⟩ hget hnx ?_ fun h' tk' dx I => ?_
  · show A.depth + 1 < recursionLimit
    exact hroom
  · have old : ∀ b o, hp.get? b = some o → h'.get? b = some o := fun b o e => I.keep b o (Nat.ne_of_lt (Nat.lt_succ_of_lt (Heap.lt_size e))) (k b o e)
    have z : hp.objs.size + 1 + 1 ≤ dx := by
      first
        | (simpa only [Heap.size_push] using I.dbig)
        | exact I.dbig
    exact ⟨rfl, hq h' tk' (hp.objs.size + 1) dx ⟨old, Nat.le_succ _, I.obj, by show hp.objs.size ≤ dx; omega, I.dne, I.ns⟩⟩
end
end ErrX
end PySem
namespace L2
open PySem PySem.Spec PyProof.Rows
theorem relO_word {v : V} {v' : Value} (r : RelV v v') (f : Str) : RelO (List.lookup f [(("word" : Str), v)]) (if f = "word" then some v' else none) := by
  by_cases hw : f = "word"
  · subst hw
    rw [if_pos rfl, show List.lookup ("word" : Str) [(("word" : Str), v)] = some v by simp [List.lookup]]
    exact r
  · rw [if_neg hw]
    have qw : (f == ("word" : Str)) = false := by simpa using hw
    rw [show List.lookup f [(("word" : Str), v)] = none by simp [List.lookup, qw]]
    trivial
section
variable {X : Cx} {C fI : Addr} {cn : Str}
/-- C(e), C an own error that keeps its word -/
def tMkErr (C : Addr) (ta : TA) : St → Hp → XK → Prop := fun σ H Q => ta σ H fun vs H1 => ∃ v, vs = [v] ∧ ∀ d, H1 d = none → Q (.ref C) (some d) (upd H1 d (.xd [(("word" : Str), v)]))
theorem pmk_err {a : Expr} {ta : TA} {p pos : Pos} {k : Nat} (T : PySem.ErrX.ErrTxt X.prog X.K X.mg cn C fI) (hr : Room k X.A) (ha : PA X [a] ta) (hg : Gl X cn) (hdb : (cn == ("__debug__" : Str)) = false := by decide)
    (he : starEach (a :: []) X.env = (false, eval a X.env) :: starEach [] X.env := by rfl) (hpl : (backTo pos (starEach [] X.env)).any (·.1) = false := by rfl) :
    PMk X (.Call (.Name cn p) [a] [] pos) (tMkErr C ta) := by
  intro pins s σ H Q I h
  refine wpAny_Call_Name_kw (ld_glob I hg T.gC ?_ hdb)
  refine PySem.W.callWith_K (h₀ := X.base) I.ok.mod.kin T.kC (thn (ha.run pos pins s σ H _ I h) fun us s1 hh => ?_) he hpl
  obtain ⟨vs, H1, I1, r1, v, ev, q1⟩ := hh
  subst ev
  refine ⟨I1.kIn, ?_⟩
  cases r1 with
  | cons rv rn =>
    rename_i v' us'
    cases rn
    show wpAny _ _ (call (.ref C) [v']) _ _ _
    have hlim := I1.nolimit
    have hgl := I1.mod.glob.keeps I1.bk
    obtain ⟨mb, hb, hbb⟩ := I1.mod.blt
    have hb' := hb.keeps I1.bk
    have kin := I1.kIn
    obtain ⟨hp, g, dr, tk, os⟩ := s1
    refine wpAny_call (PySem.ErrX.err_made T kin hlim hgl ⟨mb, hb', hbb⟩ (by have := hr.dp; omega) fun h' tk' e d M => ?_)
    show MkP X pins σ Q (.ref e) ⟨h', g, dr, tk', os⟩
    obtain ⟨t1, hoe⟩ := M.obj
    have hns := M.ns
    obtain ⟨G', g1, g2⟩ := restrict h' fun b => decide (b ≠ e)
    have gk : ∀ b, b ≠ e → G'.get? b = h'.get? b := fun b hb => g1 b (decide_eq_true hb)
    have ge : G'.get? e = none := g2 e (by simp)
    have old : ∀ b o, hp.get? b = some o → G'.get? b = some o := fun b o q => (gk b (Nat.ne_of_lt (Nat.lt_of_lt_of_le (Heap.lt_size q) M.new))).trans (M.keep b o q)
    have ob : ObjOk X.prog X.w (upd H1 d (.xd [(("word" : Str), v)])) G' d (.xd [(("word" : Str), v)]) :=
      ⟨_, hns.at (fun o q => (gk d M.dne).trans q), fun f => relO_word rv f⟩
    have J : Inv X pins σ (upd H1 d (.xd [(("word" : Str), v)])) ⟨G', g, dr, tk', os⟩ := I1.laid (t' := tk') old M.dbig ob
    refine ⟨e, _, _, ⟨G', g, dr, tk', os⟩, _, .ref C, some d, rfl, J, fun b o q => ?_, ge, hoe, ⟨rfl, rfl⟩, rfl, rfl, ?_, rfl, I1.bare, raises_own T.exC T.tyC, q1 d (I1.hok.fresh M.dbig)⟩
    · by_cases hb : b = e
      · have q' : G'.get? b = some o := q
        rw [hb, ge] at q'; cases q'
      · exact (gk b hb).symm.trans q
    · rw [upd_ne (Ne.symm M.dne)]
      exact I1.hok.fresh M.new
/-- raise C(e) -/
def tRaiseErr (C : Addr) (W : WX) (ta : TA) : TS := fun _ σ H => tMkErr C ta σ H fun cls d H' => W cls d σ H'
theorem ps_raiseErr {a : Expr} {ta : TA} {W : WX} {p pos pos2 : Pos} {k : Nat} (hc : X.calm = true) (T : PySem.ErrX.ErrTxt X.prog X.K X.mg cn C fI) (hr : Room k X.A) (tk : Takes X W) (ha : PA X [a] ta) (hg : Gl X cn) (hdb : (cn == ("__debug__" : Str)) = false := by decide)
    (he : starEach (a :: []) X.env = (false, eval a X.env) :: starEach [] X.env := by rfl) (hpl : (backTo pos (starEach [] X.env)).any (·.1) = false := by rfl) :
    PS X (.Raise (some (.Call (.Name cn p) [a] [] pos)) none pos2) (tRaiseErr C W ta) := ps_raise hc tk (pmk_err T hr ha hg hdb he hpl)
end
end L2
namespace PySem.W
open PySem PySem.Spec PySem.Calls PyProof.Rows
section
variable {prog : Program} {w : World} {A : Around} {E : Value → Shared → Prop} {s : Shared} {K : Frag} {x D : Addr} {ox : Obj} {od : Option Obj}
/-- what an error's class says of the name of its class -/
structure EcC (K : Frag) (D : Addr) : Prop where
  hg : findIn K (.ref D) "__getattribute__" = some (some (.builtin "BaseException.__getattribute__"))
  hk : findIn K (.ref D) "__getattr__" = some none
  hs : subIn K (.ref D) (.type "BaseException") = some true
  hd : hasDictIn K D = true
  ha : findIn K (.ref D) "__class__" = some (some (.builtin "object.__class__"))
  hn : specialIn K (.builtin "object.__class__") "__get__" = some (some (.builtin "getset_descriptor.__get__"))
  ht : takesIn K (.builtin "object.__class__") = some true
  hm : mroIn K D (.type "object") = some true
theorem ec_find (T : EcC K D) : findObj K D od "__class__" = some (.bind (.builtin "getset_descriptor.__get__") (.builtin "object.__class__")) := by
  obtain ⟨cd, hc, _⟩ := any_some T.hd
  unfold findObj
  rw [hc, Option.bind_some, T.ha, Option.bind_some]
  simp [T.hn, T.ht]
theorem ec_class (T : EcC K D) {Q : Option Value → Shared → Prop} (X : K.In s.heap) (I : InstAt s.heap x ox D od) (h : Q (some (.ref D)) { s with toks := s.toks + 1 }) : wpAny (model prog w) A (getAttr? (.ref x) "__class__") Q E s := by
  have hf := ec_find (od := od) T
  obtain ⟨hp, g, d, t, os⟩ := s
  have L0 := I.type (M := model prog w)
  have L1 := looks_findIn (M := model prog w) X T.hg
  have L2 := looks_findIn (M := model prog w) X T.hk
  have L3 := looks_find (M := model prog w) X I hf
  have su : Looks (model prog w) hp (isInstance (.ref x) (.type "BaseException")) true := L0.andThen (looks_subIn X T.hs)
  have z0 : (false && onTheHeap (Value.builtin "BaseException.__getattribute__")) = false := rfl
  have z2 : (Value.builtin "BaseException.__getattribute__" == Value.builtin "object.__getattribute__") = false := by decide +kernel
  have z1 : (onTheHeap (Value.ref D) && Value.builtin "BaseException.__getattribute__" == Value.builtin "object.__getattribute__") = false := by rw [z2]; rfl
  unfold getAttr? getAttrBy? getAttrBy
  refine wpAny_bind (wpAny_mkText (wpAny_bind (wpAny_attempt (wpAny_holding (wpAny_bind (L0.at (wpAny_bind (L1.at ?_)))))) ))
  show wpAny _ _ (if (onTheHeap (Value.ref D) && Value.builtin "BaseException.__getattribute__" == Value.builtin "object.__getattribute__") = true then _ else _) _ _ _
  rw [z1, if_neg Bool.false_ne_true]
  unfold getAttrByItsOwn hookBefore
  refine wpAny_bind ?_
  rw [if_pos (show onTheHeap (Value.ref D) = true from rfl)]
  refine L2.at (wpAny_bind (wpAny_attempt (wpAny_holding ?_)))
  unfold callGetattribute
  rw [z0, if_neg Bool.false_ne_true]
  unfold boundAndCalled
  rw [PySem.F.excAttr_ValueError.ga.bind (.ref x)]
  refine wpAny_bind (wpAny_pure ?_)
  show wpAny _ _ (call (.builtin "BaseException.__getattribute__") [.ref x, .str "__class__" t]) _ _ _
  refine wpAny_call (codeAny_call_builtin PySem.F.excAttr_ValueError.ga.plain PySem.F.entry_bexc_ga ?_)
  refine @check_slot (model prog w) _ _ ⟨hp, g, d, t + 1, os⟩ "BaseException.__getattribute__" "BaseException" "__getattribute__" (.ref x) [.str "__class__" t] [] _ (by decide +kernel) (by decide +kernel) su (PySem.F.args_bexc_ga (.ref x) (.str "__class__" t)) ?_
  unfold Builtin.«object.__getattribute__»
  refine wpAny_bind (wpAny_of_eq (a := ((Value.ref x : Value), [Value.str "__class__" t])) (by first | rfl | (simp only [slotArgs]; rfl)) ?_)
  refine wpAny_bind (wpAny_pure (wpAny_bind (L0.at (wpAny_bind (L3.at ?_)))))
  show wpAny _ _ (holding [Value.builtin "object.__class__"] (call (.builtin "getset_descriptor.__get__") [.builtin "object.__class__", .ref x, .ref D]) >>= ret) _ _ _
  refine wpAny_bind (wpAny_holding (wpAny_call (class_get (s := ⟨hp, g, d, t + 1, os⟩) (ox := ox) (od := od) X I T.hm (wpAny_pure ?_))))
  show wpAny _ _ (handedOut (.ref D)) _ _ _
  rw [handedOut_of (v := .ref D) rfl]
  first
    | exact wpAny_pure (wpAny_pure h)
    | exact wpAny_pure h
    | exact wpAny_pure (wpAny_bind (wpAny_pure (wpAny_pure h)))
theorem ec_kit (T : EcC K D) : KitX K (.ref x) (.ref D) (fun h => InstAt h x ox D od) where
  ty := fun _ _ _ I => I.type
  it := fun _ _ X _ => by
    obtain ⟨cd, hc, _⟩ := any_some T.hd
    unfold clsIn at hc
    split at hc
    · rename_i c' d' cd' sl' ho
      intro A' Q' E' s' k q
      unfold isType loadHead
      exact wpAny_bind (wpAny_loadPart (k _ _ (X _ _ ho)) (wpAny_pure q))
    · cases hc
  ne := fun h tp dd its n sl X htp => by
    obtain ⟨cd, hc, _⟩ := any_some T.hd
    refine Bool.eq_false_iff.mpr fun q => ?_
    have e : D = tp := Value.ref.inj (beq_iff_eq.mp q)
    subst e
    unfold clsIn at hc
    split at hc
    · rename_i c' d' cd' sl' ho
      cases (X _ _ ho).symm.trans htp
    · cases hc
  ca := fun X I k => ec_class T X I k
end
end PySem.W
namespace L2
open PySem PySem.Spec PyProof.Rows
/-- isinstance(e, c), e the error that the suite holds, with a dict of its own -/
def rIsEd (K : PySem.W.Frag) (D a : Addr) (cls : Value) (d : Option Addr) : List V → Hp → VK → Prop := fun xs H Q => ∃ (c : V) (cv : Value) (b : Bool) (dd : Addr) (fs : List (Str × V)),
  xs = [.ref a, c] ∧ cls = .ref D ∧ ClsV c cv ∧ d = some dd ∧ H dd = some (.xd fs) ∧ PySem.W.kitOne K (.ref D) cv = some b ∧ Q (.bl b) H
theorem call_isEd {X : Cx} {a D : Addr} {cls : Value} {d : Option Addr} {oe : Obj} {pn : List (Addr × Obj)} (C : PySem.W.EcC X.K D) (hz : Zc cls d oe) (hf : ∃ vs, oe.data = .fields vs) :
    CallR (X.suite a ((a, oe) :: pn)) (.builtin "isinstance") (rIsEd X.K D a cls d) := by
  intro pins s σ H xs us Q I r h
  obtain ⟨c, cv, b, dd, fs, rfl, rfl, hcv, rfl, hdd, e, q⟩ := h
  cases r with
  | cons rx rr =>
    cases rr with
    | cons rt rr =>
      cases rr
      cases rx
      have ec := hcv.eq rt
      subst ec
      obtain ⟨hget, _⟩ := I.pin (a, oe) (List.mem_append.mpr (.inl List.mem_cons_self))
      obtain ⟨vs, hv⟩ := hf
      obtain ⟨mA, hns, _⟩ := (show ObjOk X.prog X.w H s.heap dd (.xd fs) from I.hok dd _ hdd)
      obtain ⟨od, ho, _⟩ := lookIn_ns hns
      have J : PySem.W.InstAt s.heap a oe D (some od) := ⟨hget, hz.1, by unfold PySem.W.notCls; rw [hv] <;> rfl, by rw [hz.2]; exact ho⟩
      exact PySem.W.kia_one (PySem.W.ec_kit C) I.kIn J e (fun z => nomatch z) fun tk => ⟨.bl b, H, I.kept (t' := tk) fun _ _ z => z, rfl, q⟩
end L2

set_option Elab.async false
set_option linter.all false
set_option maxRecDepth 100000
set_option maxHeartbeats 2000000
/-! super().__init__(e, ..) as a row of an own class's maker -/
namespace SupX
open PySem PySem.Spec PyProof.Rows L2 LamX NdefX ClX
/-- a maker of the class D in which super() stands -/
structure FunS (P : Program) (K : PySem.W.Frag) (x qual : Str) (st : Stmt) (D f : Addr) (fd : FuncData) : Prop where
  ex : ∃ (oc : Value) (od : Option Addr) (kV doc pm : Value) (an : Option Addr) (ct : Value) (osl : Array (Option Value)) (cc cda : Addr), fd = PySem.W.ksFn x qual (defArgs st) (defBody st) (defScope st) .none kV doc pm an (.ref cda) ct cc ∧
    K.lookup f = some ⟨oc, od, .func fd, osl⟩ ∧ PySem.W.codeIn K (.ref cda) qual = true ∧
    (∃ ccl cdd vs ccs file tf, K.lookup cda = some ⟨ccl, cdd, .fields vs, ccs⟩ ∧ vs[2]? = some (.str file tf) ∧ ((P.main.file : Str) == file) = true) ∧
    ∃ cl cld csl, K.lookup cc = some ⟨cl, cld, .cell (some (.ref D)), csl⟩
  kp : PySem.W.keepIn K (.ref f) = true
/-- rows of a def, where what runs is known -/
structure PSa (X : Cx) (c : Code) (st : List Stmt) (t : TS) : Prop where
  run : ∀ (pins : List (Addr × Obj)) (s : Shared) (σ : L2.St) (H : Hp) (D : Ends), Inv X pins σ H s → t D σ H → _root_.PySem.wpAt (model X.prog X.w) X.A c (execs st X.env) (SP X pins D) X.xe s
section
variable {X : Cx} {c : Code} {st : Stmt} {sts : List Stmt} {t u : TS}
theorem psa_of (h : PSs X sts t) : PSa X c sts t := ⟨fun pins s σ H D I q => _root_.PySem.wpAt_of_wpAny (h.run pins s σ H D I q)⟩
theorem psa_cons (h : PS X st t) (r : PSa X c sts u) : PSa X c (st :: sts) (tSeq t u) := by
  refine ⟨fun pins s σ H D I q => PySem.ks_wpAt_execs_cons (_root_.PySem.wpAt_of_wpAny (thn (h.run pins s σ H _ I q) fun f s' hs => ?_))⟩
  cases f with
  | next =>
    obtain ⟨σ', H', J, q'⟩ := hs
    exact r.run pins s' σ' H' D J q'
  | brk => exact hs
  | cont => exact hs
  | ret v => exact hs
end
/-- what the class D says of super().__init__ in its maker -/
structure SupC (P : Program) (K : PySem.W.Frag) (D g : Addr) : Prop where
  self : PySem.W.mroIn K D (.ref D) = some true
  sup : PySem.W.ks_superIn K D D "__init__" = some (some (.ref g))
  ty : PySem.W.typeIn K (.ref g) = some (.type "function")
  fi : PySem.W.fnIn K g = true
  op : PySem.W.nsIn K cStatics "thirdparty.any" = some none
  su : PySem.W.nsIn K mainGlobals "super" = some none
  top : (P.main.scope.names.lookup ("super" : Str)).isSome = false
  cls : ∃ cd, PySem.W.clsIn K D = some cd
/-- super().__init__(e, ..) -/
def tSup (D : Addr) (sp : Sp) (E : XK) (ta : TA) (r : TS) : TS := fun Dd σ H => ∃ x dx fs, σ[0]? = some (some (.ref x)) ∧ H x = some (.ins D dx fs) ∧ ta σ H fun vs H1 => sp (.ref x :: vs) H1 (fun _ H2 => r Dd σ H2) E
section
variable {X : Cx} {CX : CXT} {k n a b c' d e' f' : Nat} {D f g cc cda : Addr} {fd : FuncData} {qual self : Str} {scope : Scope} {L : Addr} {sp : Sp} {E : XK} {e : Expr} {es : List Expr} {ta : TA} {body rest : List Stmt} {u : TS} {p0 p1 pos : Pos}
theorem psa_sup {oc : Value} {od : Option Addr} {osl : Array (Option Value)} {ar : Arg} {ccl cl : Value} {cdd cld : Option Addr} {vs0 : Array Value} {ccs csl : Array (Option Value)} {file : Str} {tf : Tok}
    (hX : X.env = PySem.W.ksEnv qual scope L f (.ref cda) cc) (hN : X.N[0]? = some ar.arg) (hf : X.K.lookup f = some ⟨oc, od, .func fd, osl⟩) (hp : (fd.params.posonlyargs ++ fd.params.args).head? = some ar)
    (hcode : X.K.lookup cda = some ⟨ccl, cdd, .fields vs0, ccs⟩) (hvs : vs0[2]? = some (.str file tf)) (hfile : ((X.prog.main.file : Str) == file) = true) (hcell : X.K.lookup cc = some ⟨cl, cld, .cell (some (.ref D)), csl⟩)
    (S : SupC X.prog X.K D g) (F : FnR X.prog X.w X.K X.mg X.base CX k g sp) (hr : Room k X.A) (hx : Passes CX X E) (ha : PA X (e :: es) ta)
    (hks : scope.names.lookup ("super" : Str) = some .globalImplicit) (hkc : scope.names.lookup ("__class__" : Str) = some .free) (hka : scope.names.lookup ar.arg = some .local) (hk : scope.kind = .function)
    (r : PSa X (.func body X.env) rest u)
    (hst : starEach (e :: es) X.env = (false, eval e X.env) :: starEach es X.env := by rfl) (hpl : (backTo ⟨n, d, e', f'⟩ (starEach es X.env)).any (·.1) = false := by rfl)
    (hform : methodCallForm ((e :: es).length + 0) (backTo ⟨n, d, e', f'⟩ (starEach (e :: es) X.env)) [] = true := by rfl) :
    PSa X (.func body X.env) (.Expr (.Call (.Attribute (.Call (.Name "super" p0) [] [] p1) "__init__" ⟨a, b, n, c'⟩) (e :: es) [] ⟨n, d, e', f'⟩) pos :: rest) (tSup D sp E ta u) := by
  refine ⟨fun pins s σ H Dd I h => ?_⟩
  obtain ⟨x, dx, fs, h0, hxi, q⟩ := h
  obtain ⟨cd, hcd⟩ := S.cls
  have kin := I.kIn
  have hks' : X.env.kindOf "super" = some .globalImplicit := by rw [hX]; exact hks
  have hkc' : X.env.kindOf "__class__" = some .free := by rw [hX]; exact hkc
  have hka' : X.env.kindOf ar.arg = some .local := by rw [hX]; exact hka
  have hk' : X.env.scope.kind = .function := by rw [hX]; exact hk
  refine PySem.ks_wpAt_execs_cons ?_
  refine PySem.ks_wpAt_Expr_any ?_ (by unfold interactive; simp [hk'])
  refine PySem.ks_wpAt_MethodCall ?_ (PySem.ErrX.meth_line hform)
  refine PySem.ks_wpAt_super_base (env := X.env) hks' hkc' (by decide) (by rw [hX]) (kin _ _ hf) rfl hp (by rw [hX]) (kin _ _ hcode) rfl hvs hfile S.top ?_
  have hgl := I.mod.glob.keeps I.bk
  obtain ⟨mb, hb, hbb⟩ := I.mod.blt
  have hb' := hb.keeps I.bk
  refine PySem.W.ks_loadName_global hk' hks' (PySem.Calls.loadGlobal_builtin (env := X.env) (by rw [I.ok.glob]; exact hgl) (PySem.W.mg_none_of kin hgl S.su) (by rw [I.ok.blt]; exact hb') ((hbb _ (by decide)).trans PySem.ErrX.bootSuper) ⟨rfl, ?_⟩)
  refine wpAny_loadName_free hk' hkc' (by rw [hX]; rfl) ⟨_, kin _ _ hcell, rfl⟩ ?_
  obtain ⟨m, hns, hloc⟩ := I.loc
  obtain ⟨us, ru, hl⟩ := hloc 0 ar.arg (.ref x) hN h0 (.inl (by rw [hX]; exact hka))
  obtain rfl : us = Value.ref x := ru
  have hm : m ar.arg = some (.ref x) := by
    rcases hl with ⟨_, hl⟩ | ⟨hl, _⟩
    · exact hl
    · rw [hka'] at hl
      rcases hl with hl | hl <;> cases hl
  refine wpAny_loadName_local hk' hka' hns hm ?_
  obtain ⟨oD, hD1, hD2⟩ : ∃ oD, s.heap.get? D = some oD ∧ oD.data = .cls cd := by
    have z := hcd
    unfold PySem.W.clsIn at z
    split at z
    · rename_i ho
      cases z
      exact ⟨_, kin _ _ ho, rfl⟩
    · cases z
  obtain ⟨mA, J, _⟩ := ins_get I.hok hxi
  obtain ⟨odx, J, _⟩ := J.look
  have hxD : x ≠ D := PySem.W.ks_ne kin J hcd
  have hg := I
  obtain ⟨hh, gg, dd, tt, os⟩ := s
  refine PySem.ks_wpAny_isType_cls hD1 hD2 ⟨rfl, ?_⟩
  refine PySem.ks_wpAny_call_super hD1 hD2 J.at_ J.cls (fun c e => ?_) (PySem.W.looks_mroIn kin S.self) (fun h2 hso hk2 => ?_)
  · have := J.no
    unfold PySem.W.notCls at this
    rw [e] at this
    exact Bool.noConfusion this
  have I2 : Inv X ((hh.objs.size, PySem.W.ks_superObj D x D) :: pins) σ H ⟨h2, gg, dd, tt, os⟩ := pin_new (t' := tt) I hk2 (Nat.le_refl _) hso (fun v z => by cases z)
  have kin2 := I2.kIn
  have hsup : PySem.W.alongIn X.K "__init__" ((cd.mro.dropWhile (· != .ref D)).drop 1) = some (some (.ref g)) := by
    have z := S.sup
    unfold PySem.W.ks_superIn at z
    rw [hcd] at z
    exact z
  obtain ⟨of, hof, hofc⟩ : ∃ of, h2.get? g = some of ∧ of.cls = .type "function" := by
    have ht' : (X.K.lookup g).map (·.cls) = some (.type "function") := S.ty
    cases z : X.K.lookup g with
    | none => rw [z] at ht'; cases ht'
    | some of => rw [z] at ht'; exact ⟨of, kin2 _ _ z, Option.some.inj ht'⟩
  refine PySem.ks_wpAny_getMethod_super hso (PySem.W.looks_opaque kin2 S.op) (l₀ := cd.mro) (fun A' Q' E' s' k' q' => wpAny_bind ((PySem.W.looks_clsIn kin2 hcd) A' _ E' s' k' (wpAny_pure q'))) rfl kin2 hsup hof hofc hxD (by decide) ?_
  have I3 : Inv X ((h2.objs.size, PySem.W.methodObj (.ref g) (.ref x)) :: (hh.objs.size, PySem.W.ks_superObj D x D) :: pins) σ H ⟨h2.push (PySem.W.methodObj (.ref g) (.ref x)), gg, dd, tt + 1, os⟩ :=
    pin_new (t' := tt + 1) I2 (fun b o e => Heap.get?_push_of_some _ e) (Nat.le_refl _) (Heap.get?_push_at rfl rfl) (fun v z => by cases z)
  have hbn : X.base.get? h2.objs.size = none := base_none I2 (Nat.le_refl _)
  refine callwith_cm (C := x) I3 hbn S.fi (thn (ha.run _ _ _ σ H _ I3 q) fun us s3 ⟨vs, H2, I4, rv, q2⟩ => ⟨⟨pin_at I4, I4.kIn⟩, ?_⟩) hst hpl
  refine thn (run_cm (C := x) F hr hx I4 rv q2) fun v s5 hz => ?_
  obtain ⟨v', H5, I5, _, q5⟩ := unpinE hz
  exact r.run pins s5 σ H5 Dd I5 q5
end
/-- what stands around the body -/
def nfS (st : Stmt) (x qual : Str) (cc cda : Addr) : NF := ⟨x, qual, defArgs st, defBody st, defScope st, [("__class__", cc)], cda⟩
section
variable {CX : CXT} {P : Program} {w : World} {K : PySem.W.Frag} {mg : Str → Option Value} {base : Heap} {N ps : List Str} {x qual : Str} {st : Stmt} {D f : Addr} {fd : FuncData} {k : Nat} {sp : Sp}
/-- what psa_sup asks of the text -/
structure SupT (P : Program) (K : PySem.W.Frag) (st : Stmt) (x qual : Str) (D f cc cda : Addr) (fd : FuncData) : Prop where
  words : ∃ (kV doc pm : Value) (an : Option Addr) (ct : Value), fd = PySem.W.ksFn x qual (defArgs st) (defBody st) (defScope st) .none kV doc pm an (.ref cda) ct cc
  fn : ∃ oc od osl, K.lookup f = some ⟨oc, od, .func fd, osl⟩
  code : ∃ ccl cdd vs ccs file tf, K.lookup cda = some ⟨ccl, cdd, .fields vs, ccs⟩ ∧ vs[2]? = some (.str file tf) ∧ ((P.main.file : Str) == file) = true
  cell : ∃ cl cld csl, K.lookup cc = some ⟨cl, cld, .cell (some (.ref D)), csl⟩
/-- THE RULE: a maker with super() by its body -/
theorem okS (F : FunS P K x qual st D f fd) (S : NScope N ps ["__class__"] (defScope st)) (len : ∀ vs H Q E, sp vs H Q E → vs.length = ps.length)
    (hbody : ∀ (cc cda : Addr) (A : Around) (outer : List Env) (s : Shared) (H : Hp) (vs : List V) (Q : VK) (E : XK), SupT P K st x qual D f cc cda fd → Room k (A.deeper (envF (nfS st x qual cc cda) f s.heap.objs.size)) → sp vs H Q E →
      ∃ t, PSa (ncx CX P w K mg base N (nfS st x qual cc cda) f A outer s H E) (.func (defBody st) (envF (nfS st x qual cc cda) f s.heap.objs.size)) (defBody st) t ∧ t { nx := fun _ H' => Q .non H', rt := Q } (startF N vs [some (.ref D)]) H) :
    FnOk P w K mg base CX (k + 1) f fd ps sp := by
  obtain ⟨oc, od, kV, doc, pm, an, ct, osl, cc, cda, hfd, lk, hcd, hcode, cl, cld, csl, hcell⟩ := F.ex
  refine ⟨len, fun A outer s H args us vs Q E hr e0 hb r hsp => ?_⟩
  have hl := len _ _ _ _ hsp
  have kin : K.In s.heap := e0.mod.kin.keeps fun b o e => (e0.bs b o e).1
  have lim : s.heap.NoLimit := e0.mod.nolimit.keeps fun b o e => (e0.bs b o e).1
  obtain ⟨t, ht, hq⟩ := hbody cc cda A outer s H vs Q E ⟨⟨kV, doc, pm, an, ct, hfd⟩, ⟨oc, od, osl, lk⟩, hcode, cl, cld, csl, hcell⟩ (hr.deeper _) hsp
  subst hfd
  refine PySem.ks_codeAny_call_defAt (body := defBody st) (binds := ps.zip us) hr.depth (kin _ _ lk) rfl lim (PySem.W.codeRec_of kin hcd) rfl hb S.nocell (fun ⟨n, _⟩ hy => S.par n (List.of_mem_zip hy).1) (fun h1 hns hk1 => ?_) S.co S.gen S.kind
  have hcn : H cc = none := (e0.bs _ _ (e0.mod.kin _ _ hcell)).2
  have hci : s.heap.IsCell cc (some (.ref D)) := ⟨_, kin _ _ hcell, rfl⟩
  have look : ∀ (y : Str) (c : Addr), ([(("__class__" : Str), cc)] : List (Str × Addr)).lookup y = some c → y = "__class__" ∧ c = cc := fun y c e => by
    rw [List.lookup_cons] at e
    split at e
    · rename_i z
      exact ⟨beq_iff_eq.mp z, (Option.some.inj e).symm⟩
    · cases e
  have C : CellsAt (nfS st x qual cc cda).cl ["__class__"] [some (.ref D)] s.heap H := by
    refine ⟨rfl, fun y c e => ?_, fun y z c e1 e2 => ?_, fun i y e => ?_⟩
    · obtain ⟨_, rfl⟩ := look y c e
      exact ⟨hcn, _, hci⟩
    · rw [(look y c e1).1, (look z c e2).1]
    · cases i with
      | zero =>
        cases e
        refine ⟨cc, by rfl, fun v hv => ?_⟩
        cases hv
        exact ⟨.ref D, rfl, hci⟩
      | succ i => simp at e
  have I : Inv (ncx CX P w K mg base N (nfS st x qual cc cda) f A outer s H E) [] (startF N vs [some (.ref D)]) H { s with heap := h1, toks := s.toks + (ps.zip us).length } := inv_startN (F := nfS st x qual cc cda) S hr.hd e0 hl r C hns hk1
  refine PySem.ks_wpAt_mono (ht.run [] _ (startF N vs [some (.ref D)]) H _ I hq) (fun fl s' hs => ?_) fun e s' hs => hs
  have fin : ∀ {σ' : L2.St} {H' : Hp} {v : V} {u : Value}, Inv (ncx CX P w K mg base N (nfS st x qual cc cda) f A outer s H E) [] σ' H' s' → L2.RelV v u → Q v H' → CE outer P w H s Q u s' :=
    fun {σ' H' v u} J rv q => ⟨v, H', J.os, J.bare, J.base, J.hok, rv, q⟩
  cases fl with
  | ret u =>
    obtain ⟨v, σ', H', J, rv, q⟩ := hs
    exact fin J rv q
  | next =>
    obtain ⟨σ', H', J, q⟩ := hs
    exact fin (v := V.non) (u := Value.none) J rfl q
  | brk =>
    obtain ⟨_, _, _, q⟩ := hs
    exact False.elim q
  | cont =>
    obtain ⟨_, _, _, q⟩ := hs
    exact False.elim q
end
end SupX

set_option Elab.async false
set_option linter.all false
set_option maxRecDepth 100000
set_option maxHeartbeats 2000000
/-! the head by one run, its facts by one Bool of the written part: own Hook -/
namespace HkX
open PySem PySem.Spec PyProof.Rows L2 He
/-! ### what is reached from the module's names -/
def push1 (a : Addr) (q : List Addr × Nat) : List Addr × Nat := match Nat.testBit q.2 a with
  | true => q
  | false => (a :: q.1, Nat.lor q.2 (Nat.shiftLeft 1 a))
def walk (g : Addr → Option Obj) : Nat → List Addr → Nat → List Addr → List Addr
  | 0, _, _, acc => acc
  | _ + 1, [], _, acc => acc
  | n + 1, a :: r, seen, acc => match g a with
    | some o => (match (refsD o).foldl (fun q b => push1 b q) (r, seen) with
      | (st, sn) => walk g n st sn (a :: acc))
    | none => walk g n r seen acc
/-- a table that is still empty -/
def isTab (o : Obj) : Bool := match o with
  | ⟨.none, none, .fields vs, sl⟩ => vs.isEmpty && sl.isEmpty
  | _ => false
def frH (g : Addr → Option Obj) (as : List Addr) : PySem.W.Frag := as.filterMap fun a => match g a with
  | some o => (match isTab o with
    | true => none
    | false => some (a, o))
  | none => none
theorem frH_at {g : Addr → Option Obj} {a : Addr} {o : Obj} : ∀ as : List Addr, (frH g as).lookup a = some o → g a = some o ∧ isTab o = false
  | [], e => nomatch (show (none : Option Obj) = some o from e)
  | b :: r, e => by
    unfold frH at e
    cases hb : g b with
    | none =>
      have e2 : (frH g r).lookup a = some o := by
        unfold frH
        rw [List.filterMap_cons, hb] at e
        exact e
      exact frH_at r e2
    | some ob =>
      rw [List.filterMap_cons, hb] at e
      cases ht : isTab ob with
      | true =>
        simp only [ht] at e
        exact frH_at r e
      | false =>
        simp only [ht] at e
        have e2 : (match a == b with | true => some ob | false => (frH g r).lookup a) = some o := e
        cases q : (a == b) with
        | true =>
          rw [q] at e2
          have eo : ob = o := Option.some.inj e2
          subst eo
          rw [beq_iff_eq.mp q]
          exact ⟨hb, ht⟩
        | false =>
          rw [q] at e2
          exact frH_at r e2
theorem frH_in {as : List Addr} {h : Heap} : (frH h.get? as).In h := fun _ _ e => (frH_at as e).1
def fragOf (g : Addr → Option Obj) : PySem.W.Frag := frH g (walk g 5000 [mainGlobals, cStatics] (Nat.lor (Nat.shiftLeft 1 mainGlobals) (Nat.shiftLeft 1 cStatics)) [])
/-! ### addresses by names -/
/-- what a record of a built-in class holds first -/
def recF (K : PySem.W.Frag) (p : Addr) (n : String) : Addr := match PySem.W.recIn K p n with
  | some (.ref f :: _) => f
  | _ => 0
/-- a class method's record -/
def cmA (K : PySem.W.Frag) (C : Addr) (m : Str) : Addr := match PySem.W.findCls K (.ref C) (.type "type") m with
  | some (.get _ (.ref p) _ _) => p
  | _ => 0
/-- a def's code object, its cell of the class, the table in its code -/
def cdA (K : PySem.W.Frag) (f : Addr) : Addr := match K.lookup f with
  | some ⟨_, _, .func fd, _⟩ => (match fd.code with
    | .ref c => c
    | _ => 0)
  | _ => 0
def ccA (K : PySem.W.Frag) (f : Addr) : Addr := match K.lookup f with
  | some ⟨_, _, .func fd, _⟩ => (match fd.closure with
    | [(_, c)] => c
    | _ => 0)
  | _ => 0
def tbA (K : PySem.W.Frag) (c : Addr) : Addr := match K.lookup c with
  | some ⟨_, _, .fields vs, _⟩ => (match (vs.toList[11]? : Option Value) with
    | some (Value.ref t) => t
    | _ => 0)
  | _ => 0
/-! ### defs -/
abbrev FnW : Type := Option (Str × Str × Arguments × FuncBody × Scope × Addr × List Str × Addr)
def fnC (K : PySem.W.Frag) (f : Addr) : FnW := match K.lookup f with
  | some ⟨_, _, .func fd, _⟩ => some (fd.name, fd.qualname, fd.params, fd.body, fd.scope, fd.globals, fd.closure.map (·.1), fd.builtins)
  | _ => none
/-- one def: where it stands, its name, qualified name, statement; whether super stands in it -/
structure Df where
  at_ : PySem.W.Frag → Addr
  name : Str
  qual : Str
  st : Stmt
  sup : Bool
  /-- whether defaults stand in it -/
  df : Bool
def supN (b : Bool) : List Str := match b with
  | true => ["__class__"]
  | false => []
def Df.val (d : Df) : FnW := some (d.name, d.qual, defArgs d.st, .stmts (defBody d.st), defScope d.st, mainGlobals, supN d.sup, builtinsNs)
def isNon : Value → Bool
  | .none => true
  | _ => false
def isRef : Value → Bool
  | .ref _ => true
  | _ => false
def fileB (K : PySem.W.Frag) (c : Addr) (file : Str) : Bool := match K.lookup c with
  | some ⟨_, _, .fields vs, _⟩ => (match (vs.toList[2]? : Option Value) with
    | some (Value.str x _) => file == x
    | _ => false)
  | _ => false
def cellB (K : PySem.W.Frag) (c D : Addr) : Bool := match K.lookup c with
  | some ⟨_, _, .cell (some (.ref b)), _⟩ => b == D
  | _ => false
def Df.ok (K : PySem.W.Frag) (d : Df) : Bool := PySem.W.keepIn K (.ref (d.at_ K)) && (match K.lookup (d.at_ K) with
  | some ⟨_, _, .func fd, _⟩ => PySem.W.codeIn K fd.code d.qual && ((d.df || isNon fd.defaults) && (isNon fd.kwdefaults && isRef fd.code))
  | _ => false)
def dflV (K : PySem.W.Frag) (f : Addr) : Value := match K.lookup f with
  | some ⟨_, _, .func fd, _⟩ => fd.defaults
  | _ => .none
/-- its one default -/
def dfE (K : PySem.W.Frag) (f : Addr) : Addr := match dflV K f with
  | .ref T => (match K.lookup T with
    | some ⟨_, _, .seq its _, _⟩ => (match its.toList with
      | [.ref e] => e
      | _ => 0)
    | _ => 0)
  | _ => 0
theorem Df.low {K : PySem.W.Frag} {d : Df} (e : fnC K (d.at_ K) = d.val) (c : d.ok K = true) : ∃ (oc : Value) (od : Option Addr) (dV doc pm : Value) (an : Option Addr) (ct : Value) (osl : Array (Option Value)) (cl : List (Str × Addr)) (fd : FuncData),
    fd = PySem.W.fnX d.name d.qual (defArgs d.st) (defBody d.st) (defScope d.st) cl dV .none doc pm an (.ref (cdA K (d.at_ K))) ct ∧ dflV K (d.at_ K) = dV ∧ (d.df = false → dV = .none) ∧ cl.map (·.1) = supN d.sup ∧ K.lookup (d.at_ K) = some ⟨oc, od, .func fd, osl⟩ ∧ PySem.W.codeIn K (.ref (cdA K (d.at_ K))) d.qual = true ∧
    PySem.W.keepIn K (.ref (d.at_ K)) = true := by
  obtain ⟨kp, c2⟩ := ba c
  unfold fnC at e
  cases q : K.lookup (d.at_ K) with
  | none =>
    rw [q] at c2
    cases c2
  | some o =>
    obtain ⟨oc, od, dt, osl⟩ := o
    rw [q] at c2 e
    cases dt with
    | func fd =>
      obtain ⟨n1, n2, n3, n4, n5, n6, n7, n8, n9, n10, n11, n12, n13, n14, n15⟩ := fd
      have e2 : (some (n1, n2, n3, n4, n5, n6, n7.map (·.1), n15) : FnW) = some (d.name, d.qual, defArgs d.st, .stmts (defBody d.st), defScope d.st, mainGlobals, supN d.sup, builtinsNs) := e
      simp only [Option.some.injEq, Prod.mk.injEq] at e2
      obtain ⟨h1, h2, h3, h4, h5, h6, h7, h8⟩ := e2
      subst h1 h2 h3 h4 h5 h6 h8
      have c3 : (PySem.W.codeIn K n13 d.qual && ((d.df || isNon n8) && (isNon n9 && isRef n13))) = true := c2
      obtain ⟨k1, k2⟩ := ba c3
      obtain ⟨k3, k4⟩ := ba k2
      obtain ⟨k5, k6⟩ := ba k4
      cases n9 <;> first | (cases k5; done) | skip
      cases n13 <;> first | (cases k6; done) | skip
      rename_i cda
      have ec : cdA K (d.at_ K) = cda := by
        unfold cdA
        rw [q]
      rw [ec]
      have hdv : dflV K (d.at_ K) = n8 := by
        unfold dflV
        rw [q]
      refine ⟨oc, od, n8, n10, n11, n12, n14, osl, n7, _, rfl, hdv, fun e0 => ?_, h7, rfl, k1, kp⟩
      rw [e0] at k3
      cases n8 <;> first | rfl | (cases k3; done)
    | _ => cases c2
theorem Df.fun_ {K : PySem.W.Frag} {d : Df} (hs : d.sup = false) (hd : d.df = false) (e : fnC K (d.at_ K) = d.val) (c : d.ok K = true) : ∃ fd, Fun K d.name d.qual d.st (d.at_ K) fd ∧ fd.code = .ref (cdA K (d.at_ K)) := by
  obtain ⟨oc, od, dV, doc, pm, an, ct, osl, cl, fd, hfd, _, hdn, hcl, lk, hc, kp⟩ := Df.low e c
  rw [hs] at hcl
  obtain rfl := hdn hd
  have : cl = [] := List.map_eq_nil_iff.mp hcl
  subst this
  subst hfd
  exact ⟨_, ⟨⟨oc, od, .none, doc, pm, an, _, ct, osl, rfl, lk, hc⟩, kp⟩, rfl⟩
/-- a def with defaults -/
theorem Df.funD_ {K : PySem.W.Frag} {d : Df} {dvs : List V} (hs : d.sup = false) (e : fnC K (d.at_ K) = d.val) (c : d.ok K = true) (hv : He.dflB K (dflV K (d.at_ K)) dvs = true) : ∃ fd, FunD K d.name d.qual (defArgs d.st) (defBody d.st) (defScope d.st) dvs [] (d.at_ K) fd := by
  obtain ⟨oc, od, dV, doc, pm, an, ct, osl, cl, fd, hfd, hdv, _, hcl, lk, hc, kp⟩ := Df.low e c
  rw [hs] at hcl
  have : cl = [] := List.map_eq_nil_iff.mp hcl
  subst this
  subst hfd
  rw [hdv] at hv
  exact ⟨_, ⟨⟨oc, od, dV, .none, doc, pm, an, _, ct, osl, rfl, lk, hc, He.dflB_ok hv, .inl rfl⟩, kp⟩⟩
/-- an empty tuple stands at e -/
def tup0 (K : PySem.W.Frag) (e : Addr) : Bool := match K.lookup e with
  | some ⟨.type c, _, .seq its _, _⟩ => decide (c = "tuple") && its.toList.isEmpty
  | _ => false
theorem tup0_ok {K : PySem.W.Frag} {e : Addr} (h : tup0 K e = true) (H : Hp) : SqT K H e [] := by
  unfold tup0 at h
  cases q : K.lookup e with
  | none =>
    rw [q] at h
    cases h
  | some o =>
    obtain ⟨oc, od, dt, osl⟩ := o
    rw [q] at h
    cases oc with
    | type c =>
      cases dt with
      | seq its n =>
        obtain ⟨h1, h2⟩ := ba (show (decide (c = "tuple") && its.toList.isEmpty) = true from h)
        have h3 : its.toList = [] := List.isEmpty_iff.mp h2
        refine .inr ⟨_, its, n, q, congrArg Value.type (of_decide_eq_true h1), rfl, ?_, ?_⟩
        · rw [← Array.length_toList, h3]; exact Nat.zero_le _
        · rw [h3]; exact .nil
      | _ => cases h
    | _ => cases dt <;> cases h
/-- a def read off its class -/
def cvB (K : PySem.W.Frag) (C : Addr) (m : Str) (f : Addr) : Bool := match PySem.W.findCls K (.ref C) (.type "type") m with
  | some (.val (.ref g)) => g == f
  | _ => false
theorem cvB_ok {K : PySem.W.Frag} {C : Addr} {m : Str} {f : Addr} (h : cvB K C m f = true) : PySem.W.findCls K (.ref C) (.type "type") m = some (.val (.ref f)) := by
  unfold cvB at h
  split at h
  · rename_i g e
    rw [e, beq_iff_eq.mp h]
  · cases h
theorem Df.supF {K : PySem.W.Frag} {P : Program} {d : Df} {D : Addr} (hs : d.sup = true) (hd : d.df = false) (e : fnC K (d.at_ K) = d.val) (c : d.ok K = true) (hf : fileB K (cdA K (d.at_ K)) P.main.file = true) (hc : cellB K (ccA K (d.at_ K)) D = true) :
    ∃ fd, SupX.FunS P K d.name d.qual d.st D (d.at_ K) fd ∧ fd.kwdefaults = .none ∧ ∀ ps : List Str, (∀ (kV doc pm : Value) (an : Option Addr) (cda : Addr) (ct : Value) (cc : Addr) (us : List Value), us.length = ps.length → bindArgs (PySem.W.ksFn d.name d.qual (defArgs d.st) (defBody d.st) (defScope d.st) .none kV doc pm an (.ref cda) ct cc) ⟨us, []⟩ = pure (ps.zip us)) → Binds K fd ps [] := by
  obtain ⟨oc, od, dV, doc, pm, an, ct, osl, cl, fd, hfd, _, hdn, hcl, lk, hcd, kp⟩ := Df.low e c
  rw [hs] at hcl
  obtain rfl := hdn hd
  obtain ⟨p, rfl⟩ : ∃ p, cl = [p] := by
    cases cl with
    | nil => cases hcl
    | cons p r =>
      cases r with
      | nil => exact ⟨p, rfl⟩
      | cons p2 r =>
        have := congrArg List.length hcl
        simp [supN] at this
  obtain ⟨nm, cc⟩ := p
  have en : nm = "__class__" := by
    have : [nm] = [Str.ofString "__class__"] := hcl
    exact (List.cons.inj this).1
  subst en
  subst hfd
  have ecc : ccA K (d.at_ K) = cc := by
    unfold ccA
    rw [lk]
  rw [ecc] at hc
  unfold cellB at hc
  split at hc
  · rename_i cl cld b csl hcell
    obtain rfl : b = D := beq_iff_eq.mp hc
    unfold fileB at hf
    split at hf
    · rename_i ccl cdd vs ccs hcode
      split at hf
      · rename_i file tf hv
        refine ⟨_, ⟨⟨oc, od, .none, doc, pm, an, ct, osl, cc, _, rfl, lk, hcd, ⟨ccl, cdd, vs, ccs, file, tf, hcode, ?_, hf⟩, cl, cld, csl, hcell⟩, kp⟩, rfl, fun ps hb => Binds.all fun us hl => hb .none doc pm an _ ct cc us hl⟩
        rw [← Array.getElem?_toList]
        exact hv
      · cases hf
    · cases hf
  · cases hc
/-! ### records, class methods -/
def recB (K : PySem.W.Frag) (p : Addr) (n : String) (f : Addr) : Bool := match PySem.W.recIn K p n with
  | some (.ref g :: _) => g == f
  | _ => false
theorem recB_ok {K : PySem.W.Frag} {p f : Addr} {n : String} (h : recB K p n f = true) : ∃ rs, PySem.W.recIn K p n = some (.ref f :: rs) := by
  unfold recB at h
  split at h
  · rename_i g rs e
    obtain rfl : g = f := beq_iff_eq.mp h
    exact ⟨rs, e⟩
  · cases h
def cmB (K : PySem.W.Frag) (C : Addr) (m : Str) (p : Addr) : Bool := match PySem.W.findCls K (.ref C) (.type "type") m with
  | some (.get (.builtin n) (.ref q) .none (.ref D)) => n == "classmethod.__get__" && (q == p && D == C)
  | _ => false
theorem cmB_ok {K : PySem.W.Frag} {C p : Addr} {m : Str} (h : cmB K C m p = true) : PySem.W.findCls K (.ref C) (.type "type") m = some (.get (.builtin "classmethod.__get__") (.ref p) .none (.ref C)) := by
  unfold cmB at h
  split at h
  · rename_i n q D e
    obtain ⟨h1, h2⟩ := ba h
    obtain ⟨h2, h3⟩ := ba h2
    obtain rfl := beq_iff_eq.mp h1
    obtain rfl : q = p := beq_iff_eq.mp h2
    obtain rfl : D = C := beq_iff_eq.mp h3
    exact e
  · cases h
theorem mro_ex {K : PySem.W.Frag} {D : Addr} {l : List Value} (h : (PySem.W.clsIn K D).map (·.mro) = some l) : ∃ cd, PySem.W.clsIn K D = some cd ∧ cd.mro = l := by
  obtain ⟨cd, h1, h2⟩ := Option.map_eq_some_iff.mp h
  exact ⟨cd, h1, h2⟩
theorem cls_ex {K : PySem.W.Frag} {D : Addr} {l : List Value} (h : (PySem.W.clsIn K D).map (·.mro) = some l) : ∃ cd, PySem.W.clsIn K D = some cd := by
  obtain ⟨cd, h1, h2⟩ := mro_ex h
  exact ⟨cd, h1⟩
theorem bind1 {K : PySem.W.Frag} {x qual p : Str} {st : Stmt} {f : Addr} {fd : FuncData} (F : Fun K x qual st f fd) (h : ∀ (kV doc pm : Value) (an : Option Addr) (cdv ct v : Value), bindArgs (PySem.W.fnOf x qual (defArgs st) (defBody st) (defScope st) .none kV doc pm an cdv ct) ⟨[v], []⟩ = pure [(p, v)]) (s : Shared) (v : Value) : BindsTo s fd ⟨[v], []⟩ [(p, v)] := by
  obtain ⟨oc, od, kV, doc, pm, an, cdv, ct, osl, rfl, _⟩ := F.ex
  exact .of_eq (h kV doc pm an cdv ct v)
/-! ### the class of an own error -/
def excB (K : PySem.W.Frag) (C : Addr) : Bool := match K.lookup C with
  | some ⟨.type "type", _, .cls cd, sl⟩ => (match cd.mro, sl.toList with
    | .ref C' :: bm, [_, _, _, _, some (.builtin n), _] => C' == C && (n == "ValueError.__new__" && (!cd.hasDel && (cd.hasDict && PySem.HandSPX.refsVE bm)))
    | _, _ => false)
  | _ => false
theorem excB_ok {K : PySem.W.Frag} {C : Addr} (q : excB K C = true) : ∃ nm qn N bs bm sn sub ab col dd k0 k1 k2 k3 k5, K.lookup C = some (excClassObj nm qn C N bs bm true sn sub ab col dd k0 k1 k2 k3 k5 "ValueError.__new__") ∧ PySem.HandSPX.refsVE bm = true := by
  unfold excB at q
  split at q
  · rename_i dd cd sl ho
    split at q
    · rename_i C' bm k0 k1 k2 k3 n k5 hm hs
      simp only [Bool.and_eq_true, beq_iff_eq, Bool.not_eq_true'] at q
      obtain ⟨rfl, rfl, hdel, hdic, ht⟩ := q
      obtain ⟨nm, bs, mro, ns, qn, hd, sn, sub, ab, col, del⟩ := cd
      dsimp only at hm hdel hdic
      subst hm hdel hdic
      have hsl : sl = #[k0, k1, k2, k3, some (.builtin "ValueError.__new__"), k5] := by
        obtain ⟨l⟩ := sl
        simp only at hs
        rw [hs]
      subst hsl
      exact ⟨nm, qn, ns, bs, bm, sn, sub, ab, col, dd, k0, k1, k2, k3, k5, ho, ht⟩
    · cases q
  · cases q
/-! ### the Hook -/
abbrev Al : Type := Bool × List FnW
def obs (fa : PySem.W.Frag → Bool) (fn : List Df) (K : PySem.W.Frag) : Al := (fa K && fn.all fun d => d.ok K, fn.map fun d => fnC K (d.at_ K))
def val (fn : List Df) : Al := (true, fn.map Df.val)
def Says (fa : PySem.W.Frag → Bool) (fn : List Df) (K : PySem.W.Frag) : Prop := obs fa fn K = val fn
def hook (fa : PySem.W.Frag → Bool) (fn : List Df) : PySem.W.Hook where
  α := Al
  obs := fun s => obs fa fn (fragOf s.heap.get?)
  val := fun _ => val fn
  says := fun _ h => ∃ K : PySem.W.Frag, K.In h ∧ Says fa fn K
  of := fun _ _ e => ⟨_, frH_in, e⟩
  keeps := fun _ _ _ ⟨K, hK, c⟩ k => ⟨K, PySem.W.Frag.In.keeps hK k, c⟩
def obF (fa : PySem.W.Frag → Bool) (fn : List Df) (s : PySem.W.SharedT) : Al := obs fa fn (fragOf (HandSHeadRun.getT s))
theorem obF_eq {fa : PySem.W.Frag → Bool} {fn : List Df} (s : PySem.W.SharedT) : obF fa fn s = (hook fa fn).obs s.abs := by
  have e : HandSHeadRun.getT s = s.abs.heap.get? := funext (HandSHeadRun.getT_eq s)
  unfold obF
  rw [e] <;> rfl
theorem obs_join {fa1 fa2 : PySem.W.Frag → Bool} {fn1 fn2 : List Df} {K : PySem.W.Frag} (h1 : obs fa1 fn1 K = val fn1) (h2 : obs fa2 fn2 K = val fn2) : obs (fun K => fa1 K && fa2 K) (fn1 ++ fn2) K = val (fn1 ++ fn2) := by
  have a1 : (fa1 K && fn1.all fun d => d.ok K) = true := congrArg (fun z : Al => z.1) h1
  have a2 : (fa2 K && fn2.all fun d => d.ok K) = true := congrArg (fun z : Al => z.1) h2
  have b1 : fn1.map (fun d => fnC K (d.at_ K)) = fn1.map Df.val := congrArg (fun z : Al => z.2) h1
  have b2 : fn2.map (fun d => fnC K (d.at_ K)) = fn2.map Df.val := congrArg (fun z : Al => z.2) h2
  obtain ⟨c1, c2⟩ := ba a1
  obtain ⟨c3, c4⟩ := ba a2
  show ((fa1 K && fa2 K) && (fn1 ++ fn2).all (fun d => d.ok K), (fn1 ++ fn2).map fun d => fnC K (d.at_ K)) = (true, (fn1 ++ fn2).map Df.val)
  rw [c1, c3, List.all_append, c2, c4, List.map_append, List.map_append, b1, b2]
  rfl
/-- two runs of the top, each with some of the facts -/
theorem run_join {r : PySem.W.OpenRow} {q : Program} {M : Nat} {loose : List PySem.Str} {w : World} {fa1 fa2 : PySem.W.Frag → Bool} {fn1 fn2 : List Df}
    (h1 : HandSHeadRun.RunEq r q (hook fa1 fn1) (obF fa1 fn1) M loose w) (h2 : HandSHeadRun.RunEq r q (hook fa2 fn2) (obF fa2 fn2) M loose w) : HandSHeadRun.RunEq r q (hook (fun K => fa1 K && fa2 K) (fn1 ++ fn2)) (obF (fun K => fa1 K && fa2 K) (fn1 ++ fn2)) M loose w := by
  intro os
  obtain ⟨s, hs, e1⟩ := Option.map_eq_some_iff.mp (h1 os)
  obtain ⟨s2, hs2, e2⟩ := Option.map_eq_some_iff.mp (h2 os)
  rw [hs] at hs2
  obtain rfl := Option.some.inj hs2
  refine Option.map_eq_some_iff.mpr ⟨s, hs, ?_⟩
  have o1 : obF fa1 fn1 s = val fn1 := congrArg (fun z : _ × _ × Al => z.2.2) e1
  have o2 : obF fa2 fn2 s = val fn2 := congrArg (fun z : _ × _ × Al => z.2.2) e2
  have o3 : obF (fun K => fa1 K && fa2 K) (fn1 ++ fn2) s = val (fn1 ++ fn2) := obs_join o1 o2
  have l1 := congrArg (fun z : _ × _ × Al => z.1) e1
  have l2 := congrArg (fun z : _ × _ × Al => z.2.1) e1
  exact Prod.ext l1 (Prod.ext l2 o3)
section
variable {fa : PySem.W.Frag → Bool} {fn : List Df} {K : PySem.W.Frag}
theorem Says.fac (c : Says fa fn K) : fa K = true := (ba (show (fa K && fn.all fun d => d.ok K) = true from congrArg (fun z : Al => z.1) c)).1
theorem Says.df (c : Says fa fn K) (i : Nat) {d : Df} (h : fn[i]? = some d) : fnC K (d.at_ K) = d.val ∧ d.ok K = true := by
  have c2 := (ba (show (fa K && fn.all fun d => d.ok K) = true from congrArg (fun z : Al => z.1) c)).2
  have e : fn.map (fun d => fnC K (d.at_ K)) = fn.map Df.val := congrArg (fun z : Al => z.2) c
  have e2 : (fn.map fun d => fnC K (d.at_ K))[i]? = (fn.map Df.val)[i]? := by rw [e]
  rw [List.getElem?_map, List.getElem?_map, h] at e2
  exact ⟨Option.some.inj e2, List.all_eq_true.mp c2 d (List.mem_of_getElem? h)⟩
end
end HkX

set_option Elab.async false
set_option linter.all false
set_option maxRecDepth 100000
set_option maxHeartbeats 2000000
/-! the head in several runs: the top cut into groups of statements, the state behind each written out (own) -/
noncomputable section
namespace HsX
open PySem PySem.W PySem.Calls PyProof.Rows HandSHeadRun
/-! ### a state, told by the list of its objects -/
def pick (l : List Obj) : Bool → List Obj := List.rec (motive := fun _ => Bool → List Obj) (fun _ => []) (fun a _ ih b => match b with
  | true => a :: ih false
  | false => ih true) l
def mkT (n : Nat) : List Obj → BT := Nat.rec (motive := fun _ => List Obj → BT) (fun _ => .nil) (fun _ ih l => match l with
  | [] => .nil
  | o :: r => .node o (ih (pick r true)) (ih (pick r false))) n
/-- some objects of a list changed -/
def ovr (l : List Obj) : Nat → List (Nat × (Obj → Obj)) → List Obj := List.rec (motive := fun _ => Nat → List (Nat × (Obj → Obj)) → List Obj) (fun _ _ => []) (fun o r ih k us => match us with
  | [] => o :: r
  | (a, f) :: vs => (match Nat.beq k a with
    | true => f o :: ih (Nat.succ k) vs
    | false => o :: ih (Nat.succ k) us)) l
def st (L : List Obj) (n toks : Nat) (os : OsState) : SharedT := ⟨mkT 24 L, n, {}, ⟨[]⟩, {}, toks, os⟩
/-! ### short words for objects -/
def s (x : Str) (t : Nat) : Value := .str x t
def i (x : Int) (t : Nat) : Value := .int x t
def r (a : Nat) : Value := .ref a
def z : Value := .int 0 0
def T (xs : List Value) : Obj := { cls := .type "tuple", data := .seq ⟨xs⟩ }
def F (xs : List Value) : Obj := { cls := .none, data := .fields ⟨xs⟩ }
def G (c : String) (xs : List Value) : Obj := { cls := .type c, data := .fields ⟨xs⟩ }
def e (P : Params) (x : Str) (t : Nat) (v : Value) : DictEntry := ⟨PyData.keyHash P x, .str x t, v⟩
def D (es : List DictEntry) (n : Nat) : Obj := { cls := .type "dict", data := .dict ⟨es⟩ n }
/-- a code object -/
def C (nm qn : Str) (t : Nat) (ln na fl : Nat) (tp : Nat) (b : Bool) (k tb : Nat) (vs : List Value) (t2 : Nat) (fi : Str) : Obj :=
  { cls := .type "code", data := .fields ⟨[.str nm t, .str qn (t + 1), .str fi (t + 2), .int (.ofNat ln) 0, .int (.ofNat na) 0, z, z, .int (.ofNat fl) 0, .ref tp, .bool b, .int (.ofNat k) 0, .ref tb] ++ vs ++ [.int (.ofNat t2) 0, .int (.ofNat ln) 0, .str fi (t2 + 1)]⟩ }
def cd (t2 : Nat) : Nat := t2
def fnD (nm qn : Str) (a : Arguments) (b : List Stmt) (sc : Scope) (g : Nat) (cl : List (Str × Nat)) (df kd : Value) (md : Value) (co : Value) (ct : Value) : FuncData :=
  { name := nm, qualname := qn, params := a, body := .stmts b, scope := sc, globals := g, closure := cl, defaults := df, kwdefaults := kd, pyModule := md, code := co, closureTuple := ct }
def N (p : Stmt) (nm qn : Str) (g : Nat) (cl : List (Str × Nat)) (df kd : Value) : Obj := { cls := .none, data := .func (fnD nm qn (L2.defArgs p) (L2.defBody p) (L2.defScope p) g cl df kd .none .none .none) }
def M (p : Stmt) (nm qn : Str) (g : Nat) (cl : List (Str × Nat)) (df kd md co ct : Value) : Obj := { cls := .type "function", data := .func (fnD nm qn (L2.defArgs p) (L2.defBody p) (L2.defScope p) g cl df kd md co ct) }
def A (a : Nat) (o : Obj) : Obj := match o with
  | ⟨c, d, .func f, sl⟩ => ⟨c, d, .func { f with annotations := some a }, sl⟩
  | o => o
/-- a dict, a list of fields that grew -/
def dA (es : List DictEntry) (n : Nat) (o : Obj) : Obj := match o with
  | ⟨c, d, .dict ⟨xs⟩ _, sl⟩ => ⟨c, d, .dict ⟨xs ++ es⟩ n, sl⟩
  | o => o
def fA (es : List Value) (o : Obj) : Obj := match o with
  | ⟨c, d, .fields ⟨xs⟩, sl⟩ => ⟨c, d, .fields ⟨xs ++ es⟩, sl⟩
  | o => o
def cA (es : List Value) (o : Obj) : Obj := match o with
  | ⟨c, d, .cls x, sl⟩ => ⟨c, d, .cls { x with subclasses := x.subclasses ++ es }, sl⟩
  | o => o
/-! ### runs of some statements -/
section
variable (stp : SharedT → Thread → Option (SharedT × Thread)) (n0 : Nat) (ann : Option Value)
def segF : Nat → SharedT → Thread → Option (Flow × SharedT × Code × Pos)
  | 0, _, _ => none
  | m + 1, x, t => match endAt 1 t with
    | some f => some (f, x, t.code, t.pos)
    | none => match stepOk n0 ann t with
      | false => none
      | true => match stp x t with
        | some (x', t') => frS x' fun x' => segF m x' t'
        | none => none
def tgF : Nat → SharedT → Thread → Option (SharedT × Thread)
  | 0, x, t => some (x, t)
  | m + 1, x, t => match through t with
    | true => none
    | false => match stepOk n0 ann t with
      | false => none
      | true => match stp x t with
        | some (x', t') => frS x' fun x' => tgF m x' t'
        | none => none
end
theorem segF_ok {tb : String → Option Builtin} {p : Program} {w : World} {n0 : Nat} {ann : Option Value} : ∀ {m : Nat} {x x' : SharedT} {t : Thread} {f : Flow} {c : Code} {q : Pos}, segF (stepT (denote tb) p w) n0 ann m x t = some (f, x', c, q) → segRun tb p w n0 ann 1 m x.abs t = some (f, x'.abs, c, q)
  | 0, _, _, _, _, _, _, h => by cases h
  | m + 1, x, x', t, f, c, q, h => by
    unfold segF at h
    unfold segRun
    cases he : endAt 1 t with
    | some y => rw [he] at h; cases h; rfl
    | none =>
      rw [he] at h
      cases hk : stepOk n0 ann t with
      | false => rw [hk] at h; cases h
      | true =>
        rw [hk] at h
        cases hs : stepT (denote tb) p w x t with
        | none => rw [hs] at h; cases h
        | some y =>
          obtain ⟨x2, t2⟩ := y
          rw [hs] at h
          have h3 : (frS x2 fun x' => segF (stepT (denote tb) p w) n0 ann m x' t2) = some (f, x', c, q) := h
          rw [frS_eq] at h3
          rw [stepT_spec hs]
          exact segF_ok h3
theorem tgF_ok {tb : String → Option Builtin} {p : Program} {w : World} {n0 : Nat} {ann : Option Value} : ∀ {m : Nat} {x x' : SharedT} {t t' : Thread}, tgF (stepT (denote tb) p w) n0 ann m x t = some (x', t') → topGo tb p w n0 ann m x.abs t = some (x'.abs, t')
  | 0, _, _, _, _, h => by cases h; rfl
  | m + 1, x, x', t, t', h => by
    unfold tgF at h
    unfold topGo
    cases he : through t with
    | true => rw [he] at h; cases h
    | false =>
      rw [he] at h
      cases hk : stepOk n0 ann t with
      | false => rw [hk] at h; cases h
      | true =>
        rw [hk] at h
        cases hs : stepT (denote tb) p w x t with
        | none => rw [hs] at h; cases h
        | some y =>
          obtain ⟨x2, t2⟩ := y
          rw [hs] at h
          have h3 : (frS x2 fun x' => tgF (stepT (denote tb) p w) n0 ann m x' t2) = some (x', t') := h
          rw [frS_eq] at h3
          rw [stepT_spec hs]
          exact tgF_ok h3
/-- the steps by the library's twins -/
def stQ (p : Program) (w : World) : SharedT → Thread → Option (SharedT × Thread) := stepQ (denQ tabQ) p w
theorem stQ_eq (p : Program) (w : World) : stepT (denote treeTable) p w = stQ p w := by
  unfold stQ
  rw [stepQ_eq, denQ_eq, tabQ_eq]
theorem den_eq (c : Code) : denote treeTable c = denQ tabQ c := by rw [denQ_eq, tabQ_eq]
theorem seg_of {p : Program} {w : World} {n0 : Nat} {ann : Option Value} {m : Nat} {x x' : SharedT} {t : Thread} {f : Flow} {c : Code} {q : Pos} (h : segF (stQ p w) n0 ann m x t = some (f, x', c, q)) : segRun treeTable p w n0 ann 1 m x.abs t = some (f, x'.abs, c, q) := segF_ok (by rw [stQ_eq]; exact h)
/-- the end behind all statements -/
theorem top_nil {p : Program} {w : World} {n0 : Nat} {ann : Option Value} {env : Env} {q : Pos} {m : Nat} {x x' : SharedT} {c : Code} {po : Pos} (h : goF (stQ p w) n0 ann m x ⟨doneF .next, c, po, [topFrame q]⟩ = some x') :
    topRun treeTable p w n0 ann m x.abs (restOf [] env c po [topFrame q]) = some x'.abs := piece_nil (goF_ok (by rw [stQ_eq]; exact h))
/-- one group, and what is left -/
theorem top_cons {p : Program} {w : World} {n0 : Nat} {ann : Option Value} {env : Env} {q : Pos} {m k : Nat} {x x' : SharedT} {y : Shared} {l rest : List Stmt} {c : Code} {po po' : Pos} (h : segF (stQ p w) n0 ann m x (piecesOf l env c po [topFrame q]) = some (.next, x', c, po'))
    (g : topRun treeTable p w n0 ann k x'.abs (restOf rest env c po' [topFrame q]) = some y) : topRun treeTable p w n0 ann (m + k) x.abs (restOf (l ++ rest) env c po [topFrame q]) = some y := piece_app (seg_of h) g
/-- the block's begin, and what is left -/
theorem top_block {p : Program} {w : World} {n0 : Nat} {ann : Option Value} {env : Env} {q : Pos} {m k : Nat} {x x' : SharedT} {y : Shared} {b : List Stmt} {c : Code} {po po' : Pos} (h : segF (stQ p w) n0 ann m x (blockOf b env c po [topFrame q]) = some (.next, x', c, po'))
    (g : topRun treeTable p w n0 ann k x'.abs (restOf b env c po' [topFrame q]) = some y) : topRun treeTable p w n0 ann (m + k) x.abs ⟨denote treeTable (.body b env), c, po, [topFrame q]⟩ = some y := piece_block (seg_of h) g
/-- the steps ahead of the block -/
theorem top_go {p : Program} {w : World} {n0 : Nat} {ann : Option Value} {m k : Nat} {x x' : SharedT} {y : Shared} {t : Thread} {c : Code} {po : Pos} {B : List Frame} (h : tgF (stQ p w) n0 ann m x t = some (x', ⟨denQ tabQ c, c, po, B⟩))
    (g : topRun treeTable p w n0 ann k x'.abs ⟨denote treeTable c, c, po, B⟩ = some y) : topRun treeTable p w n0 ann (m + k) x.abs t = some y := by
  rw [← den_eq] at h
  exact go_top (tgF_ok (by rw [stQ_eq]; exact h)) g
/-- the boot's heap as a tree -/
def boT (w : World) : BT := match putAll (boot_heap w.params).objs.toList .nil 0 with
  | some (t, _) => t
  | none => .nil
def bo (w : World) (os : OsState) : SharedT := ⟨boT w, 11, (boot_heap w.params).life, #[], boot_drawn, boot_toks, os⟩
theorem bo_abs {w : World} {os : OsState} (h : (putAll (boot_heap w.params).objs.toList .nil 0).map (·.2) = some 11) : (bo w os).abs = ⟨boot_heap w.params, #[], boot_drawn, boot_toks, os⟩ := by
  obtain ⟨⟨t, n⟩, h1, h2⟩ := Option.map_eq_some_iff.mp h
  dsimp only at h2
  subst h2
  have e1 : boT w = t := by unfold boT; rw [h1]
  show (⟨absHeap (boT w) 11 (boot_heap w.params).life, #[], boot_drawn, boot_toks, os⟩ : Shared) = _
  rw [e1, putAll_heap h1]
theorem bo_size {w : World} (h : (putAll (boot_heap w.params).objs.toList .nil 0).map (·.2) = some 11) : (boot_heap w.params).objs.size = 11 := by
  obtain ⟨⟨t, n⟩, h1, h2⟩ := Option.map_eq_some_iff.mp h
  dsimp only at h2
  subst h2
  rw [← putAll_heap h1]
  exact absHeap_size t 11 _
/-- LeftO by such a run -/
theorem left_two {p q : Program} {loose : List Str} {Xt : Shared → Bool} {α : Type} {Yf : Shared → α} {Ya : World → α} {N M : Nat} {S : World → OsState → SharedT}
    (e : opening p = plainProg p.main.scope.names) (hN : Nat.ble 600 N = true) (f : ∀ s, fenceModules? p s = some s) (le : Nat.ble M N = true)
    (hb : ∀ w : World, (putAll (boot_heap w.params).objs.toList .nil 0).map (·.2) = some 11) (ha : ∀ w : World, bootAnn w = some (.ref 6))
    (run : ∀ (w : World) (os : OsState), topRun treeTable p w 11 (some (.ref 6)) M (bo w os).abs (topStub p) = some (S w os).abs)
    (k1 : ∀ (w : World) (os : OsState), looksF p (boot_heap w.params) (S w os).abs = true) (k2 : ∀ (w : World) (os : OsState), openSeen q loose (importedModules p.main.body) Xt true (S w os).abs = openGood q loose)
    (k3 : ∀ (w : World) (os : OsState), Yf (S w os).abs = Ya w) : LeftO p q loose Xt Yf Ya N true := fun w => by
  obtain ⟨⟨h, gs, d, k, os⟩, a, a'⟩ := Option.map_eq_some_iff.mp (boot_open e hN f w)
  obtain ⟨rfl, rfl, rfl, rfl⟩ : h = boot_heap w.params ∧ gs = Array.mk [] ∧ d = boot_drawn ∧ k = boot_toks := by simpa using a'
  have r0 := run w os
  rw [bo_abs (hb w)] at r0
  have r := topRun_mono (N - M) _ _ _ _ r0
  rw [show M + (N - M) = N by have := Nat.le_of_ble_eq_true le; omega] at r
  have l1' : (staticsOk (importedModules p.main.body) (boot_heap w.params) (S w os).abs.heap && namesBound p (S w os).abs.heap && gensDone (S w os).abs && laidKept (boot_heap w.params) (S w os).abs.heap) = true := k1 w os
  have t : topFrom treeTable p w N ⟨boot_heap w.params, Array.mk [], boot_drawn, boot_toks, os⟩ = some (S w os).abs := by
    unfold topFrom
    dsimp only
    rw [boot_ns]
    show (topRun treeTable p w (boot_heap w.params).objs.size (bootAnn w) N ⟨boot_heap w.params, #[], boot_drawn, boot_toks, os⟩ (topStub p)).bind _ = _
    rw [bo_size (hb w), ha w, r]
    show (match staticsOk (importedModules p.main.body) (boot_heap w.params) (S w os).abs.heap && namesBound p (S w os).abs.heap && gensDone (S w os).abs && laidKept (boot_heap w.params) (S w os).abs.heap with | true => some (S w os).abs | false => none) = _
    rw [l1']
  unfold openEnds
  rw [a]
  show (topFrom treeTable p w N _).map _ = _
  rw [t]
  exact congrArg some (Prod.ext (k2 w os) (k3 w os))
/-- the law, from such a run (as head_any) -/
theorem head_two {r : OpenRow} {q : Program} {H : Hook} {ob : SharedT → H.α} {M : Nat} {loose : List PySem.Str} {d : DefRec} {kwd : List (PySem.Str × PySem.Expr)} {S : World → OsState → SharedT} (ho : ∀ s : SharedT, ob s = H.obs s.abs)
    (e : opening r.prog = plainProg r.prog.main.scope.names) (f : ∀ s, fenceModules? r.prog s = some s)
    (hb : ∀ w : World, (putAll (boot_heap w.params).objs.toList .nil 0).map (·.2) = some 11) (ha : ∀ w : World, bootAnn w = some (.ref 6))
    (run : ∀ (w : World) (os : OsState), topRun treeTable r.prog w 11 (some (.ref 6)) M (bo w os).abs (topStub r.prog) = some (S w os).abs)
    (k1 : ∀ (w : World) (os : OsState), looksF r.prog (boot_heap w.params) (S w os).abs = true)
    (k2 : ∀ (w : World) (os : OsState), seenQ q loose (importedModules r.prog.main.body) (fun s => xlAt q [] s && recOk r.toRowW.records s) (S w os).abs = openGood q loose)
    (k3 : ∀ (w : World) (os : OsState), ob (S w os) = H.val w)
    (hdef : defOf q r.name = some (d, kwd)) (hp : r.prog.theDef r.name = some (d.params, d.body, d.scope)) (hk : kwWritten? d.params.kwonlyargs d.params.kw_defaults = some kwd)
    (hwr : (!r.writes || r.records.isEmpty) = true) (k1' : r.wellSaid = true) (ok : (chainsOk q && opensWell r.prog && (frees r.toRowW && r.within.isEmpty)) = true) (hbr : r.prog.bare) (hw : r.toRowW.promised)
    (call : WalkO q loose (XL q []) H.says r.toRowW d kwd fun f vs => PySem.call f vs) : r.Holds := by
  have left : LeftO r.prog q loose (fun s => xlAt q [] s && recOk r.toRowW.records s) H.obs H.val (M + 600) true :=
    left_two (M := M) e (Nat.ble_eq_true_of_le (by omega)) f (Nat.ble_eq_true_of_le (by omega)) hb ha run k1 (fun w os => by rw [seenQ_eq]; exact k2 w os) fun w os => by rw [← ho]; exact k3 w os
  exact holds_open (r := r) (q := q) (loose := loose) (XP := XL q []) (YP := H.says) (d := d) (kwd := kwd) left H.of H.keeps (fun s z => xl_of s (Bool.and_eq_true_iff.mp z).1) XL.keeps hdef hp hk (fun s z => recFacts_of (Bool.and_eq_true_iff.mp z).2) hwr k1' ok hbr hw call
end HsX

namespace FH
set_option Elab.async false
set_option linter.all false
set_option maxRecDepth 100000
set_option maxHeartbeats 0
set_option pp.maxSteps 600
open PySem L2
def fb0 (K : PySem.W.Frag) (fI fN fKi fQ fB fH fY fZ fNk fTb fTx fNs fNr fLo fBx fT fP fRf fW qKs C : Addr) : Prop :=
  (PySem.W.nsIn K mainGlobals "is_integer" = some (some (.ref fI))) ∧
  (PySem.W.nsIn K mainGlobals "is_number" = some (some (.ref fN))) ∧
  (PySem.W.nsIn K mainGlobals "is_kind" = some (some (.ref fKi))) ∧
  (PySem.W.nsIn K mainGlobals "is_sequence" = some (some (.ref fQ))) ∧
  (PySem.W.nsIn K mainGlobals "is_table" = some (some (.ref fB))) ∧
  (PySem.W.nsIn K mainGlobals "checked" = some (some (.ref fH))) ∧
  (PySem.W.nsIn K mainGlobals "least_way" = some (some (.ref fY))) ∧
  (PySem.W.nsIn K mainGlobals "columns_of" = some (some (.ref fZ))) ∧
  (PySem.W.nsIn K mainGlobals "need_kind" = some (some (.ref fNk))) ∧
  (PySem.W.nsIn K mainGlobals "told_by" = some (some (.ref fTb))) ∧
  (PySem.W.nsIn K mainGlobals "text_of" = some (some (.ref fTx))) ∧
  (PySem.W.nsIn K mainGlobals "need_saying" = some (some (.ref fNs))) ∧
  (PySem.W.nsIn K mainGlobals "need_rows" = some (some (.ref fNr))) ∧
  (PySem.W.nsIn K mainGlobals "lines_of" = some (some (.ref fLo))) ∧
  (PySem.W.nsIn K mainGlobals "_law_box" = some (some (.ref fBx))) ∧
  (PySem.W.nsIn K mainGlobals "_law_take" = some (some (.ref fT))) ∧
  (PySem.W.nsIn K mainGlobals "_law_pick" = some (some (.ref fP))) ∧
  (PySem.W.nsIn K mainGlobals "_law_refused" = some (some (.ref fRf))) ∧
  (PySem.W.nsIn K mainGlobals "law" = some (some (.ref fW))) ∧
  ((He.Fa.str "IN" "+").ok K = true) ∧
  ((He.Fa.str "NOT_IN" "-").ok K = true) ∧
  ((He.Fa.int "MOST" 9).ok K = true) ∧
  (PySem.W.nsIn K mainGlobals "KINDS" = some (some (.ref qKs))) ∧
  (qKs = He.ga K "KINDS" ∧ He.tupB K "KINDS" [He.Dv.str "marked", He.Dv.str "plain"] = true) ∧
  (PySem.W.nsIn K mainGlobals "Crowds" = some (some (.ref C)))
instance {K : PySem.W.Frag} {fI fN fKi fQ fB fH fY fZ fNk fTb fTx fNs fNr fLo fBx fT fP fRf fW qKs C : Addr} : Decidable (fb0 K fI fN fKi fQ fB fH fY fZ fNk fTb fTx fNs fNr fLo fBx fT fP fRf fW qKs C) := by unfold fb0; infer_instance
def fb1 (K : PySem.W.Frag) (C fJ fSt CE fXi : Addr) : Prop :=
  (PySem.W.plainGet K C Str.empty = true) ∧
  (PySem.W.hasDictIn K C = true) ∧
  (PySem.W.plainOver K C = true) ∧
  (PySem.W.findIn K (.ref C) "__setattr__" = some (some (.builtin "object.__setattr__"))) ∧
  (PySem.W.makesIn K C = true) ∧
  (PySem.W.keepIn K (.ref C) = true) ∧
  (PySem.W.findIn K (.ref C) "starts" = some none) ∧
  (PySem.W.findIn K (.ref C) "periods" = some none) ∧
  (PySem.W.findIn K (.ref C) "rows" = some none) ∧
  (PySem.W.findIn K (.ref C) "__init__" = some (some (.ref fJ))) ∧
  (PySem.W.isFn K (.ref fJ) = true) ∧
  (PySem.W.findIn K (.ref C) "__str__" = some (some (.ref fSt))) ∧
  (PySem.W.isFn K (.ref fSt) = true) ∧
  (PySem.W.specialIn K (.builtin "object.__class__") "__get__" = some (some (.builtin "getset_descriptor.__get__"))) ∧
  (PySem.W.takesIn K (.builtin "object.__class__") = some true) ∧
  (PySem.W.findIn K (.ref C) "__class__" = some (some (.builtin "object.__class__"))) ∧
  (PySem.W.mroIn K C (.type "object") = some true) ∧
  (PySem.W.kitOne K (.ref C) (.ref C) = some true) ∧
  (PySem.W.nsIn K mainGlobals "InvalidCrowds" = some (some (.ref CE))) ∧
  (HkX.excB K CE = true) ∧
  (PySem.W.findIn K (.ref CE) "__setattr__" = some (some (.builtin "object.__setattr__"))) ∧
  (PySem.W.findIn K (.ref CE) "__getattribute__" = some (some (.builtin "BaseException.__getattribute__"))) ∧
  (PySem.W.findIn K (.ref CE) "__getattr__" = some none) ∧
  (PySem.W.findIn K (.ref CE) "word" = some none) ∧
  (PySem.W.findIn K (.ref CE) "__init__" = some (some (.ref fXi)))
instance {K : PySem.W.Frag} {C fJ fSt CE fXi : Addr} : Decidable (fb1 K C fJ fSt CE fXi) := by unfold fb1; infer_instance
def fb2 (K : PySem.W.Frag) (CE fXi CES fXiS : Addr) : Prop :=
  (PySem.W.isFn K (.ref fXi) = true) ∧
  (HkX.fileB K (HkX.cdA K fXi) PySem.Challenge.pw_foreheads_k22_rows_refused.main.file = true) ∧
  (HkX.cellB K (HkX.ccA K fXi) CE = true) ∧
  (PySem.W.mroIn K CE (.ref CE) = some true) ∧
  (PySem.W.typeIn K (.ref fXi) = some (.type "function")) ∧
  (PySem.W.keepIn K (.ref CE) = true) ∧
  (PySem.W.subIn K (.ref CE) (.type "BaseException") = some true) ∧
  (PySem.W.typeIn K (.ref CE) = some (.type "type")) ∧
  (PySem.W.hasDictIn K CE = true) ∧
  (PySem.W.ks_superIn K CE CE "__init__" = some (some (.builtin "ValueError.__init__"))) ∧
  (PySem.W.subIn K (.ref CE) (.type "ValueError") = some true) ∧
  (PySem.W.nsIn K cStatics "thirdparty.any" = some none) ∧
  (PySem.W.nsIn K mainGlobals "super" = some none) ∧
  (PySem.W.exmOne K (.ref CE) (.ref CE) = some true) ∧
  (PySem.W.nsIn K mainGlobals "InvalidSaying" = some (some (.ref CES))) ∧
  (HkX.excB K CES = true) ∧
  (PySem.W.findIn K (.ref CES) "__setattr__" = some (some (.builtin "object.__setattr__"))) ∧
  (PySem.W.findIn K (.ref CES) "__getattribute__" = some (some (.builtin "BaseException.__getattribute__"))) ∧
  (PySem.W.findIn K (.ref CES) "__getattr__" = some none) ∧
  (PySem.W.findIn K (.ref CES) "word" = some none) ∧
  (PySem.W.findIn K (.ref CES) "__init__" = some (some (.ref fXiS))) ∧
  (PySem.W.isFn K (.ref fXiS) = true) ∧
  (HkX.fileB K (HkX.cdA K fXiS) PySem.Challenge.pw_foreheads_k22_rows_refused.main.file = true) ∧
  (HkX.cellB K (HkX.ccA K fXiS) CES = true) ∧
  (PySem.W.mroIn K CES (.ref CES) = some true)
instance {K : PySem.W.Frag} {CE fXi CES fXiS : Addr} : Decidable (fb2 K CE fXi CES fXiS) := by unfold fb2; infer_instance
def fb3 (K : PySem.W.Frag) (CES fXiS CET fXiT : Addr) : Prop :=
  (PySem.W.typeIn K (.ref fXiS) = some (.type "function")) ∧
  (PySem.W.keepIn K (.ref CES) = true) ∧
  (PySem.W.subIn K (.ref CES) (.type "BaseException") = some true) ∧
  (PySem.W.typeIn K (.ref CES) = some (.type "type")) ∧
  (PySem.W.hasDictIn K CES = true) ∧
  (PySem.W.ks_superIn K CES CES "__init__" = some (some (.builtin "ValueError.__init__"))) ∧
  (PySem.W.subIn K (.ref CES) (.type "ValueError") = some true) ∧
  (PySem.W.exmOne K (.ref CES) (.ref CES) = some true) ∧
  (PySem.W.nsIn K mainGlobals "InvalidTalk" = some (some (.ref CET))) ∧
  (HkX.excB K CET = true) ∧
  (PySem.W.findIn K (.ref CET) "__setattr__" = some (some (.builtin "object.__setattr__"))) ∧
  (PySem.W.findIn K (.ref CET) "__getattribute__" = some (some (.builtin "BaseException.__getattribute__"))) ∧
  (PySem.W.findIn K (.ref CET) "__getattr__" = some none) ∧
  (PySem.W.findIn K (.ref CET) "word" = some none) ∧
  (PySem.W.findIn K (.ref CET) "__init__" = some (some (.ref fXiT))) ∧
  (PySem.W.isFn K (.ref fXiT) = true) ∧
  (HkX.fileB K (HkX.cdA K fXiT) PySem.Challenge.pw_foreheads_k22_rows_refused.main.file = true) ∧
  (HkX.cellB K (HkX.ccA K fXiT) CET = true) ∧
  (PySem.W.mroIn K CET (.ref CET) = some true) ∧
  (PySem.W.typeIn K (.ref fXiT) = some (.type "function")) ∧
  (PySem.W.keepIn K (.ref CET) = true) ∧
  (PySem.W.subIn K (.ref CET) (.type "BaseException") = some true) ∧
  (PySem.W.typeIn K (.ref CET) = some (.type "type")) ∧
  (PySem.W.hasDictIn K CET = true) ∧
  (PySem.W.ks_superIn K CET CET "__init__" = some (some (.builtin "ValueError.__init__")))
instance {K : PySem.W.Frag} {CES fXiS CET fXiT : Addr} : Decidable (fb3 K CES fXiS CET fXiT) := by unfold fb3; infer_instance
def fb4 (K : PySem.W.Frag) (CET cgK Ys fSi Yl : Addr) : Prop :=
  (PySem.W.subIn K (.ref CET) (.type "ValueError") = some true) ∧
  (PySem.W.exmOne K (.ref CET) (.ref CET) = some true) ∧
  (PySem.W.findIn K (.ref CET) "__class__" = some (some (.builtin "object.__class__"))) ∧
  (PySem.W.mroIn K CET (.type "object") = some true) ∧
  (PySem.W.nsIn K mainGlobals "KnowError" = some (some (.ref cgK))) ∧
  (PySem.W.nsIn K mainGlobals "Saying" = some (some (.ref Ys))) ∧
  (PySem.W.findIn K (.ref Ys) "__init__" = some (some (.ref fSi))) ∧
  (PySem.W.typeIn K (.ref fSi) = some (.type "function")) ∧
  (PySem.W.fnIn K fSi = true) ∧
  (PySem.W.nsIn K mainGlobals "AtLeast" = some (some (.ref Yl))) ∧
  (PySem.W.plainGet K Yl Str.empty = true) ∧
  (PySem.W.hasDictIn K Yl = true) ∧
  (PySem.W.plainOver K Yl = true) ∧
  (PySem.W.findIn K (.ref Yl) "__setattr__" = some (some (.builtin "object.__setattr__"))) ∧
  (PySem.W.makesIn K Yl = true) ∧
  (PySem.W.keepIn K (.ref Yl) = true) ∧
  (PySem.W.findIn K (.ref Yl) "told" = some none) ∧
  (PySem.W.findIn K (.ref Yl) "kind" = some none) ∧
  (PySem.W.findIn K (.ref Yl) "number" = some none) ∧
  (PySem.W.findIn K (.ref Yl) "rest" = some none) ∧
  (PySem.W.findIn K (.ref Yl) "period" = some none) ∧
  (PySem.W.findIn K (.ref Yl) "crowds" = some none) ∧
  (PySem.W.findIn K (.ref Yl) "saying" = some none) ∧
  (PySem.W.findIn K (.ref Yl) "__class__" = some (some (.builtin "object.__class__"))) ∧
  (PySem.W.mroIn K Yl (.type "object") = some true)
instance {K : PySem.W.Frag} {CET cgK Ys fSi Yl : Addr} : Decidable (fb4 K CET cgK Ys fSi Yl) := by unfold fb4; infer_instance
def fb5 (K : PySem.W.Frag) (Ys fSi Yl fVl Yr : Addr) : Prop :=
  (PySem.W.kitOne K (.ref Yl) (.ref Ys) = some true) ∧
  ((PySem.W.clsIn K Yl).map (·.mro) = some [.ref Yl, .ref Ys, .type "object"]) ∧
  (PySem.W.findIn K (.ref Yl) "__init__" = some (some (.ref fVl))) ∧
  (PySem.W.isFn K (.ref fVl) = true) ∧
  (HkX.fileB K (HkX.cdA K fVl) PySem.Challenge.pw_foreheads_k22_rows_refused.main.file = true) ∧
  (HkX.cellB K (HkX.ccA K fVl) Yl = true) ∧
  (PySem.W.mroIn K Yl (.ref Yl) = some true) ∧
  (PySem.W.ks_superIn K Yl Yl "__init__" = some (some (.ref fSi))) ∧
  (PySem.W.nsIn K mainGlobals "Rest" = some (some (.ref Yr))) ∧
  (PySem.W.plainGet K Yr Str.empty = true) ∧
  (PySem.W.hasDictIn K Yr = true) ∧
  (PySem.W.plainOver K Yr = true) ∧
  (PySem.W.findIn K (.ref Yr) "__setattr__" = some (some (.builtin "object.__setattr__"))) ∧
  (PySem.W.makesIn K Yr = true) ∧
  (PySem.W.keepIn K (.ref Yr) = true) ∧
  (PySem.W.findIn K (.ref Yr) "told" = some none) ∧
  (PySem.W.findIn K (.ref Yr) "kind" = some none) ∧
  (PySem.W.findIn K (.ref Yr) "number" = some none) ∧
  (PySem.W.findIn K (.ref Yr) "rest" = some none) ∧
  (PySem.W.findIn K (.ref Yr) "period" = some none) ∧
  (PySem.W.findIn K (.ref Yr) "crowds" = some none) ∧
  (PySem.W.findIn K (.ref Yr) "saying" = some none) ∧
  (PySem.W.findIn K (.ref Yr) "__class__" = some (some (.builtin "object.__class__"))) ∧
  (PySem.W.mroIn K Yr (.type "object") = some true) ∧
  (PySem.W.kitOne K (.ref Yr) (.ref Ys) = some true)
instance {K : PySem.W.Frag} {Ys fSi Yl fVl Yr : Addr} : Decidable (fb5 K Ys fSi Yl fVl Yr) := by unfold fb5; infer_instance
def fb6 (K : PySem.W.Frag) (Ys fSi Yr fVr Yf : Addr) : Prop :=
  ((PySem.W.clsIn K Yr).map (·.mro) = some [.ref Yr, .ref Ys, .type "object"]) ∧
  (PySem.W.findIn K (.ref Yr) "__init__" = some (some (.ref fVr))) ∧
  (PySem.W.isFn K (.ref fVr) = true) ∧
  (HkX.fileB K (HkX.cdA K fVr) PySem.Challenge.pw_foreheads_k22_rows_refused.main.file = true) ∧
  (HkX.cellB K (HkX.ccA K fVr) Yr = true) ∧
  (PySem.W.mroIn K Yr (.ref Yr) = some true) ∧
  (PySem.W.ks_superIn K Yr Yr "__init__" = some (some (.ref fSi))) ∧
  (PySem.W.nsIn K mainGlobals "Fact" = some (some (.ref Yf))) ∧
  (PySem.W.plainGet K Yf Str.empty = true) ∧
  (PySem.W.hasDictIn K Yf = true) ∧
  (PySem.W.plainOver K Yf = true) ∧
  (PySem.W.findIn K (.ref Yf) "__setattr__" = some (some (.builtin "object.__setattr__"))) ∧
  (PySem.W.makesIn K Yf = true) ∧
  (PySem.W.keepIn K (.ref Yf) = true) ∧
  (PySem.W.findIn K (.ref Yf) "told" = some none) ∧
  (PySem.W.findIn K (.ref Yf) "kind" = some none) ∧
  (PySem.W.findIn K (.ref Yf) "number" = some none) ∧
  (PySem.W.findIn K (.ref Yf) "rest" = some none) ∧
  (PySem.W.findIn K (.ref Yf) "period" = some none) ∧
  (PySem.W.findIn K (.ref Yf) "crowds" = some none) ∧
  (PySem.W.findIn K (.ref Yf) "saying" = some none) ∧
  (PySem.W.findIn K (.ref Yf) "__class__" = some (some (.builtin "object.__class__"))) ∧
  (PySem.W.mroIn K Yf (.type "object") = some true) ∧
  (PySem.W.kitOne K (.ref Yf) (.ref Ys) = some true) ∧
  ((PySem.W.clsIn K Yf).map (·.mro) = some [.ref Yf, .ref Ys, .type "object"])
instance {K : PySem.W.Frag} {Ys fSi Yr fVr Yf : Addr} : Decidable (fb6 K Ys fSi Yr fVr Yf) := by unfold fb6; infer_instance
def fb7 (K : PySem.W.Frag) (Ys fSi Yf fVf Yu fVu : Addr) : Prop :=
  (PySem.W.findIn K (.ref Yf) "__init__" = some (some (.ref fVf))) ∧
  (PySem.W.isFn K (.ref fVf) = true) ∧
  (HkX.fileB K (HkX.cdA K fVf) PySem.Challenge.pw_foreheads_k22_rows_refused.main.file = true) ∧
  (HkX.cellB K (HkX.ccA K fVf) Yf = true) ∧
  (PySem.W.mroIn K Yf (.ref Yf) = some true) ∧
  (PySem.W.ks_superIn K Yf Yf "__init__" = some (some (.ref fSi))) ∧
  (PySem.W.nsIn K mainGlobals "Sure" = some (some (.ref Yu))) ∧
  (PySem.W.plainGet K Yu Str.empty = true) ∧
  (PySem.W.hasDictIn K Yu = true) ∧
  (PySem.W.plainOver K Yu = true) ∧
  (PySem.W.findIn K (.ref Yu) "__setattr__" = some (some (.builtin "object.__setattr__"))) ∧
  (PySem.W.makesIn K Yu = true) ∧
  (PySem.W.keepIn K (.ref Yu) = true) ∧
  (PySem.W.findIn K (.ref Yu) "told" = some none) ∧
  (PySem.W.findIn K (.ref Yu) "kind" = some none) ∧
  (PySem.W.findIn K (.ref Yu) "number" = some none) ∧
  (PySem.W.findIn K (.ref Yu) "rest" = some none) ∧
  (PySem.W.findIn K (.ref Yu) "period" = some none) ∧
  (PySem.W.findIn K (.ref Yu) "crowds" = some none) ∧
  (PySem.W.findIn K (.ref Yu) "saying" = some none) ∧
  (PySem.W.findIn K (.ref Yu) "__class__" = some (some (.builtin "object.__class__"))) ∧
  (PySem.W.mroIn K Yu (.type "object") = some true) ∧
  (PySem.W.kitOne K (.ref Yu) (.ref Ys) = some true) ∧
  ((PySem.W.clsIn K Yu).map (·.mro) = some [.ref Yu, .ref Ys, .type "object"]) ∧
  (PySem.W.findIn K (.ref Yu) "__init__" = some (some (.ref fVu)))
instance {K : PySem.W.Frag} {Ys fSi Yf fVf Yu fVu : Addr} : Decidable (fb7 K Ys fSi Yf fVf Yu fVu) := by unfold fb7; infer_instance
def fb8 (K : PySem.W.Frag) (Ys fSi Yu fVu Yi fVi : Addr) : Prop :=
  (PySem.W.isFn K (.ref fVu) = true) ∧
  (HkX.fileB K (HkX.cdA K fVu) PySem.Challenge.pw_foreheads_k22_rows_refused.main.file = true) ∧
  (HkX.cellB K (HkX.ccA K fVu) Yu = true) ∧
  (PySem.W.mroIn K Yu (.ref Yu) = some true) ∧
  (PySem.W.ks_superIn K Yu Yu "__init__" = some (some (.ref fSi))) ∧
  (PySem.W.nsIn K mainGlobals "Silent" = some (some (.ref Yi))) ∧
  (PySem.W.plainGet K Yi Str.empty = true) ∧
  (PySem.W.hasDictIn K Yi = true) ∧
  (PySem.W.plainOver K Yi = true) ∧
  (PySem.W.findIn K (.ref Yi) "__setattr__" = some (some (.builtin "object.__setattr__"))) ∧
  (PySem.W.makesIn K Yi = true) ∧
  (PySem.W.keepIn K (.ref Yi) = true) ∧
  (PySem.W.findIn K (.ref Yi) "told" = some none) ∧
  (PySem.W.findIn K (.ref Yi) "kind" = some none) ∧
  (PySem.W.findIn K (.ref Yi) "number" = some none) ∧
  (PySem.W.findIn K (.ref Yi) "rest" = some none) ∧
  (PySem.W.findIn K (.ref Yi) "period" = some none) ∧
  (PySem.W.findIn K (.ref Yi) "crowds" = some none) ∧
  (PySem.W.findIn K (.ref Yi) "saying" = some none) ∧
  (PySem.W.findIn K (.ref Yi) "__class__" = some (some (.builtin "object.__class__"))) ∧
  (PySem.W.mroIn K Yi (.type "object") = some true) ∧
  (PySem.W.kitOne K (.ref Yi) (.ref Ys) = some true) ∧
  ((PySem.W.clsIn K Yi).map (·.mro) = some [.ref Yi, .ref Ys, .type "object"]) ∧
  (PySem.W.findIn K (.ref Yi) "__init__" = some (some (.ref fVi))) ∧
  (PySem.W.isFn K (.ref fVi) = true)
instance {K : PySem.W.Frag} {Ys fSi Yu fVu Yi fVi : Addr} : Decidable (fb8 K Ys fSi Yu fVu Yi fVi) := by unfold fb8; infer_instance
def fb9 (K : PySem.W.Frag) (Ys fSi Yi fVi Yk fVk : Addr) : Prop :=
  (HkX.fileB K (HkX.cdA K fVi) PySem.Challenge.pw_foreheads_k22_rows_refused.main.file = true) ∧
  (HkX.cellB K (HkX.ccA K fVi) Yi = true) ∧
  (PySem.W.mroIn K Yi (.ref Yi) = some true) ∧
  (PySem.W.ks_superIn K Yi Yi "__init__" = some (some (.ref fSi))) ∧
  (PySem.W.nsIn K mainGlobals "Knows" = some (some (.ref Yk))) ∧
  (PySem.W.plainGet K Yk Str.empty = true) ∧
  (PySem.W.hasDictIn K Yk = true) ∧
  (PySem.W.plainOver K Yk = true) ∧
  (PySem.W.findIn K (.ref Yk) "__setattr__" = some (some (.builtin "object.__setattr__"))) ∧
  (PySem.W.makesIn K Yk = true) ∧
  (PySem.W.keepIn K (.ref Yk) = true) ∧
  (PySem.W.findIn K (.ref Yk) "told" = some none) ∧
  (PySem.W.findIn K (.ref Yk) "kind" = some none) ∧
  (PySem.W.findIn K (.ref Yk) "number" = some none) ∧
  (PySem.W.findIn K (.ref Yk) "rest" = some none) ∧
  (PySem.W.findIn K (.ref Yk) "period" = some none) ∧
  (PySem.W.findIn K (.ref Yk) "crowds" = some none) ∧
  (PySem.W.findIn K (.ref Yk) "saying" = some none) ∧
  (PySem.W.findIn K (.ref Yk) "__class__" = some (some (.builtin "object.__class__"))) ∧
  (PySem.W.mroIn K Yk (.type "object") = some true) ∧
  (PySem.W.kitOne K (.ref Yk) (.ref Ys) = some true) ∧
  ((PySem.W.clsIn K Yk).map (·.mro) = some [.ref Yk, .ref Ys, .type "object"]) ∧
  (PySem.W.findIn K (.ref Yk) "__init__" = some (some (.ref fVk))) ∧
  (PySem.W.isFn K (.ref fVk) = true) ∧
  (HkX.fileB K (HkX.cdA K fVk) PySem.Challenge.pw_foreheads_k22_rows_refused.main.file = true)
instance {K : PySem.W.Frag} {Ys fSi Yi fVi Yk fVk : Addr} : Decidable (fb9 K Ys fSi Yi fVi Yk fVk) := by unfold fb9; infer_instance
def fb10 (K : PySem.W.Frag) (Ys fSi Yk fVk Yc fVc : Addr) : Prop :=
  (HkX.cellB K (HkX.ccA K fVk) Yk = true) ∧
  (PySem.W.mroIn K Yk (.ref Yk) = some true) ∧
  (PySem.W.ks_superIn K Yk Yk "__init__" = some (some (.ref fSi))) ∧
  (PySem.W.nsIn K mainGlobals "Common" = some (some (.ref Yc))) ∧
  (PySem.W.plainGet K Yc Str.empty = true) ∧
  (PySem.W.hasDictIn K Yc = true) ∧
  (PySem.W.plainOver K Yc = true) ∧
  (PySem.W.findIn K (.ref Yc) "__setattr__" = some (some (.builtin "object.__setattr__"))) ∧
  (PySem.W.makesIn K Yc = true) ∧
  (PySem.W.keepIn K (.ref Yc) = true) ∧
  (PySem.W.findIn K (.ref Yc) "told" = some none) ∧
  (PySem.W.findIn K (.ref Yc) "kind" = some none) ∧
  (PySem.W.findIn K (.ref Yc) "number" = some none) ∧
  (PySem.W.findIn K (.ref Yc) "rest" = some none) ∧
  (PySem.W.findIn K (.ref Yc) "period" = some none) ∧
  (PySem.W.findIn K (.ref Yc) "crowds" = some none) ∧
  (PySem.W.findIn K (.ref Yc) "saying" = some none) ∧
  (PySem.W.findIn K (.ref Yc) "__class__" = some (some (.builtin "object.__class__"))) ∧
  (PySem.W.mroIn K Yc (.type "object") = some true) ∧
  (PySem.W.kitOne K (.ref Yc) (.ref Ys) = some true) ∧
  ((PySem.W.clsIn K Yc).map (·.mro) = some [.ref Yc, .ref Ys, .type "object"]) ∧
  (PySem.W.findIn K (.ref Yc) "__init__" = some (some (.ref fVc))) ∧
  (PySem.W.isFn K (.ref fVc) = true) ∧
  (HkX.fileB K (HkX.cdA K fVc) PySem.Challenge.pw_foreheads_k22_rows_refused.main.file = true) ∧
  (HkX.cellB K (HkX.ccA K fVc) Yc = true)
instance {K : PySem.W.Frag} {Ys fSi Yk fVk Yc fVc : Addr} : Decidable (fb10 K Ys fSi Yk fVk Yc fVc) := by unfold fb10; infer_instance
def fb11 (K : PySem.W.Frag) (Ys fSi Yc Yn fVn : Addr) : Prop :=
  (PySem.W.mroIn K Yc (.ref Yc) = some true) ∧
  (PySem.W.ks_superIn K Yc Yc "__init__" = some (some (.ref fSi))) ∧
  (PySem.W.nsIn K mainGlobals "Contrary" = some (some (.ref Yn))) ∧
  (PySem.W.plainGet K Yn Str.empty = true) ∧
  (PySem.W.hasDictIn K Yn = true) ∧
  (PySem.W.plainOver K Yn = true) ∧
  (PySem.W.findIn K (.ref Yn) "__setattr__" = some (some (.builtin "object.__setattr__"))) ∧
  (PySem.W.makesIn K Yn = true) ∧
  (PySem.W.keepIn K (.ref Yn) = true) ∧
  (PySem.W.findIn K (.ref Yn) "told" = some none) ∧
  (PySem.W.findIn K (.ref Yn) "kind" = some none) ∧
  (PySem.W.findIn K (.ref Yn) "number" = some none) ∧
  (PySem.W.findIn K (.ref Yn) "rest" = some none) ∧
  (PySem.W.findIn K (.ref Yn) "period" = some none) ∧
  (PySem.W.findIn K (.ref Yn) "crowds" = some none) ∧
  (PySem.W.findIn K (.ref Yn) "saying" = some none) ∧
  (PySem.W.findIn K (.ref Yn) "__class__" = some (some (.builtin "object.__class__"))) ∧
  (PySem.W.mroIn K Yn (.type "object") = some true) ∧
  (PySem.W.kitOne K (.ref Yn) (.ref Ys) = some true) ∧
  ((PySem.W.clsIn K Yn).map (·.mro) = some [.ref Yn, .ref Ys, .type "object"]) ∧
  (PySem.W.findIn K (.ref Yn) "__init__" = some (some (.ref fVn))) ∧
  (PySem.W.isFn K (.ref fVn) = true) ∧
  (HkX.fileB K (HkX.cdA K fVn) PySem.Challenge.pw_foreheads_k22_rows_refused.main.file = true) ∧
  (HkX.cellB K (HkX.ccA K fVn) Yn = true) ∧
  (PySem.W.mroIn K Yn (.ref Yn) = some true)
instance {K : PySem.W.Frag} {Ys fSi Yc Yn fVn : Addr} : Decidable (fb11 K Ys fSi Yc Yn fVn) := by unfold fb11; infer_instance
def fb12 (K : PySem.W.Frag) (Ys fSi Yn Yb fVb : Addr) : Prop :=
  (PySem.W.ks_superIn K Yn Yn "__init__" = some (some (.ref fSi))) ∧
  (PySem.W.nsIn K mainGlobals "Both" = some (some (.ref Yb))) ∧
  (PySem.W.plainGet K Yb Str.empty = true) ∧
  (PySem.W.hasDictIn K Yb = true) ∧
  (PySem.W.plainOver K Yb = true) ∧
  (PySem.W.findIn K (.ref Yb) "__setattr__" = some (some (.builtin "object.__setattr__"))) ∧
  (PySem.W.makesIn K Yb = true) ∧
  (PySem.W.keepIn K (.ref Yb) = true) ∧
  (PySem.W.findIn K (.ref Yb) "told" = some none) ∧
  (PySem.W.findIn K (.ref Yb) "kind" = some none) ∧
  (PySem.W.findIn K (.ref Yb) "number" = some none) ∧
  (PySem.W.findIn K (.ref Yb) "rest" = some none) ∧
  (PySem.W.findIn K (.ref Yb) "period" = some none) ∧
  (PySem.W.findIn K (.ref Yb) "crowds" = some none) ∧
  (PySem.W.findIn K (.ref Yb) "saying" = some none) ∧
  (PySem.W.findIn K (.ref Yb) "__class__" = some (some (.builtin "object.__class__"))) ∧
  (PySem.W.mroIn K Yb (.type "object") = some true) ∧
  (PySem.W.kitOne K (.ref Yb) (.ref Ys) = some true) ∧
  ((PySem.W.clsIn K Yb).map (·.mro) = some [.ref Yb, .ref Ys, .type "object"]) ∧
  (PySem.W.findIn K (.ref Yb) "__init__" = some (some (.ref fVb))) ∧
  (PySem.W.isFn K (.ref fVb) = true) ∧
  (HkX.fileB K (HkX.cdA K fVb) PySem.Challenge.pw_foreheads_k22_rows_refused.main.file = true) ∧
  (HkX.cellB K (HkX.ccA K fVb) Yb = true) ∧
  (PySem.W.mroIn K Yb (.ref Yb) = some true) ∧
  (PySem.W.ks_superIn K Yb Yb "__init__" = some (some (.ref fSi)))
instance {K : PySem.W.Frag} {Ys fSi Yn Yb fVb : Addr} : Decidable (fb12 K Ys fSi Yn Yb fVb) := by unfold fb12; infer_instance
def fb13 (K : PySem.W.Frag) (C Ys Yl Yr Yf Yu Yi Yk Yc Yn Yb fSs Rb Ry : Addr) : Prop :=
  ([Yl, Yr, Yf, Yu, Yi, Yk, Yc, Yn, Yb].Nodup) ∧
  (Ys ∉ [Yl, Yr, Yf, Yu, Yi, Yk, Yc, Yn, Yb]) ∧
  (C ∉ Ys :: [Yl, Yr, Yf, Yu, Yi, Yk, Yc, Yn, Yb]) ∧
  (PySem.W.findIn K (.ref Yl) "__str__" = some (some (.ref fSs))) ∧
  (PySem.W.findIn K (.ref Yr) "__str__" = some (some (.ref fSs))) ∧
  (PySem.W.findIn K (.ref Yf) "__str__" = some (some (.ref fSs))) ∧
  (PySem.W.findIn K (.ref Yu) "__str__" = some (some (.ref fSs))) ∧
  (PySem.W.findIn K (.ref Yi) "__str__" = some (some (.ref fSs))) ∧
  (PySem.W.findIn K (.ref Yk) "__str__" = some (some (.ref fSs))) ∧
  (PySem.W.findIn K (.ref Yc) "__str__" = some (some (.ref fSs))) ∧
  (PySem.W.findIn K (.ref Yn) "__str__" = some (some (.ref fSs))) ∧
  (PySem.W.findIn K (.ref Yb) "__str__" = some (some (.ref fSs))) ∧
  (PySem.W.isFn K (.ref fSs) = true) ∧
  (PySem.W.findIn K (.ref Yl) "__format__" = some (some (.builtin "object.__format__"))) ∧
  (PySem.W.findIn K (.ref Yr) "__format__" = some (some (.builtin "object.__format__"))) ∧
  (PySem.W.findIn K (.ref Yf) "__format__" = some (some (.builtin "object.__format__"))) ∧
  (PySem.W.findIn K (.ref Yu) "__format__" = some (some (.builtin "object.__format__"))) ∧
  (PySem.W.findIn K (.ref Yi) "__format__" = some (some (.builtin "object.__format__"))) ∧
  (PySem.W.findIn K (.ref Yk) "__format__" = some (some (.builtin "object.__format__"))) ∧
  (PySem.W.findIn K (.ref Yc) "__format__" = some (some (.builtin "object.__format__"))) ∧
  (PySem.W.findIn K (.ref Yn) "__format__" = some (some (.builtin "object.__format__"))) ∧
  (PySem.W.findIn K (.ref Yb) "__format__" = some (some (.builtin "object.__format__"))) ∧
  (PySem.W.nsIn K mainGlobals "Row" = some (some (.ref Rb))) ∧
  (PySem.W.nsIn K mainGlobals "Say" = some (some (.ref Ry))) ∧
  (PySem.W.plainGet K Ry Str.empty = true)
instance {K : PySem.W.Frag} {C Ys Yl Yr Yf Yu Yi Yk Yc Yn Yb fSs Rb Ry : Addr} : Decidable (fb13 K C Ys Yl Yr Yf Yu Yi Yk Yc Yn Yb fSs Rb Ry) := by unfold fb13; infer_instance
def fb14 (K : PySem.W.Frag) (Rb Ry fQy Ra : Addr) : Prop :=
  (PySem.W.hasDictIn K Ry = true) ∧
  (PySem.W.plainOver K Ry = true) ∧
  (PySem.W.findIn K (.ref Ry) "__setattr__" = some (some (.builtin "object.__setattr__"))) ∧
  (PySem.W.makesIn K Ry = true) ∧
  (PySem.W.keepIn K (.ref Ry) = true) ∧
  (PySem.W.findIn K (.ref Ry) "saying" = some none) ∧
  (PySem.W.findIn K (.ref Ry) "word" = some none) ∧
  (PySem.W.findIn K (.ref Ry) "script" = some none) ∧
  (PySem.W.findIn K (.ref Ry) "rows" = some none) ∧
  (PySem.W.findIn K (.ref Ry) "others" = some none) ∧
  (PySem.W.findIn K (.ref Ry) "many" = some none) ∧
  (PySem.W.findIn K (.ref Ry) "__class__" = some (some (.builtin "object.__class__"))) ∧
  (PySem.W.mroIn K Ry (.type "object") = some true) ∧
  (PySem.W.kitOne K (.ref Ry) (.ref Rb) = some true) ∧
  (PySem.W.findIn K (.ref Ry) "__init__" = some (some (.ref fQy))) ∧
  (PySem.W.isFn K (.ref fQy) = true) ∧
  (PySem.W.nsIn K mainGlobals "Ask" = some (some (.ref Ra))) ∧
  (PySem.W.plainGet K Ra Str.empty = true) ∧
  (PySem.W.hasDictIn K Ra = true) ∧
  (PySem.W.plainOver K Ra = true) ∧
  (PySem.W.findIn K (.ref Ra) "__setattr__" = some (some (.builtin "object.__setattr__"))) ∧
  (PySem.W.makesIn K Ra = true) ∧
  (PySem.W.keepIn K (.ref Ra) = true) ∧
  (PySem.W.findIn K (.ref Ra) "saying" = some none) ∧
  (PySem.W.findIn K (.ref Ra) "word" = some none)
instance {K : PySem.W.Frag} {Rb Ry fQy Ra : Addr} : Decidable (fb14 K Rb Ry fQy Ra) := by unfold fb14; infer_instance
def fb15 (K : PySem.W.Frag) (Rb Ra fQa Rh : Addr) : Prop :=
  (PySem.W.findIn K (.ref Ra) "script" = some none) ∧
  (PySem.W.findIn K (.ref Ra) "rows" = some none) ∧
  (PySem.W.findIn K (.ref Ra) "others" = some none) ∧
  (PySem.W.findIn K (.ref Ra) "many" = some none) ∧
  (PySem.W.findIn K (.ref Ra) "__class__" = some (some (.builtin "object.__class__"))) ∧
  (PySem.W.mroIn K Ra (.type "object") = some true) ∧
  (PySem.W.kitOne K (.ref Ra) (.ref Rb) = some true) ∧
  (PySem.W.findIn K (.ref Ra) "__init__" = some (some (.ref fQa))) ∧
  (PySem.W.isFn K (.ref fQa) = true) ∧
  (PySem.W.nsIn K mainGlobals "Hands" = some (some (.ref Rh))) ∧
  (PySem.W.plainGet K Rh Str.empty = true) ∧
  (PySem.W.hasDictIn K Rh = true) ∧
  (PySem.W.plainOver K Rh = true) ∧
  (PySem.W.findIn K (.ref Rh) "__setattr__" = some (some (.builtin "object.__setattr__"))) ∧
  (PySem.W.makesIn K Rh = true) ∧
  (PySem.W.keepIn K (.ref Rh) = true) ∧
  (PySem.W.findIn K (.ref Rh) "saying" = some none) ∧
  (PySem.W.findIn K (.ref Rh) "word" = some none) ∧
  (PySem.W.findIn K (.ref Rh) "script" = some none) ∧
  (PySem.W.findIn K (.ref Rh) "rows" = some none) ∧
  (PySem.W.findIn K (.ref Rh) "others" = some none) ∧
  (PySem.W.findIn K (.ref Rh) "many" = some none) ∧
  (PySem.W.findIn K (.ref Rh) "__class__" = some (some (.builtin "object.__class__"))) ∧
  (PySem.W.mroIn K Rh (.type "object") = some true) ∧
  (PySem.W.kitOne K (.ref Rh) (.ref Rb) = some true)
instance {K : PySem.W.Frag} {Rb Ra fQa Rh : Addr} : Decidable (fb15 K Rb Ra fQa Rh) := by unfold fb15; infer_instance
def fb16 (K : PySem.W.Frag) (Rb Rh fQh Rp fQp Ri : Addr) : Prop :=
  (PySem.W.findIn K (.ref Rh) "__init__" = some (some (.ref fQh))) ∧
  (PySem.W.isFn K (.ref fQh) = true) ∧
  (PySem.W.nsIn K mainGlobals "Step" = some (some (.ref Rp))) ∧
  (PySem.W.plainGet K Rp Str.empty = true) ∧
  (PySem.W.hasDictIn K Rp = true) ∧
  (PySem.W.plainOver K Rp = true) ∧
  (PySem.W.findIn K (.ref Rp) "__setattr__" = some (some (.builtin "object.__setattr__"))) ∧
  (PySem.W.makesIn K Rp = true) ∧
  (PySem.W.keepIn K (.ref Rp) = true) ∧
  (PySem.W.findIn K (.ref Rp) "saying" = some none) ∧
  (PySem.W.findIn K (.ref Rp) "word" = some none) ∧
  (PySem.W.findIn K (.ref Rp) "script" = some none) ∧
  (PySem.W.findIn K (.ref Rp) "rows" = some none) ∧
  (PySem.W.findIn K (.ref Rp) "others" = some none) ∧
  (PySem.W.findIn K (.ref Rp) "many" = some none) ∧
  (PySem.W.findIn K (.ref Rp) "__class__" = some (some (.builtin "object.__class__"))) ∧
  (PySem.W.mroIn K Rp (.type "object") = some true) ∧
  (PySem.W.kitOne K (.ref Rp) (.ref Rb) = some true) ∧
  (PySem.W.findIn K (.ref Rp) "__init__" = some (some (.ref fQp))) ∧
  (PySem.W.isFn K (.ref fQp) = true) ∧
  (PySem.W.nsIn K mainGlobals "If" = some (some (.ref Ri))) ∧
  (PySem.W.plainGet K Ri Str.empty = true) ∧
  (PySem.W.hasDictIn K Ri = true) ∧
  (PySem.W.plainOver K Ri = true) ∧
  (PySem.W.findIn K (.ref Ri) "__setattr__" = some (some (.builtin "object.__setattr__")))
instance {K : PySem.W.Frag} {Rb Rh fQh Rp fQp Ri : Addr} : Decidable (fb16 K Rb Rh fQh Rp fQp Ri) := by unfold fb16; infer_instance
def fb17 (K : PySem.W.Frag) (Rb Ri fQi eQi Rt : Addr) : Prop :=
  (PySem.W.makesIn K Ri = true) ∧
  (PySem.W.keepIn K (.ref Ri) = true) ∧
  (PySem.W.findIn K (.ref Ri) "saying" = some none) ∧
  (PySem.W.findIn K (.ref Ri) "word" = some none) ∧
  (PySem.W.findIn K (.ref Ri) "script" = some none) ∧
  (PySem.W.findIn K (.ref Ri) "rows" = some none) ∧
  (PySem.W.findIn K (.ref Ri) "others" = some none) ∧
  (PySem.W.findIn K (.ref Ri) "many" = some none) ∧
  (PySem.W.findIn K (.ref Ri) "__class__" = some (some (.builtin "object.__class__"))) ∧
  (PySem.W.mroIn K Ri (.type "object") = some true) ∧
  (PySem.W.kitOne K (.ref Ri) (.ref Rb) = some true) ∧
  (PySem.W.findIn K (.ref Ri) "__init__" = some (some (.ref fQi))) ∧
  (PySem.W.isFn K (.ref fQi) = true) ∧
  (He.dflB K (HkX.dflV K fQi) [.ref eQi] = true) ∧
  (HkX.tup0 K eQi = true) ∧
  (PySem.W.nsIn K mainGlobals "Times" = some (some (.ref Rt))) ∧
  (PySem.W.plainGet K Rt Str.empty = true) ∧
  (PySem.W.hasDictIn K Rt = true) ∧
  (PySem.W.plainOver K Rt = true) ∧
  (PySem.W.findIn K (.ref Rt) "__setattr__" = some (some (.builtin "object.__setattr__"))) ∧
  (PySem.W.makesIn K Rt = true) ∧
  (PySem.W.keepIn K (.ref Rt) = true) ∧
  (PySem.W.findIn K (.ref Rt) "saying" = some none) ∧
  (PySem.W.findIn K (.ref Rt) "word" = some none) ∧
  (PySem.W.findIn K (.ref Rt) "script" = some none)
instance {K : PySem.W.Frag} {Rb Ri fQi eQi Rt : Addr} : Decidable (fb17 K Rb Ri fQi eQi Rt) := by unfold fb17; infer_instance
def fb18 (K : PySem.W.Frag) (Rb Ry Ra Rh Rp Ri Rt fQt fIr fZs fZe : Addr) : Prop :=
  (PySem.W.findIn K (.ref Rt) "rows" = some none) ∧
  (PySem.W.findIn K (.ref Rt) "others" = some none) ∧
  (PySem.W.findIn K (.ref Rt) "many" = some none) ∧
  (PySem.W.findIn K (.ref Rt) "__class__" = some (some (.builtin "object.__class__"))) ∧
  (PySem.W.mroIn K Rt (.type "object") = some true) ∧
  (PySem.W.kitOne K (.ref Rt) (.ref Rb) = some true) ∧
  (PySem.W.findIn K (.ref Rt) "__init__" = some (some (.ref fQt))) ∧
  (PySem.W.isFn K (.ref fQt) = true) ∧
  (PySem.W.readsIn K Rb (.type "type") = true) ∧
  (PySem.W.specialIn K (.ref Rb) "__getattribute__" = some (some (.builtin "type.__getattribute__"))) ∧
  (HkX.cvB K Rb "__init__" fIr = true) ∧
  (PySem.W.findIn K (.ref Ry) "__str__" = some (some (.ref fZs))) ∧
  (PySem.W.findIn K (.ref Ra) "__str__" = some (some (.ref fZs))) ∧
  (PySem.W.findIn K (.ref Rh) "__str__" = some (some (.ref fZs))) ∧
  (PySem.W.findIn K (.ref Rp) "__str__" = some (some (.ref fZs))) ∧
  (PySem.W.findIn K (.ref Ri) "__str__" = some (some (.ref fZs))) ∧
  (PySem.W.findIn K (.ref Rt) "__str__" = some (some (.ref fZs))) ∧
  (PySem.W.isFn K (.ref fZs) = true) ∧
  (PySem.W.findIn K (.ref Ry) "__eq__" = some (some (.ref fZe))) ∧
  (PySem.W.findIn K (.ref Ra) "__eq__" = some (some (.ref fZe))) ∧
  (PySem.W.findIn K (.ref Rh) "__eq__" = some (some (.ref fZe))) ∧
  (PySem.W.findIn K (.ref Rp) "__eq__" = some (some (.ref fZe))) ∧
  (PySem.W.findIn K (.ref Ri) "__eq__" = some (some (.ref fZe))) ∧
  (PySem.W.findIn K (.ref Rt) "__eq__" = some (some (.ref fZe))) ∧
  (PySem.W.isFn K (.ref fZe) = true)
instance {K : PySem.W.Frag} {Rb Ry Ra Rh Rp Ri Rt fQt fIr fZs fZe : Addr} : Decidable (fb18 K Rb Ry Ra Rh Rp Ri Rt fQt fIr fZs fZe) := by unfold fb18; infer_instance
def fb19 (K : PySem.W.Frag) (CE CES CET cgK Ys Rp Rt TK fTi eTi fTs : Addr) : Prop :=
  (PySem.W.nsIn K mainGlobals "Talk" = some (some (.ref TK))) ∧
  (PySem.W.plainGet K TK Str.empty = true) ∧
  (PySem.W.hasDictIn K TK = true) ∧
  (PySem.W.plainOver K TK = true) ∧
  (PySem.W.findIn K (.ref TK) "__setattr__" = some (some (.builtin "object.__setattr__"))) ∧
  (PySem.W.makesIn K TK = true) ∧
  (PySem.W.keepIn K (.ref TK) = true) ∧
  (PySem.W.findIn K (.ref TK) "rows" = some none) ∧
  (PySem.W.findIn K (.ref TK) "__class__" = some (some (.builtin "object.__class__"))) ∧
  (PySem.W.mroIn K TK (.type "object") = some true) ∧
  (PySem.W.kitOne K (.ref TK) (.ref TK) = some true) ∧
  (He.dflB K (HkX.dflV K fTi) [.ref eTi] = true) ∧
  (HkX.tup0 K eTi = true) ∧
  (PySem.W.findIn K (.ref TK) "__init__" = some (some (.ref fTi))) ∧
  (PySem.W.isFn K (.ref fTi) = true) ∧
  (PySem.W.findIn K (.ref TK) "__str__" = some (some (.ref fTs))) ∧
  (PySem.W.isFn K (.ref fTs) = true) ∧
  (PySem.W.kitOne K (.ref CET) (.ref cgK) = some true) ∧
  (PySem.W.kitAny K (.ref CET) [.ref CES, .ref CE] = some false) ∧
  (PySem.W.notFirst K Rp (.ref Rt) = true) ∧
  (PySem.W.kitOne K (.type "NoneType") (.ref Ys) = some false) ∧
  (PySem.W.kitOne K (.type "int") (.ref Ys) = some false) ∧
  (PySem.W.kitOne K (.type "bool") (.ref Ys) = some false) ∧
  (PySem.W.kitOne K (.type "str") (.ref Ys) = some false) ∧
  (PySem.W.kitOne K (.type "tuple") (.ref Ys) = some false)
instance {K : PySem.W.Frag} {CE CES CET cgK Ys Rp Rt TK fTi eTi fTs : Addr} : Decidable (fb19 K CE CES CET cgK Ys Rp Rt TK fTi eTi fTs) := by unfold fb19; infer_instance
def fb20 (K : PySem.W.Frag) (Ys Yl Rb Rp TK : Addr) : Prop :=
  (PySem.W.kitOne K (.type "list") (.ref Ys) = some false) ∧
  (PySem.W.kitOne K (.ref Rp) (.ref Ys) = some false) ∧
  (PySem.W.kitOne K (.ref TK) (.ref Ys) = some false) ∧
  (PySem.W.kitOne K (.type "NoneType") (.ref Rb) = some false) ∧
  (PySem.W.kitOne K (.type "str") (.ref Rb) = some false) ∧
  (PySem.W.kitOne K (.type "list") (.ref Rb) = some false) ∧
  (PySem.W.kitOne K (.type "tuple") (.ref Rb) = some false) ∧
  (PySem.W.kitOne K (.ref Yl) (.ref Rb) = some false) ∧
  (PySem.W.kitAny K (.type "NoneType") [.type "list", .type "tuple"] = some false) ∧
  (PySem.W.kitAny K (.type "int") [.type "list", .type "tuple"] = some false) ∧
  (PySem.W.kitAny K (.type "str") [.type "list", .type "tuple"] = some false) ∧
  (PySem.W.kitAny K (.ref Rp) [.type "list", .type "tuple"] = some false) ∧
  (PySem.W.kitAny K (.ref Yl) [.type "list", .type "tuple"] = some false) ∧
  (PySem.W.kitAny K (.ref TK) [.type "list", .type "tuple"] = some false) ∧
  (PySem.W.kitOne K (.type "NoneType") (.type "int") = some false) ∧
  (PySem.W.kitOne K (.type "str") (.type "int") = some false) ∧
  (PySem.W.kitOne K (.type "tuple") (.type "int") = some false) ∧
  (PySem.W.kitOne K (.ref Yl) (.type "int") = some false) ∧
  (PySem.W.nsIn K mainGlobals "int" = some none) ∧
  (PySem.W.nsIn K mainGlobals "len" = some none) ∧
  (PySem.W.nsIn K mainGlobals "range" = some none) ∧
  (PySem.W.nsIn K mainGlobals "list" = some none) ∧
  (PySem.W.nsIn K mainGlobals "tuple" = some none) ∧
  (PySem.W.nsIn K mainGlobals "all" = some none) ∧
  (PySem.W.nsIn K mainGlobals "any" = some none)
instance {K : PySem.W.Frag} {Ys Yl Rb Rp TK : Addr} : Decidable (fb20 K Ys Yl Rb Rp TK) := by unfold fb20; infer_instance
def fb21 (K : PySem.W.Frag) : Prop :=
  (PySem.W.nsIn K mainGlobals "isinstance" = some none) ∧
  (PySem.W.nsIn K mainGlobals "bool" = some none) ∧
  (PySem.W.nsIn K mainGlobals "str" = some none) ∧
  (PySem.W.nsIn K mainGlobals "abs" = some none) ∧
  (PySem.W.nsIn K mainGlobals "zip" = some none) ∧
  (PySem.W.nsIn K mainGlobals "repr" = some none) ∧
  (PySem.W.nsIn K mainGlobals "enumerate" = some none) ∧
  (PySem.W.nsIn K mainGlobals "max" = some none) ∧
  (PySem.W.nsIn K mainGlobals "min" = some none) ∧
  (PySem.W.nsIn K mainGlobals "sum" = some none)
instance {K : PySem.W.Frag} : Decidable (fb21 K) := by unfold fb21; infer_instance
def faP0 (K : PySem.W.Frag) : Bool := decide (fb0 K ((He.ga K "is_integer")) ((He.ga K "is_number")) ((He.ga K "is_kind")) ((He.ga K "is_sequence")) ((He.ga K "is_table")) ((He.ga K "checked")) ((He.ga K "least_way")) ((He.ga K "columns_of")) ((He.ga K "need_kind")) ((He.ga K "told_by")) ((He.ga K "text_of")) ((He.ga K "need_saying")) ((He.ga K "need_rows")) ((He.ga K "lines_of")) ((He.ga K "_law_box")) ((He.ga K "_law_take")) ((He.ga K "_law_pick")) ((He.ga K "_law_refused")) ((He.ga K "law")) ((He.ga K "KINDS")) ((He.ga K "Crowds"))) && (decide (fb1 K ((He.ga K "Crowds")) ((He.ma K (He.ga K "Crowds") "__init__")) ((He.ma K (He.ga K "Crowds") "__str__")) ((He.ga K "InvalidCrowds")) ((He.ma K (He.ga K "InvalidCrowds") "__init__"))) && (decide (fb2 K ((He.ga K "InvalidCrowds")) ((He.ma K (He.ga K "InvalidCrowds") "__init__")) ((He.ga K "InvalidSaying")) ((He.ma K (He.ga K "InvalidSaying") "__init__"))) && (decide (fb3 K ((He.ga K "InvalidSaying")) ((He.ma K (He.ga K "InvalidSaying") "__init__")) ((He.ga K "InvalidTalk")) ((He.ma K (He.ga K "InvalidTalk") "__init__"))) && (decide (fb4 K ((He.ga K "InvalidTalk")) ((He.ga K "KnowError")) ((He.ga K "Saying")) ((He.ma K (He.ga K "Saying") "__init__")) ((He.ga K "AtLeast")))))))

def fnP0 : List HkX.Df := [⟨fun K => ((He.ga K "is_integer")), "is_integer", "is_integer", (topS 12), false, false⟩,
  ⟨fun K => ((He.ga K "is_number")), "is_number", "is_number", (topS 13), false, false⟩,
  ⟨fun K => ((He.ga K "is_kind")), "is_kind", "is_kind", (topS 14), false, false⟩,
  ⟨fun K => ((He.ga K "is_sequence")), "is_sequence", "is_sequence", (topS 15), false, false⟩,
  ⟨fun K => ((He.ga K "is_table")), "is_table", "is_table", (topS 38), false, false⟩,
  ⟨fun K => ((He.ga K "checked")), "checked", "checked", (topS 39), false, false⟩,
  ⟨fun K => ((He.ga K "least_way")), "least_way", "least_way", (topS 40), false, false⟩,
  ⟨fun K => ((He.ga K "columns_of")), "columns_of", "columns_of", (topS 41), false, false⟩,
  ⟨fun K => ((He.ga K "need_kind")), "need_kind", "need_kind", (topS 53), false, false⟩,
  ⟨fun K => ((He.ga K "told_by")), "told_by", "told_by", (topS 52), false, false⟩,
  ⟨fun K => ((He.ga K "text_of")), "text_of", "text_of", (topS 54), false, false⟩]
def faP1 (K : PySem.W.Frag) : Bool := decide (fb5 K ((He.ga K "Saying")) ((He.ma K (He.ga K "Saying") "__init__")) ((He.ga K "AtLeast")) ((He.ma K (He.ga K "AtLeast") "__init__")) ((He.ga K "Rest"))) && (decide (fb6 K ((He.ga K "Saying")) ((He.ma K (He.ga K "Saying") "__init__")) ((He.ga K "Rest")) ((He.ma K (He.ga K "Rest") "__init__")) ((He.ga K "Fact"))) && (decide (fb7 K ((He.ga K "Saying")) ((He.ma K (He.ga K "Saying") "__init__")) ((He.ga K "Fact")) ((He.ma K (He.ga K "Fact") "__init__")) ((He.ga K "Sure")) ((He.ma K (He.ga K "Sure") "__init__"))) && (decide (fb8 K ((He.ga K "Saying")) ((He.ma K (He.ga K "Saying") "__init__")) ((He.ga K "Sure")) ((He.ma K (He.ga K "Sure") "__init__")) ((He.ga K "Silent")) ((He.ma K (He.ga K "Silent") "__init__"))) && (decide (fb9 K ((He.ga K "Saying")) ((He.ma K (He.ga K "Saying") "__init__")) ((He.ga K "Silent")) ((He.ma K (He.ga K "Silent") "__init__")) ((He.ga K "Knows")) ((He.ma K (He.ga K "Knows") "__init__"))) && (decide (fb10 K ((He.ga K "Saying")) ((He.ma K (He.ga K "Saying") "__init__")) ((He.ga K "Knows")) ((He.ma K (He.ga K "Knows") "__init__")) ((He.ga K "Common")) ((He.ma K (He.ga K "Common") "__init__"))))))))

def fnP1 : List HkX.Df := [⟨fun K => ((He.ga K "need_saying")), "need_saying", "need_saying", (topS 91), false, false⟩,
  ⟨fun K => ((He.ga K "need_rows")), "need_rows", "need_rows", (topS 92), false, false⟩,
  ⟨fun K => ((He.ga K "lines_of")), "lines_of", "lines_of", (topS 93), false, false⟩,
  ⟨fun K => ((He.ga K "_law_box")), "_law_box", "_law_box", (topS 112), false, false⟩,
  ⟨fun K => ((He.ga K "_law_take")), "_law_take", "_law_take", (topS 113), false, false⟩,
  ⟨fun K => ((He.ga K "_law_pick")), "_law_pick", "_law_pick", (topS 114), false, false⟩,
  ⟨fun K => ((He.ga K "_law_refused")), "_law_refused", "_law_refused", (topS 115), false, false⟩,
  ⟨fun K => ((He.ga K "law")), "law", "law", (topS 116), false, false⟩,
  ⟨fun K => ((He.ma K (He.ga K "Crowds") "__init__")), "__init__", "Crowds.__init__", (inClass (topS 49) 0), false, false⟩,
  ⟨fun K => ((He.ma K (He.ga K "Crowds") "__str__")), "__str__", "Crowds.__str__", (inClass (topS 49) 18), false, false⟩,
  ⟨fun K => ((He.ma K (He.ga K "InvalidCrowds") "__init__")), "__init__", "InvalidCrowds.__init__", (inClass (topS 3) 0), true, false⟩,
  ⟨fun K => ((He.ma K (He.ga K "InvalidSaying") "__init__")), "__init__", "InvalidSaying.__init__", (inClass (topS 4) 0), true, false⟩]
def faP2 (K : PySem.W.Frag) : Bool := decide (fb11 K ((He.ga K "Saying")) ((He.ma K (He.ga K "Saying") "__init__")) ((He.ga K "Common")) ((He.ga K "Contrary")) ((He.ma K (He.ga K "Contrary") "__init__"))) && (decide (fb12 K ((He.ga K "Saying")) ((He.ma K (He.ga K "Saying") "__init__")) ((He.ga K "Contrary")) ((He.ga K "Both")) ((He.ma K (He.ga K "Both") "__init__"))) && (decide (fb13 K ((He.ga K "Crowds")) ((He.ga K "Saying")) ((He.ga K "AtLeast")) ((He.ga K "Rest")) ((He.ga K "Fact")) ((He.ga K "Sure")) ((He.ga K "Silent")) ((He.ga K "Knows")) ((He.ga K "Common")) ((He.ga K "Contrary")) ((He.ga K "Both")) ((He.ma K (He.ga K "Saying") "__str__")) ((He.ga K "Row")) ((He.ga K "Say"))) && (decide (fb14 K ((He.ga K "Row")) ((He.ga K "Say")) ((He.ma K (He.ga K "Say") "__init__")) ((He.ga K "Ask"))) && (decide (fb15 K ((He.ga K "Row")) ((He.ga K "Ask")) ((He.ma K (He.ga K "Ask") "__init__")) ((He.ga K "Hands")))))))

def fnP2 : List HkX.Df := [⟨fun K => ((He.ma K (He.ga K "InvalidTalk") "__init__")), "__init__", "InvalidTalk.__init__", (inClass (topS 5) 0), true, false⟩,
  ⟨fun K => ((He.ma K (He.ga K "Saying") "__init__")), "__init__", "Saying.__init__", (inClass (topS 55) 0), false, false⟩,
  ⟨fun K => ((He.ma K (He.ga K "AtLeast") "__init__")), "__init__", "AtLeast.__init__", (inClass (topS 58) 0), true, false⟩,
  ⟨fun K => ((He.ma K (He.ga K "Rest") "__init__")), "__init__", "Rest.__init__", (inClass (topS 59) 0), true, false⟩,
  ⟨fun K => ((He.ma K (He.ga K "Fact") "__init__")), "__init__", "Fact.__init__", (inClass (topS 60) 0), true, false⟩,
  ⟨fun K => ((He.ma K (He.ga K "Sure") "__init__")), "__init__", "Sure.__init__", (inClass (topS 61) 0), true, false⟩,
  ⟨fun K => ((He.ma K (He.ga K "Silent") "__init__")), "__init__", "Silent.__init__", (inClass (topS 62) 0), true, false⟩,
  ⟨fun K => ((He.ma K (He.ga K "Knows") "__init__")), "__init__", "Knows.__init__", (inClass (topS 63) 0), true, false⟩,
  ⟨fun K => ((He.ma K (He.ga K "Common") "__init__")), "__init__", "Common.__init__", (inClass (topS 64) 0), true, false⟩,
  ⟨fun K => ((He.ma K (He.ga K "Contrary") "__init__")), "__init__", "Contrary.__init__", (inClass (topS 57) 0), true, false⟩,
  ⟨fun K => ((He.ma K (He.ga K "Both") "__init__")), "__init__", "Both.__init__", (inClass (topS 56) 0), true, false⟩]
def faP3 (K : PySem.W.Frag) : Bool := decide (fb16 K ((He.ga K "Row")) ((He.ga K "Hands")) ((He.ma K (He.ga K "Hands") "__init__")) ((He.ga K "Step")) ((He.ma K (He.ga K "Step") "__init__")) ((He.ga K "If"))) && (decide (fb17 K ((He.ga K "Row")) ((He.ga K "If")) ((He.ma K (He.ga K "If") "__init__")) ((HkX.dfE K (He.ma K (He.ga K "If") "__init__"))) ((He.ga K "Times"))) && (decide (fb18 K ((He.ga K "Row")) ((He.ga K "Say")) ((He.ga K "Ask")) ((He.ga K "Hands")) ((He.ga K "Step")) ((He.ga K "If")) ((He.ga K "Times")) ((He.ma K (He.ga K "Times") "__init__")) ((He.ma K (He.ga K "Row") "__init__")) ((He.ma K (He.ga K "Row") "__str__")) ((He.ma K (He.ga K "Row") "__eq__"))) && (decide (fb19 K ((He.ga K "InvalidCrowds")) ((He.ga K "InvalidSaying")) ((He.ga K "InvalidTalk")) ((He.ga K "KnowError")) ((He.ga K "Saying")) ((He.ga K "Step")) ((He.ga K "Times")) ((He.ga K "Talk")) ((He.ma K (He.ga K "Talk") "__init__")) ((HkX.dfE K (He.ma K (He.ga K "Talk") "__init__"))) ((He.ma K (He.ga K "Talk") "__str__"))) && (decide (fb20 K ((He.ga K "Saying")) ((He.ga K "AtLeast")) ((He.ga K "Row")) ((He.ga K "Step")) ((He.ga K "Talk"))) && (decide (fb21 K))))))

def fnP3 : List HkX.Df := [⟨fun K => ((He.ma K (He.ga K "Saying") "__str__")), "__str__", "Saying.__str__", (inClass (topS 55) 9), false, false⟩,
  ⟨fun K => ((He.ma K (He.ga K "Say") "__init__")), "__init__", "Say.__init__", (inClass (topS 96) 0), false, false⟩,
  ⟨fun K => ((He.ma K (He.ga K "Ask") "__init__")), "__init__", "Ask.__init__", (inClass (topS 97) 0), false, false⟩,
  ⟨fun K => ((He.ma K (He.ga K "Hands") "__init__")), "__init__", "Hands.__init__", (inClass (topS 98) 0), false, false⟩,
  ⟨fun K => ((He.ma K (He.ga K "Step") "__init__")), "__init__", "Step.__init__", (inClass (topS 99) 0), false, false⟩,
  ⟨fun K => ((He.ma K (He.ga K "If") "__init__")), "__init__", "If.__init__", (inClass (topS 100) 0), false, true⟩,
  ⟨fun K => ((He.ma K (He.ga K "Times") "__init__")), "__init__", "Times.__init__", (inClass (topS 101) 0), false, false⟩,
  ⟨fun K => ((He.ma K (He.ga K "Row") "__init__")), "__init__", "Row.__init__", (inClass (topS 95) 0), false, false⟩,
  ⟨fun K => ((He.ma K (He.ga K "Row") "__str__")), "__str__", "Row.__str__", (inClass (topS 95) 1), false, false⟩,
  ⟨fun K => ((He.ma K (He.ga K "Row") "__eq__")), "__eq__", "Row.__eq__", (inClass (topS 95) 2), false, false⟩,
  ⟨fun K => ((He.ma K (He.ga K "Talk") "__init__")), "__init__", "Talk.__init__", (inClass (topS 104) 0), false, true⟩,
  ⟨fun K => ((He.ma K (He.ga K "Talk") "__str__")), "__str__", "Talk.__str__", (inClass (topS 104) 10), false, false⟩]
def faB (K : PySem.W.Frag) : Bool := ((faP0 K && faP1 K) && faP2 K) && faP3 K
def fnB : List HkX.Df := ((fnP0 ++ fnP1) ++ fnP2) ++ fnP3
def loose : List Str := (["_wall", "KnowError", "InvalidCrowds", "InvalidSaying", "InvalidTalk", "InvalidLine", "InvalidText", "Untrue", "NoRow", "KINDS", "is_integer", "is_number", "is_kind", "is_sequence", "is_crowd", "common_multiple", "held", "held_lines", "signed", "count", "edge_of", "known", "shared_by_all", "knowing", "parted", "lifted", "done", "part_of", "all_done", "numbers_of"] : List Str) ++ (["where_true", "Line", "IN", "NOT_IN", "is_table", "checked", "least_way", "columns_of", "place_of", "widened", "both_tables", "signs_of", "combined", "is_within", "made_by", "Crowds", "SIGNS", "told_by", "need_kind", "text_of", "Saying", "Both", "Contrary", "AtLeast", "Rest", "Fact", "Sure", "Silent", "Knows", "Common"] : List Str) ++ (["Piece", "Question", "who", "answer_to", "held_runs", "heard", "DIGITS_sayingtexts", "MOST_FIGURES", "shared", "read_one_of", "read_number", "read_signs", "read_table", "read_part", "read_pair", "read_kind", "read_counted", "read_rest", "read_any", "read_saying", "DIGITS_talks", "MOST", "need_saying", "need_rows", "lines_of", "flat", "Row", "Say", "Ask", "Hands"] : List Str) ++ (["Step", "If", "Times", "left_out", "thinned", "Talk", "Block", "saying_in", "single_in", "head_in", "take_line", "rows_read", "_law_box", "_law_take", "_law_pick", "_law_refused"] : List Str)
abbrev ROP : PySem.W.OpenRow := PySem.W.OpenLaw.row PySem.Challenge.rw_foreheads_k22_rows_refused
end FH
noncomputable section
namespace HsZ
open PySem PySem.W PySem.Calls PyProof.Rows HsX HandSHeadRun
set_option linter.all false
set_option maxRecDepth 100000
set_option maxHeartbeats 0
abbrev ro : PySem.W.OpenRow := PySem.W.OpenLaw.row PySem.Challenge.rw_foreheads_k22_rows_refused
abbrev pr : Program := ro.prog
def f0 : PySem.Str := "/claim/cut.py"
def o0 (P : Params) : List Obj := [D [e P "__name__" 1 (s "builtins" 160), e P "__doc__" 2 (.builtin "builtins.__doc__:str#opaque"), e P "__package__" 3 (.builtin "builtins.__package__:str#opaque"), e P "__loader__" 4 (.builtin "builtins.__loader__:shared#opaque"), e P "__spec__" 5 (.builtin "builtins.__spec__#opaque"), e P "__build_class__" 6 (.builtin "__build_class__"), e P "__import__" 7 (.builtin "__import__"), e P "abs" 8 (.builtin "abs"), e P "all" 9 (.builtin "all"), e P "any" 10 (.builtin "any"), e P "ascii" 11 (.builtin "ascii"), e P "bin" 12 (.builtin "bin"), e P "breakpoint" 13 (.builtin "breakpoint"), e P "callable" 14 (.builtin "callable"), e P "chr" 15 (.builtin "chr"), e P "compile" 16 (.builtin "compile"), e P "delattr" 17 (.builtin "delattr"), e P "dir" 18 (.builtin "dir"), e P "divmod" 19 (.builtin "divmod"), e P "eval" 20 (.builtin "eval"), e P "exec" 21 (.builtin "exec"), e P "format" 22 (.builtin "format"), e P "getattr" 23 (.builtin "getattr"), e P "globals" 24 (.builtin "globals"), e P "hasattr" 25 (.builtin "hasattr"), e P "hash" 26 (.builtin "hash"), e P "hex" 27 (.builtin "hex"), e P "id" 28 (.builtin "id"), e P "input" 29 (.builtin "input"), e P "isinstance" 30 (.builtin "isinstance"), e P "issubclass" 31 (.builtin "issubclass"), e P "iter" 32 (.builtin "iter"), e P "aiter" 33 (.builtin "aiter"), e P "len" 34 (.builtin "len"), e P "locals" 35 (.builtin "locals"), e P "max" 36 (.builtin "max"), e P "min" 37 (.builtin "min"), e P "next" 38 (.builtin "next"), e P "anext" 39 (.builtin "anext"), e P "oct" 40 (.builtin "oct"), e P "ord" 41 (.builtin "ord"), e P "pow" 42 (.builtin "pow"), e P "print" 43 (.builtin "print"), e P "repr" 44 (.builtin "repr"), e P "round" 45 (.builtin "round"), e P "setattr" 46 (.builtin "setattr"), e P "sorted" 47 (.builtin "sorted"), e P "sum" 48 (.builtin "sum"), e P "vars" 49 (.builtin "vars"), e P "None" 50 .none, e P "Ellipsis" 51 .ellipsis, e P "NotImplemented" 52 .notImplemented, e P "False" 53 (.bool false), e P "True" 54 (.bool true), e P "bool" 55 (.type "bool"), e P "memoryview" 56 (.type "memoryview"), e P "bytearray" 57 (.type "bytearray"), e P "bytes" 58 (.type "bytes"), e P "classmethod" 59 (.type "classmethod"), e P "complex" 60 (.type "complex"), e P "dict" 61 (.type "dict"), e P "enumerate" 62 (.type "enumerate"), e P "filter" 63 (.type "filter"), e P "float" 64 (.type "float"), e P "frozenset" 65 (.type "frozenset"), e P "property" 66 (.type "property"), e P "int" 67 (.type "int"), e P "list" 68 (.type "list"), e P "map" 69 (.type "map"), e P "object" 70 (.type "object"), e P "range" 71 (.type "range"), e P "reversed" 72 (.type "reversed"), e P "set" 73 (.type "set"), e P "slice" 74 (.type "slice"), e P "staticmethod" 75 (.type "staticmethod"), e P "str" 76 (.type "str"), e P "super" 77 (.type "super"), e P "tuple" 78 (.type "tuple"), e P "type" 79 (.type "type"), e P "zip" 80 (.type "zip"), e P "__debug__" 81 (.bool true), e P "BaseException" 82 (.type "BaseException"), e P "BaseExceptionGroup" 83 (.type "BaseExceptionGroup"), e P "Exception" 84 (.type "Exception"), e P "GeneratorExit" 85 (.type "GeneratorExit"), e P "KeyboardInterrupt" 86 (.type "KeyboardInterrupt"), e P "SystemExit" 87 (.type "SystemExit"), e P "ArithmeticError" 88 (.type "ArithmeticError"), e P "AssertionError" 89 (.type "AssertionError"), e P "AttributeError" 90 (.type "AttributeError"), e P "BufferError" 91 (.type "BufferError"), e P "EOFError" 92 (.type "EOFError"), e P "ImportError" 93 (.type "ImportError"), e P "LookupError" 94 (.type "LookupError"), e P "MemoryError" 95 (.type "MemoryError"), e P "NameError" 96 (.type "NameError"), e P "OSError" 97 (.type "OSError"), e P "ReferenceError" 98 (.type "ReferenceError"), e P "RuntimeError" 99 (.type "RuntimeError"), e P "StopAsyncIteration" 100 (.type "StopAsyncIteration"), e P "StopIteration" 101 (.type "StopIteration"), e P "SyntaxError" 102 (.type "SyntaxError"), e P "SystemError" 103 (.type "SystemError"), e P "TypeError" 104 (.type "TypeError"), e P "ValueError" 105 (.type "ValueError"), e P "Warning" 106 (.type "Warning"), e P "FloatingPointError" 107 (.type "FloatingPointError"), e P "OverflowError" 108 (.type "OverflowError"), e P "ZeroDivisionError" 109 (.type "ZeroDivisionError"), e P "BytesWarning" 110 (.type "BytesWarning"), e P "DeprecationWarning" 111 (.type "DeprecationWarning"), e P "EncodingWarning" 112 (.type "EncodingWarning"), e P "FutureWarning" 113 (.type "FutureWarning"), e P "ImportWarning" 114 (.type "ImportWarning"), e P "PendingDeprecationWarning" 115 (.type "PendingDeprecationWarning"), e P "ResourceWarning" 116 (.type "ResourceWarning"), e P "RuntimeWarning" 117 (.type "RuntimeWarning"), e P "SyntaxWarning" 118 (.type "SyntaxWarning"), e P "UnicodeWarning" 119 (.type "UnicodeWarning"), e P "UserWarning" 120 (.type "UserWarning"), e P "BlockingIOError" 121 (.type "BlockingIOError"), e P "ChildProcessError" 122 (.type "ChildProcessError"), e P "ConnectionError" 123 (.type "ConnectionError"), e P "FileExistsError" 124 (.type "FileExistsError"), e P "FileNotFoundError" 125 (.type "FileNotFoundError"), e P "InterruptedError" 126 (.type "InterruptedError"), e P "IsADirectoryError" 127 (.type "IsADirectoryError"), e P "NotADirectoryError" 128 (.type "NotADirectoryError"), e P "PermissionError" 129 (.type "PermissionError"), e P "ProcessLookupError" 130 (.type "ProcessLookupError"), e P "TimeoutError" 131 (.type "TimeoutError"), e P "IndentationError" 132 (.type "IndentationError"), e P "_IncompleteInputError" 133 (.type "_IncompleteInputError"), e P "IndexError" 134 (.type "IndexError"), e P "KeyError" 135 (.type "KeyError"), e P "ModuleNotFoundError" 136 (.type "ModuleNotFoundError"), e P "NotImplementedError" 137 (.type "NotImplementedError"), e P "PythonFinalizationError" 138 (.type "PythonFinalizationError"), e P "RecursionError" 139 (.type "RecursionError"), e P "UnboundLocalError" 140 (.type "UnboundLocalError"), e P "UnicodeError" 141 (.type "UnicodeError"), e P "BrokenPipeError" 142 (.type "BrokenPipeError"), e P "ConnectionAbortedError" 143 (.type "ConnectionAbortedError"), e P "ConnectionRefusedError" 144 (.type "ConnectionRefusedError"), e P "ConnectionResetError" 145 (.type "ConnectionResetError"), e P "TabError" 146 (.type "TabError"), e P "UnicodeDecodeError" 147 (.type "UnicodeDecodeError"), e P "UnicodeEncodeError" 148 (.type "UnicodeEncodeError"), e P "UnicodeTranslateError" 149 (.type "UnicodeTranslateError"), e P "ExceptionGroup" 150 (.type "ExceptionGroup"), e P "EnvironmentError" 151 (.type "OSError"), e P "IOError" 152 (.type "OSError"), e P "open" 153 (.builtin "open"), e P "quit" 154 (.builtin "builtins.quit#opaque"), e P "exit" 155 (.builtin "builtins.exit#opaque"), e P "copyright" 156 (.builtin "builtins.copyright#opaque"), e P "credits" 157 (.builtin "builtins.credits#opaque"), e P "license" 158 (.builtin "builtins.license#opaque"), e P "help" 159 (.builtin "builtins.help#opaque")] 159, D [e P "builtins" 162 (r 4), e P "__main__" 163 (r 5)] 2, { cls := .none, data := .dict ⟨[]⟩ 0 }, D [e P "__name__" 165 (s "__main__" 164), e P "__doc__" 166 .none, e P "__package__" 167 .none, e P "__loader__" 168 (.builtin "__main__.__loader__#opaque"), e P "__spec__" 169 .none, e P "__annotations__" 170 (r 6), e P "__builtins__" 171 (r 4), e P "__file__" 173 (s "/claim/cut.py" 172), e P "__cached__" 174 .none] 9, { cls := (.type "module"), dict := some 0, data := .plain }, { cls := (.type "module"), dict := some 3, data := .plain }, D [] 0, T [], F [], C "<module>" "<module>" 176 1 0 0 7 false 175 8 [.none, .none, .none, .none] 179 f0, { cls := (.type "frame"), data := .plain, slots := ⟨[some (r 9), some (r 3), some (r 3), none, some (s "__main__" 164), none, some (r 0)]⟩ }, T [], F [], C "<module>" "<module>" 182 1 0 0 11 false 181 12 [.none, .none, .none, .none] 185 f0, { cls := (.type "frame"), data := .plain, slots := ⟨[some (r 13), some (r 3), some (r 3), none, some (s "__main__" 164), none, some (r 0)]⟩ }]
def S0 (w : World) (os : OsState) : SharedT := st (o0 w.params) 15 187 os
def n1_0 (P : Params) : List Obj := [T [], F [], T [(s "k" 190)], T [], N (FH.topS 0) "_wall" "_wall" 0 [] .none .none, C "_wall" "_wall" 187 1 1 3 15 true 181 16 [.none, (r 17), (r 18), (r 19)] 191 f0, M (FH.topS 0) "_wall" "_wall" 3 [] .none .none (s "__main__" 164) (r 20) .none, T [(.type "ValueError")], G "builtin_function_or_method" [(.builtin "type.__prepare__"), (.type "type")], D [e P "__module__" 203 (s "foreheads.errors" 194), e P "__qualname__" 205 (s "KnowError" 204), e P "__firstlineno__" 207 (i 5 206), e P "__static_attributes__" 208 (r 29)] 4, T [], F [], C "KnowError" "KnowError" 198 5 0 0 25 false 181 26 [.none, .none, .none, .none] 201 f0, { cls := (.type "frame"), data := .plain, slots := ⟨[some (r 27), some (r 3), some (r 24), none, some (s "foreheads.errors" 194), none, some (r 0)]⟩ }, T [], D [e P "__module__" 203 (s "foreheads.errors" 194), e P "__firstlineno__" 207 (i 5 206), e P "__static_attributes__" 208 (r 29), e P "__weakref__" 210 (r 32), e P "__doc__" 211 .none] 3, { cls := (.type "type"), data := .cls { name := "KnowError", bases := [(.type "ValueError")], mro := [(r 31), (.type "ValueError"), (.type "Exception"), (.type "BaseException"), (.type "object")], ns := 30, qualname := "KnowError", hasDict := true, slotNames := [], subclasses := [(r 53), (r 74), (r 95), (r 116), (r 137), (r 158)], abstract := false, collection := none, hasDel := false }, slots := ⟨[some (r 22), none, some (s "KnowError" 196), some (s "KnowError" 204), some (.builtin "ValueError.__new__"), some (.bool true)]⟩ }, G "getset_descriptor" [(s "__weakref__" 209), (r 31), (.builtin "ExceptionGroup.__weakref__"), .none], G "super" [(r 31), (r 31), (r 31)], G "builtin_function_or_method" [(.builtin "object.__init_subclass__"), (r 31)], T [(r 31)], G "builtin_function_or_method" [(.builtin "type.__prepare__"), (.type "type")], D [e P "__module__" 221 (s "foreheads.errors" 194), e P "__qualname__" 223 (s "InvalidCrowds" 222), e P "__firstlineno__" 225 (i 7 224), e P "__init__" 234 (r 50), e P "__static_attributes__" 236 (r 51), e P "__classcell__" 237 (r 38)] 6, { cls := (.type "cell"), data := .cell (some (r 53)) }, T [], F [(i 9 0), (i 4 0), (r 49)], C "InvalidCrowds" "InvalidCrowds" 216 7 0 0 39 false 181 40 [.none, .none, .none, .none] 219 f0, { cls := (.type "frame"), data := .plain, slots := ⟨[some (r 41), some (r 3), some (r 37), none, some (s "foreheads.errors" 194), none, some (r 0)]⟩ }, T [(r 38)], T [(s "__class__" 229)], F [], T [(s "self" 230), (s "word" 231)], T [], N (L2.inClass (FH.topS 3) 0) "__init__" "InvalidCrowds.__init__" 0 [] .none .none, C "__init__" "InvalidCrowds.__init__" 226 9 2 3 44 true 181 45 [.none, (r 46), (r 47), (r 48)] 232 f0, M (L2.inClass (FH.topS 3) 0) "__init__" "InvalidCrowds.__init__" 3 [("__class__", 38)] .none .none (s "foreheads.errors" 194) (r 49) (r 43), T [(s "word" 235)], D [e P "__module__" 221 (s "foreheads.errors" 194), e P "__firstlineno__" 225 (i 7 224), e P "__init__" 234 (r 50), e P "__static_attributes__" 236 (r 51), e P "__doc__" 238 .none] 3, { cls := (.type "type"), data := .cls { name := "InvalidCrowds", bases := [(r 31)], mro := [(r 53), (r 31), (.type "ValueError"), (.type "Exception"), (.type "BaseException"), (.type "object")], ns := 52, qualname := "InvalidCrowds", hasDict := true, slotNames := [], subclasses := [], abstract := false, collection := none, hasDel := false }, slots := ⟨[some (r 35), none, some (s "InvalidCrowds" 214), some (s "InvalidCrowds" 222), some (.builtin "ValueError.__new__"), some (.bool true)]⟩ }, G "super" [(r 53), (r 53), (r 53)], G "builtin_function_or_method" [(.builtin "object.__init_subclass__"), (r 53)], T [(r 31)], G "builtin_function_or_method" [(.builtin "type.__prepare__"), (.type "type")], D [e P "__module__" 248 (s "foreheads.errors" 194), e P "__qualname__" 250 (s "InvalidSaying" 249), e P "__firstlineno__" 252 (i 12 251), e P "__init__" 261 (r 71), e P "__static_attributes__" 263 (r 72), e P "__classcell__" 264 (r 59)] 6, { cls := (.type "cell"), data := .cell (some (r 74)) }, T [], F [(i 14 0), (i 4 0), (r 70)], C "InvalidSaying" "InvalidSaying" 243 12 0 0 60 false 181 61 [.none, .none, .none, .none] 246 f0, { cls := (.type "frame"), data := .plain, slots := ⟨[some (r 62), some (r 3), some (r 58), none, some (s "foreheads.errors" 194), none, some (r 0)]⟩ }, T [(r 59)], T [(s "__class__" 256)], F [], T [(s "self" 257), (s "word" 258)], T [], N (L2.inClass (FH.topS 4) 0) "__init__" "InvalidSaying.__init__" 0 [] .none .none, C "__init__" "InvalidSaying.__init__" 253 14 2 3 65 true 181 66 [.none, (r 67), (r 68), (r 69)] 259 f0, M (L2.inClass (FH.topS 4) 0) "__init__" "InvalidSaying.__init__" 3 [("__class__", 59)] .none .none (s "foreheads.errors" 194) (r 70) (r 64), T [(s "word" 262)], D [e P "__module__" 248 (s "foreheads.errors" 194), e P "__firstlineno__" 252 (i 12 251), e P "__init__" 261 (r 71), e P "__static_attributes__" 263 (r 72), e P "__doc__" 265 .none] 3, { cls := (.type "type"), data := .cls { name := "InvalidSaying", bases := [(r 31)], mro := [(r 74), (r 31), (.type "ValueError"), (.type "Exception"), (.type "BaseException"), (.type "object")], ns := 73, qualname := "InvalidSaying", hasDict := true, slotNames := [], subclasses := [], abstract := false, collection := none, hasDel := false }, slots := ⟨[some (r 56), none, some (s "InvalidSaying" 241), some (s "InvalidSaying" 249), some (.builtin "ValueError.__new__"), some (.bool true)]⟩ }]
def n1_1 (P : Params) : List Obj := [G "super" [(r 74), (r 74), (r 74)], G "builtin_function_or_method" [(.builtin "object.__init_subclass__"), (r 74)], T [(r 31)], G "builtin_function_or_method" [(.builtin "type.__prepare__"), (.type "type")], D [e P "__module__" 275 (s "foreheads.errors" 194), e P "__qualname__" 277 (s "InvalidTalk" 276), e P "__firstlineno__" 279 (i 17 278), e P "__init__" 288 (r 92), e P "__static_attributes__" 290 (r 93), e P "__classcell__" 291 (r 80)] 6, { cls := (.type "cell"), data := .cell (some (r 95)) }, T [], F [(i 19 0), (i 4 0), (r 91)], C "InvalidTalk" "InvalidTalk" 270 17 0 0 81 false 181 82 [.none, .none, .none, .none] 273 f0, { cls := (.type "frame"), data := .plain, slots := ⟨[some (r 83), some (r 3), some (r 79), none, some (s "foreheads.errors" 194), none, some (r 0)]⟩ }, T [(r 80)], T [(s "__class__" 283)], F [], T [(s "self" 284), (s "word" 285)], T [], N (L2.inClass (FH.topS 5) 0) "__init__" "InvalidTalk.__init__" 0 [] .none .none, C "__init__" "InvalidTalk.__init__" 280 19 2 3 86 true 181 87 [.none, (r 88), (r 89), (r 90)] 286 f0, M (L2.inClass (FH.topS 5) 0) "__init__" "InvalidTalk.__init__" 3 [("__class__", 80)] .none .none (s "foreheads.errors" 194) (r 91) (r 85), T [(s "word" 289)], D [e P "__module__" 275 (s "foreheads.errors" 194), e P "__firstlineno__" 279 (i 17 278), e P "__init__" 288 (r 92), e P "__static_attributes__" 290 (r 93), e P "__doc__" 292 .none] 3, { cls := (.type "type"), data := .cls { name := "InvalidTalk", bases := [(r 31)], mro := [(r 95), (r 31), (.type "ValueError"), (.type "Exception"), (.type "BaseException"), (.type "object")], ns := 94, qualname := "InvalidTalk", hasDict := true, slotNames := [], subclasses := [], abstract := false, collection := none, hasDel := false }, slots := ⟨[some (r 77), none, some (s "InvalidTalk" 268), some (s "InvalidTalk" 276), some (.builtin "ValueError.__new__"), some (.bool true)]⟩ }, G "super" [(r 95), (r 95), (r 95)], G "builtin_function_or_method" [(.builtin "object.__init_subclass__"), (r 95)], T [(r 31)], G "builtin_function_or_method" [(.builtin "type.__prepare__"), (.type "type")], D [e P "__module__" 302 (s "foreheads.errors" 194), e P "__qualname__" 304 (s "InvalidLine" 303), e P "__firstlineno__" 306 (i 22 305), e P "__init__" 315 (r 113), e P "__static_attributes__" 317 (r 114), e P "__classcell__" 318 (r 101)] 6, { cls := (.type "cell"), data := .cell (some (r 116)) }, T [], F [(i 24 0), (i 4 0), (r 112)], C "InvalidLine" "InvalidLine" 297 22 0 0 102 false 181 103 [.none, .none, .none, .none] 300 f0, { cls := (.type "frame"), data := .plain, slots := ⟨[some (r 104), some (r 3), some (r 100), none, some (s "foreheads.errors" 194), none, some (r 0)]⟩ }, T [(r 101)], T [(s "__class__" 310)], F [], T [(s "self" 311), (s "word" 312)], T [], N (L2.inClass (FH.topS 6) 0) "__init__" "InvalidLine.__init__" 0 [] .none .none, C "__init__" "InvalidLine.__init__" 307 24 2 3 107 true 181 108 [.none, (r 109), (r 110), (r 111)] 313 f0, M (L2.inClass (FH.topS 6) 0) "__init__" "InvalidLine.__init__" 3 [("__class__", 101)] .none .none (s "foreheads.errors" 194) (r 112) (r 106), T [(s "word" 316)], D [e P "__module__" 302 (s "foreheads.errors" 194), e P "__firstlineno__" 306 (i 22 305), e P "__init__" 315 (r 113), e P "__static_attributes__" 317 (r 114), e P "__doc__" 319 .none] 3, { cls := (.type "type"), data := .cls { name := "InvalidLine", bases := [(r 31)], mro := [(r 116), (r 31), (.type "ValueError"), (.type "Exception"), (.type "BaseException"), (.type "object")], ns := 115, qualname := "InvalidLine", hasDict := true, slotNames := [], subclasses := [], abstract := false, collection := none, hasDel := false }, slots := ⟨[some (r 98), none, some (s "InvalidLine" 295), some (s "InvalidLine" 303), some (.builtin "ValueError.__new__"), some (.bool true)]⟩ }, G "super" [(r 116), (r 116), (r 116)], G "builtin_function_or_method" [(.builtin "object.__init_subclass__"), (r 116)], T [(r 31)], G "builtin_function_or_method" [(.builtin "type.__prepare__"), (.type "type")], D [e P "__module__" 329 (s "foreheads.errors" 194), e P "__qualname__" 331 (s "InvalidText" 330), e P "__firstlineno__" 333 (i 27 332), e P "__init__" 342 (r 134), e P "__static_attributes__" 344 (r 135), e P "__classcell__" 345 (r 122)] 6, { cls := (.type "cell"), data := .cell (some (r 137)) }, T [], F [(i 29 0), (i 4 0), (r 133)], C "InvalidText" "InvalidText" 324 27 0 0 123 false 181 124 [.none, .none, .none, .none] 327 f0, { cls := (.type "frame"), data := .plain, slots := ⟨[some (r 125), some (r 3), some (r 121), none, some (s "foreheads.errors" 194), none, some (r 0)]⟩ }, T [(r 122)], T [(s "__class__" 337)], F [], T [(s "self" 338), (s "at" 339)], T [], N (L2.inClass (FH.topS 7) 0) "__init__" "InvalidText.__init__" 0 [] .none .none, C "__init__" "InvalidText.__init__" 334 29 2 3 128 true 181 129 [.none, (r 130), (r 131), (r 132)] 340 f0, M (L2.inClass (FH.topS 7) 0) "__init__" "InvalidText.__init__" 3 [("__class__", 122)] .none .none (s "foreheads.errors" 194) (r 133) (r 127)]
def n1_2 (P : Params) : List Obj := [T [(s "at" 343)], D [e P "__module__" 329 (s "foreheads.errors" 194), e P "__firstlineno__" 333 (i 27 332), e P "__init__" 342 (r 134), e P "__static_attributes__" 344 (r 135), e P "__doc__" 346 .none] 3, { cls := (.type "type"), data := .cls { name := "InvalidText", bases := [(r 31)], mro := [(r 137), (r 31), (.type "ValueError"), (.type "Exception"), (.type "BaseException"), (.type "object")], ns := 136, qualname := "InvalidText", hasDict := true, slotNames := [], subclasses := [], abstract := false, collection := none, hasDel := false }, slots := ⟨[some (r 119), none, some (s "InvalidText" 322), some (s "InvalidText" 330), some (.builtin "ValueError.__new__"), some (.bool true)]⟩ }, G "super" [(r 137), (r 137), (r 137)], G "builtin_function_or_method" [(.builtin "object.__init_subclass__"), (r 137)], T [(r 31)], G "builtin_function_or_method" [(.builtin "type.__prepare__"), (.type "type")], D [e P "__module__" 356 (s "foreheads.errors" 194), e P "__qualname__" 358 (s "Untrue" 357), e P "__firstlineno__" 360 (i 32 359), e P "__init__" 369 (r 155), e P "__static_attributes__" 371 (r 156), e P "__classcell__" 372 (r 143)] 6, { cls := (.type "cell"), data := .cell (some (r 158)) }, T [], F [(i 34 0), (i 4 0), (r 154)], C "Untrue" "Untrue" 351 32 0 0 144 false 181 145 [.none, .none, .none, .none] 354 f0, { cls := (.type "frame"), data := .plain, slots := ⟨[some (r 146), some (r 3), some (r 142), none, some (s "foreheads.errors" 194), none, some (r 0)]⟩ }, T [(r 143)], T [(s "__class__" 364)], F [], T [(s "self" 365), (s "at" 366)], T [], N (L2.inClass (FH.topS 8) 0) "__init__" "Untrue.__init__" 0 [] .none .none, C "__init__" "Untrue.__init__" 361 34 2 3 149 true 181 150 [.none, (r 151), (r 152), (r 153)] 367 f0, M (L2.inClass (FH.topS 8) 0) "__init__" "Untrue.__init__" 3 [("__class__", 143)] .none .none (s "foreheads.errors" 194) (r 154) (r 148), T [(s "at" 370)], D [e P "__module__" 356 (s "foreheads.errors" 194), e P "__firstlineno__" 360 (i 32 359), e P "__init__" 369 (r 155), e P "__static_attributes__" 371 (r 156), e P "__doc__" 373 .none] 3, { cls := (.type "type"), data := .cls { name := "Untrue", bases := [(r 31)], mro := [(r 158), (r 31), (.type "ValueError"), (.type "Exception"), (.type "BaseException"), (.type "object")], ns := 157, qualname := "Untrue", hasDict := true, slotNames := [], subclasses := [], abstract := false, collection := none, hasDel := false }, slots := ⟨[some (r 140), none, some (s "Untrue" 349), some (s "Untrue" 357), some (.builtin "ValueError.__new__"), some (.bool true)]⟩ }, G "super" [(r 158), (r 158), (r 158)], G "builtin_function_or_method" [(.builtin "object.__init_subclass__"), (r 158)], T [(.type "IndexError")], G "builtin_function_or_method" [(.builtin "type.__prepare__"), (.type "type")], D [e P "__module__" 383 (s "foreheads.errors" 194), e P "__qualname__" 385 (s "NoRow" 384), e P "__firstlineno__" 387 (i 37 386), e P "__init__" 396 (r 176), e P "__static_attributes__" 398 (r 177), e P "__classcell__" 399 (r 164)] 6, { cls := (.type "cell"), data := .cell (some (r 179)) }, T [], F [(i 39 0), (i 4 0), (r 175)], C "NoRow" "NoRow" 378 37 0 0 165 false 181 166 [.none, .none, .none, .none] 381 f0, { cls := (.type "frame"), data := .plain, slots := ⟨[some (r 167), some (r 3), some (r 163), none, some (s "foreheads.errors" 194), none, some (r 0)]⟩ }, T [(r 164)], T [(s "__class__" 391)], F [], T [(s "self" 392), (s "at" 393)], T [], N (L2.inClass (FH.topS 9) 0) "__init__" "NoRow.__init__" 0 [] .none .none, C "__init__" "NoRow.__init__" 388 39 2 3 170 true 181 171 [.none, (r 172), (r 173), (r 174)] 394 f0, M (L2.inClass (FH.topS 9) 0) "__init__" "NoRow.__init__" 3 [("__class__", 164)] .none .none (s "foreheads.errors" 194) (r 175) (r 169), T [(s "at" 397)], D [e P "__module__" 383 (s "foreheads.errors" 194), e P "__firstlineno__" 387 (i 37 386), e P "__init__" 396 (r 176), e P "__static_attributes__" 398 (r 177), e P "__weakref__" 401 (r 180), e P "__doc__" 402 .none] 4, { cls := (.type "type"), data := .cls { name := "NoRow", bases := [(.type "IndexError")], mro := [(r 179), (.type "IndexError"), (.type "LookupError"), (.type "Exception"), (.type "BaseException"), (.type "object")], ns := 178, qualname := "NoRow", hasDict := true, slotNames := [], subclasses := [], abstract := false, collection := none, hasDel := false }, slots := ⟨[some (r 161), none, some (s "NoRow" 376), some (s "NoRow" 384), some (.builtin "IndexError.__new__"), some (.bool true)]⟩ }, G "getset_descriptor" [(s "__weakref__" 400), (r 179), (.builtin "ExceptionGroup.__weakref__"), .none], G "super" [(r 179), (r 179), (r 179)], G "builtin_function_or_method" [(.builtin "object.__init_subclass__"), (r 179)], T [(s "marked" 409), (s "plain" 410)], T [], F [], T [(s "value" 415)], T [], N (FH.topS 12) "is_integer" "is_integer" 0 [] .none .none, C "is_integer" "is_integer" 412 44 1 3 184 true 181 185 [.none, (r 186), (r 187), (r 188)] 416 f0, M (FH.topS 12) "is_integer" "is_integer" 3 [] .none .none (s "foreheads.words" 407) (r 189) .none, T [], F [], T [(s "value" 422)], T []]
def n1_3 (P : Params) : List Obj := [N (FH.topS 13) "is_number" "is_number" 0 [] .none .none, C "is_number" "is_number" 419 46 1 3 191 true 181 192 [.none, (r 193), (r 194), (r 195)] 423 f0, M (FH.topS 13) "is_number" "is_number" 3 [] .none .none (s "foreheads.words" 407) (r 196) .none, T [], F [], T [(s "value" 429)], T [], N (FH.topS 14) "is_kind" "is_kind" 0 [] .none .none, C "is_kind" "is_kind" 426 48 1 3 198 true 181 199 [.none, (r 200), (r 201), (r 202)] 430 f0, M (FH.topS 14) "is_kind" "is_kind" 3 [] .none .none (s "foreheads.words" 407) (r 203) .none, T [], F [], T [(s "value" 436)], T [], N (FH.topS 15) "is_sequence" "is_sequence" 0 [] .none .none, C "is_sequence" "is_sequence" 433 50 1 3 205 true 181 206 [.none, (r 207), (r 208), (r 209)] 437 f0, M (FH.topS 15) "is_sequence" "is_sequence" 3 [] .none .none (s "foreheads.words" 407) (r 210) .none, T [], F [], T [(s "value" 443)], T [], N (FH.topS 16) "is_crowd" "is_crowd" 0 [] .none .none, C "is_crowd" "is_crowd" 440 52 1 3 212 true 181 213 [.none, (r 214), (r 215), (r 216)] 444 f0, M (FH.topS 16) "is_crowd" "is_crowd" 3 [] .none .none (s "foreheads.words" 407) (r 217) .none, T [], F [], T [(s "one" 450), (s "other" 451), (s "first" 452), (s "second" 453)], T [], N (FH.topS 17) "common_multiple" "common_multiple" 0 [] .none .none, C "common_multiple" "common_multiple" 447 54 2 3 219 true 181 220 [.none, (r 221), (r 222), (r 223)] 454 f0, M (FH.topS 17) "common_multiple" "common_multiple" 3 [] .none .none (s "foreheads.words" 407) (r 224) .none, T [], F [], N (FH.topS 19) "held" "held" 0 [] .none .none, C "held" "held" 459 60 3 3 226 true 181 227 [.none, .none, .none, (r 228)] 462 f0, M (FH.topS 19) "held" "held" 3 [] .none .none (s "foreheads.lines" 457) (r 229) .none, T [], F [], T [(s "sign" 469), (s "one" 470), (s "other" 471)], T [], N (FH.topS 21) "signed" "signed" 0 [] .none .none, C "signed" "signed" 466 82 3 3 231 true 181 232 [.none, (r 233), (r 234), (r 235)] 472 f0, M (FH.topS 21) "signed" "signed" 3 [] .none .none (s "foreheads.lines" 457) (r 236) .none, T [], F [], T [(s "kind" 478), (s "one" 479), (s "people" 480)], T [], N (FH.topS 22) "count" "count" 0 [] .none .none, C "count" "count" 475 88 3 3 238 true 181 239 [.none, (r 240), (r 241), (r 242)] 481 f0, M (FH.topS 22) "count" "count" 3 [] .none .none (s "foreheads.lines" 457) (r 243) .none, T [], F [], T [(s "kind" 487), (s "one" 488)], T [], N (FH.topS 23) "edge_of" "edge_of" 0 [] .none .none, C "edge_of" "edge_of" 484 90 2 3 245 true 181 246 [.none, (r 247), (r 248), (r 249)] 489 f0, M (FH.topS 23) "edge_of" "edge_of" 3 [] .none .none (s "foreheads.lines" 457) (r 250) .none, T [], F [], T [(s "kind" 495), (s "first" 496), (s "edges" 497), (s "people" 498), (s "found" 499), (s "one" 500), (s "other" 501)]]
def n1_4 (P : Params) : List Obj := [T [], N (FH.topS 24) "known" "known" 0 [] .none .none, C "known" "known" 492 92 3 3 252 true 181 253 [.none, (r 254), (r 255), (r 256)] 502 f0, M (FH.topS 24) "known" "known" 3 [] .none .none (s "foreheads.lines" 457) (r 257) .none, T [], F [], T [(s "first" 508), (s "edges" 509), (s "found" 510), (s "one" 511)], T [], N (FH.topS 25) "shared_by_all" "shared_by_all" 0 [] .none .none, C "shared_by_all" "shared_by_all" 505 102 2 3 259 true 181 260 [.none, (r 261), (r 262), (r 263)] 512 f0, M (FH.topS 25) "shared_by_all" "shared_by_all" 3 [] .none .none (s "foreheads.lines" 457) (r 264) .none, T [], F [], N (FH.topS 26) "knowing" "knowing" 0 [] .none .none, C "knowing" "knowing" 515 109 1 3 266 true 181 267 [.none, .none, .none, (r 268)] 518 f0, M (FH.topS 26) "knowing" "knowing" 3 [] .none .none (s "foreheads.lines" 457) (r 269) .none, T [], F [], N (FH.topS 27) "parted" "parted" 0 [] .none .none, C "parted" "parted" 521 112 2 3 271 true 181 272 [.none, .none, .none, (r 273)] 524 f0, M (FH.topS 27) "parted" "parted" 3 [] .none .none (s "foreheads.lines" 457) (r 274) .none, T [], F [], T [(s "first" 530), (s "edges" 531), (s "people" 532), (s "marked" 533), (s "plain" 534), (s "found" 535), (s "one" 536), (s "mine" 537), (s "others" 538)], T [], N (FH.topS 28) "lifted" "lifted" 0 [] .none .none, C "lifted" "lifted" 527 114 2 3 276 true 181 277 [.none, (r 278), (r 279), (r 280)] 539 f0, M (FH.topS 28) "lifted" "lifted" 3 [] .none .none (s "foreheads.lines" 457) (r 281) .none, T [], F [], N (FH.topS 29) "done" "done" 0 [] .none .none, C "done" "done" 542 123 3 3 283 true 181 284 [.none, .none, .none, (r 285)] 545 f0, M (FH.topS 29) "done" "done" 3 [] .none .none (s "foreheads.lines" 457) (r 286) .none, T [], F [], N (FH.topS 30) "part_of" "part_of" 0 [] .none .none, C "part_of" "part_of" 548 145 3 3 288 true 181 289 [.none, .none, .none, (r 290)] 551 f0, M (FH.topS 30) "part_of" "part_of" 3 [] .none .none (s "foreheads.lines" 457) (r 291) .none, T [], F [], T [(s "rows" 557), (s "goes" 558), (s "edges" 559), (s "row" 560)], T [], N (FH.topS 31) "all_done" "all_done" 0 [] .none .none, C "all_done" "all_done" 554 148 3 3 293 true 181 294 [.none, (r 295), (r 296), (r 297)] 561 f0, M (FH.topS 31) "all_done" "all_done" 3 [] .none .none (s "foreheads.lines" 457) (r 298) .none, T [], F [], N (FH.topS 32) "numbers_of" "numbers_of" 0 [] .none .none, C "numbers_of" "numbers_of" 564 152 4 3 300 true 181 301 [.none, .none, .none, (r 302)] 567 f0, M (FH.topS 32) "numbers_of" "numbers_of" 3 [] .none .none (s "foreheads.lines" 457) (r 303) .none, T [], F [], N (FH.topS 33) "where_true" "where_true" 0 [] .none .none, C "where_true" "where_true" 570 156 1 3 305 true 181 306 [.none, .none, .none, (r 307)] 573 f0, M (FH.topS 33) "where_true" "where_true" 3 [] .none .none (s "foreheads.lines" 457) (r 308) .none, T [], G "builtin_function_or_method" [(.builtin "type.__prepare__"), (.type "type")], D [e P "__module__" 583 (s "foreheads.lines" 457), e P "__qualname__" 585 (s "Line" 584), e P "__firstlineno__" 587 (i 158 586), e P "__init__" 593 (r 322), e P "stand" 599 (r 327), e P "where" 605 (r 332), e P "after" 615 (r 339), e P "__eq__" 623 (r 346), e P "__static_attributes__" 627 (r 347)] 9, T [], F [(i 160 0), (i 4 0), (r 321), (i 170 0), (i 4 0), (r 326), (i 174 0), (i 4 0), (r 331), (i 179 0), (i 4 0), (r 338), (i 184 0), (i 4 0), (r 345)]]
def n1_5 (P : Params) : List Obj := [C "Line" "Line" 578 158 0 0 313 false 181 314 [.none, .none, .none, .none] 581 f0, { cls := (.type "frame"), data := .plain, slots := ⟨[some (r 315), some (r 3), some (r 312), none, some (s "foreheads.lines" 457), none, some (r 0)]⟩ }, T [.none, .none], T [], F [], N (L2.inClass (FH.topS 34) 0) "__init__" "Line.__init__" 0 [] .none .none, C "__init__" "Line.__init__" 588 160 4 3 318 true 181 319 [.none, .none, .none, (r 320)] 591 f0, M (L2.inClass (FH.topS 34) 0) "__init__" "Line.__init__" 3 [] (r 317) .none (s "foreheads.lines" 457) (r 321) .none, T [], F [], N (L2.inClass (FH.topS 34) 1) "stand" "Line.stand" 0 [] .none .none, C "stand" "Line.stand" 594 170 1 3 323 true 181 324 [.none, .none, .none, (r 325)] 597 f0, M (L2.inClass (FH.topS 34) 1) "stand" "Line.stand" 3 [] .none .none (s "foreheads.lines" 457) (r 326) .none, T [], F [], N (L2.inClass (FH.topS 34) 2) "where" "Line.where" 0 [] .none .none, C "where" "Line.where" 600 174 2 3 328 true 181 329 [.none, .none, .none, (r 330)] 603 f0, M (L2.inClass (FH.topS 34) 2) "where" "Line.where" 3 [] .none .none (s "foreheads.lines" 457) (r 331) .none, T [], F [], T [(s "self" 609), (s "talk" 610), (s "goes" 611), (s "edges" 612)], T [], N (L2.inClass (FH.topS 34) 3) "after" "Line.after" 0 [] .none .none, C "after" "Line.after" 606 179 2 3 333 true 181 334 [.none, (r 335), (r 336), (r 337)] 613 f0, M (L2.inClass (FH.topS 34) 3) "after" "Line.after" 3 [] .none .none (s "foreheads.lines" 457) (r 338) .none, T [], F [], T [(s "self" 619), (s "other" 620)], T [], N (L2.inClass (FH.topS 34) 4) "__eq__" "Line.__eq__" 0 [] .none .none, C "__eq__" "Line.__eq__" 616 184 2 3 340 true 181 341 [.none, (r 342), (r 343), (r 344)] 621 f0, M (L2.inClass (FH.topS 34) 4) "__eq__" "Line.__eq__" 3 [] .none .none (s "foreheads.lines" 457) (r 345) .none, T [(s "edges" 624), (s "goes" 625), (s "people" 626)], D [e P "__module__" 583 (s "foreheads.lines" 457), e P "__firstlineno__" 587 (i 158 586), e P "__init__" 593 (r 322), e P "stand" 599 (r 327), e P "where" 605 (r 332), e P "after" 615 (r 339), e P "__eq__" 623 (r 346), e P "__static_attributes__" 627 (r 347), e P "__dict__" 629 (r 350), e P "__weakref__" 631 (r 351), e P "__doc__" 632 .none, e P "__hash__" 633 .none] 5, { cls := (.type "type"), data := .cls { name := "Line", bases := [(.type "object")], mro := [(r 349), (.type "object")], ns := 348, qualname := "Line", hasDict := true, slotNames := [], subclasses := [], abstract := false, collection := none, hasDel := false }, slots := ⟨[none, none, some (s "Line" 576), some (s "Line" 584), some (.builtin "object.__new__"), some (.bool true)]⟩ }, G "getset_descriptor" [(s "__dict__" 628), (r 349), (.builtin "function.__dict__"), (.builtin "function.__dict__#set")], G "getset_descriptor" [(s "__weakref__" 630), (r 349), (.builtin "ExceptionGroup.__weakref__"), .none], G "super" [(r 349), (r 349), (r 349)], G "builtin_function_or_method" [(.builtin "object.__init_subclass__"), (r 349)], T [], F [], N (FH.topS 38) "is_table" "is_table" 0 [] .none .none, C "is_table" "is_table" 642 191 3 3 354 true 181 355 [.none, .none, .none, (r 356)] 645 f0, M (FH.topS 38) "is_table" "is_table" 3 [] .none .none (s "foreheads.crowds" 636) (r 357) .none, T [], F [], N (FH.topS 39) "checked" "checked" 0 [] .none .none, C "checked" "checked" 648 195 3 3 359 true 181 360 [.none, .none, .none, (r 361)] 651 f0, M (FH.topS 39) "checked" "checked" 3 [] .none .none (s "foreheads.crowds" 636) (r 362) .none, T [], F [], T [(s "rows" 657), (s "start" 658), (s "period" 659), (s "tail" 660), (s "best" 661), (s "first" 662), (s "size" 663)], T [], N (FH.topS 40) "least_way" "least_way" 0 [] .none .none, C "least_way" "least_way" 654 205 3 3 364 true 181 365 [.none, (r 366), (r 367), (r 368)] 664 f0, M (FH.topS 40) "least_way" "least_way" 3 [] .none .none (s "foreheads.crowds" 636) (r 369) .none, T [], F [], N (FH.topS 41) "columns_of" "columns_of" 0 [] .none .none, C "columns_of" "columns_of" 667 213 1 3 371 true 181 372 [.none, .none, .none, (r 373)] 670 f0]
def n1_6 (P : Params) : List Obj := [M (FH.topS 41) "columns_of" "columns_of" 3 [] .none .none (s "foreheads.crowds" 636) (r 374) .none, T [], F [], T [(s "number" 676), (s "start" 677), (s "period" 678)], T [], N (FH.topS 42) "place_of" "place_of" 0 [] .none .none, C "place_of" "place_of" 673 215 3 3 376 true 181 377 [.none, (r 378), (r 379), (r 380)] 679 f0, M (FH.topS 42) "place_of" "place_of" 3 [] .none .none (s "foreheads.crowds" 636) (r 381) .none, T [], F [], N (FH.topS 43) "widened" "widened" 0 [] .none .none, C "widened" "widened" 682 217 5 3 383 true 181 384 [.none, .none, .none, (r 385)] 685 f0, M (FH.topS 43) "widened" "widened" 3 [] .none .none (s "foreheads.crowds" 636) (r 386) .none, T [], F [], N (FH.topS 44) "both_tables" "both_tables" 0 [] .none .none, C "both_tables" "both_tables" 688 221 2 3 388 true 181 389 [.none, .none, .none, (r 390)] 691 f0, M (FH.topS 44) "both_tables" "both_tables" 3 [] .none .none (s "foreheads.crowds" 636) (r 391) .none, T [], F [], N (FH.topS 45) "signs_of" "signs_of" 0 [] .none .none, C "signs_of" "signs_of" 694 226 3 3 393 true 181 394 [.none, .none, .none, (r 395)] 697 f0, M (FH.topS 45) "signs_of" "signs_of" 3 [] .none .none (s "foreheads.crowds" 636) (r 396) .none, T [], F [], T [(s "one" 703), (s "other" 704), (s "signs" 705), (s "starts" 706), (s "periods" 707), (s "some" 708), (s "others" 709)], T [], N (FH.topS 46) "combined" "combined" 0 [] .none .none, C "combined" "combined" 700 228 3 3 398 true 181 399 [.none, (r 400), (r 401), (r 402)] 710 f0, M (FH.topS 46) "combined" "combined" 3 [] .none .none (s "foreheads.crowds" 636) (r 403) .none, T [], F [], N (FH.topS 47) "is_within" "is_within" 0 [] .none .none, C "is_within" "is_within" 713 231 2 3 405 true 181 406 [.none, .none, .none, (r 407)] 716 f0, M (FH.topS 47) "is_within" "is_within" 3 [] .none .none (s "foreheads.crowds" 636) (r 408) .none]
def u1 (P : Params) : List (Nat × (Obj → Obj)) := [(2, fun _ => { cls := .none, data := .dict ⟨[e P "type.__subclasses__.IndexError.0" 403 (i 179 0), e P "type.__subclasses__.IndexError.n" 404 (i 1 0)]⟩ 2 }), (3, fun _ => D [e P "__name__" 165 (s "foreheads.crowds" 636), e P "__doc__" 166 .none, e P "__package__" 167 .none, e P "__loader__" 168 (.builtin "__main__.__loader__#opaque"), e P "__spec__" 169 .none, e P "__annotations__" 170 (r 6), e P "__builtins__" 171 (r 4), e P "__file__" 173 (s "/claim/cut.py" 172), e P "__cached__" 174 .none, e P "_wall" 193 (r 21), e P "KnowError" 213 (r 31), e P "InvalidCrowds" 240 (r 53), e P "InvalidSaying" 267 (r 74), e P "InvalidTalk" 294 (r 95), e P "InvalidLine" 321 (r 116), e P "InvalidText" 348 (r 137), e P "Untrue" 375 (r 158), e P "NoRow" 406 (r 179), e P "KINDS" 411 (r 183), e P "is_integer" 418 (r 190), e P "is_number" 425 (r 197), e P "is_kind" 432 (r 204), e P "is_sequence" 439 (r 211), e P "is_crowd" 446 (r 218), e P "common_multiple" 456 (r 225), e P "held" 464 (r 230), e P "held_lines" 465 (r 230), e P "signed" 474 (r 237), e P "count" 483 (r 244), e P "edge_of" 491 (r 251), e P "known" 504 (r 258), e P "shared_by_all" 514 (r 265), e P "knowing" 520 (r 270), e P "parted" 526 (r 275), e P "lifted" 541 (r 282), e P "done" 547 (r 287), e P "part_of" 553 (r 292), e P "all_done" 563 (r 299), e P "numbers_of" 569 (r 304), e P "where_true" 575 (r 309), e P "Line" 635 (r 349), e P "IN" 639 (s "+" 638), e P "NOT_IN" 641 (s "-" 640), e P "is_table" 647 (r 358), e P "checked" 653 (r 363), e P "least_way" 666 (r 370), e P "columns_of" 672 (r 375), e P "place_of" 681 (r 382), e P "widened" 687 (r 387), e P "both_tables" 693 (r 392), e P "signs_of" 699 (r 397), e P "combined" 712 (r 404), e P "is_within" 718 (r 409)] 53), (12, fun _ => F [(i 1 0), z, (r 20), (i 5 0), z, (r 27), (i 7 0), z, (r 41), (i 12 0), z, (r 62), (i 17 0), z, (r 83), (i 22 0), z, (r 104), (i 27 0), z, (r 125), (i 32 0), z, (r 146), (i 37 0), z, (r 167), (i 44 0), z, (r 189), (i 46 0), z, (r 196), (i 48 0), z, (r 203), (i 50 0), z, (r 210), (i 52 0), z, (r 217), (i 54 0), z, (r 224), (i 60 0), z, (r 229), (i 82 0), z, (r 236), (i 88 0), z, (r 243), (i 90 0), z, (r 250), (i 92 0), z, (r 257), (i 102 0), z, (r 264), (i 109 0), z, (r 269), (i 112 0), z, (r 274), (i 114 0), z, (r 281), (i 123 0), z, (r 286), (i 145 0), z, (r 291), (i 148 0), z, (r 298), (i 152 0), z, (r 303), (i 156 0), z, (r 308), (i 158 0), z, (r 315), (i 191 0), z, (r 357), (i 195 0), z, (r 362), (i 205 0), z, (r 369), (i 213 0), z, (r 374), (i 215 0), z, (r 381), (i 217 0), z, (r 386), (i 221 0), z, (r 391), (i 226 0), z, (r 396), (i 228 0), z, (r 403), (i 231 0), z, (r 408)])]
def o1 (P : Params) : List Obj := ovr (o0 P) 0 (u1 P)
  ++ (n1_0 P ++ (n1_1 P ++ (n1_2 P ++ (n1_3 P ++ (n1_4 P ++ (n1_5 P ++ (n1_6 P)))))))
def S1 (w : World) (os : OsState) : SharedT := st (o1 w.params) 410 719 os
def n2_0 (P : Params) : List Obj := [T [], F [], N (FH.topS 48) "made_by" "made_by" 0 [] .none .none, C "made_by" "made_by" 719 234 3 3 410 true 181 411 [.none, .none, .none, (r 412)] 722 f0, M (FH.topS 48) "made_by" "made_by" 3 [] .none .none (s "foreheads.crowds" 636) (r 413) .none, T [], G "builtin_function_or_method" [(.builtin "type.__prepare__"), (.type "type")], D [e P "__module__" 732 (s "foreheads.crowds" 636), e P "__qualname__" 734 (s "Crowds" 733), e P "__firstlineno__" 736 (i 239 735), e P "__init__" 752 (r 428), e P "nothing" 771 (r 437), e P "every" 790 (r 447), e P "of" 808 (r 455), e P "at_least" 829 (r 465), e P "leaving" 851 (r 475), e P "__and__" 859 (r 483), e P "__or__" 867 (r 490), e P "__sub__" 875 (r 497), e P "__xor__" 883 (r 504), e P "__invert__" 890 (r 511), e P "__eq__" 898 (r 518), e P "__le__" 906 (r 525), e P "__lt__" 914 (r 532), e P "__ge__" 922 (r 539), e P "__gt__" 930 (r 546), e P "__contains__" 938 (r 553), e P "__bool__" 944 (r 558), e P "__str__" 950 (r 563), e P "sign" 960 (r 570), e P "least" 972 (r 578), e P "size" 979 (r 584), e P "marked_in" 987 (r 591), e P "beside" 995 (r 598), e P "__static_attributes__" 999 (r 599)] 28, T [], F [(i 241 0), (i 4 0), (r 427), (i 250 0), (i 4 0), (r 434), (i 254 0), (i 4 0), (r 444), (i 258 0), (i 4 0), (r 452), (i 265 0), (i 4 0), (r 462), (i 269 0), (i 4 0), (r 472), (i 272 0), (i 4 0), (r 482), (i 277 0), (i 4 0), (r 489), (i 282 0), (i 4 0), (r 496), (i 287 0), (i 4 0), (r 503), (i 292 0), (i 4 0), (r 510), (i 295 0), (i 4 0), (r 517), (i 300 0), (i 4 0), (r 524), (i 305 0), (i 4 0), (r 531), (i 310 0), (i 4 0), (r 538), (i 315 0), (i 4 0), (r 545), (i 320 0), (i 4 0), (r 552), (i 323 0), (i 4 0), (r 557), (i 326 0), (i 4 0), (r 562), (i 330 0), (i 4 0), (r 569), (i 335 0), (i 4 0), (r 576), (i 344 0), (i 4 0), (r 582), (i 349 0), (i 4 0), (r 590), (i 352 0), (i 4 0), (r 597)], C "Crowds" "Crowds" 727 239 0 0 418 false 181 419 [.none, .none, .none, .none] 730 f0, { cls := (.type "frame"), data := .plain, slots := ⟨[some (r 420), some (r 3), some (r 417), none, some (s "foreheads.crowds" 636), none, some (r 0)]⟩ }, T [], F [], T [(s "self" 740), (s "starts" 741), (s "periods" 742), (s "rows" 743), (s "given" 744), (s "first" 745), (s "tall" 746), (s "second" 747), (s "wide" 748), (s "columns" 749)], T [], N (L2.inClass (FH.topS 49) 0) "__init__" "Crowds.__init__" 0 [] .none .none, C "__init__" "Crowds.__init__" 737 241 4 3 422 true 181 423 [.none, (r 424), (r 425), (r 426)] 750 f0, M (L2.inClass (FH.topS 49) 0) "__init__" "Crowds.__init__" 3 [] .none .none (s "foreheads.crowds" 636) (r 427) .none, T [], F [], T [(s "cls" 756)], T [], N (L2.inClass (FH.topS 49) 1) "nothing" "Crowds.nothing" 0 [] .none .none, C "nothing" "Crowds.nothing" 753 249 1 3 429 true 181 430 [.none, (r 431), (r 432), (r 433)] 757 f0, A 438 (M (L2.inClass (FH.topS 49) 1) "nothing" "Crowds.nothing" 3 [] .none .none (s "foreheads.crowds" 636) (r 434) .none), D [e P "__module__" 760 (s "foreheads.crowds" 636), e P "__name__" 763 (s "nothing" 762), e P "__qualname__" 766 (s "Crowds.nothing" 765), e P "__doc__" 768 .none, e P "__annotations__" 770 (r 438)] 5, { (G "classmethod" [(r 435), (.bool false)]) with dict := some 436 }, D [] 0, T [], F [], T [(s "cls" 775)], T [], N (L2.inClass (FH.topS 49) 2) "every" "Crowds.every" 0 [] .none .none, C "every" "Crowds.every" 772 253 1 3 439 true 181 440 [.none, (r 441), (r 442), (r 443)] 776 f0, A 448 (M (L2.inClass (FH.topS 49) 2) "every" "Crowds.every" 3 [] .none .none (s "foreheads.crowds" 636) (r 444) .none), D [e P "__module__" 779 (s "foreheads.crowds" 636), e P "__name__" 782 (s "every" 781), e P "__qualname__" 785 (s "Crowds.every" 784), e P "__doc__" 787 .none, e P "__annotations__" 789 (r 448)] 5, { (G "classmethod" [(r 445), (.bool false)]) with dict := some 446 }, D [] 0, T [], F [], N (L2.inClass (FH.topS 49) 3) "of" "Crowds.of" 0 [] .none .none, C "of" "Crowds.of" 791 257 2 3 449 true 181 450 [.none, .none, .none, (r 451)] 794 f0, A 456 (M (L2.inClass (FH.topS 49) 3) "of" "Crowds.of" 3 [] .none .none (s "foreheads.crowds" 636) (r 452) .none), D [e P "__module__" 797 (s "foreheads.crowds" 636), e P "__name__" 800 (s "of" 799), e P "__qualname__" 803 (s "Crowds.of" 802), e P "__doc__" 805 .none, e P "__annotations__" 807 (r 456)] 5, { (G "classmethod" [(r 453), (.bool false)]) with dict := some 454 }, D [] 0, T [], F [], T [(s "cls" 812), (s "kind" 813), (s "number" 814)], T [], N (L2.inClass (FH.topS 49) 4) "at_least" "Crowds.at_least" 0 [] .none .none, C "at_least" "Crowds.at_least" 809 264 3 3 457 true 181 458 [.none, (r 459), (r 460), (r 461)] 815 f0, A 466 (M (L2.inClass (FH.topS 49) 4) "at_least" "Crowds.at_least" 3 [] .none .none (s "foreheads.crowds" 636) (r 462) .none), D [e P "__module__" 818 (s "foreheads.crowds" 636), e P "__name__" 821 (s "at_least" 820), e P "__qualname__" 824 (s "Crowds.at_least" 823), e P "__doc__" 826 .none, e P "__annotations__" 828 (r 466)] 5, { (G "classmethod" [(r 463), (.bool false)]) with dict := some 464 }, D [] 0, T [], F [], T [(s "cls" 833), (s "kind" 834), (s "rest" 835), (s "period" 836)]]
def n2_1 (P : Params) : List Obj := [T [], N (L2.inClass (FH.topS 49) 5) "leaving" "Crowds.leaving" 0 [] .none .none, C "leaving" "Crowds.leaving" 830 268 4 3 467 true 181 468 [.none, (r 469), (r 470), (r 471)] 837 f0, A 476 (M (L2.inClass (FH.topS 49) 5) "leaving" "Crowds.leaving" 3 [] .none .none (s "foreheads.crowds" 636) (r 472) .none), D [e P "__module__" 840 (s "foreheads.crowds" 636), e P "__name__" 843 (s "leaving" 842), e P "__qualname__" 846 (s "Crowds.leaving" 845), e P "__doc__" 848 .none, e P "__annotations__" 850 (r 476)] 5, { (G "classmethod" [(r 473), (.bool false)]) with dict := some 474 }, D [] 0, T [], F [], T [(s "self" 855), (s "other" 856)], T [], N (L2.inClass (FH.topS 49) 6) "__and__" "Crowds.__and__" 0 [] .none .none, C "__and__" "Crowds.__and__" 852 272 2 3 477 true 181 478 [.none, (r 479), (r 480), (r 481)] 857 f0, M (L2.inClass (FH.topS 49) 6) "__and__" "Crowds.__and__" 3 [] .none .none (s "foreheads.crowds" 636) (r 482) .none, T [], F [], T [(s "self" 863), (s "other" 864)], T [], N (L2.inClass (FH.topS 49) 7) "__or__" "Crowds.__or__" 0 [] .none .none, C "__or__" "Crowds.__or__" 860 277 2 3 484 true 181 485 [.none, (r 486), (r 487), (r 488)] 865 f0, M (L2.inClass (FH.topS 49) 7) "__or__" "Crowds.__or__" 3 [] .none .none (s "foreheads.crowds" 636) (r 489) .none, T [], F [], T [(s "self" 871), (s "other" 872)], T [], N (L2.inClass (FH.topS 49) 8) "__sub__" "Crowds.__sub__" 0 [] .none .none, C "__sub__" "Crowds.__sub__" 868 282 2 3 491 true 181 492 [.none, (r 493), (r 494), (r 495)] 873 f0, M (L2.inClass (FH.topS 49) 8) "__sub__" "Crowds.__sub__" 3 [] .none .none (s "foreheads.crowds" 636) (r 496) .none, T [], F [], T [(s "self" 879), (s "other" 880)], T [], N (L2.inClass (FH.topS 49) 9) "__xor__" "Crowds.__xor__" 0 [] .none .none, C "__xor__" "Crowds.__xor__" 876 287 2 3 498 true 181 499 [.none, (r 500), (r 501), (r 502)] 881 f0, M (L2.inClass (FH.topS 49) 9) "__xor__" "Crowds.__xor__" 3 [] .none .none (s "foreheads.crowds" 636) (r 503) .none, T [], F [], T [(s "self" 887)], T [], N (L2.inClass (FH.topS 49) 10) "__invert__" "Crowds.__invert__" 0 [] .none .none, C "__invert__" "Crowds.__invert__" 884 292 1 3 505 true 181 506 [.none, (r 507), (r 508), (r 509)] 888 f0, M (L2.inClass (FH.topS 49) 10) "__invert__" "Crowds.__invert__" 3 [] .none .none (s "foreheads.crowds" 636) (r 510) .none, T [], F [], T [(s "self" 894), (s "other" 895)], T [], N (L2.inClass (FH.topS 49) 11) "__eq__" "Crowds.__eq__" 0 [] .none .none, C "__eq__" "Crowds.__eq__" 891 295 2 3 512 true 181 513 [.none, (r 514), (r 515), (r 516)] 896 f0, M (L2.inClass (FH.topS 49) 11) "__eq__" "Crowds.__eq__" 3 [] .none .none (s "foreheads.crowds" 636) (r 517) .none, T [], F [], T [(s "self" 902), (s "other" 903)], T [], N (L2.inClass (FH.topS 49) 12) "__le__" "Crowds.__le__" 0 [] .none .none, C "__le__" "Crowds.__le__" 899 300 2 3 519 true 181 520 [.none, (r 521), (r 522), (r 523)] 904 f0, M (L2.inClass (FH.topS 49) 12) "__le__" "Crowds.__le__" 3 [] .none .none (s "foreheads.crowds" 636) (r 524) .none, T [], F [], T [(s "self" 910), (s "other" 911)], T []]
def n2_2 (P : Params) : List Obj := [N (L2.inClass (FH.topS 49) 13) "__lt__" "Crowds.__lt__" 0 [] .none .none, C "__lt__" "Crowds.__lt__" 907 305 2 3 526 true 181 527 [.none, (r 528), (r 529), (r 530)] 912 f0, M (L2.inClass (FH.topS 49) 13) "__lt__" "Crowds.__lt__" 3 [] .none .none (s "foreheads.crowds" 636) (r 531) .none, T [], F [], T [(s "self" 918), (s "other" 919)], T [], N (L2.inClass (FH.topS 49) 14) "__ge__" "Crowds.__ge__" 0 [] .none .none, C "__ge__" "Crowds.__ge__" 915 310 2 3 533 true 181 534 [.none, (r 535), (r 536), (r 537)] 920 f0, M (L2.inClass (FH.topS 49) 14) "__ge__" "Crowds.__ge__" 3 [] .none .none (s "foreheads.crowds" 636) (r 538) .none, T [], F [], T [(s "self" 926), (s "other" 927)], T [], N (L2.inClass (FH.topS 49) 15) "__gt__" "Crowds.__gt__" 0 [] .none .none, C "__gt__" "Crowds.__gt__" 923 315 2 3 540 true 181 541 [.none, (r 542), (r 543), (r 544)] 928 f0, M (L2.inClass (FH.topS 49) 15) "__gt__" "Crowds.__gt__" 3 [] .none .none (s "foreheads.crowds" 636) (r 545) .none, T [], F [], T [(s "self" 934), (s "value" 935)], T [], N (L2.inClass (FH.topS 49) 16) "__contains__" "Crowds.__contains__" 0 [] .none .none, C "__contains__" "Crowds.__contains__" 931 320 2 3 547 true 181 548 [.none, (r 549), (r 550), (r 551)] 936 f0, M (L2.inClass (FH.topS 49) 16) "__contains__" "Crowds.__contains__" 3 [] .none .none (s "foreheads.crowds" 636) (r 552) .none, T [], F [], N (L2.inClass (FH.topS 49) 17) "__bool__" "Crowds.__bool__" 0 [] .none .none, C "__bool__" "Crowds.__bool__" 939 323 1 3 554 true 181 555 [.none, .none, .none, (r 556)] 942 f0, M (L2.inClass (FH.topS 49) 17) "__bool__" "Crowds.__bool__" 3 [] .none .none (s "foreheads.crowds" 636) (r 557) .none, T [], F [], N (L2.inClass (FH.topS 49) 18) "__str__" "Crowds.__str__" 0 [] .none .none, C "__str__" "Crowds.__str__" 945 326 1 3 559 true 181 560 [.none, .none, .none, (r 561)] 948 f0, M (L2.inClass (FH.topS 49) 18) "__str__" "Crowds.__str__" 3 [] .none .none (s "foreheads.crowds" 636) (r 562) .none, T [], F [], T [(s "self" 954), (s "k" 955), (s "l" 956), (s "row" 957)], T [], N (L2.inClass (FH.topS 49) 19) "sign" "Crowds.sign" 0 [] .none .none, C "sign" "Crowds.sign" 951 330 3 3 564 true 181 565 [.none, (r 566), (r 567), (r 568)] 958 f0, M (L2.inClass (FH.topS 49) 19) "sign" "Crowds.sign" 3 [] .none .none (s "foreheads.crowds" 636) (r 569) .none, T [], F [], T [(s "self" 964), (s "found" 965), (s "k" 966), (s "row" 967), (s "l" 968)], T [], N (L2.inClass (FH.topS 49) 20) "least" "Crowds.least" 0 [] .none .none, C "least" "Crowds.least" 961 334 1 3 571 true 181 572 [.none, (r 573), (r 574), (r 575)] 969 f0, M (L2.inClass (FH.topS 49) 20) "least" "Crowds.least" 3 [] .none .none (s "foreheads.crowds" 636) (r 576) .none, G "property" [(r 577), .none, .none, .none, (s "least" 972), (.bool false)], T [], F [], N (L2.inClass (FH.topS 49) 21) "size" "Crowds.size" 0 [] .none .none, C "size" "Crowds.size" 973 343 1 3 579 true 181 580 [.none, .none, .none, (r 581)] 976 f0, M (L2.inClass (FH.topS 49) 21) "size" "Crowds.size" 3 [] .none .none (s "foreheads.crowds" 636) (r 582) .none, G "property" [(r 583), .none, .none, .none, (s "size" 979), (.bool false)], T [], F [], T [(s "self" 983), (s "number" 984)], T [], N (L2.inClass (FH.topS 49) 22) "marked_in" "Crowds.marked_in" 0 [] .none .none]
def n2_3 (P : Params) : List Obj := [C "marked_in" "Crowds.marked_in" 980 349 2 3 585 true 181 586 [.none, (r 587), (r 588), (r 589)] 985 f0, M (L2.inClass (FH.topS 49) 22) "marked_in" "Crowds.marked_in" 3 [] .none .none (s "foreheads.crowds" 636) (r 590) .none, T [], F [], T [(s "self" 991), (s "kind" 992)], T [], N (L2.inClass (FH.topS 49) 23) "beside" "Crowds.beside" 0 [] .none .none, C "beside" "Crowds.beside" 988 352 2 3 592 true 181 593 [.none, (r 594), (r 595), (r 596)] 993 f0, M (L2.inClass (FH.topS 49) 23) "beside" "Crowds.beside" 3 [] .none .none (s "foreheads.crowds" 636) (r 597) .none, T [(s "periods" 996), (s "rows" 997), (s "starts" 998)], D [e P "__module__" 732 (s "foreheads.crowds" 636), e P "__firstlineno__" 736 (i 239 735), e P "__init__" 752 (r 428), e P "nothing" 771 (r 437), e P "every" 790 (r 447), e P "of" 808 (r 455), e P "at_least" 829 (r 465), e P "leaving" 851 (r 475), e P "__and__" 859 (r 483), e P "__or__" 867 (r 490), e P "__sub__" 875 (r 497), e P "__xor__" 883 (r 504), e P "__invert__" 890 (r 511), e P "__eq__" 898 (r 518), e P "__le__" 906 (r 525), e P "__lt__" 914 (r 532), e P "__ge__" 922 (r 539), e P "__gt__" 930 (r 546), e P "__contains__" 938 (r 553), e P "__bool__" 944 (r 558), e P "__str__" 950 (r 563), e P "sign" 960 (r 570), e P "least" 972 (r 578), e P "size" 979 (r 584), e P "marked_in" 987 (r 591), e P "beside" 995 (r 598), e P "__static_attributes__" 999 (r 599), e P "__dict__" 1001 (r 602), e P "__weakref__" 1003 (r 603), e P "__doc__" 1004 .none, e P "__hash__" 1005 .none] 5, { cls := (.type "type"), data := .cls { name := "Crowds", bases := [(.type "object")], mro := [(r 601), (.type "object")], ns := 600, qualname := "Crowds", hasDict := true, slotNames := [], subclasses := [], abstract := false, collection := none, hasDel := false }, slots := ⟨[none, none, some (s "Crowds" 725), some (s "Crowds" 733), some (.builtin "object.__new__"), some (.bool true)]⟩ }, G "getset_descriptor" [(s "__dict__" 1000), (r 601), (.builtin "function.__dict__"), (.builtin "function.__dict__#set")], G "getset_descriptor" [(s "__weakref__" 1002), (r 601), (.builtin "ExceptionGroup.__weakref__"), .none], G "super" [(r 601), (r 601), (r 601)], G "builtin_function_or_method" [(.builtin "object.__init_subclass__"), (r 601)], T [(s "&" 1010), (s "|" 1011), (s "^" 1012), (s "-" 1013)], T [], F [], T [(s "saying" 1018)], T [], N (FH.topS 52) "told_by" "told_by" 0 [] .none .none, C "told_by" "told_by" 1015 356 1 3 607 true 181 608 [.none, (r 609), (r 610), (r 611)] 1019 f0, M (FH.topS 52) "told_by" "told_by" 3 [] .none .none (s "foreheads.sayings" 1008) (r 612) .none, T [], F [], T [(s "kind" 1025)], T [], N (FH.topS 53) "need_kind" "need_kind" 0 [] .none .none, C "need_kind" "need_kind" 1022 360 1 3 614 true 181 615 [.none, (r 616), (r 617), (r 618)] 1026 f0, M (FH.topS 53) "need_kind" "need_kind" 3 [] .none .none (s "foreheads.sayings" 1008) (r 619) .none, T [], F [], T [(s "told" 1032), (s "word" 1033)], T [], N (FH.topS 54) "text_of" "text_of" 0 [] .none .none, C "text_of" "text_of" 1029 363 1 3 621 true 181 622 [.none, (r 623), (r 624), (r 625)] 1034 f0, M (FH.topS 54) "text_of" "text_of" 3 [] .none .none (s "foreheads.sayings" 1008) (r 626) .none, T [], G "builtin_function_or_method" [(.builtin "type.__prepare__"), (.type "type")], D [e P "__module__" 1044 (s "foreheads.sayings" 1008), e P "__qualname__" 1046 (s "Saying" 1045), e P "__firstlineno__" 1048 (i 382 1047), e P "__init__" 1056 (r 641), e P "depth" 1064 (r 649), e P "commons" 1072 (r 657), e P "__and__" 1080 (r 664), e P "__or__" 1088 (r 671), e P "__xor__" 1096 (r 678), e P "__sub__" 1104 (r 685), e P "__invert__" 1111 (r 692), e P "__eq__" 1119 (r 699), e P "__str__" 1126 (r 706), e P "__static_attributes__" 1128 (r 707)] 14, T [], F [(i 384 0), (i 4 0), (r 640), (i 388 0), (i 4 0), (r 647), (i 392 0), (i 4 0), (r 655), (i 395 0), (i 4 0), (r 663), (i 400 0), (i 4 0), (r 670), (i 405 0), (i 4 0), (r 677), (i 410 0), (i 4 0), (r 684), (i 415 0), (i 4 0), (r 691), (i 418 0), (i 4 0), (r 698), (i 421 0), (i 4 0), (r 705)], C "Saying" "Saying" 1039 382 0 0 631 false 181 632 [.none, .none, .none, .none] 1042 f0, { cls := (.type "frame"), data := .plain, slots := ⟨[some (r 633), some (r 3), some (r 630), none, some (s "foreheads.sayings" 1008), none, some (r 0)]⟩ }, T [], F [], T [(s "self" 1052), (s "told" 1053)], T [], N (L2.inClass (FH.topS 55) 0) "__init__" "Saying.__init__" 0 [] .none .none, C "__init__" "Saying.__init__" 1049 384 2 3 635 true 181 636 [.none, (r 637), (r 638), (r 639)] 1054 f0, M (L2.inClass (FH.topS 55) 0) "__init__" "Saying.__init__" 3 [] .none .none (s "foreheads.sayings" 1008) (r 640) .none, T [], F [], T [(s "self" 1060)], T [], N (L2.inClass (FH.topS 55) 1) "depth" "Saying.depth" 0 [] .none .none, C "depth" "Saying.depth" 1057 387 1 3 642 true 181 643 [.none, (r 644), (r 645), (r 646)] 1061 f0, M (L2.inClass (FH.topS 55) 1) "depth" "Saying.depth" 3 [] .none .none (s "foreheads.sayings" 1008) (r 647) .none, G "property" [(r 648), .none, .none, .none, (s "depth" 1064), (.bool false)]]
def n2_4 (P : Params) : List Obj := [T [], F [], T [(s "self" 1068)], T [], N (L2.inClass (FH.topS 55) 2) "commons" "Saying.commons" 0 [] .none .none, C "commons" "Saying.commons" 1065 391 1 3 650 true 181 651 [.none, (r 652), (r 653), (r 654)] 1069 f0, M (L2.inClass (FH.topS 55) 2) "commons" "Saying.commons" 3 [] .none .none (s "foreheads.sayings" 1008) (r 655) .none, G "property" [(r 656), .none, .none, .none, (s "commons" 1072), (.bool false)], T [], F [], T [(s "self" 1076), (s "other" 1077)], T [], N (L2.inClass (FH.topS 55) 3) "__and__" "Saying.__and__" 0 [] .none .none, C "__and__" "Saying.__and__" 1073 395 2 3 658 true 181 659 [.none, (r 660), (r 661), (r 662)] 1078 f0, M (L2.inClass (FH.topS 55) 3) "__and__" "Saying.__and__" 3 [] .none .none (s "foreheads.sayings" 1008) (r 663) .none, T [], F [], T [(s "self" 1084), (s "other" 1085)], T [], N (L2.inClass (FH.topS 55) 4) "__or__" "Saying.__or__" 0 [] .none .none, C "__or__" "Saying.__or__" 1081 400 2 3 665 true 181 666 [.none, (r 667), (r 668), (r 669)] 1086 f0, M (L2.inClass (FH.topS 55) 4) "__or__" "Saying.__or__" 3 [] .none .none (s "foreheads.sayings" 1008) (r 670) .none, T [], F [], T [(s "self" 1092), (s "other" 1093)], T [], N (L2.inClass (FH.topS 55) 5) "__xor__" "Saying.__xor__" 0 [] .none .none, C "__xor__" "Saying.__xor__" 1089 405 2 3 672 true 181 673 [.none, (r 674), (r 675), (r 676)] 1094 f0, M (L2.inClass (FH.topS 55) 5) "__xor__" "Saying.__xor__" 3 [] .none .none (s "foreheads.sayings" 1008) (r 677) .none, T [], F [], T [(s "self" 1100), (s "other" 1101)], T [], N (L2.inClass (FH.topS 55) 6) "__sub__" "Saying.__sub__" 0 [] .none .none, C "__sub__" "Saying.__sub__" 1097 410 2 3 679 true 181 680 [.none, (r 681), (r 682), (r 683)] 1102 f0, M (L2.inClass (FH.topS 55) 6) "__sub__" "Saying.__sub__" 3 [] .none .none (s "foreheads.sayings" 1008) (r 684) .none, T [], F [], T [(s "self" 1108)], T [], N (L2.inClass (FH.topS 55) 7) "__invert__" "Saying.__invert__" 0 [] .none .none, C "__invert__" "Saying.__invert__" 1105 415 1 3 686 true 181 687 [.none, (r 688), (r 689), (r 690)] 1109 f0, M (L2.inClass (FH.topS 55) 7) "__invert__" "Saying.__invert__" 3 [] .none .none (s "foreheads.sayings" 1008) (r 691) .none, T [], F [], T [(s "self" 1115), (s "other" 1116)], T [], N (L2.inClass (FH.topS 55) 8) "__eq__" "Saying.__eq__" 0 [] .none .none, C "__eq__" "Saying.__eq__" 1112 418 2 3 693 true 181 694 [.none, (r 695), (r 696), (r 697)] 1117 f0, M (L2.inClass (FH.topS 55) 8) "__eq__" "Saying.__eq__" 3 [] .none .none (s "foreheads.sayings" 1008) (r 698) .none, T [], F [], T [(s "self" 1123)], T [], N (L2.inClass (FH.topS 55) 9) "__str__" "Saying.__str__" 0 [] .none .none, C "__str__" "Saying.__str__" 1120 421 1 3 700 true 181 701 [.none, (r 702), (r 703), (r 704)] 1124 f0, M (L2.inClass (FH.topS 55) 9) "__str__" "Saying.__str__" 3 [] .none .none (s "foreheads.sayings" 1008) (r 705) .none, T [(s "told" 1127)], D [e P "__module__" 1044 (s "foreheads.sayings" 1008), e P "__firstlineno__" 1048 (i 382 1047), e P "__init__" 1056 (r 641), e P "depth" 1064 (r 649), e P "commons" 1072 (r 657), e P "__and__" 1080 (r 664), e P "__or__" 1088 (r 671), e P "__xor__" 1096 (r 678), e P "__sub__" 1104 (r 685), e P "__invert__" 1111 (r 692), e P "__eq__" 1119 (r 699), e P "__str__" 1126 (r 706), e P "__static_attributes__" 1128 (r 707), e P "__dict__" 1130 (r 710), e P "__weakref__" 1132 (r 711), e P "__doc__" 1133 .none, e P "__hash__" 1134 .none] 5, { cls := (.type "type"), data := .cls { name := "Saying", bases := [(.type "object")], mro := [(r 709), (.type "object")], ns := 708, qualname := "Saying", hasDict := true, slotNames := [], subclasses := [(r 732), (r 753), (r 774), (r 795)], abstract := false, collection := none, hasDel := false }, slots := ⟨[none, none, some (s "Saying" 1037), some (s "Saying" 1045), some (.builtin "object.__new__"), some (.bool true)]⟩ }]
def n2_5 (P : Params) : List Obj := [G "getset_descriptor" [(s "__dict__" 1129), (r 709), (.builtin "function.__dict__"), (.builtin "function.__dict__#set")], G "getset_descriptor" [(s "__weakref__" 1131), (r 709), (.builtin "ExceptionGroup.__weakref__"), .none], G "super" [(r 709), (r 709), (r 709)], G "builtin_function_or_method" [(.builtin "object.__init_subclass__"), (r 709)], T [(r 709)], G "builtin_function_or_method" [(.builtin "type.__prepare__"), (.type "type")], D [e P "__module__" 1144 (s "foreheads.sayings" 1008), e P "__qualname__" 1146 (s "Both" 1145), e P "__firstlineno__" 1148 (i 423 1147), e P "__init__" 1159 (r 729), e P "__static_attributes__" 1160 (r 730), e P "__classcell__" 1161 (r 717)] 6, { cls := (.type "cell"), data := .cell (some (r 732)) }, T [], F [(i 425 0), (i 4 0), (r 728)], C "Both" "Both" 1139 423 0 0 718 false 181 719 [.none, .none, .none, .none] 1142 f0, { cls := (.type "frame"), data := .plain, slots := ⟨[some (r 720), some (r 3), some (r 716), none, some (s "foreheads.sayings" 1008), none, some (r 0)]⟩ }, T [(r 717)], T [(s "__class__" 1152)], F [], T [(s "self" 1153), (s "sign" 1154), (s "one" 1155), (s "other" 1156)], T [], N (L2.inClass (FH.topS 56) 0) "__init__" "Both.__init__" 0 [] .none .none, C "__init__" "Both.__init__" 1149 425 4 3 723 true 181 724 [.none, (r 725), (r 726), (r 727)] 1157 f0, M (L2.inClass (FH.topS 56) 0) "__init__" "Both.__init__" 3 [("__class__", 717)] .none .none (s "foreheads.sayings" 1008) (r 728) (r 722), T [], D [e P "__module__" 1144 (s "foreheads.sayings" 1008), e P "__firstlineno__" 1148 (i 423 1147), e P "__init__" 1159 (r 729), e P "__static_attributes__" 1160 (r 730), e P "__doc__" 1162 .none] 3, { cls := (.type "type"), data := .cls { name := "Both", bases := [(r 709)], mro := [(r 732), (r 709), (.type "object")], ns := 731, qualname := "Both", hasDict := true, slotNames := [], subclasses := [], abstract := false, collection := none, hasDel := false }, slots := ⟨[some (r 714), none, some (s "Both" 1137), some (s "Both" 1145), some (.builtin "object.__new__"), some (.bool true)]⟩ }, G "super" [(r 732), (r 732), (r 732)], G "builtin_function_or_method" [(.builtin "object.__init_subclass__"), (r 732)], T [(r 709)], G "builtin_function_or_method" [(.builtin "type.__prepare__"), (.type "type")], D [e P "__module__" 1172 (s "foreheads.sayings" 1008), e P "__qualname__" 1174 (s "Contrary" 1173), e P "__firstlineno__" 1176 (i 427 1175), e P "__init__" 1185 (r 750), e P "__static_attributes__" 1186 (r 751), e P "__classcell__" 1187 (r 738)] 6, { cls := (.type "cell"), data := .cell (some (r 753)) }, T [], F [(i 429 0), (i 4 0), (r 749)], C "Contrary" "Contrary" 1167 427 0 0 739 false 181 740 [.none, .none, .none, .none] 1170 f0, { cls := (.type "frame"), data := .plain, slots := ⟨[some (r 741), some (r 3), some (r 737), none, some (s "foreheads.sayings" 1008), none, some (r 0)]⟩ }, T [(r 738)], T [(s "__class__" 1180)], F [], T [(s "self" 1181), (s "saying" 1182)], T [], N (L2.inClass (FH.topS 57) 0) "__init__" "Contrary.__init__" 0 [] .none .none, C "__init__" "Contrary.__init__" 1177 429 2 3 744 true 181 745 [.none, (r 746), (r 747), (r 748)] 1183 f0, M (L2.inClass (FH.topS 57) 0) "__init__" "Contrary.__init__" 3 [("__class__", 738)] .none .none (s "foreheads.sayings" 1008) (r 749) (r 743), T [], D [e P "__module__" 1172 (s "foreheads.sayings" 1008), e P "__firstlineno__" 1176 (i 427 1175), e P "__init__" 1185 (r 750), e P "__static_attributes__" 1186 (r 751), e P "__doc__" 1188 .none] 3, { cls := (.type "type"), data := .cls { name := "Contrary", bases := [(r 709)], mro := [(r 753), (r 709), (.type "object")], ns := 752, qualname := "Contrary", hasDict := true, slotNames := [], subclasses := [], abstract := false, collection := none, hasDel := false }, slots := ⟨[some (r 735), none, some (s "Contrary" 1165), some (s "Contrary" 1173), some (.builtin "object.__new__"), some (.bool true)]⟩ }, G "super" [(r 753), (r 753), (r 753)], G "builtin_function_or_method" [(.builtin "object.__init_subclass__"), (r 753)], T [(r 709)], G "builtin_function_or_method" [(.builtin "type.__prepare__"), (.type "type")], D [e P "__module__" 1198 (s "foreheads.sayings" 1008), e P "__qualname__" 1200 (s "AtLeast" 1199), e P "__firstlineno__" 1202 (i 431 1201), e P "__init__" 1212 (r 771), e P "__static_attributes__" 1215 (r 772), e P "__classcell__" 1216 (r 759)] 6, { cls := (.type "cell"), data := .cell (some (r 774)) }, T [], F [(i 433 0), (i 4 0), (r 770)], C "AtLeast" "AtLeast" 1193 431 0 0 760 false 181 761 [.none, .none, .none, .none] 1196 f0, { cls := (.type "frame"), data := .plain, slots := ⟨[some (r 762), some (r 3), some (r 758), none, some (s "foreheads.sayings" 1008), none, some (r 0)]⟩ }, T [(r 759)], T [(s "__class__" 1206)], F [], T [(s "self" 1207), (s "kind" 1208), (s "number" 1209)], T [], N (L2.inClass (FH.topS 58) 0) "__init__" "AtLeast.__init__" 0 [] .none .none]
def n2_6 (P : Params) : List Obj := [C "__init__" "AtLeast.__init__" 1203 433 3 3 765 true 181 766 [.none, (r 767), (r 768), (r 769)] 1210 f0, M (L2.inClass (FH.topS 58) 0) "__init__" "AtLeast.__init__" 3 [("__class__", 759)] .none .none (s "foreheads.sayings" 1008) (r 770) (r 764), T [(s "kind" 1213), (s "number" 1214)], D [e P "__module__" 1198 (s "foreheads.sayings" 1008), e P "__firstlineno__" 1202 (i 431 1201), e P "__init__" 1212 (r 771), e P "__static_attributes__" 1215 (r 772), e P "__doc__" 1217 .none] 3, { cls := (.type "type"), data := .cls { name := "AtLeast", bases := [(r 709)], mro := [(r 774), (r 709), (.type "object")], ns := 773, qualname := "AtLeast", hasDict := true, slotNames := [], subclasses := [], abstract := false, collection := none, hasDel := false }, slots := ⟨[some (r 756), none, some (s "AtLeast" 1191), some (s "AtLeast" 1199), some (.builtin "object.__new__"), some (.bool true)]⟩ }, G "super" [(r 774), (r 774), (r 774)], G "builtin_function_or_method" [(.builtin "object.__init_subclass__"), (r 774)], T [(r 709)], G "builtin_function_or_method" [(.builtin "type.__prepare__"), (.type "type")], D [e P "__module__" 1227 (s "foreheads.sayings" 1008), e P "__qualname__" 1229 (s "Rest" 1228), e P "__firstlineno__" 1231 (i 440 1230), e P "__init__" 1242 (r 792), e P "__static_attributes__" 1246 (r 793), e P "__classcell__" 1247 (r 780)] 6, { cls := (.type "cell"), data := .cell (some (r 795)) }, T [], F [(i 442 0), (i 4 0), (r 791)], C "Rest" "Rest" 1222 440 0 0 781 false 181 782 [.none, .none, .none, .none] 1225 f0, { cls := (.type "frame"), data := .plain, slots := ⟨[some (r 783), some (r 3), some (r 779), none, some (s "foreheads.sayings" 1008), none, some (r 0)]⟩ }, T [(r 780)], T [(s "__class__" 1235)], F [], T [(s "self" 1236), (s "kind" 1237), (s "rest" 1238), (s "period" 1239)], T [], N (L2.inClass (FH.topS 59) 0) "__init__" "Rest.__init__" 0 [] .none .none, C "__init__" "Rest.__init__" 1232 442 4 3 786 true 181 787 [.none, (r 788), (r 789), (r 790)] 1240 f0, M (L2.inClass (FH.topS 59) 0) "__init__" "Rest.__init__" 3 [("__class__", 780)] .none .none (s "foreheads.sayings" 1008) (r 791) (r 785), T [(s "kind" 1243), (s "period" 1244), (s "rest" 1245)], D [e P "__module__" 1227 (s "foreheads.sayings" 1008), e P "__firstlineno__" 1231 (i 440 1230), e P "__init__" 1242 (r 792), e P "__static_attributes__" 1246 (r 793), e P "__doc__" 1248 .none] 3, { cls := (.type "type"), data := .cls { name := "Rest", bases := [(r 709)], mro := [(r 795), (r 709), (.type "object")], ns := 794, qualname := "Rest", hasDict := true, slotNames := [], subclasses := [], abstract := false, collection := none, hasDel := false }, slots := ⟨[some (r 777), none, some (s "Rest" 1220), some (s "Rest" 1228), some (.builtin "object.__new__"), some (.bool true)]⟩ }, G "super" [(r 795), (r 795), (r 795)], G "builtin_function_or_method" [(.builtin "object.__init_subclass__"), (r 795)]]
def u2 (P : Params) : List (Nat × (Obj → Obj)) := [(3, fun _ => D [e P "__name__" 165 (s "foreheads.sayings" 1008), e P "__doc__" 166 .none, e P "__package__" 167 .none, e P "__loader__" 168 (.builtin "__main__.__loader__#opaque"), e P "__spec__" 169 .none, e P "__annotations__" 170 (r 6), e P "__builtins__" 171 (r 4), e P "__file__" 173 (s "/claim/cut.py" 172), e P "__cached__" 174 .none, e P "_wall" 193 (r 21), e P "KnowError" 213 (r 31), e P "InvalidCrowds" 240 (r 53), e P "InvalidSaying" 267 (r 74), e P "InvalidTalk" 294 (r 95), e P "InvalidLine" 321 (r 116), e P "InvalidText" 348 (r 137), e P "Untrue" 375 (r 158), e P "NoRow" 406 (r 179), e P "KINDS" 411 (r 183), e P "is_integer" 418 (r 190), e P "is_number" 425 (r 197), e P "is_kind" 432 (r 204), e P "is_sequence" 439 (r 211), e P "is_crowd" 446 (r 218), e P "common_multiple" 456 (r 225), e P "held" 464 (r 230), e P "held_lines" 465 (r 230), e P "signed" 474 (r 237), e P "count" 483 (r 244), e P "edge_of" 491 (r 251), e P "known" 504 (r 258), e P "shared_by_all" 514 (r 265), e P "knowing" 520 (r 270), e P "parted" 526 (r 275), e P "lifted" 541 (r 282), e P "done" 547 (r 287), e P "part_of" 553 (r 292), e P "all_done" 563 (r 299), e P "numbers_of" 569 (r 304), e P "where_true" 575 (r 309), e P "Line" 635 (r 349), e P "IN" 639 (s "+" 638), e P "NOT_IN" 641 (s "-" 640), e P "is_table" 647 (r 358), e P "checked" 653 (r 363), e P "least_way" 666 (r 370), e P "columns_of" 672 (r 375), e P "place_of" 681 (r 382), e P "widened" 687 (r 387), e P "both_tables" 693 (r 392), e P "signs_of" 699 (r 397), e P "combined" 712 (r 404), e P "is_within" 718 (r 409), e P "made_by" 724 (r 414), e P "Crowds" 1007 (r 601), e P "SIGNS" 1014 (r 606), e P "told_by" 1021 (r 613), e P "need_kind" 1028 (r 620), e P "text_of" 1036 (r 627), e P "Saying" 1136 (r 709), e P "Both" 1164 (r 732), e P "Contrary" 1190 (r 753), e P "AtLeast" 1219 (r 774), e P "Rest" 1250 (r 795)] 64), (12, fA [(i 234 0), z, (r 413), (i 239 0), z, (r 420), (i 356 0), z, (r 612), (i 360 0), z, (r 619), (i 363 0), z, (r 626), (i 382 0), z, (r 633), (i 423 0), z, (r 720), (i 427 0), z, (r 741), (i 431 0), z, (r 762), (i 440 0), z, (r 783)])]
def o2 (P : Params) : List Obj := ovr (o1 P) 0 (u2 P)
  ++ (n2_0 P ++ (n2_1 P ++ (n2_2 P ++ (n2_3 P ++ (n2_4 P ++ (n2_5 P ++ (n2_6 P)))))))
def S2 (w : World) (os : OsState) : SharedT := st (o2 w.params) 798 1251 os
def n3_0 (P : Params) : List Obj := [T [(r 709)], G "builtin_function_or_method" [(.builtin "type.__prepare__"), (.type "type")], D [e P "__module__" 1258 (s "foreheads.sayings" 1008), e P "__qualname__" 1260 (s "Fact" 1259), e P "__firstlineno__" 1262 (i 452 1261), e P "__init__" 1271 (r 813), e P "__static_attributes__" 1273 (r 814), e P "__classcell__" 1274 (r 801)] 6, { cls := (.type "cell"), data := .cell (some (r 816)) }, T [], F [(i 454 0), (i 4 0), (r 812)], C "Fact" "Fact" 1253 452 0 0 802 false 181 803 [.none, .none, .none, .none] 1256 f0, { cls := (.type "frame"), data := .plain, slots := ⟨[some (r 804), some (r 3), some (r 800), none, some (s "foreheads.sayings" 1008), none, some (r 0)]⟩ }, T [(r 801)], T [(s "__class__" 1266)], F [], T [(s "self" 1267), (s "crowds" 1268)], T [], N (L2.inClass (FH.topS 60) 0) "__init__" "Fact.__init__" 0 [] .none .none, C "__init__" "Fact.__init__" 1263 454 2 3 807 true 181 808 [.none, (r 809), (r 810), (r 811)] 1269 f0, M (L2.inClass (FH.topS 60) 0) "__init__" "Fact.__init__" 3 [("__class__", 801)] .none .none (s "foreheads.sayings" 1008) (r 812) (r 806), T [(s "crowds" 1272)], D [e P "__module__" 1258 (s "foreheads.sayings" 1008), e P "__firstlineno__" 1262 (i 452 1261), e P "__init__" 1271 (r 813), e P "__static_attributes__" 1273 (r 814), e P "__doc__" 1275 .none] 3, { cls := (.type "type"), data := .cls { name := "Fact", bases := [(r 709)], mro := [(r 816), (r 709), (.type "object")], ns := 815, qualname := "Fact", hasDict := true, slotNames := [], subclasses := [], abstract := false, collection := none, hasDel := false }, slots := ⟨[some (r 798), none, some (s "Fact" 1251), some (s "Fact" 1259), some (.builtin "object.__new__"), some (.bool true)]⟩ }, G "super" [(r 816), (r 816), (r 816)], G "builtin_function_or_method" [(.builtin "object.__init_subclass__"), (r 816)], T [(r 709)], G "builtin_function_or_method" [(.builtin "type.__prepare__"), (.type "type")], D [e P "__module__" 1285 (s "foreheads.sayings" 1008), e P "__qualname__" 1287 (s "Sure" 1286), e P "__firstlineno__" 1289 (i 459 1288), e P "__init__" 1298 (r 834), e P "__static_attributes__" 1300 (r 835), e P "__classcell__" 1301 (r 822)] 6, { cls := (.type "cell"), data := .cell (some (r 837)) }, T [], F [(i 461 0), (i 4 0), (r 833)], C "Sure" "Sure" 1280 459 0 0 823 false 181 824 [.none, .none, .none, .none] 1283 f0, { cls := (.type "frame"), data := .plain, slots := ⟨[some (r 825), some (r 3), some (r 821), none, some (s "foreheads.sayings" 1008), none, some (r 0)]⟩ }, T [(r 822)], T [(s "__class__" 1293)], F [], T [(s "self" 1294), (s "kind" 1295)], T [], N (L2.inClass (FH.topS 61) 0) "__init__" "Sure.__init__" 0 [] .none .none, C "__init__" "Sure.__init__" 1290 461 2 3 828 true 181 829 [.none, (r 830), (r 831), (r 832)] 1296 f0, M (L2.inClass (FH.topS 61) 0) "__init__" "Sure.__init__" 3 [("__class__", 822)] .none .none (s "foreheads.sayings" 1008) (r 833) (r 827), T [(s "kind" 1299)], D [e P "__module__" 1285 (s "foreheads.sayings" 1008), e P "__firstlineno__" 1289 (i 459 1288), e P "__init__" 1298 (r 834), e P "__static_attributes__" 1300 (r 835), e P "__doc__" 1302 .none] 3, { cls := (.type "type"), data := .cls { name := "Sure", bases := [(r 709)], mro := [(r 837), (r 709), (.type "object")], ns := 836, qualname := "Sure", hasDict := true, slotNames := [], subclasses := [], abstract := false, collection := none, hasDel := false }, slots := ⟨[some (r 819), none, some (s "Sure" 1278), some (s "Sure" 1286), some (.builtin "object.__new__"), some (.bool true)]⟩ }, G "super" [(r 837), (r 837), (r 837)], G "builtin_function_or_method" [(.builtin "object.__init_subclass__"), (r 837)], T [(r 709)], G "builtin_function_or_method" [(.builtin "type.__prepare__"), (.type "type")], D [e P "__module__" 1312 (s "foreheads.sayings" 1008), e P "__qualname__" 1314 (s "Silent" 1313), e P "__firstlineno__" 1316 (i 465 1315), e P "__init__" 1324 (r 855), e P "__static_attributes__" 1325 (r 856), e P "__classcell__" 1326 (r 843)] 6, { cls := (.type "cell"), data := .cell (some (r 858)) }, T [], F [(i 467 0), (i 4 0), (r 854)], C "Silent" "Silent" 1307 465 0 0 844 false 181 845 [.none, .none, .none, .none] 1310 f0, { cls := (.type "frame"), data := .plain, slots := ⟨[some (r 846), some (r 3), some (r 842), none, some (s "foreheads.sayings" 1008), none, some (r 0)]⟩ }, T [(r 843)], T [(s "__class__" 1320)], F [], T [(s "self" 1321)], T [], N (L2.inClass (FH.topS 62) 0) "__init__" "Silent.__init__" 0 [] .none .none, C "__init__" "Silent.__init__" 1317 467 1 3 849 true 181 850 [.none, (r 851), (r 852), (r 853)] 1322 f0, M (L2.inClass (FH.topS 62) 0) "__init__" "Silent.__init__" 3 [("__class__", 843)] .none .none (s "foreheads.sayings" 1008) (r 854) (r 848), T [], D [e P "__module__" 1312 (s "foreheads.sayings" 1008), e P "__firstlineno__" 1316 (i 465 1315), e P "__init__" 1324 (r 855), e P "__static_attributes__" 1325 (r 856), e P "__doc__" 1327 .none] 3]
def n3_1 (P : Params) : List Obj := [{ cls := (.type "type"), data := .cls { name := "Silent", bases := [(r 709)], mro := [(r 858), (r 709), (.type "object")], ns := 857, qualname := "Silent", hasDict := true, slotNames := [], subclasses := [], abstract := false, collection := none, hasDel := false }, slots := ⟨[some (r 840), none, some (s "Silent" 1305), some (s "Silent" 1313), some (.builtin "object.__new__"), some (.bool true)]⟩ }, G "super" [(r 858), (r 858), (r 858)], G "builtin_function_or_method" [(.builtin "object.__init_subclass__"), (r 858)], T [(r 709)], G "builtin_function_or_method" [(.builtin "type.__prepare__"), (.type "type")], D [e P "__module__" 1337 (s "foreheads.sayings" 1008), e P "__qualname__" 1339 (s "Knows" 1338), e P "__firstlineno__" 1341 (i 469 1340), e P "__init__" 1351 (r 876), e P "__static_attributes__" 1354 (r 877), e P "__classcell__" 1355 (r 864)] 6, { cls := (.type "cell"), data := .cell (some (r 879)) }, T [], F [(i 471 0), (i 4 0), (r 875)], C "Knows" "Knows" 1332 469 0 0 865 false 181 866 [.none, .none, .none, .none] 1335 f0, { cls := (.type "frame"), data := .plain, slots := ⟨[some (r 867), some (r 3), some (r 863), none, some (s "foreheads.sayings" 1008), none, some (r 0)]⟩ }, T [(r 864)], T [(s "__class__" 1345)], F [], T [(s "self" 1346), (s "kind" 1347), (s "saying" 1348)], T [], N (L2.inClass (FH.topS 63) 0) "__init__" "Knows.__init__" 0 [] .none .none, C "__init__" "Knows.__init__" 1342 471 3 3 870 true 181 871 [.none, (r 872), (r 873), (r 874)] 1349 f0, M (L2.inClass (FH.topS 63) 0) "__init__" "Knows.__init__" 3 [("__class__", 864)] .none .none (s "foreheads.sayings" 1008) (r 875) (r 869), T [(s "kind" 1352), (s "saying" 1353)], D [e P "__module__" 1337 (s "foreheads.sayings" 1008), e P "__firstlineno__" 1341 (i 469 1340), e P "__init__" 1351 (r 876), e P "__static_attributes__" 1354 (r 877), e P "__doc__" 1356 .none] 3, { cls := (.type "type"), data := .cls { name := "Knows", bases := [(r 709)], mro := [(r 879), (r 709), (.type "object")], ns := 878, qualname := "Knows", hasDict := true, slotNames := [], subclasses := [], abstract := false, collection := none, hasDel := false }, slots := ⟨[some (r 861), none, some (s "Knows" 1330), some (s "Knows" 1338), some (.builtin "object.__new__"), some (.bool true)]⟩ }, G "super" [(r 879), (r 879), (r 879)], G "builtin_function_or_method" [(.builtin "object.__init_subclass__"), (r 879)], T [(r 709)], G "builtin_function_or_method" [(.builtin "type.__prepare__"), (.type "type")], D [e P "__module__" 1366 (s "foreheads.sayings" 1008), e P "__qualname__" 1368 (s "Common" 1367), e P "__firstlineno__" 1370 (i 476 1369), e P "__init__" 1379 (r 897), e P "__static_attributes__" 1381 (r 898), e P "__classcell__" 1382 (r 885)] 6, { cls := (.type "cell"), data := .cell (some (r 900)) }, T [], F [(i 478 0), (i 4 0), (r 896)], C "Common" "Common" 1361 476 0 0 886 false 181 887 [.none, .none, .none, .none] 1364 f0, { cls := (.type "frame"), data := .plain, slots := ⟨[some (r 888), some (r 3), some (r 884), none, some (s "foreheads.sayings" 1008), none, some (r 0)]⟩ }, T [(r 885)], T [(s "__class__" 1374)], F [], T [(s "self" 1375), (s "saying" 1376)], T [], N (L2.inClass (FH.topS 64) 0) "__init__" "Common.__init__" 0 [] .none .none, C "__init__" "Common.__init__" 1371 478 2 3 891 true 181 892 [.none, (r 893), (r 894), (r 895)] 1377 f0, M (L2.inClass (FH.topS 64) 0) "__init__" "Common.__init__" 3 [("__class__", 885)] .none .none (s "foreheads.sayings" 1008) (r 896) (r 890), T [(s "saying" 1380)], D [e P "__module__" 1366 (s "foreheads.sayings" 1008), e P "__firstlineno__" 1370 (i 476 1369), e P "__init__" 1379 (r 897), e P "__static_attributes__" 1381 (r 898), e P "__doc__" 1383 .none] 3, { cls := (.type "type"), data := .cls { name := "Common", bases := [(r 709)], mro := [(r 900), (r 709), (.type "object")], ns := 899, qualname := "Common", hasDict := true, slotNames := [], subclasses := [], abstract := false, collection := none, hasDel := false }, slots := ⟨[some (r 882), none, some (s "Common" 1359), some (s "Common" 1367), some (.builtin "object.__new__"), some (.bool true)]⟩ }, G "super" [(r 900), (r 900), (r 900)], G "builtin_function_or_method" [(.builtin "object.__init_subclass__"), (r 900)], T [], G "builtin_function_or_method" [(.builtin "type.__prepare__"), (.type "type")], D [e P "__module__" 1395 (s "foreheads.runs" 1386), e P "__qualname__" 1397 (s "Piece" 1396), e P "__firstlineno__" 1399 (i 482 1398), e P "__init__" 1407 (r 916), e P "__static_attributes__" 1409 (r 917)] 5, T [], F [(i 484 0), (i 4 0), (r 915)], C "Piece" "Piece" 1390 482 0 0 906 false 181 907 [.none, .none, .none, .none] 1393 f0, { cls := (.type "frame"), data := .plain, slots := ⟨[some (r 908), some (r 3), some (r 905), none, some (s "foreheads.runs" 1386), none, some (r 0)]⟩ }, T [], F [], T [(s "self" 1403), (s "rows" 1404)], T [], N (L2.inClass (FH.topS 66) 0) "__init__" "Piece.__init__" 0 [] .none .none, C "__init__" "Piece.__init__" 1400 484 2 3 910 true 181 911 [.none, (r 912), (r 913), (r 914)] 1405 f0, M (L2.inClass (FH.topS 66) 0) "__init__" "Piece.__init__" 3 [] .none .none (s "foreheads.runs" 1386) (r 915) .none, T [(s "rows" 1408)]]
def n3_2 (P : Params) : List Obj := [D [e P "__module__" 1395 (s "foreheads.runs" 1386), e P "__firstlineno__" 1399 (i 482 1398), e P "__init__" 1407 (r 916), e P "__static_attributes__" 1409 (r 917), e P "__dict__" 1411 (r 920), e P "__weakref__" 1413 (r 921), e P "__doc__" 1414 .none] 4, { cls := (.type "type"), data := .cls { name := "Piece", bases := [(.type "object")], mro := [(r 919), (.type "object")], ns := 918, qualname := "Piece", hasDict := true, slotNames := [], subclasses := [], abstract := false, collection := none, hasDel := false }, slots := ⟨[none, none, some (s "Piece" 1388), some (s "Piece" 1396), some (.builtin "object.__new__"), some (.bool true)]⟩ }, G "getset_descriptor" [(s "__dict__" 1410), (r 919), (.builtin "function.__dict__"), (.builtin "function.__dict__#set")], G "getset_descriptor" [(s "__weakref__" 1412), (r 919), (.builtin "ExceptionGroup.__weakref__"), .none], G "super" [(r 919), (r 919), (r 919)], G "builtin_function_or_method" [(.builtin "object.__init_subclass__"), (r 919)], T [], G "builtin_function_or_method" [(.builtin "type.__prepare__"), (.type "type")], D [e P "__module__" 1424 (s "foreheads.runs" 1386), e P "__qualname__" 1426 (s "Question" 1425), e P "__firstlineno__" 1428 (i 486 1427), e P "__init__" 1436 (r 937), e P "__static_attributes__" 1439 (r 938)] 5, T [], F [(i 488 0), (i 4 0), (r 936)], C "Question" "Question" 1419 486 0 0 927 false 181 928 [.none, .none, .none, .none] 1422 f0, { cls := (.type "frame"), data := .plain, slots := ⟨[some (r 929), some (r 3), some (r 926), none, some (s "foreheads.runs" 1386), none, some (r 0)]⟩ }, T [], F [], T [(s "self" 1432), (s "saying" 1433)], T [], N (L2.inClass (FH.topS 67) 0) "__init__" "Question.__init__" 0 [] .none .none, C "__init__" "Question.__init__" 1429 488 2 3 931 true 181 932 [.none, (r 933), (r 934), (r 935)] 1434 f0, M (L2.inClass (FH.topS 67) 0) "__init__" "Question.__init__" 3 [] .none .none (s "foreheads.runs" 1386) (r 936) .none, T [(s "saying" 1437), (s "word" 1438)], D [e P "__module__" 1424 (s "foreheads.runs" 1386), e P "__firstlineno__" 1428 (i 486 1427), e P "__init__" 1436 (r 937), e P "__static_attributes__" 1439 (r 938), e P "__dict__" 1441 (r 941), e P "__weakref__" 1443 (r 942), e P "__doc__" 1444 .none] 4, { cls := (.type "type"), data := .cls { name := "Question", bases := [(.type "object")], mro := [(r 940), (.type "object")], ns := 939, qualname := "Question", hasDict := true, slotNames := [], subclasses := [], abstract := false, collection := none, hasDel := false }, slots := ⟨[none, none, some (s "Question" 1417), some (s "Question" 1425), some (.builtin "object.__new__"), some (.bool true)]⟩ }, G "getset_descriptor" [(s "__dict__" 1440), (r 940), (.builtin "function.__dict__"), (.builtin "function.__dict__#set")], G "getset_descriptor" [(s "__weakref__" 1442), (r 940), (.builtin "ExceptionGroup.__weakref__"), .none], G "super" [(r 940), (r 940), (r 940)], G "builtin_function_or_method" [(.builtin "object.__init_subclass__"), (r 940)], T [], F [], T [(s "line" 1450), (s "marked" 1451), (s "for_marked" 1452), (s "for_plain" 1453), (s "one" 1454)], T [], N (FH.topS 68) "who" "who" 0 [] .none .none, C "who" "who" 1447 491 4 3 945 true 181 946 [.none, (r 947), (r 948), (r 949)] 1455 f0, M (FH.topS 68) "who" "who" 3 [] .none .none (s "foreheads.runs" 1386) (r 950) .none, T [], F [], T [(s "line" 1461), (s "row" 1462), (s "marked" 1463), (s "number" 1464), (s "is_so" 1465)], T [], N (FH.topS 69) "answer_to" "answer_to" 0 [] .none .none, C "answer_to" "answer_to" 1458 494 4 3 952 true 181 953 [.none, (r 954), (r 955), (r 956)] 1466 f0, M (FH.topS 69) "answer_to" "answer_to" 3 [] .none .none (s "foreheads.runs" 1386) (r 957) .none, T [], F [], N (FH.topS 70) "held" "held" 0 [] .none .none, C "held" "held" 1469 503 4 3 959 true 181 960 [.none, .none, .none, (r 961)] 1472 f0, M (FH.topS 70) "held" "held" 3 [] .none .none (s "foreheads.runs" 1386) (r 962) .none, T [], F [], T [(s "talk" 1479), (s "crowd" 1480)], T [], N (FH.topS 72) "heard" "heard" 0 [] .none .none, C "heard" "heard" 1476 524 2 3 964 true 181 965 [.none, (r 966), (r 967), (r 968)] 1481 f0, M (FH.topS 72) "heard" "heard" 3 [] .none .none (s "foreheads.runs" 1386) (r 969) .none, T [], F [], T [(s "one" 1493), (s "other" 1494), (s "found" 1495)], T [], N (FH.topS 76) "shared" "shared" 0 [] .none .none, C "shared" "shared" 1490 529 2 3 971 true 181 972 [.none, (r 973), (r 974), (r 975)] 1496 f0, M (FH.topS 76) "shared" "shared" 3 [] .none .none (s "foreheads.sayingtexts" 1484) (r 976) .none]
def n3_3 (P : Params) : List Obj := [T [], F [], N (FH.topS 77) "read_one_of" "read_one_of" 0 [] .none .none, C "read_one_of" "read_one_of" 1499 534 3 3 978 true 181 979 [.none, .none, .none, (r 980)] 1502 f0, M (FH.topS 77) "read_one_of" "read_one_of" 3 [] .none .none (s "foreheads.sayingtexts" 1484) (r 981) .none, T [], F [], T [(s "text" 1508), (s "at" 1509), (s "least" 1510), (s "end" 1511)], T [], N (FH.topS 78) "read_number" "read_number" 0 [] .none .none, C "read_number" "read_number" 1505 540 3 3 983 true 181 984 [.none, (r 985), (r 986), (r 987)] 1512 f0, M (FH.topS 78) "read_number" "read_number" 3 [] .none .none (s "foreheads.sayingtexts" 1484) (r 988) .none, T [], F [], T [(s "text" 1518), (s "at" 1519), (s "many" 1520), (s "end" 1521)], T [], N (FH.topS 79) "read_signs" "read_signs" 0 [] .none .none, C "read_signs" "read_signs" 1515 549 3 3 990 true 181 991 [.none, (r 992), (r 993), (r 994)] 1522 f0, M (FH.topS 79) "read_signs" "read_signs" 3 [] .none .none (s "foreheads.sayingtexts" 1484) (r 995) .none, T [], F [], T [(s "text" 1528), (s "at" 1529), (s "numbers" 1530), (s "end" 1531), (s "turn" 1532), (s "least" 1533), (s "number" 1534), (s "rows" 1535), (s "row" 1536)], T [], N (FH.topS 80) "read_table" "read_table" 0 [] .none .none, C "read_table" "read_table" 1525 556 2 3 997 true 181 998 [.none, (r 999), (r 1000), (r 1001)] 1537 f0, M (FH.topS 80) "read_table" "read_table" 3 [] .none .none (s "foreheads.sayingtexts" 1484) (r 1002) .none, T [], F [], T [(s "text" 1543), (s "at" 1544), (s "saying" 1545), (s "behind" 1546)], T [], N (FH.topS 81) "read_part" "read_part" 0 [] .none .none, C "read_part" "read_part" 1540 569 2 3 1004 true 181 1005 [.none, (r 1006), (r 1007), (r 1008)] 1547 f0, M (FH.topS 81) "read_part" "read_part" 3 [] .none .none (s "foreheads.sayingtexts" 1484) (r 1009) .none, T [], F [], N (FH.topS 82) "read_pair" "read_pair" 0 [] .none .none, C "read_pair" "read_pair" 1550 574 2 3 1011 true 181 1012 [.none, .none, .none, (r 1013)] 1553 f0, M (FH.topS 82) "read_pair" "read_pair" 3 [] .none .none (s "foreheads.sayingtexts" 1484) (r 1014) .none, T [], F [], T [(s "text" 1559), (s "at" 1560), (s "kind" 1561)], T [], N (FH.topS 83) "read_kind" "read_kind" 0 [] .none .none, C "read_kind" "read_kind" 1556 583 2 3 1016 true 181 1017 [.none, (r 1018), (r 1019), (r 1020)] 1562 f0, M (FH.topS 83) "read_kind" "read_kind" 3 [] .none .none (s "foreheads.sayingtexts" 1484) (r 1021) .none, T [], F [], T [(s "text" 1568), (s "at" 1569), (s "kind" 1570), (s "behind" 1571), (s "sign" 1572), (s "number" 1573), (s "end" 1574), (s "rest" 1575), (s "last" 1576)], T [], N (FH.topS 84) "read_counted" "read_counted" 0 [] .none .none, C "read_counted" "read_counted" 1565 586 2 3 1023 true 181 1024 [.none, (r 1025), (r 1026), (r 1027)] 1577 f0, M (FH.topS 84) "read_counted" "read_counted" 3 [] .none .none (s "foreheads.sayingtexts" 1484) (r 1028) .none, T [], F [], T [(s "text" 1583), (s "at" 1584), (s "period" 1585), (s "number" 1586), (s "end" 1587)], T [], N (FH.topS 85) "read_rest" "read_rest" 0 [] .none .none, C "read_rest" "read_rest" 1580 595 3 3 1030 true 181 1031 [.none, (r 1032), (r 1033), (r 1034)] 1588 f0, M (FH.topS 85) "read_rest" "read_rest" 3 [] .none .none (s "foreheads.sayingtexts" 1484) (r 1035) .none, T []]
def n3_4 (P : Params) : List Obj := [F [], T [(s "text" 1594), (s "at" 1595), (s "first" 1596), (s "saying" 1597), (s "end" 1598), (s "word" 1599), (s "kind" 1600)], T [], N (FH.topS 86) "read_any" "read_any" 0 [] .none .none, C "read_any" "read_any" 1591 603 2 3 1037 true 181 1038 [.none, (r 1039), (r 1040), (r 1041)] 1601 f0, M (FH.topS 86) "read_any" "read_any" 3 [] .none .none (s "foreheads.sayingtexts" 1484) (r 1042) .none, T [], F [], T [(s "text" 1607), (s "saying" 1608), (s "behind" 1609)], T [], N (FH.topS 87) "read_saying" "read_saying" 0 [] .none .none, C "read_saying" "read_saying" 1604 627 1 3 1044 true 181 1045 [.none, (r 1046), (r 1047), (r 1048)] 1610 f0, M (FH.topS 87) "read_saying" "read_saying" 3 [] .none .none (s "foreheads.sayingtexts" 1484) (r 1049) .none, T [], F [], T [(s "value" 1622)], T [], N (FH.topS 91) "need_saying" "need_saying" 0 [] .none .none, C "need_saying" "need_saying" 1619 635 1 3 1051 true 181 1052 [.none, (r 1053), (r 1054), (r 1055)] 1623 f0, M (FH.topS 91) "need_saying" "need_saying" 3 [] .none .none (s "foreheads.talks" 1613) (r 1056) .none, T [], F [], N (FH.topS 92) "need_rows" "need_rows" 0 [] .none .none, C "need_rows" "need_rows" 1626 638 1 3 1058 true 181 1059 [.none, .none, .none, (r 1060)] 1629 f0, M (FH.topS 92) "need_rows" "need_rows" 3 [] .none .none (s "foreheads.talks" 1613) (r 1061) .none, T [], F [], N (FH.topS 93) "lines_of" "lines_of" 0 [] .none .none, C "lines_of" "lines_of" 1632 642 1 3 1063 true 181 1064 [.none, .none, .none, (r 1065)] 1635 f0, M (FH.topS 93) "lines_of" "lines_of" 3 [] .none .none (s "foreheads.talks" 1613) (r 1066) .none, T [], F [], T [(s "rows" 1641), (s "found" 1642), (s "row" 1643), (s "block" 1644)], T [], N (FH.topS 94) "flat" "flat" 0 [] .none .none, C "flat" "flat" 1638 644 1 3 1068 true 181 1069 [.none, (r 1070), (r 1071), (r 1072)] 1645 f0, M (FH.topS 94) "flat" "flat" 3 [] .none .none (s "foreheads.talks" 1613) (r 1073) .none, T [], G "builtin_function_or_method" [(.builtin "type.__prepare__"), (.type "type")], D [e P "__module__" 1655 (s "foreheads.talks" 1613), e P "__qualname__" 1657 (s "Row" 1656), e P "__firstlineno__" 1659 (i 651 1658), e P "__init__" 1668 (r 1088), e P "__str__" 1675 (r 1095), e P "__eq__" 1683 (r 1102), e P "blocks" 1690 (r 1109), e P "amount" 1696 (r 1114), e P "__static_attributes__" 1699 (r 1115)] 9, T [], F [(i 653 0), (i 4 0), (r 1087), (i 657 0), (i 4 0), (r 1094), (i 660 0), (i 4 0), (r 1101), (i 663 0), (i 4 0), (r 1108), (i 666 0), (i 4 0), (r 1113)], C "Row" "Row" 1650 651 0 0 1078 false 181 1079 [.none, .none, .none, .none] 1653 f0, { cls := (.type "frame"), data := .plain, slots := ⟨[some (r 1080), some (r 3), some (r 1077), none, some (s "foreheads.talks" 1613), none, some (r 0)]⟩ }, T [], F [], T [(s "self" 1663), (s "word" 1664), (s "script" 1665)], T [], N (L2.inClass (FH.topS 95) 0) "__init__" "Row.__init__" 0 [] .none .none, C "__init__" "Row.__init__" 1660 653 3 3 1082 true 181 1083 [.none, (r 1084), (r 1085), (r 1086)] 1666 f0, M (L2.inClass (FH.topS 95) 0) "__init__" "Row.__init__" 3 [] .none .none (s "foreheads.talks" 1613) (r 1087) .none, T [], F [], T [(s "self" 1672)], T [], N (L2.inClass (FH.topS 95) 1) "__str__" "Row.__str__" 0 [] .none .none, C "__str__" "Row.__str__" 1669 657 1 3 1089 true 181 1090 [.none, (r 1091), (r 1092), (r 1093)] 1673 f0, M (L2.inClass (FH.topS 95) 1) "__str__" "Row.__str__" 3 [] .none .none (s "foreheads.talks" 1613) (r 1094) .none, T [], F []]
def n3_5 (P : Params) : List Obj := [T [(s "self" 1679), (s "other" 1680)], T [], N (L2.inClass (FH.topS 95) 2) "__eq__" "Row.__eq__" 0 [] .none .none, C "__eq__" "Row.__eq__" 1676 660 2 3 1096 true 181 1097 [.none, (r 1098), (r 1099), (r 1100)] 1681 f0, M (L2.inClass (FH.topS 95) 2) "__eq__" "Row.__eq__" 3 [] .none .none (s "foreheads.talks" 1613) (r 1101) .none, T [], F [], T [(s "self" 1687)], T [], N (L2.inClass (FH.topS 95) 3) "blocks" "Row.blocks" 0 [] .none .none, C "blocks" "Row.blocks" 1684 663 1 3 1103 true 181 1104 [.none, (r 1105), (r 1106), (r 1107)] 1688 f0, M (L2.inClass (FH.topS 95) 3) "blocks" "Row.blocks" 3 [] .none .none (s "foreheads.talks" 1613) (r 1108) .none, T [], F [], N (L2.inClass (FH.topS 95) 4) "amount" "Row.amount" 0 [] .none .none, C "amount" "Row.amount" 1691 666 1 3 1110 true 181 1111 [.none, .none, .none, (r 1112)] 1694 f0, M (L2.inClass (FH.topS 95) 4) "amount" "Row.amount" 3 [] .none .none (s "foreheads.talks" 1613) (r 1113) .none, T [(s "script" 1697), (s "word" 1698)], D [e P "__module__" 1655 (s "foreheads.talks" 1613), e P "__firstlineno__" 1659 (i 651 1658), e P "__init__" 1668 (r 1088), e P "__str__" 1675 (r 1095), e P "__eq__" 1683 (r 1102), e P "blocks" 1690 (r 1109), e P "amount" 1696 (r 1114), e P "__static_attributes__" 1699 (r 1115), e P "__dict__" 1701 (r 1118), e P "__weakref__" 1703 (r 1119), e P "__doc__" 1704 .none, e P "__hash__" 1705 .none] 5, { cls := (.type "type"), data := .cls { name := "Row", bases := [(.type "object")], mro := [(r 1117), (.type "object")], ns := 1116, qualname := "Row", hasDict := true, slotNames := [], subclasses := [(r 1138), (r 1157), (r 1176)], abstract := false, collection := none, hasDel := false }, slots := ⟨[none, none, some (s "Row" 1648), some (s "Row" 1656), some (.builtin "object.__new__"), some (.bool true)]⟩ }, G "getset_descriptor" [(s "__dict__" 1700), (r 1117), (.builtin "function.__dict__"), (.builtin "function.__dict__#set")], G "getset_descriptor" [(s "__weakref__" 1702), (r 1117), (.builtin "ExceptionGroup.__weakref__"), .none], G "super" [(r 1117), (r 1117), (r 1117)], G "builtin_function_or_method" [(.builtin "object.__init_subclass__"), (r 1117)], T [(r 1117)], G "builtin_function_or_method" [(.builtin "type.__prepare__"), (.type "type")], D [e P "__module__" 1715 (s "foreheads.talks" 1613), e P "__qualname__" 1717 (s "Say" 1716), e P "__firstlineno__" 1719 (i 668 1718), e P "__init__" 1727 (r 1135), e P "__static_attributes__" 1729 (r 1136)] 5, T [], F [(i 670 0), (i 4 0), (r 1134)], C "Say" "Say" 1710 668 0 0 1125 false 181 1126 [.none, .none, .none, .none] 1713 f0, { cls := (.type "frame"), data := .plain, slots := ⟨[some (r 1127), some (r 3), some (r 1124), none, some (s "foreheads.talks" 1613), none, some (r 0)]⟩ }, T [], F [], T [(s "self" 1723), (s "saying" 1724)], T [], N (L2.inClass (FH.topS 96) 0) "__init__" "Say.__init__" 0 [] .none .none, C "__init__" "Say.__init__" 1720 670 2 3 1129 true 181 1130 [.none, (r 1131), (r 1132), (r 1133)] 1725 f0, M (L2.inClass (FH.topS 96) 0) "__init__" "Say.__init__" 3 [] .none .none (s "foreheads.talks" 1613) (r 1134) .none, T [(s "saying" 1728)], D [e P "__module__" 1715 (s "foreheads.talks" 1613), e P "__firstlineno__" 1719 (i 668 1718), e P "__init__" 1727 (r 1135), e P "__static_attributes__" 1729 (r 1136), e P "__doc__" 1730 .none] 2, { cls := (.type "type"), data := .cls { name := "Say", bases := [(r 1117)], mro := [(r 1138), (r 1117), (.type "object")], ns := 1137, qualname := "Say", hasDict := true, slotNames := [], subclasses := [], abstract := false, collection := none, hasDel := false }, slots := ⟨[some (r 1122), none, some (s "Say" 1708), some (s "Say" 1716), some (.builtin "object.__new__"), some (.bool true)]⟩ }, G "super" [(r 1138), (r 1138), (r 1138)], G "builtin_function_or_method" [(.builtin "object.__init_subclass__"), (r 1138)], T [(r 1117)], G "builtin_function_or_method" [(.builtin "type.__prepare__"), (.type "type")], D [e P "__module__" 1740 (s "foreheads.talks" 1613), e P "__qualname__" 1742 (s "Ask" 1741), e P "__firstlineno__" 1744 (i 674 1743), e P "__init__" 1752 (r 1154), e P "__static_attributes__" 1754 (r 1155)] 5, T [], F [(i 676 0), (i 4 0), (r 1153)], C "Ask" "Ask" 1735 674 0 0 1144 false 181 1145 [.none, .none, .none, .none] 1738 f0, { cls := (.type "frame"), data := .plain, slots := ⟨[some (r 1146), some (r 3), some (r 1143), none, some (s "foreheads.talks" 1613), none, some (r 0)]⟩ }, T [], F [], T [(s "self" 1748), (s "saying" 1749)], T [], N (L2.inClass (FH.topS 97) 0) "__init__" "Ask.__init__" 0 [] .none .none, C "__init__" "Ask.__init__" 1745 676 2 3 1148 true 181 1149 [.none, (r 1150), (r 1151), (r 1152)] 1750 f0, M (L2.inClass (FH.topS 97) 0) "__init__" "Ask.__init__" 3 [] .none .none (s "foreheads.talks" 1613) (r 1153) .none, T [(s "saying" 1753)], D [e P "__module__" 1740 (s "foreheads.talks" 1613), e P "__firstlineno__" 1744 (i 674 1743), e P "__init__" 1752 (r 1154), e P "__static_attributes__" 1754 (r 1155), e P "__doc__" 1755 .none] 2, { cls := (.type "type"), data := .cls { name := "Ask", bases := [(r 1117)], mro := [(r 1157), (r 1117), (.type "object")], ns := 1156, qualname := "Ask", hasDict := true, slotNames := [], subclasses := [], abstract := false, collection := none, hasDel := false }, slots := ⟨[some (r 1141), none, some (s "Ask" 1733), some (s "Ask" 1741), some (.builtin "object.__new__"), some (.bool true)]⟩ }]
def n3_6 (P : Params) : List Obj := [G "super" [(r 1157), (r 1157), (r 1157)], G "builtin_function_or_method" [(.builtin "object.__init_subclass__"), (r 1157)], T [(r 1117)], G "builtin_function_or_method" [(.builtin "type.__prepare__"), (.type "type")], D [e P "__module__" 1765 (s "foreheads.talks" 1613), e P "__qualname__" 1767 (s "Hands" 1766), e P "__firstlineno__" 1769 (i 680 1768), e P "__init__" 1777 (r 1173), e P "__static_attributes__" 1779 (r 1174)] 5, T [], F [(i 682 0), (i 4 0), (r 1172)], C "Hands" "Hands" 1760 680 0 0 1163 false 181 1164 [.none, .none, .none, .none] 1763 f0, { cls := (.type "frame"), data := .plain, slots := ⟨[some (r 1165), some (r 3), some (r 1162), none, some (s "foreheads.talks" 1613), none, some (r 0)]⟩ }, T [], F [], T [(s "self" 1773), (s "saying" 1774)], T [], N (L2.inClass (FH.topS 98) 0) "__init__" "Hands.__init__" 0 [] .none .none, C "__init__" "Hands.__init__" 1770 682 2 3 1167 true 181 1168 [.none, (r 1169), (r 1170), (r 1171)] 1775 f0, M (L2.inClass (FH.topS 98) 0) "__init__" "Hands.__init__" 3 [] .none .none (s "foreheads.talks" 1613) (r 1172) .none, T [(s "saying" 1778)], D [e P "__module__" 1765 (s "foreheads.talks" 1613), e P "__firstlineno__" 1769 (i 680 1768), e P "__init__" 1777 (r 1173), e P "__static_attributes__" 1779 (r 1174), e P "__doc__" 1780 .none] 2, { cls := (.type "type"), data := .cls { name := "Hands", bases := [(r 1117)], mro := [(r 1176), (r 1117), (.type "object")], ns := 1175, qualname := "Hands", hasDict := true, slotNames := [], subclasses := [], abstract := false, collection := none, hasDel := false }, slots := ⟨[some (r 1160), none, some (s "Hands" 1758), some (s "Hands" 1766), some (.builtin "object.__new__"), some (.bool true)]⟩ }, G "super" [(r 1176), (r 1176), (r 1176)], G "builtin_function_or_method" [(.builtin "object.__init_subclass__"), (r 1176)]]
def u3 (P : Params) : List (Nat × (Obj → Obj)) := [(3, fun _ => D [e P "__name__" 165 (s "foreheads.talks" 1613), e P "__doc__" 166 .none, e P "__package__" 167 .none, e P "__loader__" 168 (.builtin "__main__.__loader__#opaque"), e P "__spec__" 169 .none, e P "__annotations__" 170 (r 6), e P "__builtins__" 171 (r 4), e P "__file__" 173 (s "/claim/cut.py" 172), e P "__cached__" 174 .none, e P "_wall" 193 (r 21), e P "KnowError" 213 (r 31), e P "InvalidCrowds" 240 (r 53), e P "InvalidSaying" 267 (r 74), e P "InvalidTalk" 294 (r 95), e P "InvalidLine" 321 (r 116), e P "InvalidText" 348 (r 137), e P "Untrue" 375 (r 158), e P "NoRow" 406 (r 179), e P "KINDS" 411 (r 183), e P "is_integer" 418 (r 190), e P "is_number" 425 (r 197), e P "is_kind" 432 (r 204), e P "is_sequence" 439 (r 211), e P "is_crowd" 446 (r 218), e P "common_multiple" 456 (r 225), e P "held" 464 (r 963), e P "held_lines" 465 (r 230), e P "signed" 474 (r 237), e P "count" 483 (r 244), e P "edge_of" 491 (r 251), e P "known" 504 (r 258), e P "shared_by_all" 514 (r 265), e P "knowing" 520 (r 270), e P "parted" 526 (r 275), e P "lifted" 541 (r 282), e P "done" 547 (r 287), e P "part_of" 553 (r 292), e P "all_done" 563 (r 299), e P "numbers_of" 569 (r 304), e P "where_true" 575 (r 309), e P "Line" 635 (r 349), e P "IN" 639 (s "+" 638), e P "NOT_IN" 641 (s "-" 640), e P "is_table" 647 (r 358), e P "checked" 653 (r 363), e P "least_way" 666 (r 370), e P "columns_of" 672 (r 375), e P "place_of" 681 (r 382), e P "widened" 687 (r 387), e P "both_tables" 693 (r 392), e P "signs_of" 699 (r 397), e P "combined" 712 (r 404), e P "is_within" 718 (r 409), e P "made_by" 724 (r 414), e P "Crowds" 1007 (r 601), e P "SIGNS" 1014 (r 606), e P "told_by" 1021 (r 613), e P "need_kind" 1028 (r 620), e P "text_of" 1036 (r 627), e P "Saying" 1136 (r 709), e P "Both" 1164 (r 732), e P "Contrary" 1190 (r 753), e P "AtLeast" 1219 (r 774), e P "Rest" 1250 (r 795), e P "Fact" 1277 (r 816), e P "Sure" 1304 (r 837), e P "Silent" 1329 (r 858), e P "Knows" 1358 (r 879), e P "Common" 1385 (r 900), e P "Piece" 1416 (r 919), e P "Question" 1446 (r 940), e P "who" 1457 (r 951), e P "answer_to" 1468 (r 958), e P "held_runs" 1475 (r 963), e P "heard" 1483 (r 970), e P "DIGITS_sayingtexts" 1487 (s "0123456789" 1486), e P "MOST_FIGURES" 1489 (i 4 1488), e P "shared" 1498 (r 977), e P "read_one_of" 1504 (r 982), e P "read_number" 1514 (r 989), e P "read_signs" 1524 (r 996), e P "read_table" 1539 (r 1003), e P "read_part" 1549 (r 1010), e P "read_pair" 1555 (r 1015), e P "read_kind" 1564 (r 1022), e P "read_counted" 1579 (r 1029), e P "read_rest" 1590 (r 1036), e P "read_any" 1603 (r 1043), e P "read_saying" 1612 (r 1050), e P "DIGITS_talks" 1616 (s "123456789" 1615), e P "MOST" 1618 (i 9 1617), e P "need_saying" 1625 (r 1057), e P "need_rows" 1631 (r 1062), e P "lines_of" 1637 (r 1067), e P "flat" 1647 (r 1074), e P "Row" 1707 (r 1117), e P "Say" 1732 (r 1138), e P "Ask" 1757 (r 1157), e P "Hands" 1782 (r 1176)] 99), (12, fA [(i 452 0), z, (r 804), (i 459 0), z, (r 825), (i 465 0), z, (r 846), (i 469 0), z, (r 867), (i 476 0), z, (r 888), (i 482 0), z, (r 908), (i 486 0), z, (r 929), (i 491 0), z, (r 950), (i 494 0), z, (r 957), (i 503 0), z, (r 962), (i 524 0), z, (r 969), (i 529 0), z, (r 976), (i 534 0), z, (r 981), (i 540 0), z, (r 988), (i 549 0), z, (r 995), (i 556 0), z, (r 1002), (i 569 0), z, (r 1009), (i 574 0), z, (r 1014), (i 583 0), z, (r 1021), (i 586 0), z, (r 1028), (i 595 0), z, (r 1035), (i 603 0), z, (r 1042), (i 627 0), z, (r 1049), (i 635 0), z, (r 1056), (i 638 0), z, (r 1061), (i 642 0), z, (r 1066), (i 644 0), z, (r 1073), (i 651 0), z, (r 1080), (i 668 0), z, (r 1127), (i 674 0), z, (r 1146), (i 680 0), z, (r 1165)]), (709, cA [(r 816), (r 837), (r 858), (r 879), (r 900)])]
def o3 (P : Params) : List Obj := ovr (o2 P) 0 (u3 P)
  ++ (n3_0 P ++ (n3_1 P ++ (n3_2 P ++ (n3_3 P ++ (n3_4 P ++ (n3_5 P ++ (n3_6 P)))))))
def S3 (w : World) (os : OsState) : SharedT := st (o3 w.params) 1179 1783 os
def n4_0 (P : Params) : List Obj := [T [(r 1117)], G "builtin_function_or_method" [(.builtin "type.__prepare__"), (.type "type")], D [e P "__module__" 1790 (s "foreheads.talks" 1613), e P "__qualname__" 1792 (s "Step" 1791), e P "__firstlineno__" 1794 (i 686 1793), e P "__init__" 1801 (r 1192), e P "__static_attributes__" 1802 (r 1193)] 5, T [], F [(i 688 0), (i 4 0), (r 1191)], C "Step" "Step" 1785 686 0 0 1182 false 181 1183 [.none, .none, .none, .none] 1788 f0, { cls := (.type "frame"), data := .plain, slots := ⟨[some (r 1184), some (r 3), some (r 1181), none, some (s "foreheads.talks" 1613), none, some (r 0)]⟩ }, T [], F [], T [(s "self" 1798)], T [], N (L2.inClass (FH.topS 99) 0) "__init__" "Step.__init__" 0 [] .none .none, C "__init__" "Step.__init__" 1795 688 1 3 1186 true 181 1187 [.none, (r 1188), (r 1189), (r 1190)] 1799 f0, M (L2.inClass (FH.topS 99) 0) "__init__" "Step.__init__" 3 [] .none .none (s "foreheads.talks" 1613) (r 1191) .none, T [], D [e P "__module__" 1790 (s "foreheads.talks" 1613), e P "__firstlineno__" 1794 (i 686 1793), e P "__init__" 1801 (r 1192), e P "__static_attributes__" 1802 (r 1193), e P "__doc__" 1803 .none] 2, { cls := (.type "type"), data := .cls { name := "Step", bases := [(r 1117)], mro := [(r 1195), (r 1117), (.type "object")], ns := 1194, qualname := "Step", hasDict := true, slotNames := [], subclasses := [], abstract := false, collection := none, hasDel := false }, slots := ⟨[some (r 1179), none, some (s "Step" 1783), some (s "Step" 1791), some (.builtin "object.__new__"), some (.bool true)]⟩ }, G "super" [(r 1195), (r 1195), (r 1195)], G "builtin_function_or_method" [(.builtin "object.__init_subclass__"), (r 1195)], T [(r 1117)], G "builtin_function_or_method" [(.builtin "type.__prepare__"), (.type "type")], D [e P "__module__" 1813 (s "foreheads.talks" 1613), e P "__qualname__" 1815 (s "If" 1814), e P "__firstlineno__" 1817 (i 690 1816), e P "__init__" 1828 (r 1213), e P "blocks" 1835 (r 1220), e P "__static_attributes__" 1839 (r 1221)] 6, T [], F [(i 692 0), (i 4 0), (r 1212), (i 700 0), (i 4 0), (r 1219)], C "If" "If" 1808 690 0 0 1201 false 181 1202 [.none, .none, .none, .none] 1811 f0, { cls := (.type "frame"), data := .plain, slots := ⟨[some (r 1203), some (r 3), some (r 1200), none, some (s "foreheads.talks" 1613), none, some (r 0)]⟩ }, T [], T [(r 1205)], T [], F [], T [(s "self" 1821), (s "saying" 1822), (s "rows" 1823), (s "others" 1824), (s "behind" 1825)], T [], N (L2.inClass (FH.topS 100) 0) "__init__" "If.__init__" 0 [] .none .none, C "__init__" "If.__init__" 1818 692 4 3 1207 true 181 1208 [.none, (r 1209), (r 1210), (r 1211)] 1826 f0, M (L2.inClass (FH.topS 100) 0) "__init__" "If.__init__" 3 [] (r 1206) .none (s "foreheads.talks" 1613) (r 1212) .none, T [], F [], T [(s "self" 1832)], T [], N (L2.inClass (FH.topS 100) 1) "blocks" "If.blocks" 0 [] .none .none, C "blocks" "If.blocks" 1829 700 1 3 1214 true 181 1215 [.none, (r 1216), (r 1217), (r 1218)] 1833 f0, M (L2.inClass (FH.topS 100) 1) "blocks" "If.blocks" 3 [] .none .none (s "foreheads.talks" 1613) (r 1219) .none, T [(s "others" 1836), (s "rows" 1837), (s "saying" 1838)], D [e P "__module__" 1813 (s "foreheads.talks" 1613), e P "__firstlineno__" 1817 (i 690 1816), e P "__init__" 1828 (r 1213), e P "blocks" 1835 (r 1220), e P "__static_attributes__" 1839 (r 1221), e P "__doc__" 1840 .none] 2, { cls := (.type "type"), data := .cls { name := "If", bases := [(r 1117)], mro := [(r 1223), (r 1117), (.type "object")], ns := 1222, qualname := "If", hasDict := true, slotNames := [], subclasses := [], abstract := false, collection := none, hasDel := false }, slots := ⟨[some (r 1198), none, some (s "If" 1806), some (s "If" 1814), some (.builtin "object.__new__"), some (.bool true)]⟩ }, G "super" [(r 1223), (r 1223), (r 1223)], G "builtin_function_or_method" [(.builtin "object.__init_subclass__"), (r 1223)], T [(r 1117)], G "builtin_function_or_method" [(.builtin "type.__prepare__"), (.type "type")], D [e P "__module__" 1850 (s "foreheads.talks" 1613), e P "__qualname__" 1852 (s "Times" 1851), e P "__firstlineno__" 1854 (i 702 1853), e P "__init__" 1863 (r 1239), e P "blocks" 1870 (r 1246), e P "__static_attributes__" 1873 (r 1247)] 6, T [], F [(i 704 0), (i 4 0), (r 1238), (i 711 0), (i 4 0), (r 1245)], C "Times" "Times" 1845 702 0 0 1229 false 181 1230 [.none, .none, .none, .none] 1848 f0, { cls := (.type "frame"), data := .plain, slots := ⟨[some (r 1231), some (r 3), some (r 1228), none, some (s "foreheads.talks" 1613), none, some (r 0)]⟩ }, T [], F [], T [(s "self" 1858), (s "many" 1859), (s "rows" 1860)], T [], N (L2.inClass (FH.topS 101) 0) "__init__" "Times.__init__" 0 [] .none .none, C "__init__" "Times.__init__" 1855 704 3 3 1233 true 181 1234 [.none, (r 1235), (r 1236), (r 1237)] 1861 f0]
def n4_1 (P : Params) : List Obj := [M (L2.inClass (FH.topS 101) 0) "__init__" "Times.__init__" 3 [] .none .none (s "foreheads.talks" 1613) (r 1238) .none, T [], F [], T [(s "self" 1867)], T [], N (L2.inClass (FH.topS 101) 1) "blocks" "Times.blocks" 0 [] .none .none, C "blocks" "Times.blocks" 1864 711 1 3 1240 true 181 1241 [.none, (r 1242), (r 1243), (r 1244)] 1868 f0, M (L2.inClass (FH.topS 101) 1) "blocks" "Times.blocks" 3 [] .none .none (s "foreheads.talks" 1613) (r 1245) .none, T [(s "many" 1871), (s "rows" 1872)], D [e P "__module__" 1850 (s "foreheads.talks" 1613), e P "__firstlineno__" 1854 (i 702 1853), e P "__init__" 1863 (r 1239), e P "blocks" 1870 (r 1246), e P "__static_attributes__" 1873 (r 1247), e P "__doc__" 1874 .none] 2, { cls := (.type "type"), data := .cls { name := "Times", bases := [(r 1117)], mro := [(r 1249), (r 1117), (.type "object")], ns := 1248, qualname := "Times", hasDict := true, slotNames := [], subclasses := [], abstract := false, collection := none, hasDel := false }, slots := ⟨[some (r 1226), none, some (s "Times" 1843), some (s "Times" 1851), some (.builtin "object.__new__"), some (.bool true)]⟩ }, G "super" [(r 1249), (r 1249), (r 1249)], G "builtin_function_or_method" [(.builtin "object.__init_subclass__"), (r 1249)], T [], F [], T [(s "rows" 1880), (s "at" 1881), (s "found" 1882), (s "number" 1883), (s "row" 1884)], T [], N (FH.topS 102) "left_out" "left_out" 0 [] .none .none, C "left_out" "left_out" 1877 713 2 3 1252 true 181 1253 [.none, (r 1254), (r 1255), (r 1256)] 1885 f0, M (FH.topS 102) "left_out" "left_out" 3 [] .none .none (s "foreheads.talks" 1613) (r 1257) .none, T [], F [], T [(s "row" 1891), (s "at" 1892), (s "ahead" 1893)], T [], N (FH.topS 103) "thinned" "thinned" 0 [] .none .none, C "thinned" "thinned" 1888 720 2 3 1259 true 181 1260 [.none, (r 1261), (r 1262), (r 1263)] 1894 f0, M (FH.topS 103) "thinned" "thinned" 3 [] .none .none (s "foreheads.talks" 1613) (r 1264) .none, T [], G "builtin_function_or_method" [(.builtin "type.__prepare__"), (.type "type")], D [e P "__module__" 1904 (s "foreheads.talks" 1613), e P "__qualname__" 1906 (s "Talk" 1905), e P "__firstlineno__" 1908 (i 727 1907), e P "__init__" 1916 (r 1281), e P "read" 1936 (r 1290), e P "without" 1944 (r 1298), e P "__call__" 1952 (r 1305), e P "__len__" 1959 (r 1312), e P "__getitem__" 1967 (r 1319), e P "__iter__" 1974 (r 1326), e P "__add__" 1982 (r 1333), e P "__mul__" 1990 (r 1340), e P "__rmul__" 1998 (r 1347), e P "__str__" 2005 (r 1354), e P "__eq__" 2013 (r 1361), e P "__static_attributes__" 2015 (r 1362)] 16, T [], F [(i 729 0), (i 4 0), (r 1280), (i 733 0), (i 4 0), (r 1287), (i 736 0), (i 4 0), (r 1297), (i 741 0), (i 4 0), (r 1304), (i 744 0), (i 4 0), (r 1311), (i 747 0), (i 4 0), (r 1318), (i 752 0), (i 4 0), (r 1325), (i 755 0), (i 4 0), (r 1332), (i 758 0), (i 4 0), (r 1339), (i 761 0), (i 4 0), (r 1346), (i 764 0), (i 4 0), (r 1353), (i 767 0), (i 4 0), (r 1360)], C "Talk" "Talk" 1899 727 0 0 1269 false 181 1270 [.none, .none, .none, .none] 1902 f0, { cls := (.type "frame"), data := .plain, slots := ⟨[some (r 1271), some (r 3), some (r 1268), none, some (s "foreheads.talks" 1613), none, some (r 0)]⟩ }, T [], T [(r 1273)], T [], F [], T [(s "self" 1912), (s "rows" 1913)], T [], N (L2.inClass (FH.topS 104) 0) "__init__" "Talk.__init__" 0 [] .none .none, C "__init__" "Talk.__init__" 1909 729 2 3 1275 true 181 1276 [.none, (r 1277), (r 1278), (r 1279)] 1914 f0, M (L2.inClass (FH.topS 104) 0) "__init__" "Talk.__init__" 3 [] (r 1274) .none (s "foreheads.talks" 1613) (r 1280) .none, T [], F [], T [(s "cls" 1920), (s "text" 1921)], T [], N (L2.inClass (FH.topS 104) 1) "read" "Talk.read" 0 [] .none .none, C "read" "Talk.read" 1917 732 2 3 1282 true 181 1283 [.none, (r 1284), (r 1285), (r 1286)] 1922 f0, A 1291 (M (L2.inClass (FH.topS 104) 1) "read" "Talk.read" 3 [] .none .none (s "foreheads.talks" 1613) (r 1287) .none), D [e P "__module__" 1925 (s "foreheads.talks" 1613), e P "__name__" 1928 (s "read" 1927), e P "__qualname__" 1931 (s "Talk.read" 1930), e P "__doc__" 1933 .none, e P "__annotations__" 1935 (r 1291)] 5, { (G "classmethod" [(r 1288), (.bool false)]) with dict := some 1289 }, D [] 0, T [], F [], T [(s "self" 1940), (s "at" 1941)], T [], N (L2.inClass (FH.topS 104) 2) "without" "Talk.without" 0 [] .none .none, C "without" "Talk.without" 1937 736 2 3 1292 true 181 1293 [.none, (r 1294), (r 1295), (r 1296)] 1942 f0, M (L2.inClass (FH.topS 104) 2) "without" "Talk.without" 3 [] .none .none (s "foreheads.talks" 1613) (r 1297) .none]
def n4_2 (P : Params) : List Obj := [T [], F [], T [(s "self" 1948), (s "crowd" 1949)], T [], N (L2.inClass (FH.topS 104) 3) "__call__" "Talk.__call__" 0 [] .none .none, C "__call__" "Talk.__call__" 1945 741 2 3 1299 true 181 1300 [.none, (r 1301), (r 1302), (r 1303)] 1950 f0, M (L2.inClass (FH.topS 104) 3) "__call__" "Talk.__call__" 3 [] .none .none (s "foreheads.talks" 1613) (r 1304) .none, T [], F [], T [(s "self" 1956)], T [], N (L2.inClass (FH.topS 104) 4) "__len__" "Talk.__len__" 0 [] .none .none, C "__len__" "Talk.__len__" 1953 744 1 3 1306 true 181 1307 [.none, (r 1308), (r 1309), (r 1310)] 1957 f0, M (L2.inClass (FH.topS 104) 4) "__len__" "Talk.__len__" 3 [] .none .none (s "foreheads.talks" 1613) (r 1311) .none, T [], F [], T [(s "self" 1963), (s "at" 1964)], T [], N (L2.inClass (FH.topS 104) 5) "__getitem__" "Talk.__getitem__" 0 [] .none .none, C "__getitem__" "Talk.__getitem__" 1960 747 2 3 1313 true 181 1314 [.none, (r 1315), (r 1316), (r 1317)] 1965 f0, M (L2.inClass (FH.topS 104) 5) "__getitem__" "Talk.__getitem__" 3 [] .none .none (s "foreheads.talks" 1613) (r 1318) .none, T [], F [], T [(s "self" 1971)], T [], N (L2.inClass (FH.topS 104) 6) "__iter__" "Talk.__iter__" 0 [] .none .none, C "__iter__" "Talk.__iter__" 1968 752 1 3 1320 true 181 1321 [.none, (r 1322), (r 1323), (r 1324)] 1972 f0, M (L2.inClass (FH.topS 104) 6) "__iter__" "Talk.__iter__" 3 [] .none .none (s "foreheads.talks" 1613) (r 1325) .none, T [], F [], T [(s "self" 1978), (s "other" 1979)], T [], N (L2.inClass (FH.topS 104) 7) "__add__" "Talk.__add__" 0 [] .none .none, C "__add__" "Talk.__add__" 1975 755 2 3 1327 true 181 1328 [.none, (r 1329), (r 1330), (r 1331)] 1980 f0, M (L2.inClass (FH.topS 104) 7) "__add__" "Talk.__add__" 3 [] .none .none (s "foreheads.talks" 1613) (r 1332) .none, T [], F [], T [(s "self" 1986), (s "many" 1987)], T [], N (L2.inClass (FH.topS 104) 8) "__mul__" "Talk.__mul__" 0 [] .none .none, C "__mul__" "Talk.__mul__" 1983 758 2 3 1334 true 181 1335 [.none, (r 1336), (r 1337), (r 1338)] 1988 f0, M (L2.inClass (FH.topS 104) 8) "__mul__" "Talk.__mul__" 3 [] .none .none (s "foreheads.talks" 1613) (r 1339) .none, T [], F [], T [(s "self" 1994), (s "many" 1995)], T [], N (L2.inClass (FH.topS 104) 9) "__rmul__" "Talk.__rmul__" 0 [] .none .none, C "__rmul__" "Talk.__rmul__" 1991 761 2 3 1341 true 181 1342 [.none, (r 1343), (r 1344), (r 1345)] 1996 f0, M (L2.inClass (FH.topS 104) 9) "__rmul__" "Talk.__rmul__" 3 [] .none .none (s "foreheads.talks" 1613) (r 1346) .none, T [], F [], T [(s "self" 2002)], T [], N (L2.inClass (FH.topS 104) 10) "__str__" "Talk.__str__" 0 [] .none .none, C "__str__" "Talk.__str__" 1999 764 1 3 1348 true 181 1349 [.none, (r 1350), (r 1351), (r 1352)] 2003 f0, M (L2.inClass (FH.topS 104) 10) "__str__" "Talk.__str__" 3 [] .none .none (s "foreheads.talks" 1613) (r 1353) .none, T [], F [], T [(s "self" 2009), (s "other" 2010)], T []]
def n4_3 (P : Params) : List Obj := [N (L2.inClass (FH.topS 104) 11) "__eq__" "Talk.__eq__" 0 [] .none .none, C "__eq__" "Talk.__eq__" 2006 767 2 3 1355 true 181 1356 [.none, (r 1357), (r 1358), (r 1359)] 2011 f0, M (L2.inClass (FH.topS 104) 11) "__eq__" "Talk.__eq__" 3 [] .none .none (s "foreheads.talks" 1613) (r 1360) .none, T [(s "rows" 2014)], D [e P "__module__" 1904 (s "foreheads.talks" 1613), e P "__firstlineno__" 1908 (i 727 1907), e P "__init__" 1916 (r 1281), e P "read" 1936 (r 1290), e P "without" 1944 (r 1298), e P "__call__" 1952 (r 1305), e P "__len__" 1959 (r 1312), e P "__getitem__" 1967 (r 1319), e P "__iter__" 1974 (r 1326), e P "__add__" 1982 (r 1333), e P "__mul__" 1990 (r 1340), e P "__rmul__" 1998 (r 1347), e P "__str__" 2005 (r 1354), e P "__eq__" 2013 (r 1361), e P "__static_attributes__" 2015 (r 1362), e P "__dict__" 2017 (r 1365), e P "__weakref__" 2019 (r 1366), e P "__doc__" 2020 .none, e P "__hash__" 2021 .none] 5, { cls := (.type "type"), data := .cls { name := "Talk", bases := [(.type "object")], mro := [(r 1364), (.type "object")], ns := 1363, qualname := "Talk", hasDict := true, slotNames := [], subclasses := [], abstract := false, collection := none, hasDel := false }, slots := ⟨[none, none, some (s "Talk" 1897), some (s "Talk" 1905), some (.builtin "object.__new__"), some (.bool true)]⟩ }, G "getset_descriptor" [(s "__dict__" 2016), (r 1364), (.builtin "function.__dict__"), (.builtin "function.__dict__#set")], G "getset_descriptor" [(s "__weakref__" 2018), (r 1364), (.builtin "ExceptionGroup.__weakref__"), .none], G "super" [(r 1364), (r 1364), (r 1364)], G "builtin_function_or_method" [(.builtin "object.__init_subclass__"), (r 1364)], T [], G "builtin_function_or_method" [(.builtin "type.__prepare__"), (.type "type")], D [e P "__module__" 2031 (s "foreheads.talks" 1613), e P "__qualname__" 2033 (s "Block" 2032), e P "__firstlineno__" 2035 (i 769 2034), e P "__init__" 2043 (r 1382), e P "can_turn" 2050 (r 1389), e P "turn" 2057 (r 1396), e P "can_end" 2064 (r 1403), e P "made" 2071 (r 1410), e P "__static_attributes__" 2075 (r 1411)] 9, T [], F [(i 771 0), (i 4 0), (r 1381), (i 776 0), (i 4 0), (r 1388), (i 779 0), (i 4 0), (r 1395), (i 782 0), (i 4 0), (r 1402), (i 785 0), (i 4 0), (r 1409)], C "Block" "Block" 2026 769 0 0 1372 false 181 1373 [.none, .none, .none, .none] 2029 f0, { cls := (.type "frame"), data := .plain, slots := ⟨[some (r 1374), some (r 3), some (r 1371), none, some (s "foreheads.talks" 1613), none, some (r 0)]⟩ }, T [], F [], T [(s "self" 2039), (s "head" 2040)], T [], N (L2.inClass (FH.topS 105) 0) "__init__" "Block.__init__" 0 [] .none .none, C "__init__" "Block.__init__" 2036 771 2 3 1376 true 181 1377 [.none, (r 1378), (r 1379), (r 1380)] 2041 f0, M (L2.inClass (FH.topS 105) 0) "__init__" "Block.__init__" 3 [] .none .none (s "foreheads.talks" 1613) (r 1381) .none, T [], F [], T [(s "self" 2047)], T [], N (L2.inClass (FH.topS 105) 1) "can_turn" "Block.can_turn" 0 [] .none .none, C "can_turn" "Block.can_turn" 2044 776 1 3 1383 true 181 1384 [.none, (r 1385), (r 1386), (r 1387)] 2048 f0, M (L2.inClass (FH.topS 105) 1) "can_turn" "Block.can_turn" 3 [] .none .none (s "foreheads.talks" 1613) (r 1388) .none, T [], F [], T [(s "self" 2054)], T [], N (L2.inClass (FH.topS 105) 2) "turn" "Block.turn" 0 [] .none .none, C "turn" "Block.turn" 2051 779 1 3 1390 true 181 1391 [.none, (r 1392), (r 1393), (r 1394)] 2055 f0, M (L2.inClass (FH.topS 105) 2) "turn" "Block.turn" 3 [] .none .none (s "foreheads.talks" 1613) (r 1395) .none, T [], F [], T [(s "self" 2061)], T [], N (L2.inClass (FH.topS 105) 3) "can_end" "Block.can_end" 0 [] .none .none, C "can_end" "Block.can_end" 2058 782 1 3 1397 true 181 1398 [.none, (r 1399), (r 1400), (r 1401)] 2062 f0, M (L2.inClass (FH.topS 105) 3) "can_end" "Block.can_end" 3 [] .none .none (s "foreheads.talks" 1613) (r 1402) .none, T [], F [], T [(s "self" 2068)], T [], N (L2.inClass (FH.topS 105) 4) "made" "Block.made" 0 [] .none .none, C "made" "Block.made" 2065 785 1 3 1404 true 181 1405 [.none, (r 1406), (r 1407), (r 1408)] 2069 f0, M (L2.inClass (FH.topS 105) 4) "made" "Block.made" 3 [] .none .none (s "foreheads.talks" 1613) (r 1409) .none, T [(s "ahead" 2072), (s "head" 2073), (s "taken" 2074)], D [e P "__module__" 2031 (s "foreheads.talks" 1613), e P "__firstlineno__" 2035 (i 769 2034), e P "__init__" 2043 (r 1382), e P "can_turn" 2050 (r 1389), e P "turn" 2057 (r 1396), e P "can_end" 2064 (r 1403), e P "made" 2071 (r 1410), e P "__static_attributes__" 2075 (r 1411), e P "__dict__" 2077 (r 1414), e P "__weakref__" 2079 (r 1415), e P "__doc__" 2080 .none] 4, { cls := (.type "type"), data := .cls { name := "Block", bases := [(.type "object")], mro := [(r 1413), (.type "object")], ns := 1412, qualname := "Block", hasDict := true, slotNames := [], subclasses := [], abstract := false, collection := none, hasDel := false }, slots := ⟨[none, none, some (s "Block" 2024), some (s "Block" 2032), some (.builtin "object.__new__"), some (.bool true)]⟩ }, G "getset_descriptor" [(s "__dict__" 2076), (r 1413), (.builtin "function.__dict__"), (.builtin "function.__dict__#set")], G "getset_descriptor" [(s "__weakref__" 2078), (r 1413), (.builtin "ExceptionGroup.__weakref__"), .none], G "super" [(r 1413), (r 1413), (r 1413)], G "builtin_function_or_method" [(.builtin "object.__init_subclass__"), (r 1413)], T []]
def n4_4 (P : Params) : List Obj := [F [], T [(s "words" 2086), (s "found" 2087)], T [], N (FH.topS 106) "saying_in" "saying_in" 0 [] .none .none, C "saying_in" "saying_in" 2083 791 1 3 1418 true 181 1419 [.none, (r 1420), (r 1421), (r 1422)] 2088 f0, M (FH.topS 106) "saying_in" "saying_in" 3 [] .none .none (s "foreheads.talks" 1613) (r 1423) .none, T [], F [], T [(s "line" 2094), (s "word" 2095), (s "blank" 2096), (s "rest" 2097), (s "saying" 2098)], T [], N (FH.topS 107) "single_in" "single_in" 0 [] .none .none, C "single_in" "single_in" 2091 797 1 3 1425 true 181 1426 [.none, (r 1427), (r 1428), (r 1429)] 2099 f0, M (FH.topS 107) "single_in" "single_in" 3 [] .none .none (s "foreheads.talks" 1613) (r 1430) .none, T [], F [], T [(s "line" 2105), (s "word" 2106), (s "blank" 2107), (s "rest" 2108)], T [], N (FH.topS 108) "head_in" "head_in" 0 [] .none .none, C "head_in" "head_in" 2102 807 1 3 1432 true 181 1433 [.none, (r 1434), (r 1435), (r 1436)] 2109 f0, M (FH.topS 108) "head_in" "head_in" 3 [] .none .none (s "foreheads.talks" 1613) (r 1437) .none, T [], F [], T [(s "waiting" 2115), (s "line" 2116), (s "block" 2117), (s "can_be" 2118), (s "row" 2119), (s "head" 2120)], T [], N (FH.topS 109) "take_line" "take_line" 0 [] .none .none, C "take_line" "take_line" 2112 814 2 3 1439 true 181 1440 [.none, (r 1441), (r 1442), (r 1443)] 2121 f0, M (FH.topS 109) "take_line" "take_line" 3 [] .none .none (s "foreheads.talks" 1613) (r 1444) .none, T [], F [], T [(s "text" 2127), (s "lines" 2128), (s "waiting" 2129), (s "at" 2130), (s "line" 2131)], T [], N (FH.topS 110) "rows_read" "rows_read" 0 [] .none .none, C "rows_read" "rows_read" 2124 833 1 3 1446 true 181 1447 [.none, (r 1448), (r 1449), (r 1450)] 2132 f0, M (FH.topS 110) "rows_read" "rows_read" 3 [] .none .none (s "foreheads.talks" 1613) (r 1451) .none, T [], F [], T [(s "_law_script" 2140), (s "_law_k" 2141), (s "_law_own" 2142), (s "_law_cell" 2143), (s "_law_seed" 2144)], T [], N (FH.topS 112) "_law_box" "_law_box" 0 [] .none .none, C "_law_box" "_law_box" 2137 843 3 3 1453 true 181 1454 [.none, (r 1455), (r 1456), (r 1457)] 2145 f0, M (FH.topS 112) "_law_box" "_law_box" 3 [] .none .none (s "law_foreheads_k22_rows_refused" 2135) (r 1458) .none, T [], F [], T [(s "_law_box_here" 2151), (s "_law_many" 2152), (s "_law_digit" 2153), (s "_law_first" 2154)], T [], N (FH.topS 113) "_law_take" "_law_take" 0 [] .none .none, C "_law_take" "_law_take" 2148 851 2 3 1460 true 181 1461 [.none, (r 1462), (r 1463), (r 1464)] 2155 f0, M (FH.topS 113) "_law_take" "_law_take" 3 [] .none .none (s "law_foreheads_k22_rows_refused" 2135) (r 1465) .none, T [], F [], T [(s "_law_box_here" 2161), (s "_law_some" 2162)], T [], N (FH.topS 114) "_law_pick" "_law_pick" 0 [] .none .none, C "_law_pick" "_law_pick" 2158 860 2 3 1467 true 181 1468 [.none, (r 1469), (r 1470), (r 1471)] 2163 f0, M (FH.topS 114) "_law_pick" "_law_pick" 3 [] .none .none (s "law_foreheads_k22_rows_refused" 2135) (r 1472) .none, T [], F [], T [(s "_law_form" 2169), (s "_law_first" 2170), (s "_law_second" 2171), (s "_law_third" 2172), (s "_law_found" 2173), (s "e" 2174)], T [], N (FH.topS 115) "_law_refused" "_law_refused" 0 [] .none .none]
def n4_5 (P : Params) : List Obj := [C "_law_refused" "_law_refused" 2166 862 4 3 1474 true 181 1475 [.none, (r 1476), (r 1477), (r 1478)] 2175 f0, M (FH.topS 115) "_law_refused" "_law_refused" 3 [] .none .none (s "law_foreheads_k22_rows_refused" 2135) (r 1479) .none, T [], F [], N (FH.topS 116) "law" "law" 0 [] .none .none, C "law" "law" 2178 874 1 3 1481 true 181 1482 [.none, .none, .none, (r 1483)] 2181 f0, M (FH.topS 116) "law" "law" 3 [] .none .none (s "law_foreheads_k22_rows_refused" 2135) (r 1484) .none]
def u4 (P : Params) : List (Nat × (Obj → Obj)) := [(3, fun _ => D [e P "__name__" 165 (s "law_foreheads_k22_rows_refused" 2135), e P "__doc__" 166 .none, e P "__package__" 167 .none, e P "__loader__" 168 (.builtin "__main__.__loader__#opaque"), e P "__spec__" 169 .none, e P "__annotations__" 170 (r 6), e P "__builtins__" 171 (r 4), e P "__file__" 173 (s "/claim/cut.py" 172), e P "__cached__" 174 .none, e P "_wall" 193 (r 21), e P "KnowError" 213 (r 31), e P "InvalidCrowds" 240 (r 53), e P "InvalidSaying" 267 (r 74), e P "InvalidTalk" 294 (r 95), e P "InvalidLine" 321 (r 116), e P "InvalidText" 348 (r 137), e P "Untrue" 375 (r 158), e P "NoRow" 406 (r 179), e P "KINDS" 411 (r 183), e P "is_integer" 418 (r 190), e P "is_number" 425 (r 197), e P "is_kind" 432 (r 204), e P "is_sequence" 439 (r 211), e P "is_crowd" 446 (r 218), e P "common_multiple" 456 (r 225), e P "held" 464 (r 963), e P "held_lines" 465 (r 230), e P "signed" 474 (r 237), e P "count" 483 (r 244), e P "edge_of" 491 (r 251), e P "known" 504 (r 258), e P "shared_by_all" 514 (r 265), e P "knowing" 520 (r 270), e P "parted" 526 (r 275), e P "lifted" 541 (r 282), e P "done" 547 (r 287), e P "part_of" 553 (r 292), e P "all_done" 563 (r 299), e P "numbers_of" 569 (r 304), e P "where_true" 575 (r 309), e P "Line" 635 (r 349), e P "IN" 639 (s "+" 638), e P "NOT_IN" 641 (s "-" 640), e P "is_table" 647 (r 358), e P "checked" 653 (r 363), e P "least_way" 666 (r 370), e P "columns_of" 672 (r 375), e P "place_of" 681 (r 382), e P "widened" 687 (r 387), e P "both_tables" 693 (r 392), e P "signs_of" 699 (r 397), e P "combined" 712 (r 404), e P "is_within" 718 (r 409), e P "made_by" 724 (r 414), e P "Crowds" 1007 (r 601), e P "SIGNS" 1014 (r 606), e P "told_by" 1021 (r 613), e P "need_kind" 1028 (r 620), e P "text_of" 1036 (r 627), e P "Saying" 1136 (r 709), e P "Both" 1164 (r 732), e P "Contrary" 1190 (r 753), e P "AtLeast" 1219 (r 774), e P "Rest" 1250 (r 795), e P "Fact" 1277 (r 816), e P "Sure" 1304 (r 837), e P "Silent" 1329 (r 858), e P "Knows" 1358 (r 879), e P "Common" 1385 (r 900), e P "Piece" 1416 (r 919), e P "Question" 1446 (r 940), e P "who" 1457 (r 951), e P "answer_to" 1468 (r 958), e P "held_runs" 1475 (r 963), e P "heard" 1483 (r 970), e P "DIGITS_sayingtexts" 1487 (s "0123456789" 1486), e P "MOST_FIGURES" 1489 (i 4 1488), e P "shared" 1498 (r 977), e P "read_one_of" 1504 (r 982), e P "read_number" 1514 (r 989), e P "read_signs" 1524 (r 996), e P "read_table" 1539 (r 1003), e P "read_part" 1549 (r 1010), e P "read_pair" 1555 (r 1015), e P "read_kind" 1564 (r 1022), e P "read_counted" 1579 (r 1029), e P "read_rest" 1590 (r 1036), e P "read_any" 1603 (r 1043), e P "read_saying" 1612 (r 1050), e P "DIGITS_talks" 1616 (s "123456789" 1615), e P "MOST" 1618 (i 9 1617), e P "need_saying" 1625 (r 1057), e P "need_rows" 1631 (r 1062), e P "lines_of" 1637 (r 1067), e P "flat" 1647 (r 1074), e P "Row" 1707 (r 1117), e P "Say" 1732 (r 1138), e P "Ask" 1757 (r 1157), e P "Hands" 1782 (r 1176), e P "Step" 1805 (r 1195), e P "If" 1842 (r 1223), e P "Times" 1876 (r 1249), e P "left_out" 1887 (r 1258), e P "thinned" 1896 (r 1265), e P "Talk" 2023 (r 1364), e P "Block" 2082 (r 1413), e P "saying_in" 2090 (r 1424), e P "single_in" 2101 (r 1431), e P "head_in" 2111 (r 1438), e P "take_line" 2123 (r 1445), e P "rows_read" 2134 (r 1452), e P "_law_box" 2147 (r 1459), e P "_law_take" 2157 (r 1466), e P "_law_pick" 2165 (r 1473), e P "_law_refused" 2177 (r 1480), e P "law" 2183 (r 1485)] 116), (12, fA [(i 686 0), z, (r 1184), (i 690 0), z, (r 1203), (i 702 0), z, (r 1231), (i 713 0), z, (r 1257), (i 720 0), z, (r 1264), (i 727 0), z, (r 1271), (i 769 0), z, (r 1374), (i 791 0), z, (r 1423), (i 797 0), z, (r 1430), (i 807 0), z, (r 1437), (i 814 0), z, (r 1444), (i 833 0), z, (r 1451), (i 843 0), z, (r 1458), (i 851 0), z, (r 1465), (i 860 0), z, (r 1472), (i 862 0), z, (r 1479), (i 874 0), z, (r 1484)]), (1117, cA [(r 1195), (r 1223), (r 1249)])]
def o4 (P : Params) : List Obj := ovr (o3 P) 0 (u4 P)
  ++ (n4_0 P ++ (n4_1 P ++ (n4_2 P ++ (n4_3 P ++ (n4_4 P ++ (n4_5 P))))))
def S4 (w : World) (os : OsState) : SharedT := st (o4 w.params) 1486 2184 os
def bE : List Stmt := behindTheImports pr
def en : Env := { scope := pr.main.scope, locals := mainNs, globals := mainNs, cells := [], code := .ref 13, frame := some 14 }
abbrev cE : Code := .body bE en
abbrev B0 : List Frame := [topFrame ⟨0, 0, 0, 0⟩]
theorem g0 (w : World) (os : OsState) : tgF (stQ pr w) 11 (some (.ref 6)) 12 (bo w os) (topStub pr) = some (S0 w os, ⟨denQ tabQ cE, cE, ⟨0, 0, 0, 0⟩, B0⟩) := by kernel_rfl
theorem gb (w : World) (os : OsState) : segF (stQ pr w) 11 (some (.ref 6)) 1 (S0 w os) (blockOf bE en cE ⟨0, 0, 0, 0⟩ B0) = some (.next, S0 w os, cE, ⟨0, 0, 0, 0⟩) := by kernel_rfl
def l1 : List Stmt := (bE.drop 0).take 48
theorem g1 (w : World) (os : OsState) : segF (stQ pr w) 11 (some (.ref 6)) 3321 (S0 w os) (piecesOf l1 en cE ⟨0, 0, 0, 0⟩ B0) = some (.next, S1 w os, cE, ⟨231, 0, 233, 73⟩) := by kernel_rfl
def l2 : List Stmt := (bE.drop 48).take 12
theorem g2 (w : World) (os : OsState) : segF (stQ pr w) 11 (some (.ref 6)) 3555 (S1 w os) (piecesOf l2 en cE ⟨231, 0, 233, 73⟩ B0) = some (.next, S2 w os, cE, ⟨440, 0, 451, 28⟩) := by kernel_rfl
def l3 : List Stmt := (bE.drop 60).take 39
theorem g3 (w : World) (os : OsState) : segF (stQ pr w) 11 (some (.ref 6)) 3529 (S2 w os) (piecesOf l3 en cE ⟨440, 0, 451, 28⟩ B0) = some (.next, S3 w os, cE, ⟨680, 0, 685, 56⟩) := by kernel_rfl
def l4 : List Stmt := (bE.drop 99).take 18
theorem g4 (w : World) (os : OsState) : segF (stQ pr w) 11 (some (.ref 6)) 2256 (S3 w os) (piecesOf l4 en cE ⟨680, 0, 685, 56⟩ B0) = some (.next, S4 w os, cE, ⟨874, 0, 902, 78⟩) := by kernel_rfl
theorem gf (w : World) (os : OsState) : goF (stQ pr w) 11 (some (.ref 6)) 2 (S4 w os) ⟨doneF .next, cE, ⟨874, 0, 902, 78⟩, B0⟩ = some (S4 w os) := by kernel_rfl
theorem bE_eq : bE = (l1 ++ (l2 ++ (l3 ++ (l4 ++ [])))) := by kernel_rfl
theorem run (w : World) (os : OsState) : topRun treeTable pr w 11 (some (.ref 6)) (12 + (1 + (3321 + (3555 + (3529 + (2256 + (2))))))) (bo w os).abs (topStub pr) = some (S4 w os).abs := by
  refine top_go (g0 w os) (top_block (gb w os) ?_)
  rw [show restOf bE en cE ⟨0, 0, 0, 0⟩ B0 = restOf (l1 ++ (l2 ++ (l3 ++ (l4 ++ [])))) en cE ⟨0, 0, 0, 0⟩ B0 from congrArg (fun x => restOf x en cE ⟨0, 0, 0, 0⟩ B0) bE_eq]
  exact (top_cons (g1 w os) (top_cons (g2 w os) (top_cons (g3 w os) (top_cons (g4 w os) (top_nil (gf w os))))))
theorem hb (w : World) : (putAll (boot_heap w.params).objs.toList .nil 0).map (·.2) = some 11 := by kernel_rfl
theorem ha (w : World) : bootAnn w = some (.ref 6) := by kernel_rfl
abbrev SE := S4
end HsZ
end
namespace FH
set_option linter.all false
set_option maxRecDepth 100000
set_option maxHeartbeats 0
open PySem L2
open HsZ in
theorem kk1 (w : World) (os : OsState) : HandSHeadRun.looksF ROP.prog (PySem.W.boot_heap w.params) (SE w os).abs = true := by kernel_rfl
open HsZ in
theorem kk2 (w : World) (os : OsState) : HandSHeadRun.seenQ (PySem.W.view ROP.prog [116]) loose (PySem.importedModules ROP.prog.main.body) (fun s => PySem.W.xlAt (PySem.W.view ROP.prog [116]) [] s && PySem.W.recOk ROP.toRowW.records s) (SE w os).abs = PySem.W.openGood (PySem.W.view ROP.prog [116]) loose := by kernel_rfl
open HsZ in
theorem kf0 (w : World) (os : OsState) : HkX.obF faP0 fnP0 (SE w os) = HkX.val fnP0 := by kernel_rfl
open HsZ in
theorem kf1 (w : World) (os : OsState) : HkX.obF faP1 fnP1 (SE w os) = HkX.val fnP1 := by kernel_rfl
open HsZ in
theorem kf2 (w : World) (os : OsState) : HkX.obF faP2 fnP2 (SE w os) = HkX.val fnP2 := by kernel_rfl
open HsZ in
theorem kf3 (w : World) (os : OsState) : HkX.obF faP3 fnP3 (SE w os) = HkX.val fnP3 := by kernel_rfl
end FH

set_option Elab.async false
set_option linter.all false
set_option maxRecDepth 100000
set_option maxHeartbeats 1000000
namespace L2
open PySem PySem.Spec PyProof.Rows
theorem viaT {t : TT} {σ : L2.St} {H : Hp} {Q : Bool → Hp → Prop} (Post : Bool → Hp → Prop) (a : ∀ b H2, Post b H2 → Q b H2) (b : ∀ Q' : Bool → Hp → Prop, (∀ b H2, Post b H2 → Q' b H2) → t σ H Q') : t σ H Q := b Q a
/-- q[i], q a list or a tuple -/
def rIxQ (K : PySem.W.Frag) : R2 := fun x y H Q => ∃ p xs i v, x = .ref p ∧ y = .int i ∧ (SqL K H p xs ∨ SqT K H p xs) ∧ atI xs i = some v ∧ Q v H
theorem ixQK {X : Cx} {K : PySem.W.Frag} (h : X.K = K) : IxR X (rIxQ K) := by
  subst h
  intro a b pins s σ H x y v u Q I rx ry q
  refine ix_seq a b pins s σ H x y v u Q I rx ry ?_
  obtain ⟨p, xs, i, z, e1, e2, hs, e3, q⟩ := q
  rcases hs with hs | hs
  · exact .inl ⟨p, xs, i, z, e1, e2, hs, e3, q⟩
  · exact .inr (.inl ⟨p, xs, i, z, e1, e2, hs, e3, q⟩)
theorem new_ex {H : Hp} {p : Addr} (n : H p = none) (o : HO) : ∃ H', upd H p o = H' ∧ Same H H' ∧ H' p = some o :=
  ⟨_, rfl, fun b x e => by rw [upd_ne (ne_of_none e n)]; exact e, upd_same⟩
theorem dInt (a b : Int) : decide (V.int a = V.int b) = decide (a = b) := by
  by_cases h : a = b
  · rw [h]; simp
  · rw [decide_eq_false h]; exact decide_eq_false fun w => h (V.int.inj w)
theorem dNat (a b : Nat) : decide (V.int (a : Int) = V.int (b : Int)) = decide (a = b) := by
  rw [dInt]
  by_cases h : a = b
  · rw [h]; simp
  · rw [decide_eq_false h]; exact decide_eq_false fun w => h (by omega)
theorem dStr (a b : Str) : decide (V.str a = V.str b) = decide (a = b) := by
  by_cases h : a = b
  · rw [h]; simp
  · rw [decide_eq_false h]; exact decide_eq_false fun w => h (V.str.inj w)
def rJoin (K : PySem.W.Frag) : V → List V → Hp → VK → Prop := fun x xs H Q => ∃ a p, ∃ ys : List Str, x = .str a ∧ xs = [.ref p] ∧ (SqL K H p (ys.map V.str) ∨ SqT K H p (ys.map V.str)) ∧ (ys.map (·.length)).sum + ys.length * a.length ≤ 16777216 ∧ Q (.str (Txt.join a ys)) H
theorem pe_joinK {X : Cx} {K : PySem.W.Frag} {o e : Expr} {to te : TE} {apos pos : Pos} (h : X.K = K) (ho : PE X o to) (he : PE X e te)
    (hbase : attributeBase o "join" X.env (eval o X.env) = eval o X.env := by rfl) (hst : starEach [e] X.env = (false, eval e X.env) :: starEach [] X.env := by rfl) (hline : (apos.endLine == pos.line) = true := by rfl) :
    PE X (.Call (.Attribute o "join" apos) [e] [] pos) (tM1 (rJoin K) to te) := by subst h; exact pe_join ho he (hs := hst) (hbase := hbase) (hline := hline)
/-! data: lists and tuples of texts -/
def lS (xs : List Str) : PyData := .list (xs.map PyData.str)
def tS (xs : List Str) : PyData := .tuple (xs.map PyData.str)
theorem dp_strs {K : PySem.W.Frag} {H : Hp} : ∀ ns : List Str, DpAll K H (ns.map V.str) (ns.map PyData.str)
  | [] => .nil
  | n :: r => .cons (.str n) (dp_strs r)
theorem dp_lS {K : PySem.W.Frag} {H : Hp} {a : Addr} {ns : List Str} (h : SqL K H a (ns.map V.str)) : Dp K H (.ref a) (lS ns) := .lst h (dp_strs ns)
theorem dp_tS {K : PySem.W.Frag} {H : Hp} {a : Addr} {ns : List Str} (h : SqT K H a (ns.map V.str)) : Dp K H (.ref a) (tS ns) := .tup h (dp_strs ns)
theorem eqv_strs : ∀ ns ms : List Str, PyData.eqvAll (ns.map PyData.str) (ms.map PyData.str) = decide (ns = ms)
  | [], [] => rfl
  | [], m :: r => by simp [PyData.eqvAll]
  | n :: r, [] => by simp [PyData.eqvAll]
  | n :: r, m :: s => by
    show (n == m && PyData.eqvAll (r.map PyData.str) (s.map PyData.str)) = _
    rw [eqv_strs r s]
    by_cases h : n = m <;> by_cases h2 : r = s <;> simp [h, h2]
theorem eqv_lS (ns ms : List Str) : PyData.eqv (lS ns) (lS ms) = decide (ns = ms) := eqv_strs ns ms
theorem eqv_tS (ns ms : List Str) : PyData.eqv (tS ns) (tS ms) = decide (ns = ms) := eqv_strs ns ms
/-- a text of code points -/
def LayS (x : Str) : Prop := PyData.canLay0 (.str x) = true
theorem lay_strs : ∀ ns : List Str, (∀ x ∈ ns, LayS x) → PyData.canLayAll0 (ns.map PyData.str) = true
  | [], _ => rfl
  | n :: r, h => by
    show (PyData.canLay0 (.str n) && PyData.canLayAll0 (r.map PyData.str)) = true
    rw [lay_strs r fun x hx => h x (List.mem_cons_of_mem _ hx), show PyData.canLay0 (.str n) = true from h n (List.mem_cons_self ..)]; rfl
theorem depth_strs : ∀ ns : List Str, PyData.depthAll (ns.map PyData.str) = 0
  | [] => rfl
  | n :: r => by
    show max (PyData.depth (.str n)) (PyData.depthAll (r.map PyData.str)) = 0
    rw [depth_strs r]; rfl
theorem depth_lS (ns : List Str) : (lS ns).depth = 1 := by
  show PyData.depthAll (ns.map PyData.str) + 1 = 1
  rw [depth_strs]
theorem depth_tS (ns : List Str) : (tS ns).depth = 1 := by
  show PyData.depthAll (ns.map PyData.str) + 1 = 1
  rw [depth_strs]
theorem shaped_lS (ns : List Str) (h : ∀ x ∈ ns, LayS x) : SeqAt.shaped (lS ns) = true := by
  unfold SeqAt.shaped
  rw [depth_lS]
  show (PyData.canLayAll0 (ns.map PyData.str) && _) = true
  rw [lay_strs _ h]; rfl
theorem shaped_tS (ns : List Str) (h : ∀ x ∈ ns, LayS x) : SeqAt.shaped (tS ns) = true := by
  unfold SeqAt.shaped
  rw [depth_tS]
  show (PyData.canLayAll0 (ns.map PyData.str) && _) = true
  rw [lay_strs _ h]; rfl
theorem cut_map {α : Type} (f : α → V) (xs : List α) (i j : Nat) (hi : i ≤ j) (hj : j ≤ xs.length) : cutV (xs.map f) (some (i : Int)) (some (j : Int)) = ((xs.drop i).take (j - i)).map f := by
  unfold cutV
  rw [HT.sIx_nat, HT.sIx_nat, List.length_map, Nat.min_eq_left hj, Nat.min_eq_left (Nat.le_trans hi hj), List.map_take, List.map_drop]
theorem cut_pre {α : Type} (f : α → V) (xs : List α) (j : Nat) (hj : j ≤ xs.length) : cutV (xs.map f) none (some (j : Int)) = (xs.take j).map f := by
  unfold cutV
  rw [HT.sIx_none, HT.sIx_nat, List.length_map, Nat.min_eq_left hj, List.drop_zero, Nat.sub_zero, List.map_take]
theorem cut_suf {α : Type} (f : α → V) (xs : List α) (i : Nat) : cutV (xs.map f) (some (i : Int)) none = (xs.drop i).map f := by
  unfold cutV
  rw [HT.sIx_none, HT.sIx_nat, List.length_map, List.map_drop]
  by_cases h : i ≤ xs.length
  · rw [Nat.min_eq_left h, List.take_of_length_le (by simp)]
  · rw [Nat.min_eq_right (by omega), List.drop_of_length_le (by simp), List.drop_of_length_le (by simp; omega)]
    simp
theorem layS_of {x : Str} (h : ∀ c ∈ x.cps.toList, c < 1114112) : LayS x := by
  show x.cps.all (· < 0x110000) = true
  rw [Array.all_eq_true']
  intro c hc
  exact decide_eq_true (h c (Array.mem_toList_iff.mpr hc))
end L2

set_option Elab.async false
set_option linter.all false
set_option maxRecDepth 100000
set_option maxHeartbeats 1000000
namespace L2
open PySem PySem.Spec PyProof.Rows
/-! list(text), tuple(text) -/
def signsV (x : Str) : List V := x.cps.toList.map fun c => V.str ⟨#[c]⟩
theorem vals_signs {x : Str} {acc : Array Value} (h : ItemsOf (SignAt x) acc x.cps.size) : Vals (signsV x) acc.toList := by
  refine vals_of_at ?_ fun j v u h1 h2 => ?_
  · unfold signsV
    rw [List.length_map, Array.length_toList, Array.length_toList, h.1]
  · rw [Array.getElem?_toList] at h2
    obtain ⟨c, t, e1, e2⟩ := h.2 j u h2
    unfold signsV at h1
    rw [List.getElem?_map, Array.getElem?_toList, e1] at h1
    cases h1
    exact ⟨t, e2⟩
section
variable {prog : Program} {w : World} {A : Around} {E : Value → Shared → Prop} {s : Shared}
theorem code_tuple_new_str {Q₁ : Value → Shared → Prop} (hh : A.handled = none) (x : Str) (t : Tok) (hn : x.cps.size ≤ sizeLine)
    (h : ∀ (h' : Heap) (tk : Nat) (acc : Array Value), (∀ b o, s.heap.get? b = some o → h'.get? b = some o) → ItemsOf (SignAt x) acc x.cps.size →
      Q₁ (.ref h'.objs.size) { s with heap := h'.push { cls := .type "tuple", data := .seq acc }, toks := tk }) :
    codeAny (model prog w) A (.call (.builtin "tuple.__new__") ⟨[.type "tuple", .str x t], []⟩) (wants Q₁ E) s := by
  refine codeAny_of_tree ?_
  show wpAny _ A.in1 (do checkBuiltinCall "tuple.__new__" ⟨[.type "tuple", .str x t], []⟩; again (.builtin "tuple.__new__" ⟨[.type "tuple", .str x t], []⟩)) _ _ s
  refine wpAny_bind (wpAny_of_eq (F.newCall_tuple_1 _) (wpAny_pure ⟨plainId_quiet F.plain_tuple_new _, codeAny_builtin F.entry_tuple_new ?_⟩))
  rw [Around.under_plainId F.plain_tuple_new _]
  have hsub := sub_tuple_self
  have hinit := init_tuple_lookup
  have hmh := madeHere_tuple
  have hTI : s.TypeIs (.str x t) "str" := rfl
  have hh1 : A.in1.handled = none := hh
  wp_walk using wpAny_typeOf hTI, wpAny_collect_str (A := A.in1) (hn := hn) hh1 x t
  intro s' acc hk e1 e2 e3 hacc
  show wpAny _ _ (Builtin.Tuple.tupleExact acc.toList.toArray >>= fun v => ret v) _ _ _
  unfold Builtin.Tuple.tupleExact
  refine wpAny_bind (wpAny_newObj_type ?_ (by show acc.toList.toArray.size ≤ sizeLine; simp only [Array.toArray_toList]; rw [hacc.1]; exact hn))
  refine wpAny_pure ?_
  have e : acc.toList.toArray = acc := by simp
  rw [e]
  have := h s'.heap s'.toks acc hk hacc
  obtain ⟨hp, g, dr, tk, os⟩ := s'
  obtain ⟨hp0, g0, dr0, tk0, os0⟩ := s
  cases e1; cases e2; cases e3
  exact this
theorem call_tuple_str {Q : Value → Shared → Prop} (hh : A.handled = none) (x : Str) (t : Tok) (hn : x.cps.size ≤ sizeLine)
    (hQ : ∀ (h' : Heap) (tk : Nat) (acc : Array Value), (∀ b o, s.heap.get? b = some o → h'.get? b = some o) → ItemsOf (SignAt x) acc x.cps.size →
      Q (.ref h'.objs.size) { s with heap := h'.push { cls := .type "tuple", data := .seq acc }, toks := tk }) :
    wpAny (model prog w) A (call (.type "tuple") [.str x t]) Q E s := by
  refine callType_codes (Q₁ := fun obj s₁ => s₁.TypeIs obj "tuple" ∧ Q obj s₁) F.called_tuple (F.typeCall_tuple_1 _) F.entry_object_init
    (code_tuple_new_str (A := A.in1) hh x t hn fun h' tk acc hk hacc => ⟨⟨_, Heap.get?_push_size _ rfl, rfl⟩, hQ h' tk acc hk hacc⟩) fun obj s₁ h₁ => ?_
  exact ⟨h₁.1, F.args_object_init_2 obj _, object_init_meets F.called_tuple.init.lookup F.called_tuple.made (by decide) prog w A.in1 _ s₁ ⟨h₁.1, rfl, h₁.2⟩⟩
end
section
variable {X : Cx}
def rListS : List V → Hp → VK → Prop := fun xs H Q => ∃ x : Str, xs = [.str x] ∧ x.cps.size ≤ sizeLine ∧ ∀ l, H l = none → Q (.ref l) (upd H l (.lst (signsV x)))
def rTupS : List V → Hp → VK → Prop := fun xs H Q => ∃ x : Str, xs = [.str x] ∧ x.cps.size ≤ sizeLine ∧ ∀ l, H l = none → Q (.ref l) (upd H l (.tup (signsV x)))
theorem call_listS (hc : X.calm = true) : CallR X (.type "list") rListS := by
  intro pins s σ H xs us Q I r h
  obtain ⟨x, e, hn, q⟩ := h
  subst e
  obtain ⟨u, eu, rx⟩ := vals1 r
  subst eu
  obtain ⟨t, rfl⟩ := rx
  refine call_list_str (hn := hn) (I.ok.hd hc) x t fun h' tk acc c' hk hD hacc => ?_
  refine ⟨.ref s.heap.objs.size, upd H s.heap.objs.size (.lst (signsV x)), I.laid (t' := tk) hk (Nat.le_refl _)
    (show ObjOk X.prog X.w _ _ _ (.lst (signsV x)) from ⟨by unfold signsV; rw [List.length_map, Array.length_toList]; exact hn, acc.toList, c', vals_signs hacc, by rw [Array.toArray_toList]; exact hD⟩), rfl, q _ (I.hok.fresh (Nat.le_refl _))⟩
theorem call_tupS (hc : X.calm = true) : CallR X (.type "tuple") rTupS := by
  intro pins s σ H xs us Q I r h
  obtain ⟨x, e, hn, q⟩ := h
  subst e
  obtain ⟨u, eu, rx⟩ := vals1 r
  subst eu
  obtain ⟨t, rfl⟩ := rx
  refine call_tuple_str (I.ok.hd hc) x t hn fun h' tk acc hk hacc => ?_
  have I2 : Inv X pins σ H { s with heap := h', toks := tk } := I.kept hk
  refine ⟨.ref h'.objs.size, upd H h'.objs.size (.tup (signsV x)), I2.laid (t' := tk) (fun c o e => Heap.get?_push_of_some _ e) (Nat.le_refl _) (show ObjOk X.prog X.w _ _ _ (.tup (signsV x)) from ⟨?_, acc.toList, vals_signs hacc, ?_⟩), rfl, q _ (I2.hok.fresh (Nat.le_refl _))⟩
  · unfold signsV; rw [List.length_map, Array.length_toList]; exact hn
  · rw [Array.toArray_toList]; exact IsTup.new _ _
/-! a token is out behind a written text -/
def PEg (X : Cx) (e : Expr) (t : TE) : Prop := ∀ (pins : List (Addr × Obj)) (s : Shared) (σ : St) (H : Hp) (Q : VK), Inv X pins σ H s → t σ H Q → wpAny (model X.prog X.w) X.A (eval e X.env) (fun v s' => 1 ≤ s'.toks ∧ EP X pins σ Q v s') X.xe s
theorem peg_opc {op : Operator} {r : R2} {a : Expr} {ta : TE} {x : Str} {j : Nat} {cp pos : Pos} (ho : OpR X (binaryOp op) r) (ha : PE X a ta) : PEg X (.BinOp a op (.Constant (.str x) j cp) pos) (tOp r ta (tC (.str x))) := by
  intro pins s σ H Q I h
  refine wpAny_BinOp (thn (ha.run pins s σ H _ I h) fun v s1 ⟨y, H1, I1, r1, q1⟩ => Calls.Constant_str ?_)
  exact wpAny_mono (PySem.wpAny_toks_of (n := 1) (by show 1 ≤ s1.toks + 1; omega) (ho pins { s1 with toks := s1.toks + 1 } σ H1 y (.str x) v _ Q (I1.tok _) r1 ⟨_, rfl⟩ q1)) (fun _ _ z => z) fun _ _ z => z.2
theorem peg_lst {e : Expr} {te : TE} {pos : Pos} (he : PEg X e te) (hs : starEach [e] X.env = (false, eval e X.env) :: starEach [] X.env := by rfl) : PEg X (.List [e] pos) (tLst (tCons te tNil)) := by
  intro pins s σ H Q I hq
  refine wpAny_List_spliced ?_
  rw [hs]
  show wpAny _ _ (spliced ((false, eval e X.env) :: backTo pos (starEach [] X.env))) _ _ s
  refine Calls.spliced_cons (thn (he pins s σ H _ I hq) fun u s1 ⟨hk, x, H1, I1, r1, q1⟩ => Calls.spliced_nil ?_)
  obtain ⟨z, q⟩ := q1
  refine ⟨z, hk, ?_⟩
  have hf : H1 s1.heap.objs.size = none := I1.hok.fresh (Nat.le_refl _)
  refine ⟨.ref s1.heap.objs.size, upd H1 s1.heap.objs.size (.lst [x]), I1.laid (t' := s1.toks) (fun b u e => Heap.get?_push_of_some _ e) (Nat.le_refl _) ?_, rfl, q _ hf⟩
  exact ⟨z, [u], 0, .cons r1 .nil, Heap.get?_push_size _ rfl⟩
theorem pa_consG {e : Expr} {es : List Expr} {te : TE} {t : TA} (ha : PEg X e te) (hr : PAT X es t) (hs : starEach (e :: es) X.env = (false, eval e X.env) :: starEach es X.env := by rfl) : PA X (e :: es) (tCons te t) := by
  refine ⟨fun pos pins s σ H Q I h => ?_⟩
  rw [hs]
  show wpAny _ _ (spliced ((false, eval e X.env) :: backTo pos (starEach es X.env))) _ _ s
  refine Calls.spliced_cons (thn (ha pins s σ H _ I h) fun u s1 ⟨hk, x, H1, I1, r1, q1⟩ => ?_)
  exact thn (hr pos pins s1 σ H1 _ hk I1 q1) fun us s2 ⟨xs, H2, I2, r2, q2⟩ => ⟨x :: xs, H2, I2, .cons r1 r2, q2⟩
end
/-! a for over a list or a tuple that stands at a name -/
theorem for_seqV {K : PySem.W.Frag} {a : Addr} {xs : List V} {g : TG} {tb : TS} {D : Ends} {σ : St} {H : Hp} {k : Nat} (hv : σ[k]? = some (some (.ref a))) (hl : SqL K H a xs ∨ SqT K H a xs) (Pv : Nat → St → Hp → Prop) (h0 : Pv 0 σ H)
    (hk : ∀ i σ H', i ≤ xs.length → Pv i σ H' → (SqL K H a xs → SqL K H' a xs) ∧ (SqT K H a xs → SqT K H' a xs))
    (hs : ∀ i x σ H, xs[i]? = some x → Pv i σ H → g x σ H fun σ2 H2 => tb { D with nx := Pv (i + 1), ct := Pv (i + 1), bk := D.nx } σ2 H2) (hd : ∀ σ H, Pv xs.length σ H → D.nx σ H) :
    tFor (iSeq K (tVar k)) g tb D σ H := by
  refine ⟨_, hv, a, xs, rfl, ?_⟩
  rcases hl with h | h
  · exact .inl ⟨h, for_list Pv h0 (fun i σ' H' hi hp => (hk i σ' H' hi hp).1 h) hs hd⟩
  · exact .inr ⟨h, for_tup Pv h0 (fun i σ' H' hi hp => (hk i σ' H' hi hp).2 h) hs hd⟩
theorem Same.seqT {K : PySem.W.Frag} {H H' : Hp} {a : Addr} {xs : List V} (s : Same H H') (h : SqT K H a xs) : SqT K H' a xs := by
  rcases h with (h | ⟨o, h⟩) | h
  · exact .inl (.inl (s _ _ h))
  · exact .inl (.inr ⟨o, s _ _ h⟩)
  · exact .inr h
end L2

set_option Elab.async false
set_option linter.all false
set_option maxRecDepth 100000
set_option maxHeartbeats 2000000
namespace PySem.W
open PySem PySem.Calls PyProof.Rows
section
variable {prog : Program} {w : World} {A : Around} {E : Value → Shared → Prop} {s : Shared} {K : Frag} {x C f : Addr} {ox : Obj} {od : Option Obj} {b tb : Value}
/-- != of an instance whose class writes == alone -/
theorem ne_own {Q : Value → Shared → Prop} (hu : A.units + 1 < cLine) (X : K.In s.heap) (I : InstAt s.heap x ox C od) (hb : Looks (model prog w) s.heap (typeOf b) tb) (hn : notFirst K C tb = true)
    (hs : findIn K (.ref C) "__eq__" = some (some (.ref f))) (hf : isFn K (.ref f) = true) (hne : findIn K (.ref C) "__ne__" = some (some (.builtin "object.__ne__"))) (hob : mroIn K C (.type "object") = some true)
    (h : wpAny (model prog w) A.in1 (call (.ref f) [.ref x, b]) (fun v s' => ∃ c, v = .bool c ∧ Q (.bool (!c)) s') E s) : wpAny (model prog w) A (richCompare .NotEq (.ref x) b) Q E s := by
  have SN := F.cmp_object.ne
  have sub : Looks (model prog w) s.heap (isInstance (.ref x) (.type "object")) true := I.type.andThen (looks_mroIn X hob)
  have one : wpAny (model prog w) A (tryCompare (.ref x) "__ne__" b) (fun r s' => ∃ v, r = some v ∧ Q v s') E s := by
    unfold tryCompare
    simp only [callSpecialIfBound?, bindSpecialIfBound?]
    have cal : wpAny (model prog w) A (call (.builtin "object.__ne__") [.ref x, b]) (fun v s' => ∃ c, v = .bool c ∧ Q v s') E s := by
      refine wpAny_call (codeAny_call_builtin SN.plain F.cmpEntry_ne (check_slot F.cmpKind_ne F.cmpSplit_ne sub (F.cmpArgs_ne _ _) ?_))
      unfold Builtin.«object.__ne__»
      refine wpAny_bind (wpAny_of_eq (a := ((Value.ref x : Value), [b])) (by first | rfl | (simp only [slotArgs]; rfl)) ?_)
      refine wpAny_bind (wpAny_cRoomFor hu ?_)
      refine wpAny_bind (ifBound_K X I hs hf (wpAny_mono h (fun v s' hv => ?_) fun _ _ e => e))
      obtain ⟨c, rfl, hq⟩ := hv
      exact wpAny_bind (wpAny_truthy_bool (wpAny_pure ⟨!c, rfl, hq⟩))
    refine wpAny_bind (wpAny_holding (wpAny_bind (wpAny_bind (wpAny_bind (I.type.here ((looks_findIn X hne).here ?_))))))
    refine wpAny_bind (wpAny_askSetting (wpAny_ite ?_))
    have bnd := SN.bind (.ref x)
    split
    · refine wpAny_bind (wpAny_of_eq bnd (wpAny_pure ?_))
      refine wpAny_bind (wpAny_mono cal (fun v s' hv => wpAny_pure ?_) fun _ _ e => e)
      obtain ⟨c, rfl, hq⟩ := hv
      exact wpAny_pure ⟨_, rfl, hq⟩
    · refine wpAny_tryCatch (wpAny_bind (wpAny_of_eq bnd (wpAny_pure ?_)))
      refine wpAny_bind (wpAny_mono cal (fun v s' hv => wpAny_pure ?_) fun _ _ e => e)
      obtain ⟨c, rfl, hq⟩ := hv
      exact wpAny_pure ⟨_, rfl, hq⟩
  unfold richCompare
  simp only [oneThing_ref]
  refine wpAny_holding (wpAny_bind (wpAny_cRoomFor (Nat.lt_of_succ_lt hu) ?_))
  rw [cmpInfo_NotEq]
  dsimp only
  refine wpAny_bind (I.type.here (wpAny_bind (hb.here ?_)))
  split
  · rename_i q
    have e : subIn K tb (.ref C) = some false := by
      rcases Bool.or_eq_true_iff.mp hn with e | e
      · rw [beq_iff_eq.mp e] at q; simp at q
      · exact beq_iff_eq.mp e
    refine wpAny_bind ((looks_subIn X e).here ?_)
    simp only [Bool.false_eq_true, if_false]
    refine wpAny_bind (wpAny_mono one (fun r s' z => ?_) fun _ _ e => e)
    obtain ⟨v, rfl, hq⟩ := z
    exact wpAny_pure hq
  · refine wpAny_bind (wpAny_pure ?_)
    simp only [Bool.false_eq_true, if_false]
    refine wpAny_bind (wpAny_mono one (fun r s' z => ?_) fun _ _ e => e)
    obtain ⟨v, rfl, hq⟩ := z
    exact wpAny_pure hq
end
end PySem.W
namespace L2
open PySem PySem.Spec PyProof.Rows
section
variable {X : Cx} {C f : Addr} {fd : FuncData} {ps : List Str} {n : Nat}
/-- the type of any value, as the look of the library -/
theorem TyX.look {pins : List (Addr × Obj)} {σ : St} {H : Hp} {s : Shared} {x : V} {u t : Value} (I : Inv X pins σ H s) (rx : RelV x u) (ty : TyX X.K H x t) : PySem.W.Looks (model X.prog X.w) s.heap (typeOf u) t := by
  obtain ⟨P, Z, p, _⟩ := kit_of I rx ty
  exact Z.ty _ _ I.kIn p
/-- what an own == or the like is asked: it answers with a bool -/
def rOwn (K : PySem.W.Frag) (C : Addr) (sp : Sp) (g : Bool → Bool) : R2 := fun x y H Q => ∃ (a dx : Addr) (fs : List (Str × V)) (t : Value), x = .ref a ∧ H a = some (.ins C dx fs) ∧ TyX K H y t ∧ PySem.W.notFirst K C t = true ∧
  sp [x, y] H (fun z H' => ∃ b, z = .bl b ∧ Q (.bl (g b)) H') fun _ _ _ => False
theorem run_own {A : Around} {pins : List (Addr × Obj)} {σ : St} {H : Hp} {s : Shared} {a : Addr} {y : V} {v : Value} {sp : Sp} {R : VK} {CX : CXT} (F : FnOk X.prog X.w X.K X.mg X.base CX n f fd ps sp) (hr : Room n A) (hfr : A.frames = X.A.frames) (hb : Binds X.K fd ps [])
    (hx : Passes CX X (fun _ _ _ => False)) (I : Inv X pins σ H s) (ry : RelV y v) (h : sp [.ref a, y] H R fun _ _ _ => False) :
    wpAny (model X.prog X.w) A (call (.ref f) [.ref a, v]) (EP X pins σ R) X.xe s := by
  have e0 : Env0 X.prog X.w X.K X.mg X.base A X.stack s H := by
    have e := I.env0
    exact ⟨by rw [hfr]; exact e.frames, e.mod, e.bs, e.bsz, e.funs, e.frf, e.hok, e.bare⟩
  have r2 : Vals [V.ref a, y] [Value.ref a, v] := .cons rfl (.cons ry .nil)
  have hl := F.len _ _ _ _ h
  refine wpAny_call (codeAny_mono (F.run A X.stack s H ⟨[.ref a, v], []⟩ [.ref a, v] [.ref a, y] _ _ hr e0 (by
    have := hb s [.ref a, v] I.kIn (by simpa using hl)
    simpa using this) r2 h) fun r s' hq => ?_)
  cases r with
  | error e => exact hx pins σ H s e s' I hq
  | ok fl =>
    cases fl with
    | ret u => exact I.after hq
    | next => exact False.elim hq
    | brk => exact False.elim hq
    | cont => exact False.elim hq
theorem op_eqOwn {sp : Sp} {CX : CXT} (F : FnOk X.prog X.w X.K X.mg X.base CX n f fd ps sp) (hr : Room n X.A) (hb : Binds X.K fd ps []) (hx : Passes CX X (fun _ _ _ => False))
    (hs : PySem.W.findIn X.K (.ref C) "__eq__" = some (some (.ref f))) (hf : PySem.W.isFn X.K (.ref f) = true) : OpR X (compareOp .Eq) (rOwn X.K C sp id) := by
  intro pins s σ H x y u v Q I rx ry h
  obtain ⟨a, dx, fs, t, rfl, ha, ty, nf, q⟩ := h
  cases rx
  obtain ⟨mA, J, _⟩ := ins_get I.hok ha
  obtain ⟨od, J, _⟩ := J.look
  obtain ⟨m, hF⟩ := I.fr
  show wpAny (model X.prog X.w) X.A (richCompare .Eq (.ref a) v) _ _ _
  refine PySem.W.cmp_K (op := .Eq) hr.units0 hF I.ok.mod.kin J (TyX.look I ry ty) nf hs hf ?_
  refine wpAny_mono (run_own F hr rfl hb hx I ry q) (fun z s' hz => ?_) fun _ _ e => e
  obtain ⟨z', H', I', rz, b, rfl, q'⟩ := hz
  cases rz
  exact ⟨.bl b, H', I', rfl, q'⟩
theorem op_neOwn {sp : Sp} {CX : CXT} (F : FnOk X.prog X.w X.K X.mg X.base CX n f fd ps sp) (hr : Room (n + 1) X.A) (hb : Binds X.K fd ps []) (hx : Passes CX X (fun _ _ _ => False))
    (hs : PySem.W.findIn X.K (.ref C) "__eq__" = some (some (.ref f))) (hf : PySem.W.isFn X.K (.ref f) = true) (hne : PySem.W.findIn X.K (.ref C) "__ne__" = some (some (.builtin "object.__ne__"))) (hob : PySem.W.mroIn X.K C (.type "object") = some true) :
    OpR X (compareOp .NotEq) (rOwn X.K C sp not) := by
  intro pins s σ H x y u v Q I rx ry h
  obtain ⟨a, dx, fs, t, rfl, ha, ty, nf, q⟩ := h
  cases rx
  obtain ⟨mA, J, _⟩ := ins_get I.hok ha
  obtain ⟨od, J, _⟩ := J.look
  show wpAny (model X.prog X.w) X.A (richCompare .NotEq (.ref a) v) _ _ _
  refine PySem.W.ne_own (hu_of hr) I.kIn J (TyX.look I ry ty) nf hs hf hne hob ?_
  refine wpAny_mono (run_own (A := X.A.in1) F hr.in1 rfl hb hx I ry q) (fun z s' hz => ?_) fun _ _ e => e
  obtain ⟨z', H', I', rz, b, rfl, q'⟩ := hz
  cases rz
  exact ⟨b, rfl, .bl (!b), H', I', rfl, q'⟩
end
/-! ### repr of data: where nothing is being shown -/
section
variable {X : Cx}
def rRepr (K : PySem.W.Frag) : List V → Hp → VK → Prop := fun xs H Q => ∃ (x : V) (d : PyData), xs = [x] ∧ Dp K H x d ∧ d.showable = true ∧ d.hasDict = false ∧ d.depth ≤ 40 ∧ d.shown.length ≤ sizeLine ∧ Q (.str d.shown) H
theorem call_reprD {k : Nat} (hr : Room k X.A) (hg : X.A.guards = some []) : CallR X (.builtin "repr") (rRepr X.K) := by
  intro pins s σ H xs us Q I r h
  obtain ⟨x, d, rfl, hd, hs, hn, hdp, hz, q⟩ := h
  obtain ⟨u, rfl, ru⟩ := r.one
  obtain ⟨as, rd⟩ := Dp.reads I d x u hd ru
  have hu := hr.units
  have fin : ∀ h' (u' : Tok) tk, (∀ b o, s.heap.get? b = some o → h'.get? b = some o) → EP X pins σ Q (.str d.shown u') { s with heap := h', toks := tk } := fun h' u' tk k => ⟨.str d.shown, H, I.kept (t' := tk) k, ⟨_, rfl⟩, q⟩
  cases hd with
  | non =>
    cases (show u = Value.none from ru)
    exact P.repr_of_none (fin s.heap _ _ fun _ _ e => e)
  | bl b =>
    cases (show u = Value.bool b from ru)
    exact P.repr_of_bool (fin s.heap _ _ fun _ _ e => e)
  | int i =>
    obtain ⟨t, e⟩ := (show ∃ t, u = Value.int i t from ru)
    cases e
    exact P.repr_of_int (by simpa [PyData.showable] using hs) (fin s.heap _ _ fun _ _ e => e)
  | str y =>
    obtain ⟨t, e⟩ := (show ∃ t, u = Value.str y t from ru)
    cases e
    exact P.repr_of_str (fin s.heap _ _ fun _ _ e => e) hz
  | lst h1 h2 =>
    cases ru
    exact repr_of_reads' rd hs (by rw [hn]; intro z; cases z) hg (by omega) (fun _ _ e => e) fin hz
  | tup h1 h2 =>
    cases ru
    exact repr_of_reads' rd hs (by rw [hn]; intro z; cases z) hg (by omega) (fun _ _ e => e) fin hz
end
end L2

set_option Elab.async false
set_option linter.all false
set_option maxRecDepth 100000
set_option maxHeartbeats 2000000
/-! operators, truth, text of an own class, by its own methods -/
namespace L2
open PySem PySem.Spec PyProof.Rows
theorem rref (a : Addr) : RelV (V.ref a) (Value.ref a) := rfl
theorem relv_ni {v : V} {u : Value} (r : RelV v u) : u ≠ .notImplemented := by
  intro e
  subst e
  cases v <;> first | (cases r; done) | (obtain ⟨_, h⟩ := r; cases h) | (cases r)
section
variable {X : Cx} {K : PySem.W.Frag} {C f : Addr} {fd : FuncData} {ps : List Str} {n : Nat} {sp : Sp} {CX : CXT}
theorem run_ownL {A : Around} {pins : List (Addr × Obj)} {σ : St} {H : Hp} {s : Shared} {vs : List V} {us : List Value} {R : VK} (F : FnOk X.prog X.w X.K X.mg X.base CX n f fd ps sp) (hr : Room n A) (hfr : A.frames = X.A.frames) (hb : Binds X.K fd ps [])
    (hx : Passes CX X (fun _ _ _ => False)) (I : Inv X pins σ H s) (rv : Vals vs us) (h : sp vs H R fun _ _ _ => False) :
    wpAny (model X.prog X.w) A (call (.ref f) us) (EP X pins σ R) X.xe s := by
  have e0 : Env0 X.prog X.w X.K X.mg X.base A X.stack s H := by
    have e := I.env0
    exact ⟨by rw [hfr]; exact e.frames, e.mod, e.bs, e.bsz, e.funs, e.frf, e.hok, e.bare⟩
  have hl := F.len _ _ _ _ h
  refine wpAny_call (codeAny_mono (F.run A X.stack s H ⟨us, []⟩ us vs _ _ hr e0 (by
    have := hb s us I.kIn (by rw [List.append_nil, ← rv.length]; exact hl)
    simpa using this) rv h) fun r s' hq => ?_)
  cases r with
  | error e => exact hx pins σ H s e s' I hq
  | ok fl =>
    cases fl with
    | ret u => exact I.after hq
    | next => exact False.elim hq
    | brk => exact False.elim hq
    | cont => exact False.elim hq
/-- both of the class C -/
def rOwn2 (C : Addr) (sp : Sp) : R2 := fun x y H Q => ∃ (a b dx dy : Addr) (fs gs : List (Str × V)), x = .ref a ∧ y = .ref b ∧ H a = some (.ins C dx fs) ∧ H b = some (.ins C dy gs) ∧ sp [x, y] H Q fun _ _ _ => False
def rOwn1 (C : Addr) (sp : Sp) : V → Hp → VK → Prop := fun x H Q => ∃ (a dx : Addr) (fs : List (Str × V)), x = .ref a ∧ H a = some (.ins C dx fs) ∧ sp [x] H Q fun _ _ _ => False
theorem op_binOwn {op : Operator} (F : FnOk X.prog X.w X.K X.mg X.base CX n f fd ps sp) (hr : Room n X.A) (hb : Binds X.K fd ps []) (hx : Passes CX X (fun _ _ _ => False))
    (hs : PySem.W.findIn X.K (.ref C) (PySem.dunder op.info.2) = some (some (.ref f))) (hf : PySem.W.isFn X.K (.ref f) = true) (hc : PySem.W.selfFirst X.K C = true) : OpR X (binaryOp op) (rOwn2 C sp) := by
  intro pins s σ H x y u v Q I rx ry h
  obtain ⟨a, b, dx, dy, fs, gs, rfl, rfl, ha, hb', q⟩ := h
  cases rx
  cases ry
  obtain ⟨mA, J, _⟩ := ins_get I.hok ha
  obtain ⟨od, J, _⟩ := J.look
  obtain ⟨mB, J2, _⟩ := ins_get I.hok hb'
  obtain ⟨od2, J2, _⟩ := J2.look
  obtain ⟨m, hF⟩ := I.fr
  refine PySem.W.binop_K hF I.ok.mod.kin J J2.type hc hs hf ?_
  refine wpAny_mono (run_ownL F hr rfl hb hx I (.cons (rref _) (.cons (rref _) .nil)) q) (fun z s' hz => ?_) fun _ _ e => e
  obtain ⟨z', H', I', rz, q'⟩ := hz
  have := relv_ni rz
  cases z <;> first | exact (this rfl).elim | exact ⟨z', H', I', rz, q'⟩
theorem op_cmpOwn {op : CmpOp} (F : FnOk X.prog X.w X.K X.mg X.base CX n f fd ps sp) (hr : Room n X.A) (hb : Binds X.K fd ps []) (hx : Passes CX X (fun _ _ _ => False)) (ho : ∀ a b, compareOp op a b = richCompare op a b)
    (hs : PySem.W.findIn X.K (.ref C) (cmpInfo op).2.1 = some (some (.ref f))) (hf : PySem.W.isFn X.K (.ref f) = true) (hn : PySem.W.notFirst X.K C (.ref C) = true) : OpR X (compareOp op) (rOwn2 C sp) := by
  intro pins s σ H x y u v Q I rx ry h
  obtain ⟨a, b, dx, dy, fs, gs, rfl, rfl, ha, hb', q⟩ := h
  cases rx
  cases ry
  obtain ⟨mA, J, _⟩ := ins_get I.hok ha
  obtain ⟨od, J, _⟩ := J.look
  obtain ⟨mB, J2, _⟩ := ins_get I.hok hb'
  obtain ⟨od2, J2, _⟩ := J2.look
  obtain ⟨m, hF⟩ := I.fr
  rw [ho]
  refine PySem.W.cmp_K hr.units0 hF I.ok.mod.kin J J2.type hn hs hf ?_
  refine wpAny_mono (run_ownL F hr rfl hb hx I (.cons (rref _) (.cons (rref _) .nil)) q) (fun z s' hz => ?_) fun _ _ e => e
  obtain ⟨z', H', I', rz, q'⟩ := hz
  have := relv_ni rz
  cases z <;> first | exact (this rfl).elim | exact ⟨z', H', I', rz, q'⟩
theorem un_invOwn (F : FnOk X.prog X.w X.K X.mg X.base CX n f fd ps sp) (hr : Room n X.A) (hb : Binds X.K fd ps []) (hx : Passes CX X (fun _ _ _ => False))
    (hs : PySem.W.findIn X.K (.ref C) "__invert__" = some (some (.ref f))) (hf : PySem.W.isFn X.K (.ref f) = true) : UnR X (unaryOp .Invert) (rOwn1 C sp) := by
  intro pins s σ H x u Q I rx h
  obtain ⟨a, dx, fs, rfl, ha, q⟩ := h
  cases rx
  obtain ⟨mA, J, _⟩ := ins_get I.hok ha
  obtain ⟨od, J, _⟩ := J.look
  obtain ⟨m, hF⟩ := I.fr
  exact PySem.W.ksp_inv hF I.ok.mod.kin J hs hf (run_ownL F hr rfl hb hx I (.cons (rref _) .nil) q)
/-- v in o, o's class with __contains__ that answers with a bool -/
def rInOwn (C : Addr) (sp : Sp) (g : Bool → Bool) : R2 := fun x y H Q => ∃ (a dx : Addr) (fs : List (Str × V)), y = .ref a ∧ H a = some (.ins C dx fs) ∧ sp [y, x] H (fun z H' => ∃ b, z = .bl b ∧ Q (.bl (g b)) H') fun _ _ _ => False
theorem op_inOwn (F : FnOk X.prog X.w X.K X.mg X.base CX n f fd ps sp) (hr : Room n X.A) (hb : Binds X.K fd ps []) (hx : Passes CX X (fun _ _ _ => False))
    (hs : PySem.W.findIn X.K (.ref C) "__contains__" = some (some (.ref f))) (hf : PySem.W.isFn X.K (.ref f) = true) : OpR X (compareOp .In) (rInOwn C sp id) := by
  intro pins s σ H x y u v Q I rx ry h
  obtain ⟨a, dx, fs, rfl, ha, q⟩ := h
  cases ry
  obtain ⟨mA, J, _⟩ := ins_get I.hok ha
  obtain ⟨od, J, _⟩ := J.look
  obtain ⟨m, hF⟩ := I.fr
  refine PySem.W.in_K hF I.ok.mod.kin J hs hf ?_
  refine wpAny_mono (run_ownL F hr rfl hb hx I (.cons (rref _) (.cons rx .nil)) q) (fun z s' hz => ?_) fun _ _ e => e
  obtain ⟨z', H', I', rz, b, rfl, q'⟩ := hz
  cases rz
  exact wpAny_truthy_bool ⟨.bl b, H', I', rfl, q'⟩
theorem op_ninOwn (F : FnOk X.prog X.w X.K X.mg X.base CX n f fd ps sp) (hr : Room n X.A) (hb : Binds X.K fd ps []) (hx : Passes CX X (fun _ _ _ => False))
    (hs : PySem.W.findIn X.K (.ref C) "__contains__" = some (some (.ref f))) (hf : PySem.W.isFn X.K (.ref f) = true) : OpR X (compareOp .NotIn) (rInOwn C sp not) := by
  intro pins s σ H x y u v Q I rx ry h
  obtain ⟨a, dx, fs, rfl, ha, q⟩ := h
  cases ry
  obtain ⟨mA, J, _⟩ := ins_get I.hok ha
  obtain ⟨od, J, _⟩ := J.look
  obtain ⟨m, hF⟩ := I.fr
  refine PySem.W.notIn_K hF I.ok.mod.kin J hs hf ?_
  refine wpAny_mono (run_ownL F hr rfl hb hx I (.cons (rref _) (.cons rx .nil)) q) (fun z s' hz => ?_) fun _ _ e => e
  obtain ⟨z', H', I', rz, b, rfl, q'⟩ := hz
  cases rz
  exact wpAny_truthy_bool ⟨.bl (!b), H', I', rfl, q'⟩
/-- str(o) by the class's __str__ -/
def rStrOwn (C : Addr) (sp : Sp) : List V → Hp → VK → Prop := fun xs H Q => ∃ (a dx : Addr) (fs : List (Str × V)), xs = [.ref a] ∧ H a = some (.ins C dx fs) ∧ sp [.ref a] H (fun z H' => ∃ x, z = .str x ∧ Q (.str x) H') fun _ _ _ => False
theorem call_strOwn (F : FnOk X.prog X.w X.K X.mg X.base CX n f fd ps sp) (hr : Room (n + 2) X.A) (hb : Binds X.K fd ps []) (hx : Passes CX X (fun _ _ _ => False))
    (hs : PySem.W.findIn X.K (.ref C) "__str__" = some (some (.ref f))) (hf : PySem.W.isFn X.K (.ref f) = true) : CallR X (.type "str") (rStrOwn C sp) := by
  intro pins s σ H xs us Q I r h
  obtain ⟨a, dx, fs, e, ha, q⟩ := h
  subst e
  obtain ⟨u, eu, rx⟩ := vals1 r
  subst eu
  cases rx
  obtain ⟨mA, J, _⟩ := ins_get I.hok ha
  obtain ⟨od, J, _⟩ := J.look
  refine PySem.W.kso_call hr.in1.in1.units0 I.kIn J hs hf ?_
  refine wpAny_mono (run_ownL (A := X.A.in1.in1) F hr.in1.in1 rfl hb hx I (.cons (rref _) .nil) q) (fun z s' hz => ?_) fun _ _ e => e
  obtain ⟨z', H', I', rz, x, rfl, q'⟩ := hz
  obtain ⟨t, rfl⟩ := rz
  exact ⟨.str x, H', I', ⟨t, rfl⟩, q'⟩
end
end L2

set_option Elab.async false
set_option linter.all false
set_option maxRecDepth 100000
set_option maxHeartbeats 2000000
/-! operators of own classes of which there are several: the class stands in the reading -/
namespace PySem.W
open PySem PySem.Calls PyProof.Rows
section
variable {prog : Program} {w : World} {A : Around} {E : Value → Shared → Prop} {s : Shared} {K : Frag} {x C D L f g : Addr} {h₀ : Heap} {m : Str → Option Value} {ox : Obj} {od : Option Obj}
theorem inPy_own {M : Model} {h : Heap} {nm : String} {rc : Option Value} (X : K.In h) (hs : findIn K (.ref C) (PySem.dunder nm) = some (some (.ref f))) (hr : findIn K (.ref C) (dunderR nm) = some rc) (hp : rc = none ∨ ∃ g : Addr, rc = some (.ref g)) :
    Looks M h (numberSlotInPython (.ref C) nm) true := ksp_inPy X hs hr hp
/-- a op b, the classes two that are none of the other's; both write op, none the reflected one -/
theorem binop_K2 {op : Operator} {b : Value} {Q : Value → Shared → Prop} (F : Fr h₀ L s.heap m) (X₀ : K.In h₀) (I : InstAt s.heap x ox C od) (hb : Looks (model prog w) s.heap (typeOf b) (.ref D)) (hne : C ≠ D) (hc : selfFirst K C = true) (hd : selfFirst K D = true)
    (hs : findIn K (.ref C) (PySem.dunder op.info.2) = some (some (.ref f))) (hf : isFn K (.ref f) = true) (hr : findIn K (.ref C) (dunderR op.info.2) = some none)
    (hs2 : findIn K (.ref D) (PySem.dunder op.info.2) = some (some (.ref g))) (hr2 : findIn K (.ref D) (dunderR op.info.2) = some none) (hsub : subIn K (.ref D) (.ref C) = some false)
    (h : wpAny (model prog w) A (call (.ref f) [.ref x, b]) (CmpBack Q) E s) : wpAny (model prog w) A (binaryOp op (.ref x) b) Q E s := by
  have X := X₀.keeps F.keep
  obtain ⟨cd, rest, hcd, hm⟩ := ksp_first hc
  obtain ⟨cd2, rest2, hcd2, hm2⟩ := ksp_first hd
  rcases hi : op.info with ⟨sym, nm'⟩
  rw [hi] at hs hr hs2 hr2
  dsimp only at hs hr hs2 hr2
  have one := ksp_try X I hs hf h
  obtain ⟨hh, gg, d, tt, os⟩ := s
  have L1 : Looks (model prog w) hh (typeOf (.ref x)) (.ref C) := I.type
  have L2 : Looks (model prog w) hh (typeOf b) (.ref D) := hb
  have L3 : Looks (model prog w) hh (fillsNumberSlot (.ref C) nm') true := fills_K X hcd hm hs
  have L4 : Looks (model prog w) hh (fillsNumberSlot (.ref D) nm') true := fills_K X hcd2 hm2 hs2
  have L5 : Looks (model prog w) hh (isSubtype (.ref D) (.ref C)) false := looks_subIn X hsub
  have L6 : Looks (model prog w) hh (numberSlotInPython (.ref C) nm') true := ksp_inPy X hs hr (.inl rfl)
  have L7 : Looks (model prog w) hh (numberSlotInPython (.ref D) nm') true := ksp_inPy X hs2 hr2 (.inl rfl)
  have hne' : (Value.ref C == Value.ref D) = false := Bool.eq_false_iff.mpr fun q => hne (Value.ref.inj (beq_iff_eq.mp q))
  simp only [binaryOp, hi]
  refine wpAny_holding (wpAny_bind ?_)
  unfold binaryOp1
  refine wpAny_bind (L1.at (wpAny_bind (L2.at (wpAny_bind (L3.at ?_)))))
  simp only [hne', Bool.false_eq_true, if_false]
  refine wpAny_bind (L4.at ?_)
  simp only [Bool.and_true, Bool.true_and, if_true, Bool.and_self]
  refine wpAny_bind (L5.at ?_)
  simp only [Bool.false_eq_true, if_false, Bool.not_false, if_true]
  refine wpAny_bind (L6.at ?_)
  simp only [if_true]
  refine wpAny_bind (L7.at ?_)
  simp only [Bool.not_true, Bool.false_eq_true, if_false]
  refine wpAny_bind (wpAny_mono one (fun r s' hr' => ?_) fun _ _ e => e)
  obtain ⟨v, rfl, hq⟩ := hr'
  exact wpAny_pure (wpAny_pure hq)
end
end PySem.W
namespace L2
open PySem PySem.Spec PyProof.Rows
section
variable {X : Cx} {K : PySem.W.Frag} {f : Addr} {fd : FuncData} {ps : List Str} {n : Nat} {sp : Sp} {CX : CXT}
/-- x == y by the class's __eq__, at f -/
def rEqO (K : PySem.W.Frag) (f : Addr) (sp : Sp) : R2 := fun x y H Q => ∃ (a D dx : Addr) (fs : List (Str × V)) (t : Value), x = .ref a ∧ H a = some (.ins D dx fs) ∧ PySem.W.findIn K (.ref D) "__eq__" = some (some (.ref f)) ∧ TyX K H y t ∧ PySem.W.notFirst K D t = true ∧
  sp [x, y] H (fun z H' => ∃ b, z = .bl b ∧ Q (.bl b) H') fun _ _ _ => False
theorem op_eqO (h : X.K = K) (F : FnOk X.prog X.w X.K X.mg X.base CX n f fd ps sp) (hr : Room n X.A) (hb : Binds X.K fd ps []) (hx : Passes CX X (fun _ _ _ => False)) (hf : PySem.W.isFn X.K (.ref f) = true) : OpR X (compareOp .Eq) (rEqO K f sp) := by
  subst h
  intro pins s σ H x y u v Q I rx ry h
  obtain ⟨a, D, dx, fs, t, rfl, ha, hs, ty, nf, q⟩ := h
  exact op_eqOwn F hr hb hx hs hf pins s σ H (.ref a) y u v Q I rx ry ⟨a, dx, fs, t, rfl, ha, ty, nf, q⟩
/-- x != y, of a class that writes == alone -/
def rNeO (K : PySem.W.Frag) (f : Addr) (sp : Sp) : R2 := fun x y H Q => ∃ (a D dx : Addr) (fs : List (Str × V)) (t : Value), x = .ref a ∧ H a = some (.ins D dx fs) ∧ PySem.W.findIn K (.ref D) "__eq__" = some (some (.ref f)) ∧ PySem.W.findIn K (.ref D) "__ne__" = some (some (.builtin "object.__ne__")) ∧ PySem.W.mroIn K D (.type "object") = some true ∧ TyX K H y t ∧ PySem.W.notFirst K D t = true ∧
  sp [x, y] H (fun z H' => ∃ b, z = .bl b ∧ Q (.bl (!b)) H') fun _ _ _ => False
theorem op_neO (h : X.K = K) (F : FnOk X.prog X.w X.K X.mg X.base CX n f fd ps sp) (hr : Room (n + 1) X.A) (hb : Binds X.K fd ps []) (hx : Passes CX X (fun _ _ _ => False)) (hf : PySem.W.isFn X.K (.ref f) = true) : OpR X (compareOp .NotEq) (rNeO K f sp) := by
  subst h
  intro pins s σ H x y u v Q I rx ry h
  obtain ⟨a, D, dx, fs, t, rfl, ha, hs, hne, hob, ty, nf, q⟩ := h
  exact op_neOwn F hr hb hx hs hf hne hob pins s σ H (.ref a) y u v Q I rx ry ⟨a, dx, fs, t, rfl, ha, ty, nf, q⟩
/-- x op y, both of classes that write op at f, none the reflected one -/
def rBinO (K : PySem.W.Frag) (op : Operator) (f : Addr) (sp : Sp) : R2 := fun x y H Q => ∃ (a b D G dx dy : Addr) (fs gs : List (Str × V)), x = .ref a ∧ y = .ref b ∧ H a = some (.ins D dx fs) ∧ H b = some (.ins G dy gs) ∧ PySem.W.selfFirst K D = true ∧ PySem.W.selfFirst K G = true ∧
  PySem.W.findIn K (.ref D) (PySem.dunder op.info.2) = some (some (.ref f)) ∧ PySem.W.findIn K (.ref D) (dunderR op.info.2) = some none ∧ PySem.W.findIn K (.ref G) (PySem.dunder op.info.2) = some (some (.ref f)) ∧ PySem.W.findIn K (.ref G) (dunderR op.info.2) = some none ∧
  (D ≠ G → PySem.W.subIn K (.ref G) (.ref D) = some false) ∧ sp [x, y] H Q fun _ _ _ => False
theorem op_binO {op : Operator} (h : X.K = K) (F : FnOk X.prog X.w X.K X.mg X.base CX n f fd ps sp) (hr : Room n X.A) (hb : Binds X.K fd ps []) (hx : Passes CX X (fun _ _ _ => False)) (hf : PySem.W.isFn X.K (.ref f) = true) : OpR X (binaryOp op) (rBinO K op f sp) := by
  subst h
  intro pins s σ H x y u v Q I rx ry h
  obtain ⟨a, b, D, G, dx, dy, fs, gs, rfl, rfl, ha, hb', sD, sG, f1, r1, f2, r2, hsub, q⟩ := h
  cases rx
  cases ry
  obtain ⟨mA, J, _⟩ := ins_get I.hok ha
  obtain ⟨od, J, _⟩ := J.look
  obtain ⟨mB, J2, _⟩ := ins_get I.hok hb'
  obtain ⟨od2, J2, _⟩ := J2.look
  obtain ⟨m, hF⟩ := I.fr
  have run := wpAny_mono (run_ownL F hr rfl hb hx I (.cons (rref _) (.cons (rref _) .nil)) q) (Q' := PySem.W.CmpBack (EP X pins σ Q)) (fun z s' hz => ?_) fun _ _ e => e
  · by_cases e : D = G
    · subst e
      exact PySem.W.binop_K hF I.ok.mod.kin J J2.type sD f1 hf run
    · exact PySem.W.binop_K2 hF I.ok.mod.kin J J2.type e sD sG f1 hf r1 f2 r2 (hsub e) run
  · obtain ⟨z', H', I', rz, q'⟩ := hz
    have := relv_ni rz
    cases z <;> first | exact (this rfl).elim | exact ⟨z', H', I', rz, q'⟩
/-- ~x by the class's __invert__, at f -/
def rInvO (K : PySem.W.Frag) (f : Addr) (sp : Sp) : V → Hp → VK → Prop := fun x H Q => ∃ (a D dx : Addr) (fs : List (Str × V)), x = .ref a ∧ H a = some (.ins D dx fs) ∧ PySem.W.findIn K (.ref D) "__invert__" = some (some (.ref f)) ∧ sp [x] H Q fun _ _ _ => False
theorem un_invO (h : X.K = K) (F : FnOk X.prog X.w X.K X.mg X.base CX n f fd ps sp) (hr : Room n X.A) (hb : Binds X.K fd ps []) (hx : Passes CX X (fun _ _ _ => False)) (hf : PySem.W.isFn X.K (.ref f) = true) : UnR X (unaryOp .Invert) (rInvO K f sp) := by
  subst h
  intro pins s σ H x u Q I rx h
  obtain ⟨a, D, dx, fs, rfl, ha, hs, q⟩ := h
  exact un_invOwn F hr hb hx hs hf pins s σ H (.ref a) u Q I rx ⟨a, dx, fs, rfl, ha, q⟩
/-- str(x) by the class's __str__, at f -/
def rStrO (K : PySem.W.Frag) (f : Addr) (sp : Sp) : List V → Hp → VK → Prop := fun xs H Q => ∃ (a D dx : Addr) (fs : List (Str × V)), xs = [.ref a] ∧ H a = some (.ins D dx fs) ∧ PySem.W.findIn K (.ref D) "__str__" = some (some (.ref f)) ∧ sp [.ref a] H (fun z H' => ∃ x, z = .str x ∧ Q (.str x) H') fun _ _ _ => False
theorem call_strO (h : X.K = K) (F : FnOk X.prog X.w X.K X.mg X.base CX n f fd ps sp) (hr : Room (n + 2) X.A) (hb : Binds X.K fd ps []) (hx : Passes CX X (fun _ _ _ => False)) (hf : PySem.W.isFn X.K (.ref f) = true) : CallR X (.type "str") (rStrO K f sp) := by
  subst h
  intro pins s σ H xs us Q I r h
  obtain ⟨a, D, dx, fs, e, ha, hs, q⟩ := h
  exact call_strOwn F hr hb hx hs hf pins s σ H xs us Q I r ⟨a, dx, fs, e, ha, q⟩
end
end L2

set_option Elab.async false
set_option linter.all false
set_option maxRecDepth 100000
set_option maxHeartbeats 1000000
namespace FH
open PySem L2
local macro_rules | `(tactic| walk_at "seq") => `(tactic| first | assumption | exact SqL.of (by assumption) | exact SqT.of (by assumption) | exact SqL.of upd_same | exact SqT.of upd_same)
local macro_rules | `(tactic| walk_at "at") => `(tactic| first | exact atI_nat (j := 0) rfl | exact atI_nat (j := 1) rfl | exact atI_nat (j := 2) rfl | exact atI_nat (by assumption) | assumption)
local macro_rules | `(tactic| walk_at "ar") => `(tactic| first | omega | exact ⟨by omega, by omega⟩ | exact Or.inl ⟨by omega, by omega⟩ | exact Or.inr ⟨by omega, by omega⟩ | exact ⟨by decide, by decide⟩ | exact Or.inr ⟨by decide, by decide⟩ | exact Or.inl ⟨by decide, by decide⟩ | exact ⟨by decide, by decide, by omega⟩ | exact ⟨by decide, by decide, by decide⟩)
local macro_rules | `(tactic| walk_at "r") => `(tactic| repeat (first
  | refine ⟨_, rfl, ?_⟩
  | refine ⟨_, _, rfl, rfl, ?_⟩
  | refine ⟨_, _, _, _, rfl, rfl, by walk_at "seq", by walk_at "at", ?_⟩
  | refine ⟨_, _, _, _, rfl, rfl, by assumption, rfl, ?_⟩
  | refine ⟨_, _, rfl, Or.inl (by walk_at "seq"), ?_⟩
  | refine Or.inl ⟨_, rfl, ?_⟩
  | refine Or.inr ⟨_, rfl, ?_⟩
  | refine And.intro (by walk_at "ar") ?_))
/-! ### texts of signs -/
def tlS (x : Str) : List Nat := x.cps.toList
def Sg (x : Str) : Prop := ∀ ch ∈ tlS x, ch = 43 ∨ ch = 45
def ones (cs : List Nat) : List Str := cs.map fun ch => ⟨#[ch]⟩
theorem join_ones (cs : List Nat) : tlS (Txt.join (Str.ofString "") (ones cs)) = cs := by
  have e1 : Txt.join (Str.ofString "") (ones cs) = Str.join (Str.ofString "") (ones cs) := TL.join_eq _ _
  rw [e1]
  have e2 := TL.tl_join (Str.ofString "") (ones cs)
  have e3 : ∀ l : List (List Nat), TL.joinL [] l = l.flatten := fun l => by
    induction l with
    | nil => rfl
    | cons a r ih =>
      cases r with
      | nil => simp [TL.joinL]
      | cons b r => show a ++ ([] ++ TL.joinL [] (b :: r)) = _; rw [ih]; rfl
  have e4 : ∀ cs : List Nat, ((ones cs).map tlS).flatten = cs := fun cs => by
    induction cs with
    | nil => rfl
    | cons a r ih => show [a] ++ ((ones r).map tlS).flatten = _; rw [ih]; rfl
  have e5 : TL.tl (Str.ofString "") = [] := rfl
  rw [e5, e3] at e2
  exact e2.trans (e4 cs)
theorem len_tl (x : Str) : x.length = (tlS x).length := by
  show x.cps.size = x.cps.toList.length
  rw [Array.length_toList]
def spSigns : Sp := fun vs H Q _ => ∃ (d c : Addr) (n : Int), vs = [.ref d, .int n] ∧ BoxAt H d c ∧ 0 ≤ n ∧ n ≤ 100 ∧
  ∀ (x : Str) (H' : Hp), x.length = n.toNat → Sg x → Xt d c H H' → BoxAt H' d c → Q (.str x) H'
theorem sum_ones (cs : List Nat) : ((ones cs).map (·.length)).sum = cs.length := by
  induction cs with
  | nil => rfl
  | cons x r ih => show 1 + ((ones r).map (·.length)).sum = _; rw [ih]; simp; omega
theorem ones_len (cs : List Nat) : (ones cs).length = cs.length := by unfold ones; rw [List.length_map]
section
variable {P : Program} {w : World} {K : PySem.W.Frag} {mg : Str → Option Value} {base : Heap}
end
end FH

set_option Elab.async false
set_option linter.all false
set_option maxRecDepth 100000
set_option maxHeartbeats 1000000
namespace FH
open PySem L2
/-! ### values as data -/
mutual
inductive Dv (H : Hp) : V → PyData → Prop
  | non : Dv H .non .none
  | bl (b : Bool) : Dv H (.bl b) (.bool b)
  | int (i : Int) : Dv H (.int i) (.int i)
  | str (x : Str) (h : x.length ≤ 1000) (l : LayS x) : Dv H (.str x) (.str x)
  | lst {a : Addr} {xs : List V} {ds : List PyData} (h : H a = some (.lst xs)) (hl : xs.length ≤ 1000) (l : DvAll H xs ds) : Dv H (.ref a) (.list ds)
  | tup {a : Addr} {xs : List V} {ds : List PyData} (h : H a = some (.tup xs)) (hl : xs.length ≤ 1000) (l : DvAll H xs ds) : Dv H (.ref a) (.tuple ds)
inductive DvAll (H : Hp) : List V → List PyData → Prop
  | nil : DvAll H [] []
  | cons {v : V} {e : PyData} {vs : List V} {es : List PyData} (h : Dv H v e) (t : DvAll H vs es) : DvAll H (v :: vs) (e :: es)
end
theorem DvAll.len {H : Hp} : ∀ {vs : List V} {es : List PyData}, DvAll H vs es → vs.length = es.length
  | _, _, .nil => rfl
  | _, _, .cons h t => by simp [DvAll.len t]
theorem DvAll.snoc {H : Hp} {v : V} {e : PyData} : ∀ {vs : List V} {es : List PyData}, DvAll H vs es → Dv H v e → DvAll H (vs ++ [v]) (es ++ [e])
  | _, _, .nil, q => .cons q .nil
  | _, _, .cons h t, q => .cons h (t.snoc q)
theorem DvAll.get {H : Hp} : ∀ {vs : List V} {es : List PyData} {i : Nat} {v : V}, DvAll H vs es → vs[i]? = some v → ∃ e, es[i]? = some e ∧ Dv H v e
  | _, _, _, _, .nil, h => by simp at h
  | _, _, 0, _, .cons (e := e) h t, q => ⟨e, rfl, by simp at q; rw [← q]; exact h⟩
  | _, _, i + 1, _, .cons h t, q => by
    obtain ⟨e, e1, e2⟩ := DvAll.get (i := i) t (by simpa using q)
    exact ⟨e, by simpa using e1, e2⟩
/-- data, whatever becomes of the deal -/
def DvS (d c : Addr) (H : Hp) (v : V) (e : PyData) : Prop := ∀ H', Xt d c H H' → Dv H' v e
def DvSAll (d c : Addr) (H : Hp) (vs : List V) (es : List PyData) : Prop := ∀ H', Xt d c H H' → DvAll H' vs es
theorem DvS.now {d c : Addr} {H : Hp} {v : V} {e : PyData} (h : DvS d c H v e) : Dv H v e := h H (Xt.refl _ _ _)
theorem DvS.xt {d c : Addr} {H H' : Hp} {v : V} {e : PyData} (h : DvS d c H v e) (x : Xt d c H H') : DvS d c H' v e := fun H2 y => h H2 (x.trans y)
theorem DvSAll.xt {d c : Addr} {H H' : Hp} {v : List V} {e : List PyData} (h : DvSAll d c H v e) (x : Xt d c H H') : DvSAll d c H' v e := fun H2 y => h H2 (x.trans y)
theorem DvSAll.nil {d c : Addr} {H : Hp} : DvSAll d c H [] [] := fun _ _ => .nil
theorem DvSAll.cons {d c : Addr} {H : Hp} {v : V} {e : PyData} {vs : List V} {es : List PyData} (h : DvS d c H v e) (t : DvSAll d c H vs es) : DvSAll d c H (v :: vs) (e :: es) := fun H' x => .cons (h H' x) (t H' x)
theorem DvS.non {d c : Addr} {H : Hp} : DvS d c H .non .none := fun _ _ => .non
theorem DvS.bl {d c : Addr} {H : Hp} (b : Bool) : DvS d c H (.bl b) (.bool b) := fun _ _ => .bl b
theorem DvS.int {d c : Addr} {H : Hp} (i : Int) : DvS d c H (.int i) (.int i) := fun _ _ => .int i
theorem DvS.str {d c : Addr} {H : Hp} (x : Str) (h : x.length ≤ 1000) (l : LayS x) : DvS d c H (.str x) (.str x) := fun _ _ => .str x h l
theorem DvS.lst {d c a : Addr} {H : Hp} {xs : List V} {ds : List PyData} (n1 : a ≠ d) (n2 : a ≠ c) (h : H a = some (.lst xs)) (hl : xs.length ≤ 1000) (l : DvSAll d c H xs ds) : DvS d c H (.ref a) (.list ds) := fun H' x => .lst (x _ _ n1 n2 h) hl (l H' x)
theorem DvS.tup {d c a : Addr} {H : Hp} {xs : List V} {ds : List PyData} (n1 : a ≠ d) (n2 : a ≠ c) (h : H a = some (.tup xs)) (hl : xs.length ≤ 1000) (l : DvSAll d c H xs ds) : DvS d c H (.ref a) (.tuple ds) := fun H' x => .tup (x _ _ n1 n2 h) hl (l H' x)
/-- data that stands on what came after H alone -/
def DvN (H H' : Hp) (v : V) (e : PyData) : Prop := ∀ H2, (∀ a o, H a = none → H' a = some o → H2 a = some o) → Dv H2 v e
def DvNAll (D : Addr) (H H' : Hp) (vs : List V) (es : List PyData) : Prop := ∀ H2, (∀ a o, H a = none → a ≠ D → H' a = some o → H2 a = some o) → DvAll H2 vs es
theorem DvN.s {H H' : Hp} {d c : Addr} {v : V} {e : PyData} (hb : BoxAt H d c) (h : DvN H H' v e) : DvS d c H' v e := fun H2 x => h H2 fun a o n q => x a o (hb.nd n).1 (hb.nd n).2 q
theorem dom {H H' : Hp} {d c a : Addr} (x : Xt d c H H') (hb : BoxAt H' d c) (n : H' a = none) : H a = none := by
  cases q : H a with
  | none => rfl
  | some o =>
    obtain ⟨h1, h2⟩ := hb.nd n
    rw [x _ _ h1 h2 q] at n
    cases n
end FH

set_option Elab.async false
set_option linter.all false
set_option maxRecDepth 100000
set_option maxHeartbeats 1000000
namespace L2
open PySem
theorem passF {X : Cx} {P : Program} {w : World} : Passes (L2.CX P w) X E0 := fun _ _ _ _ _ _ _ h => by
  obtain ⟨_, _, _, _, _, _, _, _, _, _, _, _, z⟩ := h
  exact z.elim
/-! comprehensions over two lists, or two tuples, side by side -/
section
variable {K : PySem.W.Frag} {a b : Addr} {xs ys : List V} {g : TG} {tt : TT} {te : TE} {vs : List Nat} {σ : St} {H1 : Hp} {D : Addr} {Qd : Hp → Prop}
theorem lc_zip2L (nD : H1 D = none) (hx : SqL K H1 a xs) (hy : SqL K H1 b ys) (hl : xs.length = ys.length) (hz : xs.length < 100000) (o : V → V → Option V)
    (hs : ∀ (i : Nat) (x y : V) (T : Addr) (H : Hp) (Nx : Hp → Prop), xs[i]? = some x → ys[i]? = some y → Same H1 H → H T = none → (∀ H' z, Same H H' → o x y = some z → ∃ acc, H' D = some (.lst acc) ∧ acc.length < sizeLine ∧ Nx (upd H' D (.lst (acc ++ [z])))) → (∀ H', Same H H' → o x y = none → Nx H') →
      g (.ref T) (wipe σ vs) (upd H T (.tup [x, y])) fun σ2 H2 => wipe σ2 vs = wipe σ vs ∧ tt σ2 H2 fun b H3 => if b = true then te σ2 H3 fun y H4 => ∃ acc, H4 D = some (.lst acc) ∧ acc.length < sizeLine ∧ Nx (upd H4 D (.lst (acc ++ [y]))) else Nx H3)
    (hd : ∀ H, Same H1 H → H D = some (.lst ((xs.zip ys).filterMap fun p => o p.1 p.2)) → Qd H) :
    ∃ W : Nat → Nat → Hp → Prop, (∃ m, W 0 m (upd H1 D (.lst []))) ∧ ∀ i m H, W i m H →
      ((Itz K a b).stop i H ∧ Qd H) ∨ ((Itz K a b).go i H ∧ ∃ Nx : Hp → Prop, (∀ H', Nx H' → ∃ m', m' < m ∧ W (i + 1) m' H') ∧ ∀ v H', (Itz K a b).yld i H v H' → g v (wipe σ vs) H' fun σ2 H2 => wipe σ2 vs = wipe σ vs ∧ tt σ2 H2 fun b H3 =>
        if b = true then te σ2 H3 fun y H4 => ∃ acc, H4 D = some (.lst acc) ∧ acc.length < sizeLine ∧ Nx (upd H4 D (.lst (acc ++ [y]))) else Nx H3) := by
  have sm : Same H1 (upd H1 D (.lst [])) := fun b x e => by rw [upd_ne (ne_of_none e nD)]; exact e
  have zl : (xs.zip ys).length = xs.length := by rw [List.length_zip]; omega
  refine ⟨fun i m H => m = xs.length - i ∧ i ≤ xs.length ∧ Same H1 H ∧ H D = some (.lst (((xs.zip ys).take i).filterMap fun p => o p.1 p.2)), ⟨xs.length, by simp, Nat.zero_le _, sm, upd_same⟩, ?_⟩
  rintro i m H ⟨rfl, hi, h1, h2⟩
  by_cases hlt : i < xs.length
  · have ex : xs[i]? = some xs[i] := List.getElem?_eq_getElem hlt
    have ey : ys[i]? = some (ys[i]'(by omega)) := List.getElem?_eq_getElem (by omega)
    have ez : (xs.zip ys)[i]? = some (xs[i], ys[i]'(by omega)) := by rw [List.getElem?_zip_eq_some]; exact ⟨ex, ey⟩
    refine .inr ⟨⟨xs, ys, _, _, h1.seq hx, h1.seq hy, ex, ey⟩, fun H' => Same H1 H' ∧ H' D = some (.lst (((xs.zip ys).take (i + 1)).filterMap fun p => o p.1 p.2)), fun H' p => ⟨xs.length - (i + 1), by omega, rfl, hlt, p.1, p.2⟩, fun v H' y => ?_⟩
    obtain ⟨T, x, y, rfl, hT, rfl, q1, q2⟩ := y
    have e1 := q1 xs (h1.seq hx)
    have e2 := q2 ys (h1.seq hy)
    rw [ex] at e1; rw [ey] at e2
    cases e1; cases e2
    refine hs i _ _ T H _ ex ey h1 hT (fun H2 z s e => ⟨_, s _ _ h2, ?_, fun b z q => ?_, ?_⟩) (fun H2 s e => ⟨h1.trans s, ?_⟩)
    · exact Nat.lt_of_le_of_lt (fm_len _ _ i) (by rw [zl]; exact Nat.lt_trans hz (by decide))
    · rw [upd_ne (ne_of_none q nD)]
      exact s _ _ (h1 _ _ q)
    · rw [upd_same, take_fm _ ez, e]
      rfl
    · rw [s _ _ h2, take_fm _ ez, e]
      simp
  · have e : i = xs.length := by omega
    refine .inl ⟨⟨xs, ys, h1.seq hx, h1.seq hy, .inl (by omega)⟩, hd H h1 ?_⟩
    rw [h2, List.take_of_length_le (by omega)]
theorem lc_zip2T (nD : H1 D = none) (hx : SqT K H1 a xs) (hy : SqT K H1 b ys) (hl : xs.length = ys.length) (hz : xs.length < 100000) (o : V → V → Option V)
    (hs : ∀ (i : Nat) (x y : V) (T : Addr) (H : Hp) (Nx : Hp → Prop), xs[i]? = some x → ys[i]? = some y → Same H1 H → H T = none → (∀ H' z, Same H H' → o x y = some z → ∃ acc, H' D = some (.lst acc) ∧ acc.length < sizeLine ∧ Nx (upd H' D (.lst (acc ++ [z])))) → (∀ H', Same H H' → o x y = none → Nx H') →
      g (.ref T) (wipe σ vs) (upd H T (.tup [x, y])) fun σ2 H2 => wipe σ2 vs = wipe σ vs ∧ tt σ2 H2 fun b H3 => if b = true then te σ2 H3 fun y H4 => ∃ acc, H4 D = some (.lst acc) ∧ acc.length < sizeLine ∧ Nx (upd H4 D (.lst (acc ++ [y]))) else Nx H3)
    (hd : ∀ H, Same H1 H → H D = some (.lst ((xs.zip ys).filterMap fun p => o p.1 p.2)) → Qd H) :
    ∃ W : Nat → Nat → Hp → Prop, (∃ m, W 0 m (upd H1 D (.lst []))) ∧ ∀ i m H, W i m H →
      ((RZ.ItzT K a b).stop i H ∧ Qd H) ∨ ((RZ.ItzT K a b).go i H ∧ ∃ Nx : Hp → Prop, (∀ H', Nx H' → ∃ m', m' < m ∧ W (i + 1) m' H') ∧ ∀ v H', (RZ.ItzT K a b).yld i H v H' → g v (wipe σ vs) H' fun σ2 H2 => wipe σ2 vs = wipe σ vs ∧ tt σ2 H2 fun b H3 =>
        if b = true then te σ2 H3 fun y H4 => ∃ acc, H4 D = some (.lst acc) ∧ acc.length < sizeLine ∧ Nx (upd H4 D (.lst (acc ++ [y]))) else Nx H3) := by
  have sm : Same H1 (upd H1 D (.lst [])) := fun b x e => by rw [upd_ne (ne_of_none e nD)]; exact e
  have zl : (xs.zip ys).length = xs.length := by rw [List.length_zip]; omega
  refine ⟨fun i m H => m = xs.length - i ∧ i ≤ xs.length ∧ Same H1 H ∧ H D = some (.lst (((xs.zip ys).take i).filterMap fun p => o p.1 p.2)), ⟨xs.length, by simp, Nat.zero_le _, sm, upd_same⟩, ?_⟩
  rintro i m H ⟨rfl, hi, h1, h2⟩
  by_cases hlt : i < xs.length
  · have ex : xs[i]? = some xs[i] := List.getElem?_eq_getElem hlt
    have ey : ys[i]? = some (ys[i]'(by omega)) := List.getElem?_eq_getElem (by omega)
    have ez : (xs.zip ys)[i]? = some (xs[i], ys[i]'(by omega)) := by rw [List.getElem?_zip_eq_some]; exact ⟨ex, ey⟩
    refine .inr ⟨⟨xs, ys, _, _, h1.seqT hx, h1.seqT hy, ex, ey⟩, fun H' => Same H1 H' ∧ H' D = some (.lst (((xs.zip ys).take (i + 1)).filterMap fun p => o p.1 p.2)), fun H' p => ⟨xs.length - (i + 1), by omega, rfl, hlt, p.1, p.2⟩, fun v H' y => ?_⟩
    obtain ⟨T, x, y, rfl, hT, rfl, q1, q2⟩ := y
    have e1 := q1 xs (h1.seqT hx)
    have e2 := q2 ys (h1.seqT hy)
    rw [ex] at e1; rw [ey] at e2
    cases e1; cases e2
    refine hs i _ _ T H _ ex ey h1 hT (fun H2 z s e => ⟨_, s _ _ h2, ?_, fun b z q => ?_, ?_⟩) (fun H2 s e => ⟨h1.trans s, ?_⟩)
    · exact Nat.lt_of_le_of_lt (fm_len _ _ i) (by rw [zl]; exact Nat.lt_trans hz (by decide))
    · rw [upd_ne (ne_of_none q nD)]
      exact s _ _ (h1 _ _ q)
    · rw [upd_same, take_fm _ ez, e]
      rfl
    · rw [s _ _ h2, take_fm _ ez, e]
      simp
  · have e : i = xs.length := by omega
    refine .inl ⟨⟨xs, ys, h1.seqT hx, h1.seqT hy, .inl (by omega)⟩, hd H h1 ?_⟩
    rw [h2, List.take_of_length_le (by omega)]
end
/-- for i, x in enumerate(xs) -/
theorem for_enumL {K : PySem.W.Frag} {a : Addr} {xs : List V} {g : TG} {tb : TS} {D : Ends} {σ : St} {H : Hp} (Pv : Nat → St → Hp → Prop) (h0 : Pv 0 σ H) (hq : ∀ i σ H, i ≤ xs.length → Pv i σ H → SqL K H a xs)
    (hs : ∀ (i : Nat) (x : V) (T : Addr) (σ : St) (H : Hp), xs[i]? = some x → Pv i σ H → H T = none → g (.ref T) σ (upd H T (.tup [.int (i : Nat), x])) fun σ2 H2 => tb { D with nx := Pv (i + 1), ct := Pv (i + 1), bk := D.nx } σ2 H2) (hd : ∀ σ H, Pv xs.length σ H → D.nx σ H) :
    ∃ W : Nat → Nat → St → Hp → Prop, (∃ m, W 0 m σ H) ∧ ∀ i m σ H, W i m σ H →
      ((Ite K a).stop i H ∧ D.nx σ H) ∨ ((Ite K a).go i H ∧ ∃ N : St → Hp → Prop, (∀ σ' H', N σ' H' → ∃ m', m' < m ∧ W (i + 1) m' σ' H') ∧ ∀ x H', (Ite K a).yld i H x H' → g x σ H' fun σ2 H2 => tb { D with nx := N, ct := N, bk := D.nx } σ2 H2) := by
  refine ⟨fun i m σ H => m = xs.length - i ∧ i ≤ xs.length ∧ Pv i σ H, ⟨xs.length, by simp, Nat.zero_le _, h0⟩, ?_⟩
  rintro i m σ H ⟨rfl, hi, p⟩
  have q := hq i σ H hi p
  by_cases hlt : i < xs.length
  · have ex : xs[i]? = some xs[i] := List.getElem?_eq_getElem hlt
    refine .inr ⟨⟨xs, xs[i], q, ex⟩, Pv (i + 1), fun σ' H' p' => ⟨xs.length - (i + 1), by omega, rfl, hlt, p'⟩, fun v H' y => ?_⟩
    obtain ⟨T, x, rfl, hT, rfl, e⟩ := y
    exact hs i x T σ H (e xs q) p hT
  · have e : i = xs.length := by omega
    subst e
    exact .inl ⟨⟨xs, q, Nat.le_refl _⟩, hd σ H p⟩
end L2

set_option linter.all false
/-! eventually periodic sequences: the least period and the least start (plain) -/
namespace Pr
variable {α β : Type}
def Per (f : Nat → α) (s q : Nat) : Prop := ∀ n, s ≤ n → f (n + q) = f n
structure Lst (f : Nat → α) (a q : Nat) : Prop where
  pos : 0 < q
  per : Per f a q
  least : ∀ a' q', 0 < q' → Per f a' q' → q ≤ q'
  first : ∀ a', Per f a' q → a ≤ a'
theorem Lst.uniq {f : Nat → α} {a q a' q' : Nat} (h : Lst f a q) (g : Lst f a' q') : a = a' ∧ q = q' := by
  have e : q = q' := Nat.le_antisymm (h.least a' q' g.pos g.per) (g.least a q h.pos h.per)
  subst e
  exact ⟨Nat.le_antisymm (h.first _ g.per) (g.first _ h.per), rfl⟩
theorem Per.later {f : Nat → α} {s s' q : Nat} (h : Per f s q) (l : s ≤ s') : Per f s' q := fun n hn => h n (Nat.le_trans l hn)
theorem Per.zero {f : Nat → α} {s : Nat} : Per f s 0 := fun n _ => rfl
theorem Per.mul {f : Nat → α} {s q : Nat} (h : Per f s q) : ∀ m, Per f s (m * q)
  | 0 => by rw [Nat.zero_mul]; exact Per.zero
  | m + 1 => fun n hn => by
    rw [Nat.succ_mul, ← Nat.add_assoc, h _ (Nat.le_trans hn (Nat.le_add_right _ _)), Per.mul h m n hn]
theorem Per.of {f : Nat → α} {s p s' q : Nat} (hp : 0 < p) (h : Per f s p) (g : Per f s' q) : Per f s q := fun n hn => by
  have e1 := h.mul s' (n + q) (Nat.le_trans hn (Nat.le_add_right _ _))
  have e2 := h.mul s' n hn
  have l : s' ≤ n + s' * p := Nat.le_trans (Nat.le_mul_of_pos_right s' hp) (Nat.le_add_left _ _)
  have e3 := g (n + s' * p) l
  rw [← e1, ← e2, ← e3, Nat.add_right_comm]
theorem Per.mod {f : Nat → α} {s p q : Nat} (h : Per f s p) (g : Per f s q) : Per f s (p % q) := fun n hn => by
  have e1 := g.mul (p / q) (n + p % q) (Nat.le_trans hn (Nat.le_add_right _ _))
  have e2 : n + p % q + p / q * q = n + p := by
    have := Nat.mod_add_div p q
    rw [Nat.mul_comm] at this
    omega
  rw [← e1, e2]
  exact h n hn
theorem Per.gcd {f : Nat → α} {s : Nat} (m n : Nat) : Per f s m → Per f s n → Per f s (Nat.gcd m n) := by
  induction m, n using Nat.gcd.induction with
  | H0 n => intro _ h; rw [Nat.gcd_zero_left]; exact h
  | H1 m n hm ih =>
    intro h g
    rw [Nat.gcd_rec]
    exact ih (g.mod h) h
theorem Lst.eqv {f : Nat → α} {g : Nat → β} (e : ∀ n m, f n = f m ↔ g n = g m) {a q : Nat} (h : Lst f a q) : Lst g a q := by
  have pe : ∀ s q, Per g s q → Per f s q := fun s q k n hn => (e _ _).mpr (k n hn)
  exact ⟨h.pos, fun n hn => (e _ _).mp (h.per n hn), fun a' q' hq k => h.least a' q' hq (pe _ _ k), fun a' k => h.first a' (pe _ _ k)⟩
/-- where a number is looked up -/
def spot (n s p : Nat) : Nat := if n < s then n else s + (n - s) % p
theorem spot_lt {n s p : Nat} (hp : 0 < p) : spot n s p < s + p := by
  unfold spot
  split
  · omega
  · have := Nat.mod_lt (n - s) hp
    omega
theorem spot_id {n s p : Nat} (h : n < s + p) : spot n s p = n := by
  unfold spot
  split
  · rfl
  · rw [Nat.mod_eq_of_lt (by omega)]
    omega
theorem spot_per {s p : Nat} : Per (fun n => spot n s p) s p := fun n hn => by
  show spot (n + p) s p = spot n s p
  unfold spot
  rw [if_neg (by omega), if_neg (by omega), show n + p - s = (n - s) + p by omega, Nat.add_mod_right]
theorem Per.spot {f : Nat → α} {s p : Nat} (h : Per f s p) (n : Nat) : f (spot n s p) = f n := by
  unfold Pr.spot
  split
  · rfl
  · have e := h.mul ((n - s) / p) (s + (n - s) % p) (Nat.le_add_right _ _)
    rw [← e]
    congr 1
    have := Nat.mod_add_div (n - s) p
    rw [Nat.mul_comm] at this
    omega
theorem getElem?_rep {l : List α} {i : Nat} : ∀ {m : Nat}, i < m * l.length → (List.replicate m l).flatten[i]? = l[i % l.length]?
  | 0, h => by simp at h
  | m + 1, h => by
    rw [List.replicate_succ, List.flatten_cons]
    by_cases hi : i < l.length
    · rw [List.getElem?_append_left hi, Nat.mod_eq_of_lt hi]
    · have h' : i - l.length < m * l.length := by rw [Nat.succ_mul] at h; omega
      rw [List.getElem?_append_right (by omega), getElem?_rep h', Nat.mod_eq_sub_mod (a := i) (by omega)]
theorem rep_iff {tail : List α} {p sz : Nat} (hl : tail.length = p) (h0 : 0 < sz) (hd : p % sz = 0) : tail = (List.replicate (p / sz) (tail.take sz)).flatten ↔ ∀ i, i < p → tail[i]? = tail[i % sz]? := by
  by_cases hp : p = 0
  · subst hp
    have : tail = [] := List.length_eq_zero_iff.mp hl
    subst this
    simp
  have hsz : sz ≤ p := Nat.le_of_dvd (by omega) (Nat.dvd_of_mod_eq_zero hd)
  have hm : p / sz * sz = p := Nat.div_mul_cancel (Nat.dvd_of_mod_eq_zero hd)
  have htl : (tail.take sz).length = sz := by rw [List.length_take]; omega
  have key : ∀ i, i < p → (List.replicate (p / sz) (tail.take sz)).flatten[i]? = tail[i % sz]? := fun i hi => by
    rw [getElem?_rep (by rw [htl, hm]; exact hi), htl, List.getElem?_take, if_pos (Nat.mod_lt _ h0)]
  constructor
  · intro e i hi
    rw [← key i hi, ← e]
  · intro h
    apply List.ext_getElem?
    intro i
    by_cases hi : i < p
    · rw [key i hi]; exact h i hi
    · rw [List.getElem?_eq_none (by omega), List.getElem?_eq_none]
      rw [List.length_flatten, List.map_replicate, List.sum_replicate_nat, htl, hm]
      omega
/-- a list of rows that come again from a start on, as a sequence -/
def seqR (rows : List α) (s p : Nat) : Nat → Option α := fun n => rows[spot n s p]?
theorem seqR_per (rows : List α) (s p : Nat) : Per (seqR rows s p) s p := fun n hn => congrArg (fun i => rows[i]?) (spot_per n hn)
theorem seqR_tail {rows : List α} {s p i : Nat} (hi : i < p) : seqR rows s p (s + i) = ((rows.drop s).take p)[i]? := by
  unfold seqR
  rw [spot_id (by omega), List.getElem?_take, if_pos hi, List.getElem?_drop]
theorem per_iff {rows : List α} {s p sz : Nat} (hp : 0 < p) (hl : rows.length = s + p) (h0 : 0 < sz) (hd : p % sz = 0) :
    (rows.drop s).take p = (List.replicate (p / sz) (((rows.drop s).take p).take sz)).flatten ↔ Per (seqR rows s p) s sz := by
  have tl : ((rows.drop s).take p).length = p := by rw [List.length_take, List.length_drop]; omega
  rw [rep_iff tl h0 hd]
  have dv := Nat.dvd_of_mod_eq_zero hd
  have hsz : sz ≤ p := Nat.le_of_dvd hp dv
  have any : ∀ i, seqR rows s p (s + i) = ((rows.drop s).take p)[i % p]? := fun i => by
    rw [← seqR_tail (Nat.mod_lt i hp)]
    have e := (seqR_per rows s p).mul (i / p) (s + i % p) (Nat.le_add_right _ _)
    rw [← e]
    congr 1
    have := Nat.mod_add_div i p
    rw [Nat.mul_comm] at this
    omega
  constructor
  · intro h n hn
    obtain ⟨i, rfl⟩ : ∃ i, n = s + i := ⟨n - s, by omega⟩
    rw [Nat.add_assoc, any, any, h _ (Nat.mod_lt _ hp), h (i % p) (Nat.mod_lt _ hp), Nat.mod_mod_of_dvd _ dv, Nat.mod_mod_of_dvd _ dv, Nat.add_mod_right]
  · intro h i hi
    have h2 : i % sz < p := Nat.lt_of_lt_of_le (Nat.mod_lt _ h0) hsz
    rw [← seqR_tail hi, ← seqR_tail h2]
    have e := h.mul (i / sz) (s + i % sz) (Nat.le_add_right _ _)
    rw [← e]
    congr 1
    have := Nat.mod_add_div i sz
    rw [Nat.mul_comm] at this
    omega
end Pr

set_option Elab.async false
set_option linter.all false
set_option maxRecDepth 100000
set_option maxHeartbeats 2000000
/-! zip over any number of texts of one length -/
namespace ZN
open PySem
structure Rw where
  it : Addr
  x : Str
  t : Tok
  ty : String
def StR (r : Rw) (i : Nat) (h : Heap) : Prop := (r.ty = "str_ascii_iterator" ∨ r.ty = "str_iterator") ∧ h.IsStrIter r.it r.ty r.x r.t i
def IsC (r : Rw) (i : Nat) (v : Value) : Prop := ∃ c u, r.x.cps[i]? = some c ∧ v = .str ⟨#[c]⟩ u
abbrev IsZ (h : Heap) (z TI TO : Addr) (f0 f1 : Value) : Prop := h.get? z = some { cls := .type "zip", data := .fields #[f0, f1, .bool false, .ref TI, .ref TO] }
abbrev IsT (h : Heap) (T : Addr) (xs : List Value) : Prop := h.get? T = some { cls := .type "tuple", data := .seq xs.toArray }
theorem StR.keep {r : Rw} {i : Nat} {h h' : Heap} (st : StR r i h) (k : ∀ o, h.get? r.it = some o → h'.get? r.it = some o) : StR r i h' := by
  obtain ⟨e, o, ho, q⟩ := st
  exact ⟨e, o, k o ho, q⟩
structure Ap (z TI TO : Addr) (R : List Rw) : Prop where
  zTI : z ≠ TI
  zTO : z ≠ TO
  TITO : TI ≠ TO
  iz : ∀ r ∈ R, r.it ≠ z
  iTI : ∀ r ∈ R, r.it ≠ TI
  iTO : ∀ r ∈ R, r.it ≠ TO
  nd : (R.map (·.it)).Nodup
inductive Cs (i : Nat) : List Rw → List Value → Prop
  | nil : Cs i [] []
  | cons {r : Rw} {v : Value} {R : List Rw} {us : List Value} (h : IsC r i v) (t : Cs i R us) : Cs i (r :: R) (v :: us)
theorem Cs.snoc {i : Nat} {R : List Rw} {us : List Value} {r : Rw} {v : Value} (h : Cs i R us) (q : IsC r i v) : Cs i (R ++ [r]) (us ++ [v]) := by
  induction h with
  | nil => exact .cons q .nil
  | cons h t ih => exact .cons h ih
theorem Cs.len {i : Nat} {R : List Rw} {us : List Value} (h : Cs i R us) : us.length = R.length := by
  induction h with
  | nil => rfl
  | cons h t ih => simp [ih]
section
variable {prog : Program} {w : World} {A : Around} {E : Value → Shared → Prop} {s : Shared}
theorem nx_item {r : Rw} {i : Nat} {Q : Value → Shared → Prop} (st : StR r i s.heap) (hi : i < r.x.cps.size) (hQ : ∀ v h' tk, IsC r i v → StR r (i + 1) h' → Heap.SameBut r.it s.heap h' → Q v { s with heap := h', toks := tk }) :
    wpAny (model prog w) A (Builtin.SmallTypes.nextOf (.ref r.it)) Q E s := by
  obtain ⟨e, q⟩ := st
  rcases e with e | e
  · rw [e] at q
    exact wpAny_nextOf_ascii_item q (c := r.x.cps[i]) (by simp [hi]) fun h' a b => hQ _ h' _ ⟨_, _, by simp [hi], rfl⟩ ⟨.inl e, by rw [e]; exact a⟩ b
  · rw [e] at q
    exact wpAny_nextOf_wide_item q (c := r.x.cps[i]) (by simp [hi]) fun h' a b => hQ _ h' _ ⟨_, _, by simp [hi], rfl⟩ ⟨.inr e, by rw [e]; exact a⟩ b
theorem nx_end {r : Rw} {i : Nat} {Q : Value → Shared → Prop} (hh : A.handled = none) (st : StR r i s.heap) (hi : r.x.cps.size ≤ i)
    (hE : ∀ h' e, Heap.ExtBut r.it s.heap h' → (∃ o, h'.get? e = some o ∧ o.cls = .type "StopIteration") → E (.ref e) { s with heap := h' }) :
    wpAny (model prog w) A (Builtin.SmallTypes.nextOf (.ref r.it)) Q E s := by
  obtain ⟨e, q⟩ := st
  rcases e with e | e
  · rw [e] at q
    exact wpAny_nextOf_ascii_end hh q (by simp [hi]) hE
  · rw [e] at q
    exact wpAny_nextOf_wide_end hh q (by simp [hi]) hE
theorem wpAny_ifAlive {a : Addr} {Q : Option Obj → Shared → Prop} (h : Q (s.heap.get? a) s) : wpAny (model prog w) A (loadIfAlive a) Q E s := fun _ _ _ => h
theorem free_or {z TI TO : Addr} {f0 f1 : Value} {Q : Bool → Shared → Prop} (hz : IsZ s.heap z TI TO f0 f1) (hf : f0 = .none ∨ ∃ a : Nat, f0 = rawInt a) (h1 : Q true s)
    (h2 : ∀ h' g1, IsZ h' z TI TO f0 g1 → Heap.SameBut z s.heap h' → Q false { s with heap := h' }) : wpAny (model prog w) A (Builtin.SmallTypes.ownedTupleIsFree (.ref z)) Q E s := by
  unfold Builtin.SmallTypes.ownedTupleIsFree
  rcases hf with rfl | ⟨a, rfl⟩
  · exact wpAny_bind (wpAny_field hz rfl (x := .none) rfl (wpAny_pure h1))
  · refine wpAny_bind (wpAny_field hz rfl (x := rawInt a) rfl ?_)
    show wpAny _ _ (loadIfAlive _ >>= _) _ _ _
    refine wpAny_bind (wpAny_ifAlive ?_)
    cases hq : s.heap.get? (Int.toNat (a : Int)) with
    | none => exact wpAny_pure h1
    | some o =>
      show wpAny _ _ (field (.ref z) 1 >>= _) _ _ _
      refine wpAny_bind (wpAny_field hz rfl (x := f1) rfl ?_)
      cases hb : (f1 != Value.bool true) with
      | true =>
        simp only [if_true]
        refine wpAny_bind (wpAny_setField_rec hz (by simp) fun h' e sb => wpAny_pure ?_)
        exact h2 h' _ e sb
      | false =>
        simp only [Bool.false_eq_true, if_false]
        exact wpAny_pure (h2 s.heap f1 hz (.refl ..))
theorem set_mid {us os : List Value} {a v : Value} : ((us ++ a :: os).toArray.setIfInBounds us.length v) = (us ++ [v] ++ os).toArray := by
  rw [List.setIfInBounds_toArray]
  congr 1
  simp
theorem zipN_item {z TI TO : Addr} {R : List Rw} {i : Nat} {f0 f1 : Value} {os : List Value} {Q : Value → Shared → Prop} (hR : R ≠ []) (D : Ap z TI TO R) (hz : IsZ s.heap z TI TO f0 f1) (hf : f0 = .none ∨ ∃ a : Nat, f0 = rawInt a)
    (hTI : IsT s.heap TI (R.map fun r => .ref r.it)) (hTO : IsT s.heap TO os) (hos : os.length = R.length) (hl : R.length ≤ 1000) (st : ∀ r ∈ R, StR r i s.heap) (hi : ∀ r ∈ R, i < r.x.cps.size)
    (hQ : ∀ us h' tk g0 g1 os', Cs i R us → IsZ h' z TI TO g0 g1 → (g0 = .none ∨ ∃ a : Nat, g0 = rawInt a) → IsT h' TO os' → os'.length = R.length → (∀ r ∈ R, StR r (i + 1) h') → IsT h' s.heap.objs.size us → h'.objs.size = s.heap.objs.size + 1 →
      (∀ c o, c ≠ z → c ≠ TO → (∀ r ∈ R, c ≠ r.it) → s.heap.get? c = some o → h'.get? c = some o) → Q (.ref s.heap.objs.size) { s with heap := h', toks := tk }) :
    wpAny (model prog w) A (Builtin.«zip.__next__» ⟨[.ref z], []⟩) (fun fin s' => ∃ v, fin = .done (.ret v) ∧ Q v s') E s := by
  show wpAny _ _ (field (.ref z) 2 >>= _) _ _ _
  refine wpAny_bind (wpAny_field hz rfl (x := .bool false) rfl ?_)
  show wpAny _ _ (field (.ref z) 3 >>= _) _ _ _
  refine wpAny_bind (wpAny_field hz rfl (x := .ref TI) rfl ?_)
  refine wpAny_bind (wpAny_seqItems hTI rfl ?_)
  have hne : ((R.map fun r => Value.ref r.it).toArray.isEmpty) = false := by
    cases R with
    | nil => exact absurd rfl hR
    | cons r R => rfl
  simp only [hne, Bool.false_eq_true, if_false]
  have szl : (1000 : Nat) ≤ sizeLine := by decide
  refine wpAny_bind (free_or hz hf ?_ ?_)
  · -- the owned tuple again
    simp only [if_true]
    refine wpAny_bind (wpAny_rule ?_)
    refine wpAny_bind (wpAny_field hz rfl (x := .ref TO) rfl ?_)
    refine wpAny_bind (wpAny_setField_rec hz (by simp) fun h₁ hz₁ hs₁ => ?_)
    replace hz₁ : IsZ h₁ z TI TO .ellipsis f1 := hz₁
    refine wpAny_bind ?_
    refine wpAny_forIn_list _ (fun l b s' => ∃ (R1 R2 : List Rw) (us os' : List Value) (h' : Heap) (tk : Nat), R = R1 ++ R2 ∧ l = (R2.map fun r => Value.ref r.it).zipIdx R1.length ∧ b = (none, ()) ∧ s' = { s with heap := h', toks := tk } ∧ Cs i R1 us ∧
      IsZ h' z TI TO .ellipsis f1 ∧ IsT h' TO (us ++ os') ∧ os'.length = R2.length ∧ (∀ r ∈ R1, StR r (i + 1) h') ∧ (∀ r ∈ R2, StR r i h') ∧ h'.objs.size = s.heap.objs.size ∧
      (∀ c o, c ≠ z → c ≠ TO → (∀ r ∈ R, c ≠ r.it) → s.heap.get? c = some o → h'.get? c = some o)) _ ?turn ?fin _ _ ?start
    case start =>
      refine ⟨[], R, [], os, h₁, s.toks, rfl, rfl, rfl, rfl, .nil, hz₁, ?_, hos, fun r hr => (by cases hr), fun r hr => (st r hr).keep fun o e => hs₁.extBut _ _ (D.iz r hr) e, hs₁.1, fun c o c1 _ _ e => hs₁.extBut _ _ c1 e⟩
      exact hs₁.extBut _ _ D.zTO.symm hTO
    case fin =>
      rintro b s' ⟨R1, R2, us, os', h', tk, eR, el, rfl, rfl, hc, z1, t1, lo, a1, a2, sz, fr⟩
      have e2 : R2 = [] := by
        cases R2 with
        | nil => rfl
        | cons r R2 => cases el
      subst e2
      rw [List.append_nil] at eR
      subst eR
      have e3 : os' = [] := List.eq_nil_of_length_eq_zero lo
      subst e3
      rw [List.append_nil] at t1
      show wpAny _ _ (seqItems? (.ref TO) >>= _) _ _ _
      refine wpAny_bind (wpAny_seqItems t1 rfl ?_)
      have hul := hc.len
      refine wpAny_bind (wpAny_newTuple ?_ (by rw [hul]; omega))
      have zlt : z < h'.objs.size := Heap.lt_size z1
      show wpAny _ _ (Builtin.SmallTypes.ownedTupleHandOut (.ref z) (.ref h'.objs.size) >>= _) _ _ _
      refine wpAny_bind ?_
      unfold Builtin.SmallTypes.ownedTupleHandOut
      have z2 : IsZ (h'.push { cls := .type "tuple", data := .seq us.toArray }) z TI TO .ellipsis f1 := Heap.get?_push_of_some _ z1
      refine wpAny_bind (wpAny_setField_rec z2 (by simp) fun h₇ z₇ s₇ => ?_)
      replace z₇ : IsZ h₇ z TI TO (rawInt h'.objs.size) f1 := z₇
      refine wpAny_setField_rec z₇ (by simp) fun h₈ z₈ s₈ => ?_
      replace z₈ : IsZ h₈ z TI TO (rawInt h'.objs.size) (.bool false) := z₈
      have up : ∀ c o, c ≠ z → h'.get? c = some o → h₈.get? c = some o := fun c o c1 e => s₈.extBut _ _ c1 (s₇.extBut _ _ c1 (Heap.get?_push_of_some _ e))
      have tN : IsT h₈ h'.objs.size us := s₈.extBut _ _ (Nat.ne_of_gt zlt) (s₇.extBut _ _ (Nat.ne_of_gt zlt) (Heap.get?_push_size _ rfl))
      have sz8 : h₈.objs.size = h'.objs.size + 1 := by rw [s₈.1, s₇.1, Heap.size_push]
      rw [sz] at tN sz8
      refine wpAny_pure ⟨_, rfl, ?_⟩
      show Q (.ref h'.objs.size) _
      rw [sz]
      exact hQ us h₈ tk _ _ us hc z₈ (.inr ⟨_, rfl⟩) (up _ _ D.zTO.symm t1) hul (fun r hr => (a1 r hr).keep fun o e => up _ _ (D.iz r hr) e) tN sz8 fun c o c1 c2 c3 e => up _ _ c1 (fr c o c1 c2 c3 e)
    case turn =>
      rintro x rest b s' ⟨R1, R2, us, os', h', tk, eR, el, rfl, rfl, hc, z1, t1, lo, a1, a2, sz, fr⟩
      cases R2 with
      | nil => cases el
      | cons r R2 =>
        cases el
        cases os' with
        | nil => cases lo
        | cons a os' =>
          have hrR : r ∈ R := by rw [eR]; simp
          refine wpAny_bind (wpAny_onRaise ?_)
          show wpAny _ _ (Builtin.SmallTypes.nextOf (.ref r.it) >>= _) _ _ _
          refine wpAny_bind (nx_item (a2 r (by simp)) (hi r hrR) fun v h2 tk2 hv st2 sb2 => wpAny_pure ?_)
          have t2 : IsT h2 TO (us ++ a :: os') := sb2.extBut _ _ (D.iTO r hrR).symm t1
          show wpAny _ _ (seqItems? (.ref TO) >>= _) _ _ _
          refine wpAny_bind (wpAny_seqItems t2 rfl ?_)
          have hul := hc.len
          have lenR : R.length = R1.length + (R2.length + 1) := by rw [eR]; simp
          have lo' : os'.length = R2.length := by simpa using lo
          refine wpAny_bind (wpAny_updateSeq t2 rfl ?_ (by simp; omega) (by simp; omega))
          have t3 : IsT (h2.update TO (Obj.mapSeq fun x => x.setIfInBounds R1.length v)) TO (us ++ [v] ++ os') := by
            show Heap.get? _ _ = _
            rw [Heap.get?_update_self _ t2 rfl]
            rw [← hul]
            have e := set_mid (us := us) (os := os') (a := a) (v := v)
            simp only [Obj.mapSeq, e]
            simp
          have sb3 : Heap.SameBut TO h2 (h2.update TO (Obj.mapSeq fun x => x.setIfInBounds R1.length v)) := Heap.SameBut.update ..
          refine wpAny_bind (wpAny_letGo (wpAny_pure ?_))
          have nodup := D.nd
          rw [eR, List.map_append, List.map_cons] at nodup
          have nd1 : ∀ q ∈ R1, q.it ≠ r.it := fun q hq e => by
            have := (List.nodup_append.mp nodup).2.2 q.it (List.mem_map_of_mem hq) r.it (by simp)
            exact this e
          have nd2 : ∀ q ∈ R2, q.it ≠ r.it := fun q hq e => by
            have h1 := (List.nodup_append.mp nodup).2.1
            rw [List.nodup_cons] at h1
            exact h1.1 (by rw [← e]; exact List.mem_map_of_mem hq)
          have inR1 : ∀ q ∈ R1, q ∈ R := fun q hq => by rw [eR]; simp [hq]
          have inR2 : ∀ q ∈ R2, q ∈ R := fun q hq => by rw [eR]; simp [hq]
          refine ⟨R1 ++ [r], R2, us ++ [v], os', _, tk2, by rw [eR]; simp, by simp, rfl, rfl, hc.snoc hv, ?_, t3, lo', ?_, ?_, ?_, ?_⟩
          · exact sb3.extBut _ _ D.zTO (sb2.extBut _ _ (D.iz r hrR).symm z1)
          · intro q hq
            rcases List.mem_append.mp hq with hq | hq
            · exact (a1 q hq).keep fun o e => sb3.extBut _ _ (D.iTO q (inR1 q hq)) (sb2.extBut _ _ (nd1 q hq) e)
            · rw [List.mem_singleton.mp hq]
              exact st2.keep fun o e => sb3.extBut _ _ (D.iTO r hrR) e
          · intro q hq
            exact (a2 q (by simp [hq])).keep fun o e => sb3.extBut _ _ (D.iTO q (inR2 q hq)) (sb2.extBut _ _ (nd2 q hq) e)
          · rw [sb3.1, sb2.1]; exact sz
          · exact fun c o c1 c2 c3 e => sb3.extBut _ _ c2 (sb2.extBut _ _ (c3 r hrR) (fr c o c1 c2 c3 e))
  · -- a new tuple
    intro h₁ g1 hz₁ hs₁
    simp only [Bool.false_eq_true, if_false]
    refine wpAny_bind ?_
    refine MeetsSeq2.wpAny_forIn_array _ (fun l b s' => ∃ (R1 R2 : List Rw) (us : List Value) (h' : Heap) (tk : Nat), R = R1 ++ R2 ∧ l = (R2.map fun r => Value.ref r.it) ∧ b = (none, us.toArray) ∧ s' = { s with heap := h', toks := tk } ∧ Cs i R1 us ∧
      IsZ h' z TI TO f0 g1 ∧ IsT h' TO os ∧ (∀ r ∈ R1, StR r (i + 1) h') ∧ (∀ r ∈ R2, StR r i h') ∧ h'.objs.size = s.heap.objs.size ∧
      (∀ c o, c ≠ z → c ≠ TO → (∀ r ∈ R, c ≠ r.it) → s.heap.get? c = some o → h'.get? c = some o)) _ ?turn ?fin _ _ ?start
    case start =>
      refine ⟨[], R, [], h₁, s.toks, rfl, by simp, rfl, rfl, .nil, hz₁, hs₁.extBut _ _ D.zTO.symm hTO, fun r hr => (by cases hr), fun r hr => (st r hr).keep fun o e => hs₁.extBut _ _ (D.iz r hr) e, hs₁.1, fun c o c1 _ _ e => hs₁.extBut _ _ c1 e⟩
    case fin =>
      rintro b s' ⟨R1, R2, us, h', tk, eR, el, rfl, rfl, hc, z1, t1, a1, a2, sz, fr⟩
      have e2 : R2 = [] := by
        cases R2 with
        | nil => rfl
        | cons r R2 => cases el
      subst e2
      rw [List.append_nil] at eR
      subst eR
      have hul := hc.len
      show wpAny _ _ (newTuple us.toArray.toList >>= _) _ _ _
      refine wpAny_bind (wpAny_newTuple ?_ (by simp; omega))
      refine wpAny_pure ⟨_, rfl, ?_⟩
      show Q (.ref h'.objs.size) _
      have tN : IsT (h'.push { cls := .type "tuple", data := .seq us.toArray }) h'.objs.size us := Heap.get?_push_size _ rfl
      have sz8 : (h'.push { cls := .type "tuple", data := .seq us.toArray }).objs.size = h'.objs.size + 1 := Heap.size_push ..
      rw [sz] at tN sz8
      rw [sz]
      exact hQ us _ tk _ _ os hc (Heap.get?_push_of_some _ z1) hf (Heap.get?_push_of_some _ t1) hos (fun r hr => (a1 r hr).keep fun o e => Heap.get?_push_of_some _ e) tN sz8 fun c o c1 c2 c3 e => Heap.get?_push_of_some _ (fr c o c1 c2 c3 e)
    case turn =>
      rintro x rest b s' ⟨R1, R2, us, h', tk, eR, el, rfl, rfl, hc, z1, t1, a1, a2, sz, fr⟩
      cases R2 with
      | nil => cases el
      | cons r R2 =>
        cases el
        have hrR : r ∈ R := by rw [eR]; simp
        refine wpAny_bind (wpAny_holding ?_)
        show wpAny _ _ (Builtin.SmallTypes.nextOf (.ref r.it) >>= _) _ _ _
        refine wpAny_bind (nx_item (a2 r (by simp)) (hi r hrR) fun v h2 tk2 hv st2 sb2 => wpAny_pure ?_)
        refine wpAny_pure ?_
        have nodup := D.nd
        rw [eR, List.map_append, List.map_cons] at nodup
        have nd1 : ∀ q ∈ R1, q.it ≠ r.it := fun q hq e => by
          have := (List.nodup_append.mp nodup).2.2 q.it (List.mem_map_of_mem hq) r.it (by simp)
          exact this e
        have nd2 : ∀ q ∈ R2, q.it ≠ r.it := fun q hq e => by
          have h1 := (List.nodup_append.mp nodup).2.1
          rw [List.nodup_cons] at h1
          exact h1.1 (by rw [← e]; exact List.mem_map_of_mem hq)
        refine ⟨R1 ++ [r], R2, us ++ [v], _, tk2, by rw [eR]; simp, rfl, by simp, rfl, hc.snoc hv, ?_, ?_, ?_, ?_, ?_, ?_⟩
        · exact sb2.extBut _ _ (D.iz r hrR).symm z1
        · exact sb2.extBut _ _ (D.iTO r hrR).symm t1
        · intro q hq
          rcases List.mem_append.mp hq with hq | hq
          · exact (a1 q hq).keep fun o e => sb2.extBut _ _ (nd1 q hq) e
          · rw [List.mem_singleton.mp hq]
            exact st2
        · intro q hq
          exact (a2 q (by simp [hq])).keep fun o e => sb2.extBut _ _ (nd2 q hq) e
        · rw [sb2.1]; exact sz
        · exact fun c o c1 c2 c3 e => sb2.extBut _ _ (c3 r hrR) (fr c o c1 c2 c3 e)
end
end ZN

set_option Elab.async false
set_option linter.all false
set_option maxRecDepth 100000
set_option maxHeartbeats 2000000
namespace ZN
open PySem
theorem typeCall_n (vs : List Value) : checkTypeCall "zip" ⟨vs, []⟩ = pure () := by kernel_rfl
theorem newCall_n (v : Value) (vs : List Value) : checkBuiltinCall "zip.__new__" ⟨.type "zip" :: v :: vs, []⟩ = pure () := by kernel_rfl
theorem init_n (a : Value) (vs : List Value) : argsOk "object.__init__" ⟨a :: vs, []⟩ := by
  unfold argsOk; rw [signature?_of (id := "object.__init__") (n := ['_', '_', 't', 'i', 'n', 'i', '_', '_']) (o := ['t', 'c', 'e', 'j', 'b', 'o']) (by kernel_rfl) F.owner_object]; kernel_rfl
def mkR (b : Nat) : List (Str × Tok) → List Rw
  | [] => []
  | p :: r => ⟨b, p.1, p.2, if p.1.cps.all (· < 128) = true then "str_ascii_iterator" else "str_iterator"⟩ :: mkR (b + 1) r
theorem mkR_app (xs ys : List (Str × Tok)) : ∀ b, mkR b (xs ++ ys) = mkR b xs ++ mkR (b + xs.length) ys := by
  induction xs with
  | nil => intro b; rfl
  | cons p r ih =>
    intro b
    show _ :: mkR (b + 1) (r ++ ys) = _ :: (mkR (b + 1) r ++ mkR (b + (r.length + 1)) ys)
    rw [ih (b + 1), show b + 1 + r.length = b + (r.length + 1) by omega]
theorem mkR_len (xs : List (Str × Tok)) : ∀ b, (mkR b xs).length = xs.length := by
  induction xs with
  | nil => intro b; rfl
  | cons p r ih => intro b; show (mkR (b + 1) r).length + 1 = _; rw [ih]; rfl
theorem mkR_it {xs : List (Str × Tok)} : ∀ {b : Nat} {r : Rw}, r ∈ mkR b xs → b ≤ (r.it : Nat) ∧ (r.it : Nat) < b + xs.length := by
  induction xs with
  | nil => intro b r h; cases h
  | cons p q ih =>
    intro b r h
    rcases List.mem_cons.mp (show r ∈ _ :: mkR (b + 1) q from h) with h | h
    · rw [h]; show b ≤ b ∧ b < b + (q.length + 1); omega
    · obtain ⟨h1, h2⟩ := ih h
      exact ⟨Nat.le_of_succ_le h1, Nat.lt_of_lt_of_le h2 (by rw [List.length_cons]; omega)⟩
theorem mkR_nd (xs : List (Str × Tok)) : ∀ b, ((mkR b xs).map (·.it)).Nodup := by
  induction xs with
  | nil => intro b; exact List.nodup_nil
  | cons p q ih =>
    intro b
    show (b :: (mkR (b + 1) q).map (·.it)).Nodup
    refine List.nodup_cons.mpr ⟨fun h => ?_, ih (b + 1)⟩
    obtain ⟨r, hr, e⟩ := List.mem_map.mp h
    have := (mkR_it hr).1
    omega
theorem mkR_x {xs : List (Str × Tok)} : ∀ {b : Nat}, (mkR b xs).map (·.x) = xs.map (·.1) := by
  induction xs with
  | nil => intro b; rfl
  | cons p q ih => intro b; show p.1 :: (mkR (b + 1) q).map (·.x) = _; rw [ih]; rfl
section
variable {prog : Program} {w : World} {A : Around} {E : Value → Shared → Prop} {s : Shared}
theorem iterAll_strs {xs : List (Str × Tok)} {Q : List Value → Shared → Prop}
    (hQ : ∀ h', (∀ r ∈ mkR s.heap.objs.size xs, StR r 0 h') → h'.objs.size = s.heap.objs.size + xs.length → (∀ c o, s.heap.get? c = some o → h'.get? c = some o) →
      Q ((mkR s.heap.objs.size xs).map fun r => .ref r.it) { s with heap := h' }) :
    wpAny (model prog w) A (Builtin.SmallTypes.iterAll (xs.map fun p => .str p.1 p.2)) Q E s := by
  unfold Builtin.SmallTypes.iterAll
  refine wpAny_bind ?_
  refine wpAny_forIn_list _ (fun l b s' => ∃ (x1 x2 : List (Str × Tok)) (h' : Heap), xs = x1 ++ x2 ∧ l = (x2.map fun p => Value.str p.1 p.2) ∧ b = ((mkR s.heap.objs.size x1).map fun r => Value.ref r.it).toArray ∧ s' = { s with heap := h' } ∧
    (∀ r ∈ mkR s.heap.objs.size x1, StR r 0 h') ∧ h'.objs.size = s.heap.objs.size + x1.length ∧ (∀ c o, s.heap.get? c = some o → h'.get? c = some o)) _ ?turn ?fin _ _ ⟨[], xs, s.heap, rfl, rfl, rfl, rfl, fun r hr => (by cases hr), rfl, fun c o e => e⟩
  case fin =>
    rintro b s' ⟨x1, x2, h', e1, e2, rfl, rfl, a1, sz, kp⟩
    have e3 : x2 = [] := by
      cases x2 with
      | nil => rfl
      | cons p q => cases e2
    subst e3
    rw [List.append_nil] at e1
    subst e1
    exact wpAny_pure (hQ h' a1 sz kp)
  case turn =>
    rintro x rest b s' ⟨x1, x2, h', e1, e2, rfl, rfl, a1, sz, kp⟩
    cases x2 with
    | nil => cases e2
    | cons p q =>
      cases e2
      refine wpAny_bind (wpAny_holding ?_)
      have fin : ∀ (ty : String), (ty = if p.1.cps.all (· < 128) = true then "str_ascii_iterator" else "str_iterator") → wpAny (model prog w) A (pure (ForInStep.yield ((((mkR s.heap.objs.size x1).map fun r => Value.ref r.it).toArray.push (.ref h'.objs.size))))) (fun r s'' => match r with
          | .yield b' => ∃ (x1 x2 : List (Str × Tok)) (h' : Heap), xs = x1 ++ x2 ∧ (q.map fun p => Value.str p.1 p.2) = (x2.map fun p => Value.str p.1 p.2) ∧ b' = ((mkR s.heap.objs.size x1).map fun r => Value.ref r.it).toArray ∧ s'' = { s with heap := h' } ∧ (∀ r ∈ mkR s.heap.objs.size x1, StR r 0 h') ∧ h'.objs.size = s.heap.objs.size + x1.length ∧ (∀ c o, s.heap.get? c = some o → h'.get? c = some o)
          | .done b' => wpAny (model prog w) A (pure b'.toList) Q E s'') E { s with heap := h'.push { cls := .type ty, data := .fields #[.str p.1 p.2, .int 0 0] } } := fun ty ht => by
        refine wpAny_pure ⟨x1 ++ [p], q, _, by rw [e1]; simp, rfl, ?_, rfl, fun r hr => ?_, ?_, fun c o e => Heap.get?_push_of_some _ (kp c o e)⟩
        · rw [mkR_app, sz]
          simp [mkR]
        · rw [mkR_app] at hr
          rcases List.mem_append.mp hr with hr | hr
          · exact (a1 r hr).keep fun o e => Heap.get?_push_of_some _ e
          · rw [List.mem_singleton.mp (show r ∈ [_] from hr)]
            refine ⟨?_, { cls := .type ty, data := .fields #[.str p.1 p.2, .int 0 0] }, ?_, by rw [ht], rfl⟩
            · show (if _ then _ else _) = _ ∨ (if _ then _ else _) = _
              split
              · exact .inl rfl
              · exact .inr rfl
            · show Heap.get? _ (s.heap.objs.size + x1.length) = _
              rw [← sz]
              exact Heap.get?_push_size _ rfl
        · rw [Heap.size_push, sz]; simp; omega
      cases ha : p.1.cps.all (· < 128) with
      | false => exact wpAny_pyIter_wide ha (fin "str_iterator" (by rw [ha]; rfl))
      | true => exact wpAny_pyIter_ascii ha (fin "str_ascii_iterator" (by rw [ha]; rfl))
abbrev zH (h : Heap) (its : List Value) : Heap := ((h.push { cls := .type "tuple", data := .seq its.toArray }).push { cls := .type "tuple", data := .seq (its.map fun _ => Value.none).toArray }).push
  { cls := .type "zip", data := .fields #[.none, .bool false, .bool false, .ref h.objs.size, .ref (h.objs.size + 1)] }
theorem z_tail {its : List Value} {Q : Fin → Shared → Prop} (hl : its.length ≤ 1000) (h : Q (.done (.ret (.ref (s.heap.objs.size + 2)))) { s with heap := zH s.heap its }) :
    wpAny (model prog w) A (newTuple its >>= fun a => newTuple (its.map fun _ => Value.none) >>= fun b => Builtin.SmallTypes.newRecord (.type "zip") (Builtin.SmallTypes.ownedTupleFields ++ [Value.bool false, a, b]) >>= fun r => ret r) Q E s := by
  have szl : (1000 : Nat) ≤ sizeLine := by decide
  refine wpAny_bind (wpAny_newTuple ?_ (by omega))
  refine wpAny_bind (wpAny_newTuple ?_ (by rw [List.length_map]; omega))
  refine wpAny_bind ?_
  unfold Builtin.SmallTypes.newRecord
  refine wpAny_newObj_type (wpAny_pure ?_) (by show 5 ≤ sizeLine + 2; decide)
  have z1 : (s.heap.push { cls := .type "tuple", data := .seq its.toArray }).objs.size = s.heap.objs.size + 1 := Heap.size_push ..
  have z2 : ((s.heap.push { cls := .type "tuple", data := .seq its.toArray }).push { cls := .type "tuple", data := .seq (its.map fun _ => Value.none).toArray }).objs.size = s.heap.objs.size + 2 := by rw [Heap.size_push, z1]
  show Q (.done (.ret (.ref ((s.heap.push { cls := .type "tuple", data := .seq its.toArray }).push { cls := .type "tuple", data := .seq (its.map fun _ => Value.none).toArray }).objs.size))) { s with heap := ((s.heap.push { cls := .type "tuple", data := .seq its.toArray }).push { cls := .type "tuple", data := .seq (its.map fun _ => Value.none).toArray }).push ({ cls := .type "zip", data := .fields #[.none, .bool false, .bool false, .ref s.heap.objs.size, .ref (s.heap.push { cls := .type "tuple", data := .seq its.toArray }).objs.size] } : Obj) }
  rw [z2, z1]
  exact h
/-- a zip stands, all at the start -/
structure ZAt (h h' : Heap) (xs : List (Str × Tok)) : Prop where
  zp : IsZ h' (h.objs.size + xs.length + 2) (h.objs.size + xs.length) (h.objs.size + xs.length + 1) .none (.bool false)
  ti : IsT h' (h.objs.size + xs.length) ((mkR h.objs.size xs).map fun r => .ref r.it)
  tu : ∃ os, IsT h' (h.objs.size + xs.length + 1) os ∧ os.length = xs.length
  st : ∀ r ∈ mkR h.objs.size xs, StR r 0 h'
  sz : h'.objs.size = h.objs.size + xs.length + 3
  kp : ∀ c o, h.get? c = some o → h'.get? c = some o
theorem meets_new (xs : List (Str × Tok)) (hl : xs.length ≤ 1000) : Meets (Builtin.«zip.__new__» ⟨.type "zip" :: xs.map (fun p => .str p.1 p.2), []⟩) (fun _ R s => ∀ h', ZAt s.heap h' xs → R (.ok (.ret (.ref (s.heap.objs.size + xs.length + 2)))) { s with heap := h' }) :=
  .of_wp fun prog w A R s h => by
    obtain ⟨hp, g, d, tk, os⟩ := s
    have hsub := sub_zip
    have szl : (1000 : Nat) ≤ sizeLine := by decide
    have ll := mkR_len xs hp.objs.size
    wp_walk using iterAll_strs (xs := xs)
    intro h1 a1 sz kp
    change h1.objs.size = hp.objs.size + xs.length at sz
    have lt : ((mkR hp.objs.size xs).map fun r => Value.ref r.it).length = xs.length := by rw [List.length_map, ll]
    refine z_tail (s := ⟨h1, g, d, tk, os⟩) (its := (mkR hp.objs.size xs).map fun r => Value.ref r.it) (by omega) ?_
    refine ⟨_, rfl, ?_⟩
    show R (Except.ok (Flow.ret (.ref (h1.objs.size + 2)))) ⟨zH h1 _, g, d, tk, os⟩
    have z1 : (h1.push { cls := .type "tuple", data := .seq ((mkR hp.objs.size xs).map fun r => Value.ref r.it).toArray }).objs.size = h1.objs.size + 1 := Heap.size_push ..
    have z2 : ((h1.push { cls := .type "tuple", data := .seq ((mkR hp.objs.size xs).map fun r => Value.ref r.it).toArray }).push { cls := .type "tuple", data := .seq (((mkR hp.objs.size xs).map fun r => Value.ref r.it).map fun _ => Value.none).toArray }).objs.size = h1.objs.size + 2 := by rw [Heap.size_push, z1]
    have g3 : (zH h1 ((mkR hp.objs.size xs).map fun r => Value.ref r.it)).get? (h1.objs.size + 2) = some { cls := .type "zip", data := .fields #[.none, .bool false, .bool false, .ref h1.objs.size, .ref (h1.objs.size + 1)] } := by
      rw [← z2]; exact Heap.get?_push_size _ rfl
    have g2 : (zH h1 ((mkR hp.objs.size xs).map fun r => Value.ref r.it)).get? (h1.objs.size + 1) = some { cls := .type "tuple", data := .seq (((mkR hp.objs.size xs).map fun r => Value.ref r.it).map fun _ => Value.none).toArray } := by
      refine Heap.get?_push_of_some _ ?_
      rw [← z1]; exact Heap.get?_push_size _ rfl
    have g1 : (zH h1 ((mkR hp.objs.size xs).map fun r => Value.ref r.it)).get? h1.objs.size = some { cls := .type "tuple", data := .seq ((mkR hp.objs.size xs).map fun r => Value.ref r.it).toArray } := Heap.get?_push_of_some _ (Heap.get?_push_of_some _ (Heap.get?_push_size _ rfl))
    have z3 : (zH h1 ((mkR hp.objs.size xs).map fun r => Value.ref r.it)).objs.size = h1.objs.size + 3 := by rw [Heap.size_push, z2]
    have k3 : ∀ c o, h1.get? c = some o → (zH h1 ((mkR hp.objs.size xs).map fun r => Value.ref r.it)).get? c = some o := fun c o e => Heap.get?_push_of_some _ (Heap.get?_push_of_some _ (Heap.get?_push_of_some _ e))
    generalize zH h1 ((mkR hp.objs.size xs).map fun r => Value.ref r.it) = hz at g1 g2 g3 z3 k3 ⊢
    rw [sz] at g1 g2 g3 z3 ⊢
    exact h hz ⟨g3, g1, ⟨_, g2, by rw [List.length_map]; exact lt⟩, fun r hr => (a1 r hr).keep fun o e => k3 _ _ e, z3, fun c o e => k3 _ _ (kp c o e)⟩
end
end ZN

set_option Elab.async false
set_option linter.all false
set_option maxRecDepth 100000
set_option maxHeartbeats 2000000
namespace ZN
open PySem
section
variable {prog : Program} {w : World} {A : Around} {E : Value → Shared → Prop} {s : Shared}
theorem zipN_end {z TI TO : Addr} {r : Rw} {R : List Rw} {i : Nat} {f0 f1 : Value} {os : List Value} {Q : Fin → Shared → Prop} (hh : A.handled = none) (D : Ap z TI TO (r :: R)) (hz : IsZ s.heap z TI TO f0 f1) (hf : f0 = .none ∨ ∃ a : Nat, f0 = rawInt a)
    (hTI : IsT s.heap TI ((r :: R).map fun r => .ref r.it)) (hTO : IsT s.heap TO os) (st : StR r i s.heap) (hi : r.x.cps.size ≤ i)
    (hE : ∀ h' e, (∀ c o, c ≠ z → c ≠ TO → c ≠ r.it → s.heap.get? c = some o → h'.get? c = some o) → (∃ o, h'.get? e = some o ∧ o.cls = .type "StopIteration") → E (.ref e) { s with heap := h' }) :
    wpAny (model prog w) A (Builtin.«zip.__next__» ⟨[.ref z], []⟩) Q E s := by
  show wpAny _ _ (field (.ref z) 2 >>= _) _ _ _
  refine wpAny_bind (wpAny_field hz rfl (x := .bool false) rfl ?_)
  show wpAny _ _ (field (.ref z) 3 >>= _) _ _ _
  refine wpAny_bind (wpAny_field hz rfl (x := .ref TI) rfl ?_)
  refine wpAny_bind (wpAny_seqItems hTI rfl ?_)
  have hne : (((r :: R).map fun r => Value.ref r.it).toArray.isEmpty) = false := rfl
  simp only [hne, Bool.false_eq_true, if_false]
  have rz : r.it ≠ z := D.iz r (List.mem_cons_self ..)
  refine wpAny_bind (free_or hz hf ?_ ?_)
  · simp only [if_true]
    refine wpAny_bind (wpAny_rule ?_)
    refine wpAny_bind (wpAny_field hz rfl (x := .ref TO) rfl ?_)
    refine wpAny_bind (wpAny_setField_rec hz (by simp) fun h₁ hz₁ hs₁ => ?_)
    replace hz₁ : IsZ h₁ z TI TO .ellipsis f1 := hz₁
    refine wpAny_bind ?_
    simp only [List.map_cons, List.zipIdx_cons, List.forIn_cons]
    refine wpAny_bind (wpAny_bind (wpAny_onRaise ?_))
    show wpAny _ _ (Builtin.SmallTypes.nextOf (.ref r.it) >>= _) _ _ _
    refine wpAny_bind (nx_end hh (st.keep fun o e => hs₁.extBut _ _ rz e) hi fun h₂ e hs₂ he => ?_)
    obtain ⟨oe, hoe, hce⟩ := he
    have hz₂ : IsZ h₂ z TI TO .ellipsis f1 := hs₂ _ _ rz.symm hz₁
    have hez : e ≠ z := fun x => by subst x; rw [hz₂] at hoe; cases hoe; simp at hce
    exact wpAny_setField_rec hz₂ (by simp) fun h₃ _ hs₃ => hE h₃ e (fun c o c1 _ c3 x => hs₃.extBut _ _ c1 (hs₂ _ _ c3 (hs₁.extBut _ _ c1 x))) ⟨oe, hs₃.extBut _ _ hez hoe, hce⟩
  · intro h₁ g1 hz₁ hs₁
    simp only [Bool.false_eq_true, if_false]
    refine wpAny_bind ?_
    rw [← Array.forIn_toList]
    simp only [List.map_cons, List.forIn_cons]
    refine wpAny_bind (wpAny_bind (wpAny_holding ?_))
    show wpAny _ _ (Builtin.SmallTypes.nextOf (.ref r.it) >>= _) _ _ _
    refine wpAny_bind (nx_end hh (st.keep fun o e => hs₁.extBut _ _ rz e) hi fun h₂ e hs₂ he => ?_)
    exact hE h₂ e (fun c o c1 _ c3 x => hs₂ _ _ c3 (hs₁.extBut _ _ c1 x)) he
theorem pyNext_item {z TI TO : Addr} {R : List Rw} {i : Nat} {f0 f1 : Value} {os : List Value} {Q : Option Value → Shared → Prop} (hR : R ≠ []) (D : Ap z TI TO R) (hz : IsZ s.heap z TI TO f0 f1) (hf : f0 = .none ∨ ∃ a : Nat, f0 = rawInt a)
    (hTI : IsT s.heap TI (R.map fun r => .ref r.it)) (hTO : IsT s.heap TO os) (hos : os.length = R.length) (hl : R.length ≤ 1000) (st : ∀ r ∈ R, StR r i s.heap) (hi : ∀ r ∈ R, i < r.x.cps.size)
    (hQ : ∀ us h' tk g0 g1 os', Cs i R us → IsZ h' z TI TO g0 g1 → (g0 = .none ∨ ∃ a : Nat, g0 = rawInt a) → IsT h' TO os' → os'.length = R.length → (∀ r ∈ R, StR r (i + 1) h') → IsT h' s.heap.objs.size us → h'.objs.size = s.heap.objs.size + 1 →
      (∀ c o, c ≠ z → c ≠ TO → (∀ r ∈ R, c ≠ r.it) → s.heap.get? c = some o → h'.get? c = some o) → Q (some (.ref s.heap.objs.size)) { s with heap := h', toks := tk }) :
    wpAny (model prog w) A (pyNext (.ref z)) Q E s := by
  have hT : s.TypeIs (.ref z) "zip" := ⟨_, hz, rfl⟩
  unfold pyNext
  exact wpAny_bind (wpAny_attempt (wpAny_callSpecial?_slot (name := Str.ofString "__next__") hT F.slot_zip_next
    (wpAny_call_entry F.slot_zip_next hT F.entry_zip_next
      (zipN_item hR D hz hf hTI hTO hos hl st hi fun us h' tk g0 g1 os' a1 a2 a3 a4 a5 a6 a7 a8 a9 => wpAny_pure (hQ us h' tk g0 g1 os' a1 a2 a3 a4 a5 a6 a7 a8 a9)) (F.args_zip_next_1 _))))
theorem pyNext_end {z TI TO : Addr} {r : Rw} {R : List Rw} {i : Nat} {f0 f1 : Value} {os : List Value} {Q : Option Value → Shared → Prop} (hh : A.handled = none) (D : Ap z TI TO (r :: R)) (hz : IsZ s.heap z TI TO f0 f1) (hf : f0 = .none ∨ ∃ a : Nat, f0 = rawInt a)
    (hTI : IsT s.heap TI ((r :: R).map fun r => .ref r.it)) (hTO : IsT s.heap TO os) (st : StR r i s.heap) (hi : r.x.cps.size ≤ i)
    (hQ : ∀ h', (∀ c o, c ≠ z → c ≠ TO → c ≠ r.it → s.heap.get? c = some o → h'.get? c = some o) → Q none { s with heap := h' }) : wpAny (model prog w) A (pyNext (.ref z)) Q E s := by
  have hT : s.TypeIs (.ref z) "zip" := ⟨_, hz, rfl⟩
  unfold pyNext
  refine wpAny_bind (wpAny_attempt (wpAny_callSpecial?_slot (name := Str.ofString "__next__") hT F.slot_zip_next
    (wpAny_call_entry F.slot_zip_next hT F.entry_zip_next (zipN_end hh D hz hf hTI hTO st hi fun h' e hk he => ?_) (F.args_zip_next_1 _))))
  obtain ⟨o, ho, hc⟩ := he
  refine wpAny_bind (wpAny_isInstance (T := "StopIteration") (b := true) ⟨o, ho, hc⟩ isSubtype_stop ?_)
  exact wpAny_pure (hQ _ hk)
theorem call_zipN {x : Str × Tok} {xs : List (Str × Tok)} {Q : Value → Shared → Prop} (hl : (x :: xs).length ≤ 1000) (h : ∀ h', ZAt s.heap h' (x :: xs) → Q (.ref (s.heap.objs.size + (x :: xs).length + 2)) { s with heap := h' }) :
    wpAny (model prog w) A (call (.type "zip") ((x :: xs).map fun p => .str p.1 p.2)) Q E s := by
  refine callType_new F.called_zip (by decide) (typeCall_n _) (newCall_n _ _) (fun obj => init_n obj _) F.entry_zip_new (meets_new (x :: xs) hl) fun h' z => ?_
  exact ⟨⟨_, z.zp, rfl⟩, h h' z⟩
end
end ZN

set_option Elab.async false
set_option linter.all false
set_option maxRecDepth 100000
set_option maxHeartbeats 2000000
namespace L2
open PySem PySem.Spec PyProof.Rows ZN
/-- the i-th sign of a text, as a text -/
def signS (x : Str) (i : Nat) : Str := ⟨#[x.cps.getD i 0]⟩
/-- the i-th signs of all -/
def colV (xs : List Str) (i : Nat) : List V := xs.map fun x => .str (signS x i)
/-- texts of m signs each walked side by side: a new tuple each turn -/
def ItS (xs : List Str) (m : Nat) : It := ⟨fun i _ => i < m, fun i H v H' => ∃ T, v = .ref T ∧ H T = none ∧ H' = upd H T (.tup (colV xs i)), fun i _ => m ≤ i⟩
theorem cs_vals {i : Nat} {R : List Rw} {us : List Value} (h : Cs i R us) : Vals (colV (R.map (·.x)) i) us := by
  induction h with
  | nil => exact .nil
  | cons h t ih =>
    obtain ⟨c, u, hc, rfl⟩ := h
    refine .cons ⟨u, ?_⟩ ih
    show Value.str ⟨#[c]⟩ u = Value.str (signS _ i) u
    unfold signS
    rw [Array.getD_eq_getD_getElem?, hc]
    rfl
/-- what stands of a zip at its i-th turn -/
def ZTn (z TI TO : Addr) (R : List Rw) (i : Nat) (h : Heap) : Prop := ∃ (f0 f1 : Value) (os : List Value), IsZ h z TI TO f0 f1 ∧ (f0 = .none ∨ ∃ a : Nat, f0 = rawInt a) ∧ IsT h TI (R.map fun r => .ref r.it) ∧ IsT h TO os ∧ os.length = R.length ∧ ∀ r ∈ R, StR r i h
theorem mem_fp {z TI TO b : Addr} {R : List Rw} (h : b ∈ z :: TI :: TO :: R.map (·.it)) : b = z ∨ b = TI ∨ b = TO ∨ ∃ r ∈ R, b = r.it := by
  simp only [List.mem_cons, List.mem_map] at h
  rcases h with h | h | h | ⟨r, hr, e⟩
  · exact .inl h
  · exact .inr (.inl h)
  · exact .inr (.inr (.inl h))
  · exact .inr (.inr (.inr ⟨r, hr, e.symm⟩))
theorem turn_zipS {P : Program} {w : World} {K : PySem.W.Frag} {n : Str} {npos : Pos} {z TI TO : Addr} {R : List Rw} {m : Nat} (hR : R ≠ []) (hl : R.length ≤ 1000) (hm : ∀ r ∈ R, r.x.cps.size = m) (D : Ap z TI TO R) :
    Turn P w K (.Name n npos) (ItS (R.map (·.x)) m) (z :: TI :: TO :: R.map (·.it)) z (ZTn z TI TO R) where
  mem := by simp
  obj := fun i h st c hc => by
    obtain ⟨f0, f1, os, hz, _, hTI, hTO, _, hs⟩ := st
    rcases mem_fp hc with rfl | rfl | rfl | ⟨r, hr, rfl⟩
    · exact ⟨_, hz, fun v q => nomatch q⟩
    · exact ⟨_, hTI, fun v q => nomatch q⟩
    · exact ⟨_, hTO, fun v q => nomatch q⟩
    · obtain ⟨_, o, e, _, d⟩ := hs r hr
      exact ⟨o, e, fun v q => by rw [d] at q; cases q⟩
  keep := fun i h h' st k => by
    obtain ⟨f0, f1, os, hz, hf, hTI, hTO, ho, hs⟩ := st
    exact ⟨f0, f1, os, k z (by simp) _ hz, hf, k TI (by simp) _ hTI, k TO (by simp) _ hTO, ho, fun r hr => (hs r hr).keep fun o e => k r.it (by simp; exact .inr (.inr (.inr ⟨r, hr, rfl⟩))) o e⟩
  item := by
    intro X hP hw hK hc i pins s σ H E I hf st hg
    subst hP hw hK
    obtain ⟨f0, f1, os, hz, hff, hTI, hTO, ho, hs⟩ := st
    have hzl : z < s.heap.objs.size := Heap.lt_size hz
    refine pyNext_item hR D hz hff hTI hTO ho hl hs (fun r hr => by rw [hm r hr]; exact hg) fun us h' tk g0 g1 os' cs z' gf TO' lo' st' tN sz' kp => ?_
    refine ⟨_, rfl, wpAny_pure ?_⟩
    have rv := cs_vals cs
    have new : ObjOk X.prog X.w (upd H s.heap.objs.size (.tup (colV (R.map (·.x)) i))) h' s.heap.objs.size (.tup (colV (R.map (·.x)) i)) :=
      ⟨by unfold colV; rw [List.length_map, List.length_map]; exact Nat.le_trans hl (by decide), us, rv, ⟨_, tN, rfl, _, rfl⟩⟩
    have I1 : Inv X pins σ (upd H s.heap.objs.size (.tup (colV (R.map (·.x)) i))) { s with heap := h', toks := tk } :=
      I.turnedNew (t' := tk) (ch := z :: TI :: TO :: R.map (·.it)) (fun c o hb q => kp c o (fun e => hb (by simp [e])) (fun e => hb (by simp [e])) (fun r hr e => hb (by simp; exact .inr (.inr (.inr ⟨r, hr, e.symm⟩)))) q) hf (Nat.le_refl _) new
    refine ⟨.ref s.heap.objs.size, _, I1, rfl, ⟨_, rfl, I.hok.fresh (Nat.le_refl _), rfl⟩, ⟨g0, g1, os', z', gf, ?_, TO', lo', st'⟩, fun c hcm => ?_⟩
    · exact kp _ _ D.zTI.symm D.TITO (fun r hr => (D.iTI r hr).symm) hTI
    · have hlt : c < s.heap.objs.size := by
        rcases mem_fp hcm with rfl | rfl | rfl | ⟨r, hr, rfl⟩
        · exact hzl
        · exact Heap.lt_size hTI
        · exact Heap.lt_size hTO
        · obtain ⟨_, o, e, _⟩ := hs r hr
          exact Heap.lt_size e
      rw [upd_ne (Nat.ne_of_lt hlt)]
      exact (hf c hcm).1
  done := by
    intro X hP hw hK hc i pins s σ H E I hf st hg
    subst hP hw hK
    obtain ⟨f0, f1, os, hz, hff, hTI, hTO, ho, hs⟩ := st
    cases R with
    | nil => exact absurd rfl hR
    | cons r R =>
      refine pyNext_end (I.ok.hd hc) D hz hff hTI hTO (hs r (by simp)) (by rw [hm r (by simp)]; exact hg) fun h' hk => ⟨rfl, ?_⟩
      exact I.turnedL (t' := s.toks) (ch := z :: TI :: TO :: (r :: R).map (·.it)) (fun c o hb q => hk c o (fun e => hb (by simp [e])) (fun e => hb (by simp [e])) (fun e => hb (by simp [e])) q) hf
  self := fun A i s Q E st h => by
    obtain ⟨f0, f1, os, hz, _⟩ := st
    have hT : s.TypeIs (.ref z) "zip" := ⟨_, hz, rfl⟩
    refine wpAny_pyIter_slot hT F.slot_zip_iter (wpAny_call_entry F.slot_zip_iter hT F.entry_zip_iter ?_ (F.args_zip_iter_1 _))
    show wpAny _ _ (ret (.ref z)) _ _ s
    exact wpAny_pure ⟨_, rfl, "zip", _, hT, F.slot_zip_next.lookup, h⟩
theorem strs_vals : ∀ {xs : List Str} {us : List Value}, Vals (xs.map V.str) us → ∃ ps : List (Str × Tok), us = ps.map (fun p => .str p.1 p.2) ∧ ps.map (·.1) = xs
  | [], _, .nil => ⟨[], rfl, rfl⟩
  | x :: xs, _, .cons r t => by
    obtain ⟨k, rfl⟩ := r
    obtain ⟨ps, rfl, e⟩ := strs_vals t
    exact ⟨(x, k) :: ps, rfl, by simp [e]⟩
def iZipS (K : PySem.W.Frag) (te : TE) : TI := fun σ H R => te σ H fun y H1 => ∃ (a : Addr) (xs : List Str) (m : Nat), y = .ref a ∧ (SqT K H1 a (xs.map V.str) ∨ SqL K H1 a (xs.map V.str)) ∧ xs ≠ [] ∧ xs.length ≤ 1000 ∧ (∀ x ∈ xs, x.length = m) ∧ R (ItS xs m) H1
theorem pi_zipS {X : Cx} {n : Str} {e : Expr} {te : TE} {p sp pos npos : Pos} (hg : Gl X "zip") (hm : X.mg "zip" = none) (he : PE X e te) (hst : starEach [.Starred e sp] X.env = [(true, eval e X.env)] := by rfl) :
    PI X (.Name n npos) (.Call (.Name "zip" p) [.Starred e sp] [] pos) (iZipS X.K te) := by
  refine ⟨fun pins s σ H R I h => ?_⟩
  refine Call_ (ld_blt I hg hm boot_zip ?_)
  rw [hst]
  refine PySem.W.ks_call (P := fun _ => True) rfl (fun h _ => ⟨.machine, .inr (.inl rfl), PySem.W.Looks.of_pure rfl⟩) (PySem.W.ks_lone (thn (he.run pins s σ H _ I h) fun v s1 ⟨y, H1, I1, ry, a, xs, m, ey, hxs, hne, hl, hlen, q⟩ => ?_))
  subst ey
  obtain rfl : v = Value.ref a := ry
  refine StX.star_any I1 hxs fun us s2 I2 rv => ⟨trivial, ?_⟩
  obtain ⟨ps, rfl, eps⟩ := strs_vals rv
  cases ps with
  | nil => exact absurd eps.symm hne
  | cons x ps =>
    have hpl : (x :: ps).length = xs.length := by rw [← eps, List.length_map]
    refine call_zipN (by rw [hpl]; exact hl) fun h' Z => ?_
    have hz := Z.zp
    have hT : Shared.TypeIs ⟨h', s2.gens, s2.drawn, s2.toks, s2.os⟩ (.ref (s2.heap.objs.size + (x :: ps).length + 2)) "zip" := ⟨_, hz, rfl⟩
    refine wpAny_pyIter_slot hT F.slot_zip_iter (wpAny_call_entry F.slot_zip_iter hT F.entry_zip_iter ?_ (F.args_zip_iter_1 _))
    show wpAny _ _ (ret (.ref _)) _ _ _
    refine wpAny_pure ⟨_, rfl, "zip", _, hT, F.slot_zip_next.lookup, ?_⟩
    have I3 : Inv X pins σ H1 { s2 with heap := h' } := I2.kept (t' := s2.toks) Z.kp
    have bnd : ∀ r ∈ mkR s2.heap.objs.size (x :: ps), s2.heap.objs.size ≤ (r.it : Nat) ∧ (r.it : Nat) < s2.heap.objs.size + (x :: ps).length := fun r hr => mkR_it hr
    have D : Ap (s2.heap.objs.size + (x :: ps).length + 2) (s2.heap.objs.size + (x :: ps).length) (s2.heap.objs.size + (x :: ps).length + 1) (mkR s2.heap.objs.size (x :: ps)) :=
      ⟨Nat.ne_of_gt (by omega), Nat.ne_of_gt (by omega), Nat.ne_of_lt (by omega), fun r hr => Nat.ne_of_lt (Nat.lt_trans (bnd r hr).2 (by omega)), fun r hr => Nat.ne_of_lt (bnd r hr).2, fun r hr => Nat.ne_of_lt (Nat.lt_trans (bnd r hr).2 (by omega)), mkR_nd _ _⟩
    have ex : (mkR s2.heap.objs.size (x :: ps)).map (·.x) = xs := by rw [mkR_x, eps]
    have fresh : ∀ c, c ∈ (s2.heap.objs.size + (x :: ps).length + 2) :: (s2.heap.objs.size + (x :: ps).length) :: (s2.heap.objs.size + (x :: ps).length + 1) :: (mkR s2.heap.objs.size (x :: ps)).map (·.it) → FpOk X pins H1 c := fun c hcm => by
      have hle : s2.heap.objs.size ≤ c := by
        rcases mem_fp hcm with rfl | rfl | rfl | ⟨r, hr, rfl⟩
        · omega
        · omega
        · omega
        · exact (bnd r hr).1
      exact I2.fpOk hle (I2.hok.fresh hle)
    obtain ⟨os, hos, los⟩ := Z.tu
    refine ⟨_, _, ZTn _ _ _ (mkR s2.heap.objs.size (x :: ps)), ItS xs m, H1, rfl, I3, ?_, ⟨_, _, os, hz, .inl rfl, Z.ti, hos, by rw [los, mkR_len], Z.st⟩, fresh, q⟩
    have tt := turn_zipS (P := X.prog) (w := X.w) (K := X.K) (n := n) (npos := npos) (m := m) (R := mkR s2.heap.objs.size (x :: ps)) (by intro z; cases z) (by rw [mkR_len, hpl]; exact hl) (fun r hr => by
      have : r.x ∈ xs := by rw [← ex]; exact List.mem_map_of_mem hr
      exact hlen _ this) D
    rw [ex] at tt
    exact tt
end L2

set_option Elab.async false
set_option linter.all false
set_option maxRecDepth 100000
set_option maxHeartbeats 1000000
namespace L2
open PySem
/-! comprehensions over a text, over texts side by side -/
section
variable {g : TG} {tt : TT} {te : TE} {vs : List Nat} {σ : St} {H1 : Hp} {D : Addr} {Qd : Hp → Prop}
theorem lc_fmS {x : Str} (nD : H1 D = none) (hz : x.cps.size < 100000) (o : Nat → Option V)
    (hs : ∀ (i ch : Nat) (H : Hp) (Nx : Hp → Prop), x.cps[i]? = some ch → Same H1 H → (∀ H' y, Same H H' → o ch = some y → ∃ acc, H' D = some (.lst acc) ∧ acc.length < sizeLine ∧ Nx (upd H' D (.lst (acc ++ [y])))) → (∀ H', Same H H' → o ch = none → Nx H') →
      g (.str ⟨#[ch]⟩) (wipe σ vs) H fun σ2 H2 => wipe σ2 vs = wipe σ vs ∧ tt σ2 H2 fun b H3 => if b = true then te σ2 H3 fun y H4 => ∃ acc, H4 D = some (.lst acc) ∧ acc.length < sizeLine ∧ Nx (upd H4 D (.lst (acc ++ [y]))) else Nx H3)
    (hd : ∀ H, Same H1 H → H D = some (.lst (x.cps.toList.filterMap o)) → Qd H) :
    ∃ W : Nat → Nat → Hp → Prop, (∃ m, W 0 m (upd H1 D (.lst []))) ∧ ∀ i m H, W i m H →
      ((Its x).stop i H ∧ Qd H) ∨ ((Its x).go i H ∧ ∃ Nx : Hp → Prop, (∀ H', Nx H' → ∃ m', m' < m ∧ W (i + 1) m' H') ∧ ∀ v H', (Its x).yld i H v H' → g v (wipe σ vs) H' fun σ2 H2 => wipe σ2 vs = wipe σ vs ∧ tt σ2 H2 fun b H3 =>
        if b = true then te σ2 H3 fun y H4 => ∃ acc, H4 D = some (.lst acc) ∧ acc.length < sizeLine ∧ Nx (upd H4 D (.lst (acc ++ [y]))) else Nx H3) := by
  have sm : Same H1 (upd H1 D (.lst [])) := fun b x e => by rw [upd_ne (ne_of_none e nD)]; exact e
  refine ⟨fun i m H => m = x.cps.size - i ∧ i ≤ x.cps.size ∧ Same H1 H ∧ H D = some (.lst ((x.cps.toList.take i).filterMap o)), ⟨x.cps.size, by simp, Nat.zero_le _, sm, upd_same⟩, ?_⟩
  rintro i m H ⟨rfl, hi, h1, h2⟩
  by_cases hlt : i < x.cps.size
  · refine .inr ⟨hlt, fun H' => Same H1 H' ∧ H' D = some (.lst ((x.cps.toList.take (i + 1)).filterMap o)), fun H' p => ⟨x.cps.size - (i + 1), by omega, rfl, hlt, p.1, p.2⟩, fun v H' y => ?_⟩
    obtain ⟨rfl, ch, hc, rfl⟩ := y
    have hx : x.cps.toList[i]? = some ch := by rw [Array.getElem?_toList]; exact hc
    refine hs i ch H' _ hc h1 (fun H2 y s e => ⟨_, s _ _ h2, ?_, fun b z q => ?_, ?_⟩) (fun H2 s e => ⟨h1.trans s, ?_⟩)
    · exact Nat.lt_of_le_of_lt (fm_len o _ i) (by rw [Array.length_toList]; exact Nat.lt_trans hz (by decide))
    · rw [upd_ne (ne_of_none q nD)]
      exact s _ _ (h1 _ _ q)
    · rw [upd_same, take_fm o hx, e]
      rfl
    · rw [s _ _ h2, take_fm o hx, e]
      simp
  · have e : i = x.cps.size := by omega
    refine .inl ⟨by rw [e]; exact Nat.le_refl _, hd H h1 ?_⟩
    rw [h2, List.take_of_length_le (by rw [Array.length_toList]; omega)]
theorem lc_zipS {xs : List Str} {n : Nat} (nD : H1 D = none) (hz : n < 100000) (o : Nat → Option V)
    (hs : ∀ (i : Nat) (T : Addr) (H : Hp) (Nx : Hp → Prop), i < n → Same H1 H → H T = none → (∀ H' y, Same H H' → o i = some y → ∃ acc, H' D = some (.lst acc) ∧ acc.length < sizeLine ∧ Nx (upd H' D (.lst (acc ++ [y])))) → (∀ H', Same H H' → o i = none → Nx H') →
      g (.ref T) (wipe σ vs) (upd H T (.tup (colV xs i))) fun σ2 H2 => wipe σ2 vs = wipe σ vs ∧ tt σ2 H2 fun b H3 => if b = true then te σ2 H3 fun y H4 => ∃ acc, H4 D = some (.lst acc) ∧ acc.length < sizeLine ∧ Nx (upd H4 D (.lst (acc ++ [y]))) else Nx H3)
    (hd : ∀ H, Same H1 H → H D = some (.lst ((List.range n).filterMap o)) → Qd H) :
    ∃ W : Nat → Nat → Hp → Prop, (∃ m, W 0 m (upd H1 D (.lst []))) ∧ ∀ i m H, W i m H →
      ((ItS xs n).stop i H ∧ Qd H) ∨ ((ItS xs n).go i H ∧ ∃ Nx : Hp → Prop, (∀ H', Nx H' → ∃ m', m' < m ∧ W (i + 1) m' H') ∧ ∀ v H', (ItS xs n).yld i H v H' → g v (wipe σ vs) H' fun σ2 H2 => wipe σ2 vs = wipe σ vs ∧ tt σ2 H2 fun b H3 =>
        if b = true then te σ2 H3 fun y H4 => ∃ acc, H4 D = some (.lst acc) ∧ acc.length < sizeLine ∧ Nx (upd H4 D (.lst (acc ++ [y]))) else Nx H3) := by
  have sm : Same H1 (upd H1 D (.lst [])) := fun b x e => by rw [upd_ne (ne_of_none e nD)]; exact e
  have rg : ∀ i, i < n → (List.range n)[i]? = some i := fun i hi => by simp [hi]
  refine ⟨fun i m H => m = n - i ∧ i ≤ n ∧ Same H1 H ∧ H D = some (.lst (((List.range n).take i).filterMap o)), ⟨n, by simp, Nat.zero_le _, sm, upd_same⟩, ?_⟩
  rintro i m H ⟨rfl, hi, h1, h2⟩
  by_cases hlt : i < n
  · refine .inr ⟨hlt, fun H' => Same H1 H' ∧ H' D = some (.lst (((List.range n).take (i + 1)).filterMap o)), fun H' p => ⟨n - (i + 1), by omega, rfl, hlt, p.1, p.2⟩, fun v H' y => ?_⟩
    obtain ⟨T, rfl, hT, rfl⟩ := y
    refine hs i T H _ hlt h1 hT (fun H2 y s e => ⟨_, s _ _ h2, ?_, fun b z q => ?_, ?_⟩) (fun H2 s e => ⟨h1.trans s, ?_⟩)
    · exact Nat.lt_of_le_of_lt (fm_len o _ i) (by rw [List.length_range]; exact Nat.lt_trans hz (by decide))
    · rw [upd_ne (ne_of_none q nD)]
      exact s _ _ (h1 _ _ q)
    · rw [upd_same, take_fm o (rg i hlt), e]
      rfl
    · rw [s _ _ h2, take_fm o (rg i hlt), e]
      simp
  · have e : i = n := by omega
    refine .inl ⟨by rw [e]; exact Nat.le_refl _, hd H h1 ?_⟩
    rw [h2, List.take_of_length_le (by simp; omega)]
end
end L2

set_option Elab.async false
set_option linter.all false
set_option maxRecDepth 100000
set_option maxHeartbeats 1000000
namespace FH
open PySem L2
local macro_rules | `(tactic| walk_at "seq") => `(tactic| first | assumption | exact SqL.of (by assumption) | exact SqT.of (by assumption) | exact SqL.of upd_same | exact SqT.of upd_same)
local macro_rules | `(tactic| walk_at "at") => `(tactic| first | exact atI_nat (j := 0) rfl | exact atI_nat (j := 1) rfl | exact atI_nat (j := 2) rfl | exact atI_nat (by assumption) | assumption)
local macro_rules | `(tactic| walk_at "ar") => `(tactic| first | omega | exact ⟨by omega, by omega⟩ | exact Or.inl ⟨by omega, by omega⟩ | exact Or.inr ⟨by omega, by omega⟩ | exact ⟨by decide, by decide⟩ | exact Or.inr ⟨by decide, by decide⟩ | exact Or.inl ⟨by decide, by decide⟩ | exact ⟨by decide, by decide, by omega⟩ | exact ⟨by decide, by decide, by decide⟩)
local macro_rules | `(tactic| walk_at "r") => `(tactic| repeat (first
  | refine ⟨_, rfl, ?_⟩
  | refine ⟨_, _, rfl, rfl, ?_⟩
  | refine ⟨_, _, _, _, rfl, rfl, by walk_at "seq", by walk_at "at", ?_⟩
  | refine ⟨_, _, _, _, rfl, rfl, by assumption, rfl, ?_⟩
  | refine ⟨_, _, rfl, Or.inl (by walk_at "seq"), ?_⟩
  | refine Or.inl ⟨_, rfl, ?_⟩
  | refine Or.inr ⟨_, rfl, ?_⟩
  | refine And.intro (by walk_at "ar") ?_))
/-! ### columns -/
def colS (xs : List Str) (i : Nat) : Str := Txt.join (Str.ofString "") (xs.map fun x => signS x i)
def colsS (xs : List Str) (m : Nat) : List Str := (List.range m).map (colS xs)
def spCols (K : PySem.W.Frag) : Sp := fun vs H Q _ => ∃ (a : Addr) (xs : List Str) (m : Nat), vs = [.ref a] ∧ (SqT K H a (xs.map V.str) ∨ SqL K H a (xs.map V.str)) ∧ xs ≠ [] ∧ xs.length ≤ 1000 ∧ m ≤ 1000 ∧ (∀ x ∈ xs, x.length = m) ∧
  ∀ (l : Addr) (H' : Hp), Same H H' → H l = none → H' l = some (.lst ((colsS xs m).map V.str)) → Q (.ref l) H'
/-! ### the least way -/
def perB (tail : List Str) (period size : Nat) : Bool := decide (period % size = 0) && decide (tail = (List.replicate (period / size) (tail.take size)).flatten)
def bestW (tail : List Str) (period : Nat) : Nat → Nat
  | 0 => period
  | i + 1 => if perB tail period (period - i) = true then period - i else bestW tail period i
def firstW (rows : List Str) (best : Nat) : Nat → Nat
  | 0 => 0
  | n + 1 => if rows[n]? = rows[n + best]? then firstW rows best n else n + 1
def bestL (rows : List Str) (start period : Nat) : Nat := bestW ((rows.drop start).take period) period period
def firstL (rows : List Str) (start period : Nat) : Nat := firstW rows (bestL rows start period) start
theorem bestW_le (tail : List Str) (period : Nat) : ∀ i, bestW tail period i ≤ period
  | 0 => Nat.le_refl _
  | i + 1 => by
    unfold bestW
    split
    · exact Nat.sub_le _ _
    · exact bestW_le tail period i
theorem bestW_pos (tail : List Str) (period : Nat) (h : 0 < period) : ∀ i, i ≤ period → 0 < bestW tail period i
  | 0, _ => h
  | i + 1, hi => by
    unfold bestW
    split
    · omega
    · exact bestW_pos tail period h i (by omega)
theorem firstW_le (rows : List Str) (best : Nat) : ∀ n, firstW rows best n ≤ n
  | 0 => Nat.le_refl _
  | n + 1 => by
    unfold firstW
    split
    · exact Nat.le_succ_of_le (firstW_le rows best n)
    · exact Nat.le_refl _
theorem bestL_le (rows : List Str) (s p : Nat) : bestL rows s p ≤ p := bestW_le _ _ _
theorem bestL_pos (rows : List Str) (s p : Nat) (h : 0 < p) : 0 < bestL rows s p := bestW_pos _ _ h _ (Nat.le_refl _)
theorem firstL_le (rows : List Str) (s p : Nat) : firstL rows s p ≤ s := firstW_le _ _ _
def spLeast : Sp := fun vs H Q _ => ∃ (a : Addr) (rows : List Str) (s p : Nat), vs = [.ref a, .int s, .int p] ∧ H a = some (.lst (rows.map V.str)) ∧ rows.length = s + p ∧ 0 < p ∧ s + p ≤ 1000 ∧ (∀ x ∈ rows, LayS x) ∧
  ∀ (t l : Addr) (H' : Hp), Same H H' → H' t = some (.tup [.int (firstL rows s p), .int (bestL rows s p), .ref l]) → H' l = some (.lst ((rows.take (firstL rows s p + bestL rows s p)).map V.str)) → Q (.ref t) H'
section
variable {P : Program} {w : World} {K : PySem.W.Frag} {mg : Str → Option Value} {base : Heap}
theorem sc_columns_of : FnScope ["rows", "signs"] ["rows"] (defScope (topS 41)) := ⟨rfl, rfl, rfl, by decide +kernel, rfl, by decide +kernel, by decide +kernel⟩
theorem ok_cols {f : Addr} {fd : FuncData} {k : Nat} (F : Fun K "columns_of" "columns_of" (topS 41) f fd) (T : Bt mg) : FnOk P w K mg base CX0 (k + 1) f fd ["rows"] (spCols K) := by
  refine F.ok sc_columns_of (fun vs H Q E h => ?_) (fun cdv A outer s H vs Q E hr h => ?_)
  · obtain ⟨a, xs, m, rfl, _⟩ := h
    rfl
  · obtain ⟨a, xs, m, rfl, ha, hne, hxl, hm, hall, q⟩ := h
    refine ⟨_, (pss_one (ps_ret (pe_lc (own := [("signs", 1)]) (g := (gName 1)) (tt := tYes) rfl sc_columns_of.nd (pi_zipS (by rfl) T.m_zip (pv 0)) (blkOk_by (own := [("signs", 1)]) (N := ["rows", "signs"]) (sc := defScope (topS 41)) (by decide +kernel)) (fun _ _ _ _ _ => (pg_name (i := 1) sc_columns_of.nd rfl (by first | exact Or.inl rfl | exact Or.inr rfl))) (fun _ _ _ _ _ => pts_nil) (fun _ _ _ _ _ => (pe_joinK (K := K) rfl pe_str (pv 1)))))), ?_⟩
    refine ⟨_, rfl, a, xs, m, rfl, ha, hne, hxl, hall, fun D nD => lc_zipS nD (by omega) (fun i => some (.str (colS xs i))) (fun i T H1 Nx hi s1 nT tk nt => ?_) (fun H1 s1 hD => ?_)⟩
    · refine ⟨rfl, ⟨_, rfl⟩, _, rfl, Str.ofString "", T, xs.map fun x => signS x i, rfl, rfl, .inr (SqT.of ?_), ?_, tk _ _ (same_new nT) rfl⟩
      · rw [upd_same]
        unfold colV
        rw [List.map_map]
        rfl
      · have e1 : ∀ ys : List Str, ((ys.map fun x => signS x i).map (·.length)).sum = ys.length := fun ys => by
          induction ys with
          | nil => rfl
          | cons y r ih =>
            show 1 + ((r.map fun x => signS x i).map (·.length)).sum = r.length + 1
            rw [ih]; omega
        rw [e1, List.length_map]
        show xs.length + xs.length * 0 ≤ 16777216
        omega
    · refine q D H1 s1 nD ?_
      rw [hD]
      unfold colsS
      rw [List.map_map, List.filterMap_eq_map']
      rfl
theorem sc_least_way : FnScope ["rows", "start", "period", "tail", "best", "first", "size"] ["rows", "start", "period"] (defScope (topS 40)) := ⟨rfl, rfl, rfl, by decide +kernel, rfl, by decide +kernel, by decide +kernel⟩
theorem ok_least {f : Addr} {fd : FuncData} {k : Nat} (F : Fun K "least_way" "least_way" (topS 40) f fd) (T : Bt mg) : FnOk P w K mg base CX0 (k + 1) f fd ["rows", "start", "period"] spLeast := by
  refine F.ok sc_least_way (fun vs H Q E h => ?_) (fun cdv A outer s H vs Q E hr h => ?_)
  · obtain ⟨a, rows, s, p, rfl, _⟩ := h
    rfl
  · obtain ⟨a, rows, st, p, rfl, ha, hl, hp, hb, hly, q⟩ := h
    have hu := hr.units
    refine ⟨_, (pss_cons (ps_par3 (i := 3) (j := 4) (l := 5) rfl sc_least_way.nd rfl rfl rfl (by decide) (by decide) (by decide) rfl rfl rfl (pa_cons (pe_slice (slLK (K := K) rfl) (pv 0) (po_some (pv 1)) (po_some (pe_op op_add (pv 1) (pv 2)))) (pa_cons (pv 2) (pa_cons (pv 1) pa_nil))) (by rfl))
  (pss_cons (ps_for PassesOwn.never rfl (pi_range3 (by rfl) T.m_range (pa_cons (pv 2) (pa_cons pe_int (pa_cons (pe_un un_neg pe_int) pa_nil)))) (pg_name (i := 6) sc_least_way.nd rfl (by first | exact Or.inl rfl | exact Or.inr rfl)) (pss_one (ps_if (PW.pt (pw_and (pt_cmpR op_eq (pe_op op_mod (pe_callTy call_int1 (by rfl) T.m_int (by decide +kernel) (pa_cons (pv 2) pa_nil)) (pv 6)) pe_int (nomark _)) (pw_and1 (pt_cmpR (eqDK (K := K) rfl hu) (pv 3) (pe_op op_rep (pe_slice (slLK (K := K) rfl) (pv 3) po_none (po_some (pv 6))) (pe_op op_fdiv (pv 2) (pv 6))) (nomark _))))) (pss_one (ps_set (i := 4) sc_least_way.nd rfl (by first | exact Or.inl rfl | exact Or.inr rfl) (pv 6))) pss_nil)))
  (pss_cons (ps_while PassesOwn.never (PW.pt (pw_and (pt_cmpR op_gt (pv 5) pe_int (nomark _)) (pw_and1 (pt_cmpR op_eq (pe_ix (ixLK (K := K) rfl) (pv 0) (pe_op op_sub (pv 5) pe_int) (fun _ _ => rfl)) (pe_ix (ixLK (K := K) rfl) (pv 0) (pe_op op_add (pe_op op_sub (pv 5) pe_int) (pv 4)) (fun _ _ => rfl)) (nomark _))))) (pss_one (ps_set (i := 5) sc_least_way.nd rfl (by first | exact Or.inl rfl | exact Or.inr rfl) (pe_op op_sub (pv 5) pe_int))))
  (pss_one (ps_ret (pe_tup (pa_cons (pv 5) (pa_cons (pv 4) (pa_cons (pe_slice (slLK (K := K) rfl) (pv 0) po_none (po_some (pe_op op_add (pv 5) (pv 4)))) pa_nil))))))))), ?_⟩
    refine ⟨_, rfl, _, rfl, _, rfl, _, rfl, _, rfl, _, _, rfl, rfl, _, rfl, a, _, rfl, SqL.of ha, fun b nb => ?_⟩
    have ecut : cutV (rows.map V.str) (some (st : Int)) (some ((st : Int) + (p : Int))) = ((rows.drop st).take p).map V.str := by
      have := cut_map V.str rows st (st + p) (by omega) (by omega)
      rw [show st + p - st = p by omega] at this
      rw [← this]
      congr 2
    rw [ecut]
    have s1 := same_new (o := .lst (((rows.drop st).take p).map V.str)) nb
    have hb1 := upd_same (H := H) (a := b) (o := .lst (((rows.drop st).take p).map V.str))
    have ha1 := s1 _ _ ha
    generalize upd H b (.lst (((rows.drop st).take p).map V.str)) = H1 at s1 hb1 ha1 ⊢
    refine ⟨_, rfl, _, rfl, _, _, _, rfl, ?_⟩
    have s2 := s1
    have hb2 := hb1
    have ha2 := ha1
    generalize H1 = H2 at s2 hb2 ha2 ⊢
    have tl : ((rows.drop st).take p).length = p := by rw [List.length_take, List.length_drop]; omega
    have htd : bestL rows st p = bestW ((rows.drop st).take p) p p := rfl
    have tly : ∀ x ∈ (rows.drop st).take p, LayS x := fun x hx => hly x (List.mem_of_mem_drop (List.mem_of_mem_take hx))
    generalize (rows.drop st).take p = tail at tl htd hb2 tly ⊢
    refine ⟨_, rfl, _, rfl, (p : Int), 0, -1, p, rfl, ?_, for_rangeC (lo := (p : Int)) (c := -1) (n := p) (fun i σ H3 => Same H2 H3 ∧ ∃ o6, σ = [some (.ref a), some (.int st), some (.int p), some (.ref b), some (.int (bestW tail p i)), some (.int st), o6])
      ⟨fun _ _ q => q, none, rfl⟩ (fun i σ H3 hi hP => ?_) (fun σ H3 hP => ?_)⟩
    · have := RgC.neg (i := (p : Int)) (j := 0) (by omega) (by omega) (by omega) (by omega)
      rw [show ((p : Int) - 0).toNat = p by omega] at this
      exact this
    · obtain ⟨s3, o6, rfl⟩ := hP
      rw [show ((p : Int) + (i : Nat) * (-1) : Int) = ((p - i : Nat) : Int) by omega]
      have hsz : 0 < p - i := by omega
      have hsp : p - i ≤ p := Nat.sub_le _ _
      have hbw : bestW tail p (i + 1) = if perB tail p (p - i) = true then p - i else bestW tail p i := rfl
      generalize p - i = sz at hsz hsp hbw ⊢
      have hmod : ((p : Int) % (sz : Int)) = ((p % sz : Nat) : Int) := (Int.natCast_emod p sz).symm
      refine ⟨_, rfl, .inl ⟨_, rfl, _, rfl, _, _, rfl, rfl, by show (0 : Int) < (sz : Int); omega, rfl, _, rfl, ?_⟩⟩
      have e0 : decide (V.int ((p : Int) % (sz : Int)) = V.int 0) = decide (p % sz = 0) := by
        rw [hmod]
        exact dNat _ 0
      rw [e0]
      by_cases hm : p % sz = 0
      · rw [decide_eq_true hm]
        refine iteT ⟨_, rfl, _, rfl, _, rfl, _, rfl, b, _, rfl, SqL.of (s3 _ _ hb2), fun c nc => ?_⟩
        rw [cut_pre V.str tail sz (by omega)]
        have s4 := same_new (o := .lst ((tail.take sz).map V.str)) nc
        have hc4 := upd_same (H := H3) (a := c) (o := .lst ((tail.take sz).map V.str))
        generalize upd H3 c (.lst ((tail.take sz).map V.str)) = H4 at s4 hc4 ⊢
        have hdiv : ((p : Int) / (sz : Int)) = ((p / sz : Nat) : Int) := (Int.natCast_ediv p sz).symm
        refine ⟨_, rfl, _, rfl, _, _, rfl, rfl, ⟨by omega, by omega⟩, c, (p : Int) / (sz : Int), (tail.take sz).map V.str, rfl, rfl, hc4, ?_, ?_, ?_, fun d nd => ?_⟩
        · rw [hdiv]; generalize p / sz = qd; omega
        · rw [hdiv]
          have : p / sz ≤ p := Nat.div_le_self _ _
          generalize p / sz = qd at this ⊢
          omega
        · rw [hdiv, List.length_map, List.length_take, tl, Int.toNat_natCast, Nat.min_eq_left hsp]
          have : sz * (p / sz) ≤ p := Nat.mul_div_le _ _
          exact Nat.le_trans this (Nat.le_trans (by omega) (show 1000 ≤ sizeLine by decide))
        · have er : (List.replicate ((p : Int) / (sz : Int)).toNat ((tail.take sz).map V.str)).flatten = ((List.replicate (p / sz) (tail.take sz)).flatten).map V.str := by
            rw [hdiv, Int.toNat_natCast, List.map_flatten, List.map_replicate]
          rw [er]
          have s5 := same_new (o := .lst (((List.replicate (p / sz) (tail.take sz)).flatten).map V.str)) nd
          refine ⟨lS tail, lS _, dp_lS (SqL.of (s5 _ _ (s4 _ _ (s3 _ _ hb2)))), dp_lS (SqL.of upd_same), shaped_lS _ tly, shaped_lS _ (fun x hx => ?_), _, rfl, ?_⟩
          · obtain ⟨l, hl1, hl2⟩ := List.mem_flatten.mp hx
            rw [List.eq_of_mem_replicate hl1] at hl2
            exact tly x (List.mem_of_mem_take hl2)
          rw [eqv_lS]
          refine ite2 (fun e => ?_) (fun e => ?_)
          · refine ⟨_, rfl, (s3.trans s4).trans s5, some (.int sz), ?_⟩
            rw [hbw, if_pos (by unfold perB; rw [decide_eq_true hm, e]; rfl)]
            rfl
          · refine ⟨(s3.trans s4).trans s5, some (.int sz), ?_⟩
            rw [hbw, if_neg (by unfold perB; rw [decide_eq_true hm]; simpa using e)]
            rfl
      · rw [decide_eq_false hm]
        refine iteF (iteF ⟨s3, some (.int sz), ?_⟩)
        rw [hbw, if_neg (by unfold perB; rw [decide_eq_false hm]; simp)]
        rfl
    · obtain ⟨s3, o6, rfl⟩ := hP
      have hbl : bestL rows st p ≤ p := bestL_le _ _ _
      have hb0 : 0 < bestL rows st p := bestL_pos _ _ _ hp
      rw [← htd]
      have hfl : firstL rows st p = firstW rows (bestL rows st p) st := rfl
      generalize bestL rows st p = best at hbl hb0 hfl q ⊢
      have ha3 := s3 _ _ ha2
      have s03 := s2.trans s3
      refine ⟨fun m σ H4 => H4 = H3 ∧ m ≤ st ∧ firstW rows best m = firstW rows best st ∧ σ = [some (.ref a), some (.int st), some (.int p), some (.ref b), some (.int best), some (.int m), o6],
        ⟨st, rfl, Nat.le_refl _, rfl, rfl⟩, fun m σ H4 hW => ?_⟩
      obtain ⟨rfl, hm, hf, rfl⟩ := hW
      refine viaT (fun b H2 => H2 = H4 ∧ b = decide (0 < m ∧ rows[m - 1]? = rows[m - 1 + best]?)) (fun b H2 hP => ?_) (fun Q' k' => ?_)
      rotate_left
      · refine ⟨_, rfl, _, _, rfl, rfl, _, rfl, ite2 (fun e => ?_) (fun e => ?_)⟩
        · have m0 : 0 < m := by have := of_decide_eq_true e; omega
          have h1 : m - 1 < rows.length := by omega
          have h2 : m - 1 + best < rows.length := by omega
          refine ⟨_, rfl, _, rfl, _, _, rfl, rfl, a, rows.map V.str, (m : Int) - 1, .str rows[m - 1], rfl, rfl, SqL.of ha3, ?_, ?_⟩
          · rw [show (m : Int) - 1 = ((m - 1 : Nat) : Int) by omega]
            exact atI_nat (by rw [List.getElem?_map, List.getElem?_eq_getElem h1]; rfl)
          refine ⟨_, rfl, _, rfl, _, _, rfl, rfl, _, rfl, _, _, rfl, rfl, a, rows.map V.str, (m : Int) - 1 + best, .str rows[m - 1 + best], rfl, rfl, SqL.of ha3, ?_, rfl, _, rfl, k' _ _ ⟨rfl, ?_⟩⟩
          · rw [show (m : Int) - 1 + best = ((m - 1 + best : Nat) : Int) by omega]
            exact atI_nat (by rw [List.getElem?_map, List.getElem?_eq_getElem h2]; rfl)
          · rw [List.getElem?_eq_getElem h1, List.getElem?_eq_getElem h2]
            rw [dStr]
            by_cases z : rows[m - 1] = rows[m - 1 + best]
            · rw [decide_eq_true z]; exact (decide_eq_true ⟨m0, by rw [z]⟩).symm
            · rw [decide_eq_false z]
              exact (decide_eq_false fun w => z (Option.some.inj w.2)).symm
        · refine k' _ _ ⟨rfl, ?_⟩
          exact (decide_eq_false fun w => e (decide_eq_true (by omega))).symm
      obtain ⟨rfl, rfl⟩ := hP
      by_cases hc : 0 < m ∧ rows[m - 1]? = rows[m - 1 + best]?
      · rw [decide_eq_true hc]
        refine iteT ⟨fun σ' H' => ∃ m', m' < m ∧ H' = H2 ∧ m' ≤ st ∧ firstW rows best m' = firstW rows best st ∧ σ' = [some (.ref a), some (.int st), some (.int p), some (.ref b), some (.int best), some (.int m'), o6], fun σ' H' h => h, ?_⟩
        refine ⟨_, rfl, _, _, rfl, rfl, m - 1, by omega, rfl, by omega, ?_, ?_⟩
        · rw [← hf]
          obtain ⟨n, rfl⟩ : ∃ n, m = n + 1 := ⟨m - 1, by omega⟩
          show firstW rows best n = (if rows[n]? = rows[n + best]? then firstW rows best n else n + 1)
          exact (if_pos hc.2).symm
        · show [some (V.ref a), some (V.int st), some (V.int p), some (V.ref b), some (V.int best), some (V.int ((m : Int) - 1)), o6] = _
          rw [show (m : Int) - 1 = ((m - 1 : Nat) : Int) by omega]
      · rw [decide_eq_false hc]
        have hfm : firstW rows best m = m := by
          cases m with
          | zero => rfl
          | succ n =>
            exact if_neg fun z => hc ⟨Nat.succ_pos _, z⟩
        refine iteF ⟨_, rfl, _, rfl, _, rfl, _, rfl, _, rfl, _, _, rfl, rfl, _, rfl, a, _, rfl, SqL.of ha3, fun l nl => ?_⟩
        have e1 : firstL rows st p = m := by rw [hfl, ← hf, hfm]
        rw [show ((m : Int) + (best : Int)) = ((m + best : Nat) : Int) by omega, cut_pre V.str rows (m + best) (by omega)]
        refine ⟨by show 3 ≤ sizeLine; decide, fun t2 nt2 => ?_⟩
        have s6 := same_new (o := .lst ((rows.take (m + best)).map V.str)) nl
        have s7 := same_new (o := .tup [.int m, .int best, .ref l]) nt2
        rw [e1] at q
        exact q t2 l _ ((s03.trans s6).trans s7) upd_same (s7 _ _ upd_same)
end
end FH

set_option Elab.async false
set_option linter.all false
set_option maxRecDepth 100000
set_option maxHeartbeats 1000000
namespace FH
open PySem L2
local macro_rules | `(tactic| walk_at "seq") => `(tactic| first | assumption | exact SqL.of (by assumption) | exact SqT.of (by assumption) | exact SqL.of upd_same | exact SqT.of upd_same)
local macro_rules | `(tactic| walk_at "at") => `(tactic| first | exact atI_nat (j := 0) rfl | exact atI_nat (j := 1) rfl | exact atI_nat (j := 2) rfl | exact atI_nat (by assumption) | assumption)
local macro_rules | `(tactic| walk_at "ar") => `(tactic| first | omega | exact ⟨by omega, by omega⟩ | exact Or.inl ⟨by omega, by omega⟩ | exact Or.inr ⟨by omega, by omega⟩ | exact ⟨by decide, by decide⟩ | exact Or.inr ⟨by decide, by decide⟩ | exact Or.inl ⟨by decide, by decide⟩ | exact ⟨by decide, by decide, by omega⟩ | exact ⟨by decide, by decide, by decide⟩)
local macro_rules | `(tactic| walk_at "r") => `(tactic| repeat (first
  | refine ⟨_, rfl, ?_⟩
  | refine ⟨_, _, rfl, rfl, ?_⟩
  | refine ⟨_, _, _, _, rfl, rfl, by walk_at "seq", by walk_at "at", ?_⟩
  | refine ⟨_, _, _, _, rfl, rfl, by assumption, rfl, ?_⟩
  | refine ⟨_, _, rfl, Or.inl (by walk_at "seq"), ?_⟩
  | refine Or.inl ⟨_, rfl, ?_⟩
  | refine Or.inr ⟨_, rfl, ?_⟩
  | refine And.intro (by walk_at "ar") ?_))
/-! ### what the checks answer, on data -/
mutual
theorem Dv.same {H H' : Hp} (x : Same H H') : ∀ {v : V} {e : PyData}, Dv H v e → Dv H' v e
  | _, _, .non => .non
  | _, _, .bl b => .bl b
  | _, _, .int i => .int i
  | _, _, .str y h l => .str y h l
  | _, _, .lst h hl l => .lst (x _ _ h) hl (DvAll.same x l)
  | _, _, .tup h hl l => .tup (x _ _ h) hl (DvAll.same x l)
theorem DvAll.same {H H' : Hp} (x : Same H H') : ∀ {v : List V} {e : List PyData}, DvAll H v e → DvAll H' v e
  | _, _, .nil => .nil
  | _, _, .cons h t => .cons (Dv.same x h) (DvAll.same x t)
end
theorem DvAll.fm {H : Hp} {f : PyData → Bool} {o : V → Option V} : ∀ {vs : List V} {es : List PyData}, DvAll H vs es → (∀ v e, v ∈ vs → e ∈ es → Dv H v e → o v = some (.bl (f e))) → vs.filterMap o = (es.map f).map V.bl
  | _, _, .nil, _ => rfl
  | _, _, .cons (v := v) (e := e) (vs := vs) (es := es) h t, q => by
    rw [List.filterMap_cons, q v e (by simp) (by simp) h]
    show V.bl (f e) :: vs.filterMap o = V.bl (f e) :: (es.map f).map V.bl
    rw [t.fm fun v' e' h1 h2 h3 => q v' e' (by simp [h1]) (by simp [h2]) h3]
theorem allMap {es : List PyData} {f : PyData → Bool} : (es.map f).all id = es.all f := by rw [List.all_map]; rfl
def tyD : PyData → String
  | .none => "NoneType" | .bool _ => "bool" | .int _ => "int" | .str _ => "str" | .list _ => "list" | .tuple _ => "tuple" | .dict _ => "dict"
theorem Dv.tyx {K : PySem.W.Frag} {H : Hp} {v : V} {e : PyData} (h : Dv H v e) : TyX K H v (.type (tyD e)) := by
  cases h with
  | non => exact .base .non
  | bl b => exact .base (.bl b)
  | int i => exact .base (.int i)
  | str x _ _ => exact .base (.str x)
  | lst h _ _ => exact .base (.lst h)
  | tup h _ _ => exact .base (.tup h)
def isIntD : PyData → Bool | .int _ => true | _ => false
def isBoolD : PyData → Bool | .bool _ => true | _ => false
def isStrD : PyData → Bool | .str _ => true | _ => false
def isNumD : PyData → Bool | .int i => decide (0 ≤ i) | _ => false
def isSeqD : PyData → Bool | .list _ => true | .tuple _ => true | _ => false
def isItD (e : PyData) : Bool := match e with | .dict _ => false | _ => true
theorem kitI {K : PySem.W.Frag} {H : Hp} {v : V} {e : PyData} (h : Dv H v e) : PySem.W.kitOne K (.type (tyD e)) (.type "int") = some (isIntD e || isBoolD e) := by
  cases h with
  | non => exact kit_ty (a := "NoneType") (b := "int") (r := false) (by decide +kernel)
  | bl b => exact kit_ty (a := "bool") (b := "int") (r := true) (by decide +kernel)
  | int i => exact kit_ty (a := "int") (b := "int") (r := true) (by decide +kernel)
  | str x _ _ => exact kit_ty (a := "str") (b := "int") (r := false) (by decide +kernel)
  | lst _ _ _ => exact kit_ty (a := "list") (b := "int") (r := false) (by decide +kernel)
  | tup _ _ _ => exact kit_ty (a := "tuple") (b := "int") (r := false) (by decide +kernel)
theorem kitB' {K : PySem.W.Frag} {H : Hp} {v : V} {e : PyData} (h : Dv H v e) : PySem.W.kitOne K (.type (tyD e)) (.type "bool") = some (isBoolD e) := by
  cases h with
  | non => exact kit_ty (a := "NoneType") (b := "bool") (r := false) (by decide +kernel)
  | bl b => exact kit_ty (a := "bool") (b := "bool") (r := true) (by decide +kernel)
  | int i => exact kit_ty (a := "int") (b := "bool") (r := false) (by decide +kernel)
  | str x _ _ => exact kit_ty (a := "str") (b := "bool") (r := false) (by decide +kernel)
  | lst _ _ _ => exact kit_ty (a := "list") (b := "bool") (r := false) (by decide +kernel)
  | tup _ _ _ => exact kit_ty (a := "tuple") (b := "bool") (r := false) (by decide +kernel)
theorem kitS {K : PySem.W.Frag} {H : Hp} {v : V} {e : PyData} (h : Dv H v e) : PySem.W.kitOne K (.type (tyD e)) (.type "str") = some (isStrD e) := by
  cases h with
  | non => exact kit_ty (a := "NoneType") (b := "str") (r := false) (by decide +kernel)
  | bl b => exact kit_ty (a := "bool") (b := "str") (r := false) (by decide +kernel)
  | int i => exact kit_ty (a := "int") (b := "str") (r := false) (by decide +kernel)
  | str x _ _ => exact kit_ty (a := "str") (b := "str") (r := true) (by decide +kernel)
  | lst _ _ _ => exact kit_ty (a := "list") (b := "str") (r := false) (by decide +kernel)
  | tup _ _ _ => exact kit_ty (a := "tuple") (b := "str") (r := false) (by decide +kernel)
theorem kitLs {K : PySem.W.Frag} {H : Hp} {v : V} {e : PyData} (h : Dv H v e) : PySem.W.kitOne K (.type (tyD e)) (.type "list") = some (match e with | .list _ => true | _ => false) := by
  cases h with
  | non => exact kit_ty (a := "NoneType") (b := "list") (r := false) (by decide +kernel)
  | bl b => exact kit_ty (a := "bool") (b := "list") (r := false) (by decide +kernel)
  | int i => exact kit_ty (a := "int") (b := "list") (r := false) (by decide +kernel)
  | str x _ _ => exact kit_ty (a := "str") (b := "list") (r := false) (by decide +kernel)
  | lst _ _ _ => exact kit_ty (a := "list") (b := "list") (r := true) (by decide +kernel)
  | tup _ _ _ => exact kit_ty (a := "tuple") (b := "list") (r := false) (by decide +kernel)
theorem kitTp {K : PySem.W.Frag} {H : Hp} {v : V} {e : PyData} (h : Dv H v e) : PySem.W.kitOne K (.type (tyD e)) (.type "tuple") = some (match e with | .tuple _ => true | _ => false) := by
  cases h with
  | non => exact kit_ty (a := "NoneType") (b := "tuple") (r := false) (by decide +kernel)
  | bl b => exact kit_ty (a := "bool") (b := "tuple") (r := false) (by decide +kernel)
  | int i => exact kit_ty (a := "int") (b := "tuple") (r := false) (by decide +kernel)
  | str x _ _ => exact kit_ty (a := "str") (b := "tuple") (r := false) (by decide +kernel)
  | lst _ _ _ => exact kit_ty (a := "list") (b := "tuple") (r := false) (by decide +kernel)
  | tup _ _ _ => exact kit_ty (a := "tuple") (b := "tuple") (r := true) (by decide +kernel)
theorem kitL {K : PySem.W.Frag} {H : Hp} {v : V} {e : PyData} (h : Dv H v e) : PySem.W.kitAny K (.type (tyD e)) [.type "list", .type "tuple"] = some (isSeqD e) := by
  have h1 := kitLs (K := K) h
  have h2 := kitTp (K := K) h
  show (match PySem.W.kitOne K (.type (tyD e)) (.type "list") with | some true => some true | some false => (match PySem.W.kitOne K (.type (tyD e)) (.type "tuple") with | some true => some true | some false => some false | none => none) | none => none) = _
  rw [h1, h2]
  cases e <;> rfl
theorem eq_sign (k ch : Nat) : eqV (.str ⟨#[k]⟩) (.str ⟨#[ch]⟩) = decide (ch = k) := by
  by_cases h : ch = k
  · subst h
    simp [eqV]
  · have h2 : ¬ k = ch := fun z => h z.symm
    simp [eqV, h, h2]
theorem in_signs (ch : Nat) : (decide (ch = 43) || decide (ch = 45)) = inV (.str ⟨#[ch]⟩) [.str (Str.ofString "+"), .str (Str.ofString "-")] := by
  have e1 : Str.ofString "+" = ⟨#[43]⟩ := by decide +kernel
  have e2 : Str.ofString "-" = ⟨#[45]⟩ := by decide +kernel
  rw [e1, e2]
  show _ = (eqV (.str ⟨#[43]⟩) (.str ⟨#[ch]⟩) || (eqV (.str ⟨#[45]⟩) (.str ⟨#[ch]⟩) || false))
  rw [eq_sign, eq_sign, Bool.or_false]
def spInt (r : PyData → Bool) : Sp := fun vs H Q _ => ∃ (v : V) (e : PyData), vs = [v] ∧ Dv H v e ∧ Q (.bl (r e)) H
def spSeq : Sp := fun vs H Q _ => ∃ (v : V) (e : PyData), vs = [v] ∧ Dv H v e ∧ ∀ H', Same H H' → Q (.bl (isSeqD e)) H'
section
variable {P : Program} {w : World} {K : PySem.W.Frag} {mg : Str → Option Value} {base : Heap}
theorem sc_is_integer : FnScope ["value"] ["value"] (defScope (topS 12)) := ⟨rfl, rfl, rfl, by decide +kernel, rfl, by decide +kernel, by decide +kernel⟩
theorem ok_isInt {f : Addr} {fd : FuncData} {k : Nat} (F : Fun K "is_integer" "is_integer" (topS 12) f fd) (T : Bt mg) : FnOk P w K mg base CX0 (k + 1) f fd ["value"] (spInt isIntD) := by
  refine F.ok sc_is_integer (fun vs H Q E h => ?_) (fun cdv A outer s H vs Q E hr h => ?_)
  · obtain ⟨v, e, rfl, _⟩ := h
    rfl
  · obtain ⟨v, e, rfl, hv, q⟩ := h
    refine ⟨_, (pss_one (ps_ret (pe_and (pe_callB (isiK (K := K) rfl) (by rfl) T.m_isinstance (by decide +kernel) (pa_cons (pv 0) (pa_cons (pe_bltn (v := .ty "int") (by rfl) T.m_int (by decide +kernel) rfl) pa_nil))) (pe_one (pe_not (pe_callB (isiK (K := K) rfl) (by rfl) T.m_isinstance (by decide +kernel) (pa_cons (pv 0) (pa_cons (pe_bltn (v := .ty "bool") (by rfl) T.m_bool (by decide +kernel) rfl) pa_nil)))))))), ?_⟩
    refine ⟨_, rfl, _, _, _, _, _, rfl, .ty _, hv.tyx, kitI hv, _, rfl, ?_⟩
    cases hi : isIntD e with
    | true =>
      have hb : isBoolD e = false := by cases e <;> first | rfl | cases hi
      rw [hi] at q
      refine iteT ⟨_, rfl, _, _, _, _, _, rfl, .ty _, hv.tyx, kitB' hv, _, rfl, ?_⟩
      rw [hb]
      exact q
    | false =>
      rw [hi] at q
      cases hb : isBoolD e with
      | true =>
        refine iteT ⟨_, rfl, _, _, _, _, _, rfl, .ty _, hv.tyx, kitB' hv, _, rfl, ?_⟩
        rw [hb]
        exact q
      | false => exact iteF q
theorem sc_is_number : FnScope ["value"] ["value"] (defScope (topS 13)) := ⟨rfl, rfl, rfl, by decide +kernel, rfl, by decide +kernel, by decide +kernel⟩
theorem ok_isNum {f fI : Addr} {fd fdI : FuncData} {k : Nat} (F : Fun K "is_number" "is_number" (topS 13) f fd) (T : Bt mg) (FI : Fun K "is_integer" "is_integer" (topS 12) fI fdI) (bI : Binds K fdI ["value"] []) (gI : mg "is_integer" = some (.ref fI)) :
    FnOk P w K mg base CX0 (k + 2) f fd ["value"] (spInt isNumD) := by
  have GI : FnOk P w K mg base CX0 (k + 1) fI fdI ["value"] (spInt isIntD) := ok_isInt FI T
  refine F.ok sc_is_number (fun vs H Q E h => ?_) (fun cdv A outer s H vs Q E hr h => ?_)
  · obtain ⟨v, e, rfl, _⟩ := h
    rfl
  · obtain ⟨v, e, rfl, hv, q⟩ := h
    refine ⟨_, (pss_one (ps_ret (pe_and (pe_call GI hr (by rfl) gI FI.kp bI .nil pass0 (pa_cons (pv 0) pa_nil)) (pe_one (pe_cmpR op_ge (pv 0) pe_int (nomark _)))))), ?_⟩
    refine ⟨_, rfl, v, e, rfl, hv, _, rfl, ?_⟩
    cases hv with
    | int i => exact iteT ⟨_, rfl, _, _, rfl, rfl, q⟩
    | _ => exact iteF q
theorem sc_is_sequence : FnScope ["value"] ["value"] (defScope (topS 15)) := ⟨rfl, rfl, rfl, by decide +kernel, rfl, by decide +kernel, by decide +kernel⟩
theorem ok_isSeq {f : Addr} {fd : FuncData} {k : Nat} (F : Fun K "is_sequence" "is_sequence" (topS 15) f fd) (T : Bt mg) : FnOk P w K mg base CX0 (k + 1) f fd ["value"] spSeq := by
  refine F.ok sc_is_sequence (fun vs H Q E h => ?_) (fun cdv A outer s H vs Q E hr h => ?_)
  · obtain ⟨v, e, rfl, _⟩ := h
    rfl
  · obtain ⟨v, e, rfl, hv, q⟩ := h
    refine ⟨_, (pss_one (ps_ret (pe_callB (isiTK (K := K) rfl) (by rfl) T.m_isinstance (by decide +kernel) (pa_cons (pv 0) (pa_cons (pe_tup (pa_cons (pe_bltn (v := .ty "list") (by rfl) T.m_list (by decide +kernel) rfl) (pa_cons (pe_bltn (v := .ty "tuple") (by rfl) T.m_tuple (by decide +kernel) rfl) pa_nil))) pa_nil))))), ?_⟩
    refine ⟨_, rfl, by show 2 ≤ sizeLine; decide, fun p np => ?_⟩
    have sp := same_new (o := .tup [.ty "list", .ty "tuple"]) np
    exact ⟨v, p, _, _, _, _, rfl, upd_same, .cons (.ty _) (.cons (.ty _) .nil), (hv.same sp).tyx, kitL hv, q _ sp⟩
/-- a row of signs, so wide -/
def isRowD (wide : Int) : PyData → Bool
  | .str x => decide ((x.length : Int) = wide) && (tlS x).all fun ch => decide (ch = 43) || decide (ch = 45)
  | _ => false
def itemsD : PyData → List PyData | .list ds => ds | .tuple ds => ds | _ => []
def isTableD (e : PyData) (tall wide : Int) : Bool := isSeqD e && (decide (((itemsD e).length : Int) = tall) && (itemsD e).all (isRowD wide))
def spTab : Sp := fun vs H Q _ => ∃ (v : V) (e : PyData) (tall wide : Int), vs = [v, .int tall, .int wide] ∧ Dv H v e ∧ ∀ H', Same H H' → Q (.bl (isTableD e tall wide)) H'
theorem sc_is_table : FnScope ["rows", "tall", "wide", "row", "sign"] ["rows", "tall", "wide"] (defScope (topS 38)) := ⟨rfl, rfl, rfl, by decide +kernel, rfl, by decide +kernel, by decide +kernel⟩
theorem ok_isTable {f fS : Addr} {fd fdS : FuncData} {k : Nat} {t1 t2 : Tok} (F : Fun K "is_table" "is_table" (topS 38) f fd) (T : Bt mg) (FS : Fun K "is_sequence" "is_sequence" (topS 15) fS fdS) (bS : Binds K fdS ["value"] []) (gS : mg "is_sequence" = some (.ref fS))
    (gIN : mg "IN" = some (.str "+" t1)) (gNO : mg "NOT_IN" = some (.str "-" t2)) :
    FnOk P w K mg base CX0 (k + 2) f fd ["rows", "tall", "wide"] spTab := by
  have GS : FnOk P w K mg base CX0 (k + 1) fS fdS ["value"] spSeq := ok_isSeq FS T
  refine F.ok sc_is_table (fun vs H Q E h => ?_) (fun cdv A outer s H vs Q E hr h => ?_)
  · obtain ⟨v, e, tall, wide, rfl, _⟩ := h
    rfl
  · obtain ⟨v, e, tall, wide, rfl, hv, q⟩ := h
    refine ⟨_, (pss_cons (ps_if (PW.pt (pw_or (pt_not (pt_val (pe_call GS hr (by rfl) gS FS.kp bS .nil pass0 (pa_cons (pv 0) pa_nil)))) (pw_or (pt_cmpR op_ne (pe_callB (lenK (K := K) rfl) (by rfl) T.m_len PySem.boot_len (pa_cons (pv 0) pa_nil)) (pv 1) (nomark _)) (pw_or1 (pt_not (pt_val (pe_callB (allK (K := K) rfl rfl) (by rfl) T.m_all (by decide +kernel) (pa_cons (pe_lc (own := [("row", 3)]) (g := (gName 3)) (tt := tYes) rfl sc_is_table.nd (piSK (K := K) rfl (pv 0)) (blkOk_by (own := [("row", 3)]) (N := ["rows", "tall", "wide", "row", "sign"]) (sc := defScope (topS 38)) (by decide +kernel)) (fun _ _ _ _ _ => (pg_name (i := 3) sc_is_table.nd rfl (by first | exact Or.inl rfl | exact Or.inr rfl))) (fun _ _ _ _ _ => pts_nil) (fun _ _ _ _ _ => (pe_callB (isiK (K := K) rfl) (by rfl) T.m_isinstance (by decide +kernel) (pa_cons (pv 3) (pa_cons (pe_bltn (v := .ty "str") (by rfl) T.m_str (by decide +kernel) rfl) pa_nil))))) pa_nil)))))))) (pss_one (ps_ret pe_bl)) pss_nil)
  (pss_one (ps_ret (pe_callB (allK (K := K) rfl rfl) (by rfl) T.m_all (by decide +kernel) (pa_cons (pe_lc (own := [("row", 3)]) (g := (gName 3)) (tt := tYes) rfl sc_is_table.nd (piSK (K := K) rfl (pv 0)) (blkOk_by (own := [("row", 3)]) (N := ["rows", "tall", "wide", "row", "sign"]) (sc := defScope (topS 38)) (by decide +kernel)) (fun _ _ _ _ _ => (pg_name (i := 3) sc_is_table.nd rfl (by first | exact Or.inl rfl | exact Or.inr rfl))) (fun _ _ _ _ _ => pts_nil) (fun _ _ _ _ _ => (pe_and (pe_cmpR op_eq (pe_callB call_len_str (by rfl) T.m_len PySem.boot_len (pa_cons (pv 3) pa_nil)) (pv 2) (nomark _)) (pe_one (pe_callB (allK (K := K) rfl rfl) (by rfl) T.m_all (by decide +kernel) (pa_cons (pe_lc (own := [("sign", 4)]) (g := (gName 4)) (tt := tYes) rfl sc_is_table.nd (pi_str (pv 3)) (blkOk_by (own := [("sign", 4)]) (N := ["rows", "tall", "wide", "row", "sign"]) (by kernel_rfl)) (fun _ _ _ _ _ => (pg_name (i := 4) sc_is_table.nd rfl (by first | exact Or.inl rfl | exact Or.inr rfl))) (fun _ _ _ _ _ => pts_nil) (fun _ _ _ _ _ => (pe_cmpR (inK (K := K) rfl) (pv 4) (pe_tup (pa_cons (pe_glob (v := .str "+") (by rfl) gIN ⟨_, rfl⟩) (pa_cons (pe_glob (v := .str "-") (by rfl) gNO ⟨_, rfl⟩) pa_nil))) (by rfl)))) pa_nil)))))) pa_nil))))), ?_⟩
    refine ⟨_, rfl, v, e, rfl, hv, fun H1 s1 => ⟨_, rfl, ?_⟩⟩
    have no : isTableD e tall wide = false → ∀ H', Same H H' → Q (.bl false) H' := fun z H' s' => by
      have := q H' s'
      rw [z] at this
      exact this
    cases hq : isSeqD e with
    | false => exact iteT (iteT (no (by unfold isTableD; rw [hq]; rfl) H1 s1))
    | true =>
      have sq : ∃ a xs, v = .ref a ∧ xs.length ≤ 1000 ∧ (∀ H', Same H H' → SqL K H' a xs ∨ SqT K H' a xs) ∧ DvAll H xs (itemsD e) := by
        cases hv with
        | lst h hl l => exact ⟨_, _, rfl, hl, fun H' s' => .inl (SqL.of (s' _ _ h)), l⟩
        | tup h hl l => exact ⟨_, _, rfl, hl, fun H' s' => .inr (SqT.of (s' _ _ h)), l⟩
        | _ => cases hq
      obtain ⟨a, xs, rfl, hxl, hsq, hall⟩ := sq
      have hlen : xs.length = (itemsD e).length := hall.len
      refine iteF ⟨_, rfl, a, xs, rfl, hsq H1 s1, _, rfl, rfl, _, rfl, ?_⟩
      have two : ∀ b : Bool, isTableD e tall wide = (decide (((itemsD e).length : Int) = tall) && (itemsD e).all (isRowD wide)) := fun _ => by unfold isTableD; rw [hq]; rfl
      by_cases ht : ((xs.length : Nat) : Int) = tall
      · have e1 : (!decide (V.int ((xs.length : Nat) : Int) = V.int tall)) = false := by rw [ht]; simp
        rw [e1]
        refine iteF ?_
        dsimp only [tNot, tB, tCB, tCons, tNil]
        refine lc_seqV (k := 0) (by rfl) (hsq H1 s1) (by omega) (fun x => match x with | .str _ => some (.bl true) | _ => some (.bl false)) (fun D i x H2 Nx nD hx s2 tk nt => ?_) (fun D H2 nD s2 hD => ?_)
        · obtain ⟨ee, e2, hd⟩ := hall.get hx
          have hd2 := (hd.same s1).same s2
          refine ⟨rfl, _, rfl, _, _, _, _, _, rfl, .ty _, hd2.tyx, kitS hd2, tk _ _ (fun _ _ q => q) ?_⟩
          cases hd <;> rfl
        · have ef := hall.fm (f := isStrD) (o := fun x => match x with | .str _ => some (V.bl true) | _ => some (V.bl false)) (fun v' e' _ _ h => by cases h <;> rfl)
          rw [ef] at hD
          refine ⟨D, _, rfl, SqL.of hD, _, rfl, ?_⟩
          rw [allMap]
          have s02 := s1.trans s2
          cases hs : (itemsD e).all isStrD with
          | false =>
            refine iteT (no ?_ H2 s02)
            rw [two true]
            have : (itemsD e).all (isRowD wide) = false := by
              cases z : (itemsD e).all (isRowD wide) with
              | false => rfl
              | true =>
                rw [← hs]
                refine (List.all_eq_true.mpr fun r hr => ?_).symm
                have := List.all_eq_true.mp z r hr
                cases r <;> first | rfl | cases this
            rw [this, Bool.and_false]
          | true =>
            refine iteF ?_
            dsimp only [tNext, tRet, tCB, tCons, tNil]
            refine lc_seqV (k := 0) (by rfl) (hsq H2 s02) (by omega) (fun x => match x with | .str z => some (.bl (isRowD wide (.str z))) | _ => some (.bl false)) (fun D2 i x H3 Nx nD2 hx s3 tk nt => ?_) (fun D2 H3 nD2 s3 hD2 => ?_)
            · obtain ⟨ee, e2, hd⟩ := hall.get hx
              have hstr : isStrD ee = true := List.all_eq_true.mp hs ee (List.mem_of_getElem? e2)
              cases hd with
              | str z hz hzl =>
                refine ⟨rfl, _, rfl, z, rfl, Nat.le_trans hz (by decide), _, rfl, rfl, _, rfl, ?_⟩
                have ew : decide (V.int (z.length : Int) = V.int wide) = decide ((z.length : Int) = wide) := by
                  by_cases y : (z.length : Int) = wide
                  · rw [y]; simp
                  · rw [decide_eq_false y]
                    exact decide_eq_false fun w => y (by cases w; rfl)
                rw [ew]
                cases hw : decide ((z.length : Int) = wide) with
                | false =>
                  refine iteF (tk _ _ (fun _ _ q => q) ?_)
                  show some (V.bl (decide ((z.length : Int) = wide) && _)) = _
                  rw [hw]
                  rfl
                | true =>
                  refine iteT ⟨_, rfl, z, rfl, fun D3 nD3 => lc_fmS nD3 (by have : z.cps.size = z.length := rfl; omega) (fun ch => some (.bl (decide (ch = 43) || decide (ch = 45)))) (fun j ch H4 Nx2 hch s4 tk2 nt2 => ?_) (fun H4 s4 hD3 => ?_)⟩
                  · refine ⟨rfl, _, rfl, by show 2 ≤ sizeLine; decide, fun p np => ?_⟩
                    refine ⟨p, _, rfl, .inr (SqT.of upd_same), rfl, rfl, tk2 _ _ (same_new np) ?_⟩
                    exact congrArg (fun b => some (V.bl b)) (in_signs ch)
                  · have em : z.cps.toList.filterMap (fun ch => some (V.bl (decide (ch = 43) || decide (ch = 45)))) = ((tlS z).map fun ch => decide (ch = 43) || decide (ch = 45)).map V.bl := by
                      rw [List.filterMap_eq_map']
                      rw [List.map_map]
                      rfl
                    rw [em] at hD3
                    refine ⟨D3, _, rfl, SqL.of hD3, tk _ _ s4 ?_⟩
                    show some (V.bl (decide ((z.length : Int) = wide) && (tlS z).all _)) = _
                    rw [hw, List.all_map]
                    rfl
              | _ => cases hstr
            · have ef2 := hall.fm (f := isRowD wide) (o := fun x => match x with | .str z => some (V.bl (isRowD wide (.str z))) | _ => some (V.bl false)) (fun v' e' _ _ h => by cases h <;> rfl)
              rw [ef2] at hD2
              refine ⟨D2, _, rfl, SqL.of hD2, ?_⟩
              rw [allMap]
              have := q H3 (s02.trans s3)
              rw [two true, ← hlen, decide_eq_true ht, Bool.true_and] at this
              exact this
      · have e1 : (!decide (V.int ((xs.length : Nat) : Int) = V.int tall)) = true := by
          rw [decide_eq_false fun w => ht (by cases w; rfl)]; rfl
        rw [e1]
        refine iteT (iteT (no ?_ H1 s1))
        rw [two true, ← hlen, decide_eq_false ht, Bool.false_and]
end
end FH

set_option Elab.async false
set_option linter.all false
set_option maxRecDepth 100000
set_option maxHeartbeats 1000000
namespace FH
open PySem L2
local macro_rules | `(tactic| walk_at "seq") => `(tactic| first | assumption | exact SqL.of (by assumption) | exact SqT.of (by assumption) | exact SqL.of upd_same | exact SqT.of upd_same)
local macro_rules | `(tactic| walk_at "at") => `(tactic| first | exact atI_nat (j := 0) rfl | exact atI_nat (j := 1) rfl | exact atI_nat (j := 2) rfl | exact atI_nat (by assumption) | assumption)
local macro_rules | `(tactic| walk_at "ar") => `(tactic| first | omega | exact ⟨by omega, by omega⟩ | exact Or.inl ⟨by omega, by omega⟩ | exact Or.inr ⟨by omega, by omega⟩ | exact ⟨by decide, by decide⟩ | exact Or.inr ⟨by decide, by decide⟩ | exact Or.inl ⟨by decide, by decide⟩ | exact ⟨by decide, by decide, by omega⟩ | exact ⟨by decide, by decide, by decide⟩)
local macro_rules | `(tactic| walk_at "r") => `(tactic| repeat (first
  | refine ⟨_, rfl, ?_⟩
  | refine ⟨_, _, rfl, rfl, ?_⟩
  | refine ⟨_, _, _, _, rfl, rfl, by walk_at "seq", by walk_at "at", ?_⟩
  | refine ⟨_, _, _, _, rfl, rfl, by assumption, rfl, ?_⟩
  | refine ⟨_, _, rfl, Or.inl (by walk_at "seq"), ?_⟩
  | refine Or.inl ⟨_, rfl, ?_⟩
  | refine Or.inr ⟨_, rfl, ?_⟩
  | refine And.intro (by walk_at "ar") ?_))
/-! ### what is refused, on data -/
def itemD (e : PyData) (i : Nat) : PyData := (itemsD e).getD i .none
def intD : PyData → Int | .int i => i | _ => 0
def isPosD : PyData → Bool | .int i => decide (0 < i) | _ => false
def okS (e : PyData) : Bool := isSeqD e && (decide ((itemsD e).length = 2) && (itemsD e).all isNumD)
def okP (e : PyData) : Bool := isSeqD e && (decide ((itemsD e).length = 2) && (itemsD e).all isPosD)
def okR (s p r : PyData) : Bool := isTableD r (intD (itemD s 0) + intD (itemD p 0)) (intD (itemD s 1) + intD (itemD p 1))
def checkR (s p r : PyData) : Option Str := if okS s = true then if okP p = true then if okR s p r = true then none else some "rows" else some "periods" else some "starts"
def spChecked (CE : Addr) : Sp := fun vs H Q E => ∃ (v1 v2 v3 : V) (s p r : PyData), vs = [v1, v2, v3] ∧ Dv H v1 s ∧ Dv H v2 p ∧ Dv H v3 r ∧
  (checkR s p r = none → ∀ (l : Addr) (xs : List V) (H' : Hp), Same H H' → DvAll H xs (itemsD r) → H' l = some (.lst xs) → Q (.ref l) H') ∧
  (∀ word : Str, checkR s p r = some word → ∀ (d : Addr) (H' : Hp), Same H H' → H d = none → H' d = some (.xd [(("word" : Str), .str word)]) → E (.ref CE) (some d) H')
/-- a list or tuple of data, where it stands -/
theorem Dv.seq {K : PySem.W.Frag} {H : Hp} {v : V} {e : PyData} (h : Dv H v e) (q : isSeqD e = true) : ∃ a xs, v = .ref a ∧ xs.length ≤ 1000 ∧ (∀ H', Same H H' → SqL K H' a xs ∨ SqT K H' a xs) ∧ DvAll H xs (itemsD e) := by
  cases h with
  | lst h hl l => exact ⟨_, _, rfl, hl, fun H' s' => .inl (SqL.of (s' _ _ h)), l⟩
  | tup h hl l => exact ⟨_, _, rfl, hl, fun H' s' => .inr (SqT.of (s' _ _ h)), l⟩
  | _ => cases q
theorem dec_len2 (n : Nat) : (!decide (V.int (n : Int) = V.int 2)) = !decide (n = 2) := by
  rw [show decide (V.int (n : Int) = V.int 2) = decide (n = 2) from dNat n 2]
section
variable {P : Program} {w : World} {K : PySem.W.Frag} {mg : Str → Option Value} {base : Heap} {CE fE : Addr}
theorem sc_checked : FnScope ["starts", "periods", "rows", "start", "period"] ["starts", "periods", "rows"] (defScope (topS 39)) := ⟨rfl, rfl, rfl, by decide +kernel, rfl, by decide +kernel, by decide +kernel⟩
theorem ok_checked {f fI fS fN fB : Addr} {fd fdI fdS fdN fdB : FuncData} {k : Nat} {t1 t2 : Tok} (F : Fun K "checked" "checked" (topS 39) f fd) (T : Bt mg) (XE : PySem.ErrX.ErrTxt P K mg "InvalidCrowds" CE fE)
    (FI : Fun K "is_integer" "is_integer" (topS 12) fI fdI) (bI : Binds K fdI ["value"] []) (gI : mg "is_integer" = some (.ref fI))
    (FS : Fun K "is_sequence" "is_sequence" (topS 15) fS fdS) (bS : Binds K fdS ["value"] []) (gS : mg "is_sequence" = some (.ref fS))
    (FN : Fun K "is_number" "is_number" (topS 13) fN fdN) (bN : Binds K fdN ["value"] []) (gN : mg "is_number" = some (.ref fN))
    (FB : Fun K "is_table" "is_table" (topS 38) fB fdB) (bB : Binds K fdB ["rows", "tall", "wide"] []) (gB : mg "is_table" = some (.ref fB))
    (gIN : mg "IN" = some (.str "+" t1)) (gNO : mg "NOT_IN" = some (.str "-" t2)) :
    FnOk P w K mg base (L2.CX P w) (k + 3) f fd ["starts", "periods", "rows"] (spChecked CE) := by
  have GI : FnOk P w K mg base CX0 (k + 2) fI fdI ["value"] (spInt isIntD) := ok_isInt FI T
  have GS : FnOk P w K mg base CX0 (k + 2) fS fdS ["value"] spSeq := ok_isSeq FS T
  have GN : FnOk P w K mg base CX0 (k + 2) fN fdN ["value"] (spInt isNumD) := ok_isNum FN T FI bI gI
  have GB : FnOk P w K mg base CX0 (k + 2) fB fdB ["rows", "tall", "wide"] spTab := ok_isTable FB T FS bS gS gIN gNO
  refine F.okX sc_checked (fun vs H Q E h => ?_) (fun cdv A outer s H vs Q E hr h => ?_)
  · obtain ⟨v1, v2, v3, s, p, r, rfl, _⟩ := h
    rfl
  · obtain ⟨v1, v2, v3, sd, pd, rd, rfl, h1, h2, h3, yes, no⟩ := h
    refine ⟨_, (pss_cons (ps_if (PT.nox (PW.pt (pw_or (pt_not (pt_val (pe_call GS hr (by rfl) gS FS.kp bS .nil pass0 (pa_cons (pv 0) pa_nil)))) (pw_or (pt_cmpR op_ne (pe_callB (lenK (K := K) rfl) (by rfl) T.m_len PySem.boot_len (pa_cons (pv 0) pa_nil)) pe_int (nomark _)) (pw_or1 (pt_not (pt_val (pe_callB (allK (K := K) rfl rfl) (by rfl) T.m_all (by decide +kernel) (pa_cons (pe_lc (own := [("start", 3)]) (g := (gName 3)) (tt := tYes) rfl sc_checked.nd (piSK (K := K) rfl (pv 0)) (blkOk_by (own := [("start", 3)]) (N := ["starts", "periods", "rows", "start", "period"]) (sc := defScope (topS 39)) (by decide +kernel)) (fun _ _ _ _ _ => (pg_name (i := 3) sc_checked.nd rfl (by first | exact Or.inl rfl | exact Or.inr rfl))) (fun _ _ _ _ _ => pts_nil) (fun _ _ _ _ _ => (pe_call GN hr (by rfl) gN FN.kp bN .nil pass0 (pa_cons (pv 3) pa_nil)))) pa_nil))))))))) (pss_one (ps_raiseErr rfl XE hr (takes_of rfl rfl rfl rfl) (pa_cons pe_str pa_nil) (by rfl))) pss_nil)
  (pss_cons (ps_if (PT.nox (PW.pt (pw_or (pt_not (pt_val (pe_call GS hr (by rfl) gS FS.kp bS .nil pass0 (pa_cons (pv 1) pa_nil)))) (pw_or1 (pt_cmpR op_ne (pe_callB (lenK (K := K) rfl) (by rfl) T.m_len PySem.boot_len (pa_cons (pv 1) pa_nil)) pe_int (nomark _)))))) (pss_one (ps_raiseErr rfl XE hr (takes_of rfl rfl rfl rfl) (pa_cons pe_str pa_nil) (by rfl))) pss_nil)
  (pss_cons (ps_if (PT.nox (pt_not (pt_val (pe_callB (allK (K := K) rfl rfl) (by rfl) T.m_all (by decide +kernel) (pa_cons (pe_lc (own := [("period", 4)]) (g := (gName 4)) (tt := tYes) rfl sc_checked.nd (piSK (K := K) rfl (pv 1)) (blkOk_by (own := [("period", 4)]) (N := ["starts", "periods", "rows", "start", "period"]) (sc := defScope (topS 39)) (by decide +kernel)) (fun _ _ _ _ _ => (pg_name (i := 4) sc_checked.nd rfl (by first | exact Or.inl rfl | exact Or.inr rfl))) (fun _ _ _ _ _ => pts_nil) (fun _ _ _ _ _ => (pe_and (pe_call GI hr (by rfl) gI FI.kp bI .nil pass0 (pa_cons (pv 4) pa_nil)) (pe_one (pe_cmpR op_gt (pv 4) pe_int (nomark _)))))) pa_nil))))) (pss_one (ps_raiseErr rfl XE hr (takes_of rfl rfl rfl rfl) (pa_cons pe_str pa_nil) (by rfl))) pss_nil)
  (pss_cons (ps_if (PT.nox (pt_not (pt_val (pe_call GB hr (by rfl) gB FB.kp bB .nil pass0 (pa_cons (pv 2) (pa_cons (pe_op op_add (pe_ix (ixQK (K := K) rfl) (pv 0) pe_int (fun _ _ => rfl)) (pe_ix (ixQK (K := K) rfl) (pv 1) pe_int (fun _ _ => rfl))) (pa_cons (pe_op op_add (pe_ix (ixQK (K := K) rfl) (pv 0) pe_int (fun _ _ => rfl)) (pe_ix (ixQK (K := K) rfl) (pv 1) pe_int (fun _ _ => rfl))) pa_nil))))))) (pss_one (ps_raiseErr rfl XE hr (takes_of rfl rfl rfl rfl) (pa_cons pe_str pa_nil) (by rfl))) pss_nil)
  (pss_one (ps_ret (PE.nox (pe_callTy (lstK (K := K) rfl) (by rfl) T.m_list (by decide +kernel) (pa_cons (pv 2) pa_nil))))))))), ?_⟩
    have rz : ∀ (word : Str) (H1 : Hp), checkR sd pd rd = some word → Same H H1 → ∀ d, H1 d = none → E (.ref CE) (some d) (upd H1 d (.xd [(("word" : Str), .str word)])) := fun word H1 hw s1 d nd =>
      no word hw d _ (s1.trans (same_new nd)) (s1.free nd) upd_same
    -- starts
    dsimp only [tSeq, tIfS]
    refine viaT (fun b H2 => Same H H2 ∧ b = !okS sd) (fun b H1 hP => ?_) (fun Q' k' => ?_)
    rotate_left
    · refine ⟨_, rfl, v1, sd, rfl, h1, fun H1 s1 => ⟨_, rfl, ?_⟩⟩
      cases hq : isSeqD sd with
      | false => exact iteT (k' _ _ ⟨s1, by unfold okS; rw [hq]; rfl⟩)
      | true =>
        obtain ⟨a, xs, rfl, hxl, hsq, hall⟩ := h1.seq (K := K) hq
        refine iteF ⟨_, rfl, a, xs, rfl, hsq H1 s1, rfl, _, rfl, ?_⟩
        rw [dec_len2, hall.len]
        by_cases hl : (itemsD sd).length = 2
        · rw [decide_eq_true hl]
          refine iteF ?_
          dsimp only [tNot, tB, tCB, tCons, tNil]
          refine lc_seqV (k := 0) (by rfl) (hsq H1 s1) (by omega) (fun x => match x with | .int i => some (.bl (decide (0 ≤ i))) | _ => some (.bl false)) (fun D i x H2 Nx nD hx s2 tk nt => ?_) (fun D H2 nD s2 hD => ?_)
          · obtain ⟨ee, e2, hd⟩ := hall.get hx
            refine ⟨rfl, _, rfl, x, ee, rfl, (hd.same s1).same s2, tk _ _ (fun _ _ q => q) ?_⟩
            cases hd <;> rfl
          · have ef := hall.fm (f := isNumD) (o := fun x => match x with | .int i => some (V.bl (decide (0 ≤ i))) | _ => some (V.bl false)) (fun v' e' _ _ h => by cases h <;> rfl)
            rw [ef] at hD
            refine ⟨D, _, rfl, SqL.of hD, _, rfl, k' _ _ ⟨s1.trans s2, ?_⟩⟩
            rw [allMap]
            unfold okS
            rw [hq, decide_eq_true hl]
            rfl
        · rw [decide_eq_false hl]
          exact iteT (k' _ _ ⟨s1, by unfold okS; rw [hq, decide_eq_false hl]; rfl⟩)
    obtain ⟨s1, rfl⟩ := hP
    cases hS : okS sd with
    | false => exact iteT ⟨_, rfl, fun d nd => rz "starts" H1 (by unfold checkR; rw [hS]; rfl) s1 d nd⟩
    | true =>
    refine iteF ?_
    try dsimp only [tNext, tSeq, tIfS]
    -- periods
    refine viaT (fun b H2 => Same H H2 ∧ b = !(isSeqD pd && decide ((itemsD pd).length = 2))) (fun b H2 hP => ?_) (fun Q' k' => ?_)
    rotate_left
    · refine ⟨_, rfl, v2, pd, rfl, h2.same s1, fun H2 s2 => ⟨_, rfl, ?_⟩⟩
      cases hq : isSeqD pd with
      | false => exact iteT (k' _ _ ⟨s1.trans s2, by rw [hq]; rfl⟩)
      | true =>
        obtain ⟨a, xs, rfl, hxl, hsq, hall⟩ := h2.seq (K := K) hq
        refine iteF ⟨_, rfl, a, xs, rfl, hsq H2 (s1.trans s2), rfl, _, rfl, k' _ _ ⟨s1.trans s2, ?_⟩⟩
        rw [dec_len2, hall.len, hq, Bool.true_and]
    obtain ⟨s2, rfl⟩ := hP
    cases hL : (isSeqD pd && decide ((itemsD pd).length = 2)) with
    | false =>
      refine iteT ⟨_, rfl, fun d nd => rz "periods" H2 ?_ s2 d nd⟩
      have : okP pd = false := by unfold okP; rw [← Bool.and_assoc, hL, Bool.false_and]
      unfold checkR
      rw [hS, this]
      rfl
    | true =>
    refine iteF ?_
    have hq : isSeqD pd = true := (Bool.and_eq_true _ _ ▸ hL).1
    have hl2 : (itemsD pd).length = 2 := of_decide_eq_true (Bool.and_eq_true _ _ ▸ hL).2
    obtain ⟨a2, xs2, rfl, hxl2, hsq2, hall2⟩ := h2.seq (K := K) hq
    try dsimp only [tNext, tSeq, tIfS]
    refine viaT (fun b H2 => Same H H2 ∧ b = !okP pd) (fun b H3 hP => ?_) (fun Q' k' => ?_)
    rotate_left
    · dsimp only [tNot, tB, tCB, tCons, tNil]
      refine lc_seqV (k := 1) (by rfl) (hsq2 H2 s2) (by omega) (fun x => match x with | .int i => some (.bl (decide (0 < i))) | _ => some (.bl false)) (fun D i x H3 Nx nD hx s3 tk nt => ?_) (fun D H3 nD s3 hD => ?_)
      · obtain ⟨ee, e2, hd⟩ := hall2.get hx
        refine ⟨rfl, _, rfl, x, ee, rfl, (hd.same s2).same s3, _, rfl, ?_⟩
        cases hd with
        | int i => exact iteT ⟨_, rfl, _, _, rfl, rfl, tk _ _ (fun _ _ q => q) rfl⟩
        | _ => exact iteF (tk _ _ (fun _ _ q => q) rfl)
      · have ef := hall2.fm (f := isPosD) (o := fun x => match x with | .int i => some (V.bl (decide (0 < i))) | _ => some (V.bl false)) (fun v' e' _ _ h => by cases h <;> rfl)
        rw [ef] at hD
        refine ⟨D, _, rfl, SqL.of hD, _, rfl, k' _ _ ⟨s2.trans s3, ?_⟩⟩
        rw [allMap]
        unfold okP
        rw [hq, decide_eq_true hl2]
        rfl
    obtain ⟨s3, rfl⟩ := hP
    cases hP : okP pd with
    | false => exact iteT ⟨_, rfl, fun d nd => rz "periods" H3 (by unfold checkR; rw [hS, hP]; rfl) s3 d nd⟩
    | true =>
    refine iteF ?_
    have hSq : isSeqD sd = true := by
      cases z : isSeqD sd with
      | true => rfl
      | false => unfold okS at hS; rw [z] at hS; cases hS
    obtain ⟨a1, xs1, rfl, hxl1, hsq1, hall1⟩ := h1.seq (K := K) hSq
    have two : ∀ (e : PyData) (xs : List V) (pr : PyData → Bool), (∀ x, pr x = true → ∃ i, x = .int i) → (isSeqD e && (decide ((itemsD e).length = 2) && (itemsD e).all pr)) = true → DvAll H xs (itemsD e) → xs = [.int (intD (itemD e 0)), .int (intD (itemD e 1))] := by
      intro e xs pr hpr hok hall
      have hl : (itemsD e).length = 2 ∧ (itemsD e).all pr = true := by
        rw [Bool.and_eq_true, Bool.and_eq_true] at hok
        exact ⟨of_decide_eq_true hok.2.1, hok.2.2⟩
      unfold itemD
      generalize itemsD e = es at hl hall ⊢
      obtain ⟨hl, ha⟩ := hl
      match es, hl with
      | [x, y], _ =>
        obtain ⟨i, rfl⟩ := hpr x (List.all_eq_true.mp ha x (by simp))
        obtain ⟨j, rfl⟩ := hpr y (List.all_eq_true.mp ha y (by simp))
        cases hall with
        | cons hx ht =>
          cases hx
          cases ht with
          | cons hy hn =>
            cases hy
            cases hn
            rfl
    have n1 : ∀ x, isNumD x = true → ∃ i, x = .int i := fun x h => by cases x <;> first | exact ⟨_, rfl⟩ | cases h
    have n2 : ∀ x, isPosD x = true → ∃ i, x = .int i := fun x h => by cases x <;> first | exact ⟨_, rfl⟩ | cases h
    obtain rfl := two sd xs1 isNumD n1 hS hall1
    obtain rfl := two pd xs2 isPosD n2 hP hall2
    refine ⟨_, rfl, _, rfl, a1, _, 0, _, rfl, rfl, hsq1 H3 s3, atI_nat (j := 0) rfl, _, rfl, a2, _, 0, _, rfl, rfl, hsq2 H3 s3, atI_nat (j := 0) rfl, _, _, rfl, rfl, ?_⟩
    refine ⟨_, rfl, a1, _, 1, _, rfl, rfl, hsq1 H3 s3, atI_nat (j := 1) rfl, _, rfl, a2, _, 1, _, rfl, rfl, hsq2 H3 s3, atI_nat (j := 1) rfl, _, _, rfl, rfl, ?_⟩
    refine ⟨v3, rd, _, _, rfl, h3.same s3, fun H4 s4 => ⟨_, rfl, ?_⟩⟩
    cases hR : okR sd pd rd with
    | false =>
      have hR' := hR
      unfold okR at hR'
      rw [hR']
      exact iteT ⟨_, rfl, fun d nd => rz "rows" H4 (by unfold checkR; rw [hS, hP, hR]; rfl) (s3.trans s4) d nd⟩
    | true =>
      have hR' := hR
      unfold okR at hR'
      rw [hR']
      refine iteF ?_
      have hRq : isSeqD rd = true := by
        cases z : isSeqD rd with
        | true => rfl
        | false => unfold isTableD at hR'; rw [z] at hR'; cases hR'
      obtain ⟨a3, xs3, rfl, hxl3, hsq3, hall3⟩ := h3.seq (K := K) hRq
      refine ⟨_, rfl, a3, xs3, rfl, hsq3 H4 (s3.trans s4), fun l nl => ?_⟩
      exact yes (by unfold checkR; rw [hS, hP, hR]; rfl) l xs3 _ ((s3.trans s4).trans (same_new nl)) hall3 upd_same
end
end FH

set_option Elab.async false
set_option linter.all false
set_option maxRecDepth 100000
set_option maxHeartbeats 1000000
namespace FH
open PySem L2
local macro_rules | `(tactic| walk_at "seq") => `(tactic| first | assumption | exact SqL.of (by assumption) | exact SqT.of (by assumption) | exact SqL.of upd_same | exact SqT.of upd_same)
local macro_rules | `(tactic| walk_at "at") => `(tactic| first | exact atI_nat (j := 0) rfl | exact atI_nat (j := 1) rfl | exact atI_nat (j := 2) rfl | exact atI_nat (by assumption) | assumption)
local macro_rules | `(tactic| walk_at "ar") => `(tactic| first | omega | exact ⟨by omega, by omega⟩ | exact Or.inl ⟨by omega, by omega⟩ | exact Or.inr ⟨by omega, by omega⟩ | exact ⟨by decide, by decide⟩ | exact Or.inr ⟨by decide, by decide⟩ | exact Or.inl ⟨by decide, by decide⟩ | exact ⟨by decide, by decide, by omega⟩ | exact ⟨by decide, by decide, by decide⟩)
local macro_rules | `(tactic| walk_at "r") => `(tactic| repeat (first
  | refine ⟨_, rfl, ?_⟩
  | refine ⟨_, _, rfl, rfl, ?_⟩
  | refine ⟨_, _, _, _, rfl, rfl, by walk_at "seq", by walk_at "at", ?_⟩
  | refine ⟨_, _, _, _, rfl, rfl, by assumption, rfl, ?_⟩
  | refine ⟨_, _, rfl, Or.inl (by walk_at "seq"), ?_⟩
  | refine Or.inl ⟨_, rfl, ?_⟩
  | refine Or.inr ⟨_, rfl, ?_⟩
  | refine And.intro (by walk_at "ar") ?_))
/-! ### a table -/
structure Tb where
  s0 : Nat
  s1 : Nat
  p0 : Nat
  p1 : Nat
  rows : List Str
/-- rows of signs, as many and as wide as told -/
structure Tb.Ok (t : Tb) : Prop where
  h0 : 0 < t.p0
  h1 : 0 < t.p1
  len : t.rows.length = t.s0 + t.p0
  row : ∀ x ∈ t.rows, x.length = t.s1 + t.p1 ∧ Sg x
def Tb.f0 (t : Tb) : Nat := firstL t.rows t.s0 t.p0
def Tb.b0 (t : Tb) : Nat := bestL t.rows t.s0 t.p0
def Tb.top (t : Tb) : List Str := t.rows.take (t.f0 + t.b0)
def Tb.cols (t : Tb) : List Str := colsS t.top (t.s1 + t.p1)
def Tb.f1 (t : Tb) : Nat := firstL t.cols t.s1 t.p1
def Tb.b1 (t : Tb) : Nat := bestL t.cols t.s1 t.p1
/-- the least table -/
def Tb.least (t : Tb) : Tb := ⟨t.f0, t.f1, t.b0, t.b1, colsS (t.cols.take (t.f1 + t.b1)) (t.f0 + t.b0)⟩
theorem tl_colS (xs : List Str) (i : Nat) : tlS (colS xs i) = xs.map fun x => x.cps.getD i 0 := by
  have := join_ones (xs.map fun x => x.cps.getD i 0)
  unfold ones at this
  rw [List.map_map] at this
  exact this
theorem len_colS (xs : List Str) (i : Nat) : (colS xs i).length = xs.length := by rw [len_tl, tl_colS, List.length_map]
theorem len_colsS (xs : List Str) (m : Nat) : (colsS xs m).length = m := by unfold colsS; rw [List.length_map, List.length_range]
theorem sg_lay {x : Str} (h : Sg x) : LayS x := layS_of fun c hc => by rcases h c hc with rfl | rfl <;> decide
theorem sg_colS {xs : List Str} {m i : Nat} (h : ∀ x ∈ xs, x.length = m ∧ Sg x) (hi : i < m) : Sg (colS xs i) := by
  intro c hc
  rw [tl_colS] at hc
  obtain ⟨x, hx, rfl⟩ := List.mem_map.mp hc
  obtain ⟨h1, h2⟩ := h x hx
  refine h2 _ ?_
  have hs : i < x.cps.size := by rw [← h1] at hi; exact hi
  show x.cps.getD i 0 ∈ x.cps.toList
  rw [Array.getD_eq_getD_getElem?, Array.getElem?_eq_getElem hs]
  simp
theorem row_colsS {xs : List Str} {m : Nat} (h : ∀ x ∈ xs, x.length = m ∧ Sg x) : ∀ c ∈ colsS xs m, c.length = xs.length ∧ Sg c := by
  intro c hc
  obtain ⟨i, hi, rfl⟩ := List.mem_map.mp hc
  exact ⟨len_colS xs i, sg_colS h (List.mem_range.mp hi)⟩
theorem Tb.Ok.top_len {t : Tb} (h : t.Ok) : t.top.length = t.f0 + t.b0 := by
  unfold Tb.top
  rw [List.length_take, h.len]
  have := firstL_le t.rows t.s0 t.p0
  have := bestL_le t.rows t.s0 t.p0
  unfold Tb.f0 Tb.b0
  omega
theorem Tb.Ok.b0_pos {t : Tb} (h : t.Ok) : 0 < t.b0 := bestL_pos _ _ _ h.h0
theorem Tb.Ok.b1_pos {t : Tb} (h : t.Ok) : 0 < t.b1 := bestL_pos _ _ _ h.h1
theorem Tb.Ok.top_row {t : Tb} (h : t.Ok) : ∀ x ∈ t.top, x.length = t.s1 + t.p1 ∧ Sg x := fun x hx => h.row x (List.mem_of_mem_take hx)
theorem Tb.Ok.cols_len {t : Tb} (h : t.Ok) : t.cols.length = t.s1 + t.p1 := len_colsS _ _
theorem Tb.Ok.cols_row {t : Tb} (h : t.Ok) : ∀ x ∈ t.cols, x.length = t.f0 + t.b0 ∧ Sg x := fun x hx => by
  have := row_colsS h.top_row x hx
  rw [h.top_len] at this
  exact this
theorem Tb.Ok.f1_le {t : Tb} (_ : t.Ok) : t.f1 ≤ t.s1 := firstL_le _ _ _
theorem Tb.Ok.b1_le {t : Tb} (_ : t.Ok) : t.b1 ≤ t.p1 := bestL_le _ _ _
theorem Tb.Ok.f0_le {t : Tb} (_ : t.Ok) : t.f0 ≤ t.s0 := firstL_le _ _ _
theorem Tb.Ok.b0_le {t : Tb} (_ : t.Ok) : t.b0 ≤ t.p0 := bestL_le _ _ _
theorem Tb.Ok.least {t : Tb} (h : t.Ok) : t.least.Ok := by
  have hc : ∀ x ∈ t.cols.take (t.f1 + t.b1), x.length = t.f0 + t.b0 ∧ Sg x := fun x hx => h.cols_row x (List.mem_of_mem_take hx)
  refine ⟨h.b0_pos, h.b1_pos, len_colsS _ _, fun x hx => ?_⟩
  have := row_colsS hc x hx
  rw [List.length_take, h.cols_len] at this
  refine ⟨this.1.trans ?_, this.2⟩
  have := h.f1_le
  have := h.b1_le
  show min (t.f1 + t.b1) _ = t.f1 + t.b1
  omega
def strD : PyData → Str | .str x => x | _ => Str.empty
def tabD (s p r : PyData) : Tb := ⟨(intD (itemD s 0)).toNat, (intD (itemD s 1)).toNat, (intD (itemD p 0)).toNat, (intD (itemD p 1)).toNat, (itemsD r).map strD⟩
/-- what the parts of a good table are -/
structure GoodT (s p r : PyData) (t : Tb) : Prop where
  eq : tabD s p r = t
  si : itemsD s = [.int t.s0, .int t.s1]
  pi : itemsD p = [.int t.p0, .int t.p1]
  ri : itemsD r = t.rows.map PyData.str
  sq : isSeqD s = true
  pq : isSeqD p = true
  rq : isSeqD r = true
  ok : t.Ok
theorem two_of {e : PyData} {pr : PyData → Bool} {lo : Int} (hpr : ∀ x, pr x = true → ∃ i : Int, x = .int i ∧ lo ≤ i) (h : (isSeqD e && (decide ((itemsD e).length = 2) && (itemsD e).all pr)) = true) : isSeqD e = true ∧ ∃ i j : Int, itemsD e = [.int i, .int j] ∧ lo ≤ i ∧ lo ≤ j := by
  rw [Bool.and_eq_true, Bool.and_eq_true] at h
  obtain ⟨h1, h2, h3⟩ := h
  refine ⟨h1, ?_⟩
  have h2 := of_decide_eq_true h2
  generalize itemsD e = es at h2 h3 ⊢
  match es, h2 with
  | [x, y], _ =>
    obtain ⟨i, rfl, hi⟩ := hpr x (List.all_eq_true.mp h3 x (by simp))
    obtain ⟨j, rfl, hj⟩ := hpr y (List.all_eq_true.mp h3 y (by simp))
    exact ⟨i, j, rfl, hi, hj⟩
theorem rows_of : ∀ {es : List PyData} {wide : Int}, es.all (isRowD wide) = true → es = (es.map strD).map PyData.str ∧ ∀ x ∈ es.map strD, (x.length : Int) = wide ∧ Sg x
  | [], _, _ => ⟨rfl, fun x hx => by cases hx⟩
  | e :: es, wide, h => by
    rw [List.all_cons, Bool.and_eq_true] at h
    obtain ⟨h1, h2⟩ := rows_of h.2
    cases e with
    | str z =>
      have hz : (decide ((z.length : Int) = wide) && (tlS z).all fun ch => decide (ch = 43) || decide (ch = 45)) = true := h.1
      rw [Bool.and_eq_true] at hz
      refine ⟨by rw [List.map_cons, List.map_cons, ← h1]; rfl, fun x hx => ?_⟩
      rcases List.mem_cons.mp hx with rfl | hx
      · refine ⟨of_decide_eq_true hz.1, fun c hc => ?_⟩
        have := List.all_eq_true.mp hz.2 c hc
        rcases Bool.or_eq_true_iff.mp this with q | q
        · exact .inl (of_decide_eq_true q)
        · exact .inr (of_decide_eq_true q)
      · exact h2 x hx
    | _ => cases h.1
theorem check_good {s p r : PyData} (h : checkR s p r = none) : GoodT s p r (tabD s p r) := by
  unfold checkR at h
  by_cases h1 : okS s = true
  · rw [if_pos h1] at h
    by_cases h2 : okP p = true
    · rw [if_pos h2] at h
      by_cases h3 : okR s p r = true
      · obtain ⟨sq, i, j, es, hi, hj⟩ := two_of (lo := 0) (fun x hx => by cases x <;> first | exact ⟨_, rfl, of_decide_eq_true hx⟩ | cases hx) h1
        obtain ⟨pq, k, l, ep, hk, hl⟩ := two_of (lo := 1) (fun x hx => by cases x <;> first | exact ⟨_, rfl, by have := of_decide_eq_true hx; omega⟩ | cases hx) h2
        obtain ⟨s0, rfl⟩ := Int.eq_ofNat_of_zero_le hi
        obtain ⟨s1, rfl⟩ := Int.eq_ofNat_of_zero_le hj
        obtain ⟨p0, rfl⟩ := Int.eq_ofNat_of_zero_le (Int.le_trans (by decide) hk)
        obtain ⟨p1, rfl⟩ := Int.eq_ofNat_of_zero_le (Int.le_trans (by decide) hl)
        have et : tabD s p r = ⟨s0, s1, p0, p1, (itemsD r).map strD⟩ := by
          unfold tabD itemD
          rw [es, ep]
          rfl
        have h3' : (isSeqD r && (decide (((itemsD r).length : Int) = (s0 : Int) + p0) && (itemsD r).all (isRowD ((s1 : Int) + p1)))) = true := by
          have := h3
          unfold okR isTableD itemD at this
          rw [es, ep] at this
          exact this
        rw [Bool.and_eq_true, Bool.and_eq_true] at h3'
        obtain ⟨rq, r2, r3⟩ := h3'
        have r2 := of_decide_eq_true r2
        obtain ⟨r4, r5⟩ := rows_of r3
        rw [et]
        refine ⟨et, es, ep, r4, sq, pq, rq, ⟨by show 0 < p0; omega, by show 0 < p1; omega, ?_, fun x hx => ?_⟩⟩
        · show ((itemsD r).map strD).length = s0 + p0
          rw [List.length_map]
          omega
        · have := r5 x hx
          exact ⟨by show x.length = s1 + p1; omega, this.2⟩
      · rw [if_neg h3] at h; cases h
    · rw [if_neg h2] at h; cases h
  · rw [if_neg h1] at h; cases h
/-! ### Crowds: its attributes -/
structure CrC (K : PySem.W.Frag) (mg : Str → Option Value) (C : Addr) : Prop where
  cl : Cls K C
  nS : NoAttr K C "starts"
  nP : NoAttr K C "periods"
  nR : NoAttr K C "rows"
  mgC : mg "Crowds" = some (.ref C)
def cf1 (s : V) : List (Str × V) := [("starts", s)]
def cf2 (s p : V) : List (Str × V) := [("starts", s), ("periods", p)]
def cf3 (s p r : V) : List (Str × V) := [("starts", s), ("periods", p), ("rows", r)]
theorem cput1 (s : V) : putF "starts" s [] = cf1 s := rfl
theorem cput2 (s p : V) : putF "periods" p (cf1 s) = cf2 s p := by
  show (if ("starts" : Str) = "periods" then _ else (("starts" : Str), s) :: putF "periods" p []) = _
  rw [if_neg (by decide +kernel)]; rfl
theorem cput3 (s p r : V) : putF "rows" r (cf2 s p) = cf3 s p r := by
  show (if ("starts" : Str) = "rows" then _ else (("starts" : Str), s) :: (if ("periods" : Str) = "rows" then _ else (("periods" : Str), p) :: putF "rows" r [])) = _
  rw [if_neg (by decide +kernel), if_neg (by decide +kernel)]; rfl
theorem cget_s (s p r : V) : (cf3 s p r).lookup ("starts" : Str) = some s := by simp [cf3, List.lookup]
theorem cget_p (s p r : V) : (cf3 s p r).lookup ("periods" : Str) = some p := by
  have h : (("periods" : Str) == "starts") = false := by decide +kernel
  simp [cf3, List.lookup, h]
theorem cget_r (s p r : V) : (cf3 s p r).lookup ("rows" : Str) = some r := by
  have h : (("rows" : Str) == "starts") = false := by decide +kernel
  have h2 : (("rows" : Str) == "periods") = false := by decide +kernel
  simp [cf3, List.lookup, h, h2]
/-- the set of a table, at x -/
def CrAt (C : Addr) (H : Hp) (x : Addr) (t : Tb) : Prop := ∃ (dx ts tp tr : Addr), H x = some (.ins C dx (cf3 (.ref ts) (.ref tp) (.ref tr))) ∧ H ts = some (.tup [.int t.s0, .int t.s1]) ∧ H tp = some (.tup [.int t.p0, .int t.p1]) ∧ H tr = some (.tup (t.rows.map V.str))
theorem CrAt.same {C : Addr} {H H' : Hp} {x : Addr} {t : Tb} (s : Same H H') (h : CrAt C H x t) : CrAt C H' x t := by
  obtain ⟨dx, ts, tp, tr, h1, h2, h3, h4⟩ := h
  exact ⟨dx, ts, tp, tr, s _ _ h1, s _ _ h2, s _ _ h3, s _ _ h4⟩
/-- all but x is kept -/
def Xo (x : Addr) (H H' : Hp) : Prop := ∀ a o, a ≠ x → H a = some o → H' a = some o
theorem Xo.of {x : Addr} {H H' : Hp} (h : Same H H') : Xo x H H' := fun a o _ e => h a o e
theorem Xo.trans {x : Addr} {H H1 H2 : Hp} (h : Xo x H H1) (g : Xo x H1 H2) : Xo x H H2 := fun a o n e => g a o n (h a o n e)
theorem Xo.put {x : Addr} {H : Hp} {o : HO} : Xo x H (upd H x o) := fun a u n e => by rw [upd_ne n]; exact e
def spInit (C CE : Addr) : Sp := fun vs H Q E => ∃ (x dx : Addr) (v1 v2 v3 : V) (s p r : PyData), vs = [.ref x, v1, v2, v3] ∧ H x = some (.ins C dx []) ∧ Dv H v1 s ∧ Dv H v2 p ∧ Dv H v3 r ∧
  (checkR s p r = none → ∀ H' : Hp, Xo x H H' → CrAt C H' x (tabD s p r).least → Q .non H') ∧
  (∀ word : Str, checkR s p r = some word → ∀ (d : Addr) (H' : Hp), Xo x H H' → H d = none → H' d = some (.xd [(("word" : Str), .str word)]) → E (.ref CE) (some d) H')
theorem DvAll.strs {H : Hp} : ∀ {vs : List V} {rows : List Str}, DvAll H vs (rows.map PyData.str) → vs = rows.map V.str ∧ ∀ x ∈ rows, x.length ≤ 1000
  | _, [], h => by cases h; exact ⟨rfl, fun x hx => by cases hx⟩
  | _, x :: rows, h => by
    cases h with
    | cons hx ht =>
      obtain ⟨h1, h2⟩ := DvAll.strs ht
      cases hx with
      | str _ hz hzl =>
        refine ⟨by rw [h1]; rfl, fun y hy => ?_⟩
        rcases List.mem_cons.mp hy with rfl | hy
        · exact hz
        · exact h2 y hy
section
variable {P : Program} {w : World} {K : PySem.W.Frag} {mg : Str → Option Value} {base : Heap} {C CE fE : Addr}
theorem sc_Crowds___init__ : FnScope ["self", "starts", "periods", "rows", "given", "first", "tall", "second", "wide", "columns"] ["self", "starts", "periods", "rows"] (defScope (inClass (topS 49) 0)) := ⟨rfl, rfl, rfl, by decide +kernel, rfl, by decide +kernel, by decide +kernel⟩
theorem ok_init {f fH fW fL : Addr} {fd fdH fdW fdL : FuncData} {k : Nat} (F : Fun K "__init__" "Crowds.__init__" (inClass (topS 49) 0) f fd) (T : Bt mg) (L : CrC K mg C)
    (FH : Fun K "checked" "checked" (topS 39) fH fdH) (bH : Binds K fdH ["starts", "periods", "rows"] []) (gH : mg "checked" = some (.ref fH)) (GH : FnOk P w K mg base (L2.CX P w) (k + 3) fH fdH ["starts", "periods", "rows"] (spChecked CE))
    (FW : Fun K "least_way" "least_way" (topS 40) fW fdW) (bW : Binds K fdW ["rows", "start", "period"] []) (gW : mg "least_way" = some (.ref fW))
    (FL : Fun K "columns_of" "columns_of" (topS 41) fL fdL) (bL : Binds K fdL ["rows"] []) (gL : mg "columns_of" = some (.ref fL)) :
    FnOk P w K mg base (L2.CX P w) (k + 4) f fd ["self", "starts", "periods", "rows"] (spInit C CE) := by
  have GW : FnOk P w K mg base CX0 (k + 3) fW fdW ["rows", "start", "period"] spLeast := ok_least FW T
  have GL : FnOk P w K mg base CX0 (k + 3) fL fdL ["rows"] (spCols K) := ok_cols FL T
  refine F.okX sc_Crowds___init__ (fun vs H Q E h => ?_) (fun cdv A outer s H vs Q E hr h => ?_)
  · obtain ⟨x, dx, v1, v2, v3, s, p, r, rfl, _⟩ := h
    rfl
  · obtain ⟨x, dx, v1, v2, v3, sd, pd, rd, rfl, hx, h1, h2, h3, yes, no⟩ := h
    refine ⟨_, (pss_cons (ps_set (i := 4) sc_Crowds___init__.nd rfl (by first | exact Or.inl rfl | exact Or.inr rfl) (pe_call GH hr (by rfl) gH FH.kp bH .nil (passes_call (takes_of rfl rfl rfl rfl) (W := fun cls d _ H => E cls d H) (fun _ _ _ _ h => h)) (pa_cons (pv 1) (pa_cons (pv 2) (pa_cons (pv 3) pa_nil)))))
  (pss_cons (ps_asg (PE.nox (pe_call GW hr (by rfl) gW FW.kp bW .nil pass0 (pa_cons (pv 4) (pa_cons (pe_ix (ixQK (K := K) rfl) (pv 1) pe_int (fun _ _ => rfl)) (pa_cons (pe_ix (ixQK (K := K) rfl) (pv 2) pe_int (fun _ _ => rfl)) pa_nil))))) (pg_tup rfl (pgs_cons (pg_name (i := 5) sc_Crowds___init__.nd rfl (by first | exact Or.inl rfl | exact Or.inr rfl)) (pgs_cons (pg_name (i := 6) sc_Crowds___init__.nd rfl (by first | exact Or.inl rfl | exact Or.inr rfl)) (pgs_cons (pg_name (i := 4) sc_Crowds___init__.nd rfl (by first | exact Or.inl rfl | exact Or.inr rfl)) pgs_nil)))))
  (pss_cons (ps_asg (PE.nox (pe_call GW hr (by rfl) gW FW.kp bW .nil pass0 (pa_cons (pe_call GL hr (by rfl) gL FL.kp bL .nil pass0 (pa_cons (pv 4) pa_nil)) (pa_cons (pe_ix (ixQK (K := K) rfl) (pv 1) pe_int (fun _ _ => rfl)) (pa_cons (pe_ix (ixQK (K := K) rfl) (pv 2) pe_int (fun _ _ => rfl)) pa_nil))))) (pg_tup rfl (pgs_cons (pg_name (i := 7) sc_Crowds___init__.nd rfl (by first | exact Or.inl rfl | exact Or.inr rfl)) (pgs_cons (pg_name (i := 8) sc_Crowds___init__.nd rfl (by first | exact Or.inl rfl | exact Or.inr rfl)) (pgs_cons (pg_name (i := 9) sc_Crowds___init__.nd rfl (by first | exact Or.inl rfl | exact Or.inr rfl)) pgs_nil)))))
  (pss_cons (ps_fld (pv 0) (PE.nox (pe_tup (pa_cons (pv 5) (pa_cons (pv 7) pa_nil)))) rfl)
  (pss_cons (ps_fld (pv 0) (PE.nox (pe_tup (pa_cons (pv 6) (pa_cons (pv 8) pa_nil)))) rfl)
  (pss_one (ps_fld (pv 0) (PE.nox (pe_callTy (tupK (K := K) rfl) (by rfl) T.m_tuple (by decide +kernel) (pa_cons (pe_call GL hr (by rfl) gL FL.kp bL .nil pass0 (pa_cons (pv 9) pa_nil)) pa_nil))) rfl))))))), ?_⟩
    refine ⟨_, rfl, _, rfl, _, rfl, v1, v2, v3, sd, pd, rd, rfl, h1, h2, h3, fun hc l xs H1 s1 hall hl => ?_, fun word hw d H1 s1 nd hd => no word hw d H1 (Xo.of s1) nd hd⟩
    have yes' := yes hc
    have G := check_good hc
    generalize tabD sd pd rd = t at G yes'
    obtain ⟨a1, xs1, rfl, _, hsq1, hall1⟩ := h1.seq (K := K) G.sq
    obtain ⟨a2, xs2, rfl, _, hsq2, hall2⟩ := h2.seq (K := K) G.pq
    have hrl : xs.length ≤ 1000 := by
      cases h3 with
      | lst h hl l => exact (hall.len.trans l.len.symm) ▸ hl
      | tup h hl l => exact (hall.len.trans l.len.symm) ▸ hl
      | _ => cases G.rq
    have e1 : xs1 = [.int t.s0, .int t.s1] := by
      rw [G.si] at hall1
      cases hall1 with
      | cons hx ht =>
        cases hx
        cases ht with
        | cons hy hn => cases hy; cases hn; rfl
    have e2 : xs2 = [.int t.p0, .int t.p1] := by
      rw [G.pi] at hall2
      cases hall2 with
      | cons hx ht =>
        cases hx
        cases ht with
        | cons hy hn => cases hy; cases hn; rfl
    subst e1 e2
    rw [G.ri] at hall
    obtain ⟨e3, hw3⟩ := hall.strs
    subst e3
    have O := G.ok
    have rl : t.rows.length ≤ 1000 := by rw [List.length_map] at hrl; exact hrl
    have wl : t.s1 + t.p1 ≤ 1000 := by
      have : 0 < t.rows.length := by rw [O.len]; have := O.h0; omega
      have hm : t.rows[0] ∈ t.rows := List.getElem_mem this
      rw [← (O.row _ hm).1]
      exact hw3 _ hm
    have b0 := O.b0_pos
    have b1 := O.b1_pos
    have f0l := O.f0_le
    have b0l := O.b0_le
    have f1l := O.f1_le
    have b1l := O.b1_le
    have rlen := O.len
    -- the least way of the rows
    refine ⟨_, rfl, _, rfl, a1, _, 0, _, rfl, rfl, hsq1 H1 s1, atI_nat (j := 0) rfl, _, rfl, a2, _, 0, _, rfl, rfl, hsq2 H1 s1, atI_nat (j := 0) rfl, ?_⟩
    refine ⟨l, t.rows, t.s0, t.p0, rfl, hl, O.len, O.h0, by omega, fun z hz => sg_lay (O.row z hz).2, fun t1 l1 H2 s2 ht1 hl1 => ?_⟩
    have ht1' : H2 t1 = some (.tup [.int t.f0, .int t.b0, .ref l1]) := ht1
    refine ⟨t1, _, rfl, SqT.of ht1', rfl, _, _, rfl, _, _, rfl, _, _, rfl, rfl, ?_⟩
    have hl1' : H2 l1 = some (.lst (t.top.map V.str)) := hl1
    have s02 := s1.trans s2
    -- the columns
    refine ⟨_, rfl, l1, t.top, t.s1 + t.p1, rfl, .inr (SqL.of hl1'), ?_, ?_, wl, fun z hz => (O.top_row z hz).1, fun l2 H3 s3 nl2 hl2 => ?_⟩
    · intro z
      have := O.top_len
      rw [z] at this
      simp at this
      omega
    · rw [O.top_len]; omega
    have hl2' : H3 l2 = some (.lst (t.cols.map V.str)) := hl2
    have s03 := s02.trans s3
    refine ⟨_, rfl, a1, _, 1, _, rfl, rfl, hsq1 H3 s03, atI_nat (j := 1) rfl, _, rfl, a2, _, 1, _, rfl, rfl, hsq2 H3 s03, atI_nat (j := 1) rfl, ?_⟩
    refine ⟨l2, t.cols, t.s1, t.p1, rfl, hl2', O.cols_len, O.h1, wl, fun z hz => sg_lay (O.cols_row z hz).2, fun t2 l3 H4 s4 ht2 hl3 => ?_⟩
    have ht2' : H4 t2 = some (.tup [.int t.f1, .int t.b1, .ref l3]) := ht2
    refine ⟨t2, _, rfl, SqT.of ht2', rfl, _, _, rfl, _, _, rfl, _, _, rfl, rfl, ?_⟩
    have hl3' : H4 l3 = some (.lst ((t.cols.take (t.f1 + t.b1)).map V.str)) := hl3
    have s04 := s03.trans s4
    have hx4 := s04 _ _ hx
    -- self.starts
    refine ⟨_, rfl, _, rfl, by show 2 ≤ sizeLine; decide, fun ts nts => ?_⟩
    have s5 := same_new (o := .tup [.int t.f0, .int t.f1]) nts
    refine ⟨_, rfl, x, C, dx, [], rfl, s5 _ _ hx4, L.cl, L.nS, by decide, ?_⟩
    rw [cput1]
    have nxs : ts ≠ x := fun z => by rw [z, hx4] at nts; cases nts
    have x5 : Xo x H _ := (Xo.of (s04.trans s5)).trans (Xo.put (o := .ins C dx (cf1 (.ref ts))))
    have hx5 := upd_same (H := upd H4 ts (.tup [.int t.f0, .int t.f1])) (a := x) (o := .ins C dx (cf1 (.ref ts)))
    have hts5 : (upd (upd H4 ts (.tup [.int t.f0, .int t.f1])) x (.ins C dx (cf1 (.ref ts)))) ts = some (.tup [.int t.f0, .int t.f1]) := by rw [upd_ne nxs, upd_same]
    have nl3x : l3 ≠ x := ne_of hl3' hx4 (by intro z; cases z)
    have hl35 : (upd (upd H4 ts (.tup [.int t.f0, .int t.f1])) x (.ins C dx (cf1 (.ref ts)))) l3 = some (.lst ((t.cols.take (t.f1 + t.b1)).map V.str)) := by rw [upd_ne nl3x]; exact s5 _ _ hl3'
    generalize upd (upd H4 ts (.tup [.int t.f0, .int t.f1])) x (.ins C dx (cf1 (.ref ts))) = H5 at x5 hx5 hts5 hl35 ⊢
    -- self.periods
    refine ⟨_, rfl, _, rfl, by show 2 ≤ sizeLine; decide, fun tp ntp => ?_⟩
    have s6 := same_new (o := .tup [.int t.b0, .int t.b1]) ntp
    refine ⟨_, rfl, x, C, dx, cf1 (.ref ts), rfl, s6 _ _ hx5, L.cl, L.nP, by show 1 < 1000; decide, ?_⟩
    rw [cput2]
    have nxp : tp ≠ x := fun z => by rw [z, hx5] at ntp; cases ntp
    have x6 : Xo x H _ := (x5.trans (Xo.of s6)).trans (Xo.put (o := .ins C dx (cf2 (.ref ts) (.ref tp))))
    have hx6 := upd_same (H := upd H5 tp (.tup [.int t.b0, .int t.b1])) (a := x) (o := .ins C dx (cf2 (.ref ts) (.ref tp)))
    have htp6 : (upd (upd H5 tp (.tup [.int t.b0, .int t.b1])) x (.ins C dx (cf2 (.ref ts) (.ref tp)))) tp = some (.tup [.int t.b0, .int t.b1]) := by rw [upd_ne nxp, upd_same]
    have hts6 : (upd (upd H5 tp (.tup [.int t.b0, .int t.b1])) x (.ins C dx (cf2 (.ref ts) (.ref tp)))) ts = some (.tup [.int t.f0, .int t.f1]) := by rw [upd_ne nxs]; exact s6 _ _ hts5
    have hl36 : (upd (upd H5 tp (.tup [.int t.b0, .int t.b1])) x (.ins C dx (cf2 (.ref ts) (.ref tp)))) l3 = some (.lst ((t.cols.take (t.f1 + t.b1)).map V.str)) := by rw [upd_ne nl3x]; exact s6 _ _ hl35
    generalize upd (upd H5 tp (.tup [.int t.b0, .int t.b1])) x (.ins C dx (cf2 (.ref ts) (.ref tp))) = H6 at x6 hx6 htp6 hts6 hl36 ⊢
    -- self.rows
    have clen : (t.cols.take (t.f1 + t.b1)).length = t.f1 + t.b1 := by rw [List.length_take, O.cols_len]; omega
    refine ⟨_, rfl, l3, t.cols.take (t.f1 + t.b1), t.f0 + t.b0, rfl, .inr (SqL.of hl36), ?_, by rw [clen]; omega, by omega, fun z hz => (O.cols_row z (List.mem_of_mem_take hz)).1, fun l4 H7 s7 nl4 hl4 => ?_⟩
    · intro z
      rw [z] at clen
      simp at clen
      omega
    refine ⟨l4, _, rfl, .inl ⟨SqL.of hl4, fun tr ntr => ?_⟩⟩
    have s8 := same_new (o := .tup ((colsS (t.cols.take (t.f1 + t.b1)) (t.f0 + t.b0)).map V.str)) ntr
    have hx7 := s8 _ _ (s7 _ _ hx6)
    have nxr : tr ≠ x := fun z => by rw [z, s7 _ _ hx6] at ntr; cases ntr
    refine ⟨_, rfl, x, C, dx, cf2 (.ref ts) (.ref tp), rfl, hx7, L.cl, L.nR, by show 2 < 1000; decide, ?_⟩
    rw [cput3]
    refine yes' _ (((x6.trans (Xo.of s7)).trans (Xo.of s8)).trans Xo.put) ⟨dx, ts, tp, tr, upd_same, ?_, ?_, ?_⟩
    · rw [upd_ne nxs]; exact s8 _ _ (s7 _ _ hts6)
    · rw [upd_ne nxp]; exact s8 _ _ (s7 _ _ htp6)
    · rw [upd_ne nxr]; exact upd_same
end
end FH

set_option Elab.async false
set_option linter.all false
set_option maxRecDepth 100000
set_option maxHeartbeats 1000000
namespace FH
open PySem L2
open Pr
/-! ### the least way is the least period and start -/
theorem perB_iff {rows : List Str} {s p sz : Nat} (hp : 0 < p) (hl : rows.length = s + p) (h0 : 0 < sz) : perB ((rows.drop s).take p) p sz = true ↔ p % sz = 0 ∧ Per (seqR rows s p) s sz := by
  unfold perB
  rw [Bool.and_eq_true]
  constructor
  · rintro ⟨h1, h2⟩
    exact ⟨of_decide_eq_true h1, (per_iff hp hl h0 (of_decide_eq_true h1)).mp (of_decide_eq_true h2)⟩
  · rintro ⟨h1, h2⟩
    exact ⟨decide_eq_true h1, decide_eq_true ((per_iff hp hl h0 h1).mpr h2)⟩
theorem bestW_inv {rows : List Str} {s p : Nat} (hp : 0 < p) (hl : rows.length = s + p) : ∀ i, i ≤ p →
    perB ((rows.drop s).take p) p (bestW ((rows.drop s).take p) p i) = true ∧ ∀ sz, p - i < sz → sz ≤ p → perB ((rows.drop s).take p) p sz = true → bestW ((rows.drop s).take p) p i ≤ sz
  | 0, _ => ⟨(perB_iff hp hl hp).mpr ⟨Nat.mod_self p, seqR_per rows s p⟩, fun sz h1 h2 _ => by
      show p ≤ sz
      omega⟩
  | i + 1, hi => by
    obtain ⟨h1, h2⟩ := bestW_inv hp hl i (by omega)
    unfold bestW
    by_cases h : perB ((rows.drop s).take p) p (p - i) = true
    · rw [if_pos h]
      exact ⟨h, fun sz h3 h4 h5 => by omega⟩
    · rw [if_neg h]
      refine ⟨h1, fun sz h3 h4 h5 => h2 sz ?_ h4 h5⟩
      have : sz ≠ p - i := fun z => h (z ▸ h5)
      omega
theorem firstW_spec (rows : List Str) (best : Nat) : ∀ n, (∀ m, firstW rows best n ≤ m → m < n → rows[m]? = rows[m + best]?) ∧ (0 < firstW rows best n → rows[firstW rows best n - 1]? ≠ rows[firstW rows best n - 1 + best]?)
  | 0 => ⟨fun m _ h => by omega, fun h => by have : firstW rows best 0 = 0 := rfl; omega⟩
  | n + 1 => by
    obtain ⟨h1, h2⟩ := firstW_spec rows best n
    unfold firstW
    by_cases h : rows[n]? = rows[n + best]?
    · rw [if_pos h]
      refine ⟨fun m h3 h4 => ?_, h2⟩
      by_cases e : m = n
      · subst e; exact h
      · exact h1 m h3 (by omega)
    · rw [if_neg h]
      exact ⟨fun m h3 h4 => by omega, fun _ => by rw [show n + 1 - 1 = n by omega]; exact h⟩
theorem least_lst {rows : List Str} {s p : Nat} (hp : 0 < p) (hl : rows.length = s + p) : Lst (seqR rows s p) (firstL rows s p) (bestL rows s p) := by
  obtain ⟨h1, h2⟩ := bestW_inv hp hl p (Nat.le_refl _)
  have b0 := bestL_pos rows s p hp
  have bl := bestL_le rows s p
  have hb := (perB_iff hp hl b0).mp h1
  obtain ⟨f1, f2⟩ := firstW_spec rows (bestL rows s p) s
  have fl := firstL_le rows s p
  change ∀ m, firstL rows s p ≤ m → m < s → rows[m]? = rows[m + bestL rows s p]? at f1
  change 0 < firstL rows s p → rows[firstL rows s p - 1]? ≠ rows[firstL rows s p - 1 + bestL rows s p]? at f2
  refine ⟨b0, fun n hn => ?_, fun a' q' hq' k => ?_, fun a' k => ?_⟩
  · by_cases hs : s ≤ n
    · exact hb.2 n hs
    · have := f1 n hn (by omega)
      unfold seqR
      rw [spot_id (by omega), spot_id (by omega)]
      exact this.symm
  · have k2 := Per.of hp (seqR_per rows s p) k
    have kg := Per.gcd q' p k2 (seqR_per rows s p)
    have gd : Nat.gcd q' p ∣ p := Nat.gcd_dvd_right _ _
    have g0 : 0 < Nat.gcd q' p := Nat.gcd_pos_of_pos_right _ hp
    have gl : Nat.gcd q' p ≤ p := Nat.le_of_dvd hp gd
    have gq : Nat.gcd q' p ≤ q' := Nat.le_of_dvd hq' (Nat.gcd_dvd_left _ _)
    have := h2 (Nat.gcd q' p) (by omega) gl ((perB_iff hp hl g0).mpr ⟨Nat.mod_eq_zero_of_dvd gd, kg⟩)
    exact Nat.le_trans this gq
  · by_cases hc : firstL rows s p ≤ a'
    · exact hc
    · exfalso
      refine f2 (by omega) ?_
      have := k (firstL rows s p - 1) (by omega)
      unfold seqR at this
      rw [spot_id (by omega), spot_id (by omega)] at this
      exact this.symm
/-! ### the set of a table -/
def chAt (x : Str) (i : Nat) : Nat := x.cps.getD i 0
def inB (x : Str) (i : Nat) : Bool := decide (chAt x i = 43)
def Tb.row (t : Tb) (k : Nat) : Str := t.rows.getD (spot k t.s0 t.p0) Str.empty
def Tb.has (t : Tb) (k l : Nat) : Bool := inB (t.row k) (spot l t.s1 t.p1)
theorem ch_sg {x : Str} (h : Sg x) {i : Nat} (hi : i < x.length) : chAt x i = if inB x i = true then 43 else 45 := by
  have hs : i < x.cps.size := hi
  have hm : chAt x i ∈ tlS x := by
    unfold chAt tlS
    rw [Array.getD_eq_getD_getElem?, Array.getElem?_eq_getElem hs]
    simp
  unfold inB
  rcases h _ hm with e | e
  · rw [e]; rfl
  · rw [e]; rfl
theorem str_ext {x y : Str} (hl : x.length = y.length) (h : ∀ i, i < x.length → chAt x i = chAt y i) : x = y := by
  cases x with | mk a =>
  cases y with | mk b =>
  have ha : a.size = b.size := hl
  have : a = b := Array.ext ha fun i h1 h2 => by
    have := h i h1
    unfold chAt at this
    rw [Array.getD_eq_getD_getElem?, Array.getD_eq_getD_getElem?, Array.getElem?_eq_getElem h1, Array.getElem?_eq_getElem h2] at this
    simpa using this
  rw [this]
theorem sg_ext {x y : Str} (hx : Sg x) (hy : Sg y) (hl : x.length = y.length) (h : ∀ i, i < x.length → inB x i = inB y i) : x = y :=
  str_ext hl fun i hi => by rw [ch_sg hx hi, ch_sg hy (hl ▸ hi), h i hi]
theorem ch_colS (xs : List Str) (i j : Nat) : chAt (colS xs i) j = (xs[j]?.map fun x => chAt x i).getD 0 := by
  have e := tl_colS xs i
  unfold chAt
  rw [Array.getD_eq_getD_getElem?, ← Array.getElem?_toList]
  show ((tlS (colS xs i))[j]?).getD 0 = _
  rw [e, List.getElem?_map]
  try rfl
section
variable {t : Tb}
theorem Tb.row_mem (h : t.Ok) (k : Nat) : t.rows[spot k t.s0 t.p0]? = some (t.row k) ∧ t.row k ∈ t.rows := by
  have hs : spot k t.s0 t.p0 < t.rows.length := by rw [h.len]; exact spot_lt h.h0
  have e : t.row k = t.rows[spot k t.s0 t.p0] := by unfold Tb.row; rw [List.getD_eq_getElem?_getD, List.getElem?_eq_getElem hs]; rfl
  rw [e]
  exact ⟨List.getElem?_eq_getElem hs, List.getElem_mem hs⟩
theorem Tb.row_ok (h : t.Ok) (k : Nat) : (t.row k).length = t.s1 + t.p1 ∧ Sg (t.row k) := h.row _ (t.row_mem h k).2
theorem Tb.has_row (h : t.Ok) (n m : Nat) : seqR t.rows t.s0 t.p0 n = seqR t.rows t.s0 t.p0 m ↔ t.has n = t.has m := by
  unfold seqR
  rw [(t.row_mem h n).1, (t.row_mem h m).1]
  constructor
  · intro e
    have e := Option.some.inj e
    funext l
    unfold Tb.has
    rw [e]
  · intro e
    refine congrArg some (sg_ext (t.row_ok h n).2 (t.row_ok h m).2 ((t.row_ok h n).1.trans (t.row_ok h m).1.symm) fun i hi => ?_)
    have := congrFun e i
    unfold Tb.has at this
    rw [(t.row_ok h n).1] at hi
    rw [spot_id hi] at this
    exact this
theorem Tb.lst_rows (h : t.Ok) : Lst t.has t.f0 t.b0 := (least_lst h.h0 h.len).eqv (t.has_row h)
theorem Tb.cols_at (h : t.Ok) {j : Nat} (hj : j < t.s1 + t.p1) : t.cols[j]? = some (colS t.top j) := by
  unfold Tb.cols colsS
  rw [List.getElem?_map, List.getElem?_range hj]
  rfl
theorem Tb.top_at (h : t.Ok) {i : Nat} (hi : i < t.f0 + t.b0) : t.top[i]? = some (t.row i) := by
  have h1 := h.f0_le
  have h2 := h.b0_le
  unfold Tb.top
  rw [List.getElem?_take, if_pos hi, ← (t.row_mem h i).1, spot_id (by omega)]
theorem Tb.col_ch (h : t.Ok) {i j : Nat} (hi : i < t.f0 + t.b0) : inB (colS t.top j) i = inB (t.row i) j := by
  unfold inB
  rw [ch_colS, t.top_at h hi]
  rfl
theorem Tb.has_col (h : t.Ok) (n m : Nat) : seqR t.cols t.s1 t.p1 n = seqR t.cols t.s1 t.p1 m ↔ (fun k => t.has k n) = (fun k => t.has k m) := by
  unfold seqR
  have sn := spot_lt (n := n) (s := t.s1) h.h1
  have sm := spot_lt (n := m) (s := t.s1) h.h1
  rw [t.cols_at h sn, t.cols_at h sm]
  constructor
  · intro e
    have e := Option.some.inj e
    funext k
    have L := t.lst_rows h
    have hk := spot_lt (n := k) (s := t.f0) L.pos
    have e1 := congrFun (L.per.spot k) n
    have e2 := congrFun (L.per.spot k) m
    rw [← e1, ← e2]
    unfold Tb.has
    rw [← t.col_ch h hk, ← t.col_ch h hk, e]
  · intro e
    have hc := fun j => row_colsS h.top_row (colS t.top j)
    have r1 := hc (spot n t.s1 t.p1) (List.mem_map.mpr ⟨_, List.mem_range.mpr sn, rfl⟩)
    have r2 := hc (spot m t.s1 t.p1) (List.mem_map.mpr ⟨_, List.mem_range.mpr sm, rfl⟩)
    refine congrArg some (sg_ext r1.2 r2.2 (r1.1.trans r2.1.symm) fun i hi => ?_)
    rw [r1.1, h.top_len] at hi
    rw [t.col_ch h hi, t.col_ch h hi]
    exact congrFun e i
theorem Tb.lst_cols (h : t.Ok) : Lst (fun l k => t.has k l) t.f1 t.b1 := (least_lst h.h1 h.cols_len).eqv (t.has_col h)
/-- a row of signs -/
def sgnS (bs : List Bool) : Str := ⟨(bs.map fun b => if b = true then 43 else 45).toArray⟩
theorem len_sgn (bs : List Bool) : (sgnS bs).length = bs.length := by
  show (List.toArray _).size = _
  simp
theorem sg_sgn (bs : List Bool) : Sg (sgnS bs) := by
  intro c hc
  have hc' : c ∈ bs.map fun b => if b = true then 43 else 45 := by simpa [sgnS, tlS] using hc
  obtain ⟨b, _, rfl⟩ := List.mem_map.mp hc'
  cases b
  · exact .inr rfl
  · exact .inl rfl
theorem in_sgn {bs : List Bool} {i : Nat} : inB (sgnS bs) i = bs.getD i false := by
  unfold inB chAt sgnS
  rw [Array.getD_eq_getD_getElem?, List.getElem?_toArray, List.getElem?_map, List.getD_eq_getElem?_getD]
  cases bs[i]? with
  | none => rfl
  | some b => cases b <;> rfl
def canR (h : Nat → Nat → Bool) (tall wide : Nat) : List Str := (List.range tall).map fun k => sgnS ((List.range wide).map fun l => h k l)
theorem Tb.least_rows (h : t.Ok) : t.least.rows = canR t.has (t.f0 + t.b0) (t.f1 + t.b1) := by
  show colsS (t.cols.take (t.f1 + t.b1)) (t.f0 + t.b0) = _
  unfold colsS canR
  refine List.map_congr_left fun i hi => ?_
  have hi := List.mem_range.mp hi
  have h1 := h.f1_le
  have h2 := h.b1_le
  have cl : (t.cols.take (t.f1 + t.b1)).length = t.f1 + t.b1 := by rw [List.length_take, h.cols_len]; omega
  have sg : Sg (colS (t.cols.take (t.f1 + t.b1)) i) := sg_colS (m := t.f0 + t.b0) (fun x hx => h.cols_row x (List.mem_of_mem_take hx)) hi
  refine sg_ext sg (sg_sgn _) ?_ fun j hj => ?_
  · rw [len_colS, cl, len_sgn, List.length_map, List.length_range]
  · rw [len_colS, cl] at hj
    rw [in_sgn, List.getD_eq_getElem?_getD, List.getElem?_map, List.getElem?_range hj]
    show _ = t.has i j
    unfold inB
    rw [ch_colS, List.getElem?_take, if_pos hj, t.cols_at h (by omega)]
    show decide (chAt (colS t.top j) i = 43) = _
    have := t.col_ch h (j := j) hi
    unfold inB at this
    rw [this]
    unfold Tb.has
    rw [spot_id (by omega)]
    rfl
theorem Tb.has_least (h : t.Ok) (k l : Nat) : t.least.has k l = t.has k l := by
  have hL := h.least
  have LR := t.lst_rows h
  have LC := t.lst_cols h
  have hk := spot_lt (n := k) (s := t.f0) LR.pos
  have hl := spot_lt (n := l) (s := t.f1) LC.pos
  have e0 : t.least.rows[spot k t.f0 t.b0]? = some (t.least.row k) := (t.least.row_mem hL k).1
  rw [t.least_rows h] at e0
  unfold canR at e0
  rw [List.getElem?_map, List.getElem?_range hk] at e0
  have e0 := Option.some.inj e0
  show inB (t.least.row k) (spot l t.f1 t.b1) = _
  rw [← e0, in_sgn, List.getD_eq_getElem?_getD, List.getElem?_map, List.getElem?_range hl]
  show t.has (spot k t.f0 t.b0) (spot l t.f1 t.b1) = t.has k l
  rw [congrFun (LC.per.spot l) (spot k t.f0 t.b0)]
  exact congrFun (LR.per.spot k) l
theorem Tb.least_eq {u : Tb} (h : t.Ok) (g : u.Ok) (e : ∀ k l, t.has k l = u.has k l) : t.least = u.least := by
  have ef : t.has = u.has := by funext k l; exact e k l
  have L1 := t.lst_rows h
  have L2 := u.lst_rows g
  rw [ef] at L1
  obtain ⟨e1, e2⟩ := L1.uniq L2
  have C1 := t.lst_cols h
  have C2 := u.lst_cols g
  rw [ef] at C1
  obtain ⟨e3, e4⟩ := C1.uniq C2
  have r1 := t.least_rows h
  have r2 := u.least_rows g
  rw [ef, e1, e2, e3, e4, ← r2] at r1
  have : t.least = ⟨t.f0, t.f1, t.b0, t.b1, t.least.rows⟩ := rfl
  rw [this, e1, e2, e3, e4, r1]
  rfl
theorem Tb.has_of_least {u : Tb} (h : t.Ok) (g : u.Ok) (e : t.least = u.least) (k l : Nat) : t.has k l = u.has k l := by
  rw [← t.has_least h, ← u.has_least g, e]
end
end FH

set_option Elab.async false
set_option linter.all false
set_option maxRecDepth 100000
set_option maxHeartbeats 2000000
namespace L2
open PySem PySem.Spec PyProof.Rows ZN
section
variable {prog : Program} {w : World} {A : Around} {E : Value → Shared → Prop} {s : Shared}
theorem letGo_z {elts : List Expr} {kk : Nat} {tpos : Pos} {z TI TO a : Addr} {f0 f1 : Value} {Q : Unit → Shared → Prop} (hz : IsZ s.heap z TI TO f0 f1)
    (h : ∀ h' g0, (g0 = f0 ∨ g0 = .none) → IsZ h' z TI TO g0 f1 → Heap.SameBut z s.heap h' → Q () { s with heap := h' }) : wpAny (model prog w) A (letOwnedTupleGo (.Tuple elts kk tpos) (.ref z) (.ref a)) Q E s := by
  unfold letOwnedTupleGo
  refine wpAny_bind (wpAny_load hz ?_)
  show wpAny _ _ (if (["enumerate", "zip", "dict_itemiterator", "dict_reverseitemiterator", "odict_iterator", "itertools.zip_longest", "itertools.pairwise"].contains "zip" &&
      (#[f0, f1, .bool false, .ref TI, .ref TO] : Array Value)[0]? == some (rawInt a)) = true then _ else _) Q E s
  split
  · refine wpAny_bind (wpAny_rule ?_)
    show wpAny _ _ (setField (.ref z) 0 .none) Q E s
    exact wpAny_setField_rec hz (by simp) fun h' hz' hs' => h h' .none (.inr rfl) hz' hs'
  · exact wpAny_pure (h s.heap f0 (.inl rfl) hz (.refl ..))
end
theorem turn_zipS2 {P : Program} {w : World} {K : PySem.W.Frag} {elts : List Expr} {kk : Nat} {tpos : Pos} {z TI TO : Addr} {R : List Rw} {m : Nat} (hR : R ≠ []) (hl : R.length ≤ 1000) (hm : ∀ r ∈ R, r.x.cps.size = m) (D : Ap z TI TO R) :
    Turn P w K (.Tuple elts kk tpos) (ItS (R.map (·.x)) m) (z :: TI :: TO :: R.map (·.it)) z (ZTn z TI TO R) where
  mem := by simp
  obj := fun i h st c hc => by
    obtain ⟨f0, f1, os, hz, _, hTI, hTO, _, hs⟩ := st
    rcases mem_fp hc with rfl | rfl | rfl | ⟨r, hr, rfl⟩
    · exact ⟨_, hz, fun v q => nomatch q⟩
    · exact ⟨_, hTI, fun v q => nomatch q⟩
    · exact ⟨_, hTO, fun v q => nomatch q⟩
    · obtain ⟨_, o, e, _, d⟩ := hs r hr
      exact ⟨o, e, fun v q => by rw [d] at q; cases q⟩
  keep := fun i h h' st k => by
    obtain ⟨f0, f1, os, hz, hf, hTI, hTO, ho, hs⟩ := st
    exact ⟨f0, f1, os, k z (by simp) _ hz, hf, k TI (by simp) _ hTI, k TO (by simp) _ hTO, ho, fun r hr => (hs r hr).keep fun o e => k r.it (by simp; exact .inr (.inr (.inr ⟨r, hr, rfl⟩))) o e⟩
  item := by
    intro X hP hw hK hc i pins s σ H E I hf st hg
    subst hP hw hK
    obtain ⟨f0, f1, os, hz, hff, hTI, hTO, ho, hs⟩ := st
    have hzl : z < s.heap.objs.size := Heap.lt_size hz
    refine pyNext_item hR D hz hff hTI hTO ho hl hs (fun r hr => by rw [hm r hr]; exact hg) fun us h' tk g0 g1 os' cs z' gf TO' lo' st' tN sz' kp => ?_
    refine ⟨_, rfl, letGo_z z' fun h2 k0 hk0 z2 sb => ?_⟩
    have rv := cs_vals cs
    have tN2 : IsT h2 s.heap.objs.size us := (sb.2 _ (Nat.ne_of_gt hzl)).trans tN
    have new : ObjOk X.prog X.w (upd H s.heap.objs.size (.tup (colV (R.map (·.x)) i))) h2 s.heap.objs.size (.tup (colV (R.map (·.x)) i)) :=
      ⟨by unfold colV; rw [List.length_map, List.length_map]; exact Nat.le_trans hl (by decide), us, rv, ⟨_, tN2, rfl, _, rfl⟩⟩
    have I1 : Inv X pins σ (upd H s.heap.objs.size (.tup (colV (R.map (·.x)) i))) { s with heap := h2, toks := tk } :=
      I.turnedNew (t' := tk) (ch := z :: TI :: TO :: R.map (·.it)) (fun c o hb q => (sb.2 c (fun e => hb (by simp [e]))).trans (kp c o (fun e => hb (by simp [e])) (fun e => hb (by simp [e])) (fun r hr e => hb (by simp; exact .inr (.inr (.inr ⟨r, hr, e.symm⟩)))) q)) hf (Nat.le_refl _) new
    refine ⟨.ref s.heap.objs.size, _, I1, rfl, ⟨_, rfl, I.hok.fresh (Nat.le_refl _), rfl⟩, ⟨k0, g1, os', z2, ?_, ?_, (sb.2 _ D.zTO.symm).trans TO', lo', fun r hr => (st' r hr).keep fun o e => (sb.2 _ (D.iz r hr)).trans e⟩, fun c hcm => ?_⟩
    · rcases hk0 with rfl | rfl
      · exact gf
      · exact .inl rfl
    · exact (sb.2 _ D.zTI.symm).trans (kp _ _ D.zTI.symm D.TITO (fun r hr => (D.iTI r hr).symm) hTI)
    · have hlt : c < s.heap.objs.size := by
        rcases mem_fp hcm with rfl | rfl | rfl | ⟨r, hr, rfl⟩
        · exact hzl
        · exact Heap.lt_size hTI
        · exact Heap.lt_size hTO
        · obtain ⟨_, o, e, _⟩ := hs r hr
          exact Heap.lt_size e
      rw [upd_ne (Nat.ne_of_lt hlt)]
      exact (hf c hcm).1
  done := by
    intro X hP hw hK hc i pins s σ H E I hf st hg
    subst hP hw hK
    obtain ⟨f0, f1, os, hz, hff, hTI, hTO, ho, hs⟩ := st
    cases R with
    | nil => exact absurd rfl hR
    | cons r R =>
      refine pyNext_end (I.ok.hd hc) D hz hff hTI hTO (hs r (by simp)) (by rw [hm r (by simp)]; exact hg) fun h' hk => ⟨rfl, ?_⟩
      exact I.turnedL (t' := s.toks) (ch := z :: TI :: TO :: (r :: R).map (·.it)) (fun c o hb q => hk c o (fun e => hb (by simp [e])) (fun e => hb (by simp [e])) (fun e => hb (by simp [e])) q) hf
  self := fun A i s Q E st h => by
    obtain ⟨f0, f1, os, hz, _⟩ := st
    have hT : s.TypeIs (.ref z) "zip" := ⟨_, hz, rfl⟩
    refine wpAny_pyIter_slot hT F.slot_zip_iter (wpAny_call_entry F.slot_zip_iter hT F.entry_zip_iter ?_ (F.args_zip_iter_1 _))
    show wpAny _ _ (ret (.ref z)) _ _ s
    exact wpAny_pure ⟨_, rfl, "zip", _, hT, F.slot_zip_next.lookup, h⟩
def iZip2S (ta : TA) : TI := fun σ H R => ta σ H fun vs H1 => ∃ (x y : Str) (m : Nat), vs = [.str x, .str y] ∧ x.length = m ∧ y.length = m ∧ R (ItS [x, y] m) H1
theorem pi_zip2S {X : Cx} {elts : List Expr} {kk : Nat} {tpos : Pos} {e e2 : Expr} {ta : TA} {p pos : Pos} (hg : Gl X "zip") (hm : X.mg "zip" = none) (ha : PA X [e, e2] ta)
    (hs : starEach [e, e2] X.env = (false, eval e X.env) :: starEach [e2] X.env := by rfl) (hpl : (backTo pos (starEach [e2] X.env)).any (·.1) = false := by rfl) :
    PI X (.Tuple elts kk tpos) (.Call (.Name "zip" p) [e, e2] [] pos) (iZip2S ta) := by
  refine ⟨fun pins s σ H R I h => ?_⟩
  refine Call_ (ld_blt I hg hm PyProof.Rows.boot_zip (PyProof.Rows.callWith_type1 (thn (ha.run pos pins s σ H _ I h) fun us s2 ⟨vs, H1, I2, rv, q1⟩ => ?_) hs hpl))
  obtain ⟨x0, y0, m, ex0, hx0, hy0, q⟩ := q1
  obtain ⟨xs, exs⟩ : ∃ xs : List Str, xs = [x0, y0] := ⟨_, rfl⟩
  have ev : vs = xs.map V.str := by rw [exs]; exact ex0
  have hne : xs ≠ [] := by rw [exs]; intro z; cases z
  have hl : xs.length ≤ 1000 := by rw [exs]; show 2 ≤ 1000; decide
  have hlen : ∀ z ∈ xs, z.length = m := by
    rw [exs]
    intro z hz
    simp only [List.mem_cons, List.not_mem_nil, or_false] at hz
    rcases hz with rfl | rfl
    · exact hx0
    · exact hy0
  rw [← exs] at q
  subst ev
  obtain ⟨ps, rfl, eps⟩ := strs_vals rv
  cases ps with
  | nil => exact absurd eps.symm hne
  | cons x ps =>
    have hpl : (x :: ps).length = xs.length := by rw [← eps, List.length_map]
    refine call_zipN (by rw [hpl]; exact hl) fun h' Z => ?_
    have hz := Z.zp
    have hT : Shared.TypeIs ⟨h', s2.gens, s2.drawn, s2.toks, s2.os⟩ (.ref (s2.heap.objs.size + (x :: ps).length + 2)) "zip" := ⟨_, hz, rfl⟩
    refine wpAny_pyIter_slot hT F.slot_zip_iter (wpAny_call_entry F.slot_zip_iter hT F.entry_zip_iter ?_ (F.args_zip_iter_1 _))
    show wpAny _ _ (ret (.ref _)) _ _ _
    refine wpAny_pure ⟨_, rfl, "zip", _, hT, F.slot_zip_next.lookup, ?_⟩
    have I3 : Inv X pins σ H1 { s2 with heap := h' } := I2.kept (t' := s2.toks) Z.kp
    have bnd : ∀ r ∈ mkR s2.heap.objs.size (x :: ps), s2.heap.objs.size ≤ (r.it : Nat) ∧ (r.it : Nat) < s2.heap.objs.size + (x :: ps).length := fun r hr => mkR_it hr
    have D : Ap (s2.heap.objs.size + (x :: ps).length + 2) (s2.heap.objs.size + (x :: ps).length) (s2.heap.objs.size + (x :: ps).length + 1) (mkR s2.heap.objs.size (x :: ps)) :=
      ⟨Nat.ne_of_gt (by omega), Nat.ne_of_gt (by omega), Nat.ne_of_lt (by omega), fun r hr => Nat.ne_of_lt (Nat.lt_trans (bnd r hr).2 (by omega)), fun r hr => Nat.ne_of_lt (bnd r hr).2, fun r hr => Nat.ne_of_lt (Nat.lt_trans (bnd r hr).2 (by omega)), mkR_nd _ _⟩
    have ex : (mkR s2.heap.objs.size (x :: ps)).map (·.x) = xs := by rw [mkR_x, eps]
    have fresh : ∀ c, c ∈ (s2.heap.objs.size + (x :: ps).length + 2) :: (s2.heap.objs.size + (x :: ps).length) :: (s2.heap.objs.size + (x :: ps).length + 1) :: (mkR s2.heap.objs.size (x :: ps)).map (·.it) → FpOk X pins H1 c := fun c hcm => by
      have hle : s2.heap.objs.size ≤ c := by
        rcases mem_fp hcm with rfl | rfl | rfl | ⟨r, hr, rfl⟩
        · omega
        · omega
        · omega
        · exact (bnd r hr).1
      exact I2.fpOk hle (I2.hok.fresh hle)
    obtain ⟨os, hos, los⟩ := Z.tu
    refine ⟨_, _, ZTn _ _ _ (mkR s2.heap.objs.size (x :: ps)), ItS xs m, H1, rfl, I3, ?_, ⟨_, _, os, hz, .inl rfl, Z.ti, hos, by rw [los, mkR_len], Z.st⟩, fresh, q⟩
    have tt := turn_zipS2 (P := X.prog) (w := X.w) (K := X.K) (elts := elts) (kk := kk) (tpos := tpos) (m := m) (R := mkR s2.heap.objs.size (x :: ps)) (by intro z; cases z) (by rw [mkR_len, hpl]; exact hl) (fun r hr => by
      have : r.x ∈ xs := by rw [← ex]; exact List.mem_map_of_mem hr
      exact hlen _ this) D
    rw [ex] at tt
    exact tt
end L2

set_option Elab.async false
set_option linter.all false
set_option maxRecDepth 100000
set_option maxHeartbeats 1000000
namespace FH
open PySem L2
local macro_rules | `(tactic| walk_at "seq") => `(tactic| first | assumption | exact SqL.of (by assumption) | exact SqT.of (by assumption) | exact SqL.of upd_same | exact SqT.of upd_same)
local macro_rules | `(tactic| walk_at "at") => `(tactic| first | exact atI_nat (j := 0) rfl | exact atI_nat (j := 1) rfl | exact atI_nat (j := 2) rfl | exact atI_nat (by assumption) | assumption)
local macro_rules | `(tactic| walk_at "ar") => `(tactic| first | omega | exact ⟨by omega, by omega⟩ | exact Or.inl ⟨by omega, by omega⟩ | exact Or.inr ⟨by omega, by omega⟩ | exact ⟨by decide, by decide⟩ | exact Or.inr ⟨by decide, by decide⟩ | exact Or.inl ⟨by decide, by decide⟩ | exact ⟨by decide, by decide, by omega⟩ | exact ⟨by decide, by decide, by decide⟩)
local macro_rules | `(tactic| walk_at "r") => `(tactic| repeat (first
  | refine ⟨_, rfl, ?_⟩
  | refine ⟨_, _, rfl, rfl, ?_⟩
  | refine ⟨_, _, _, _, rfl, rfl, by walk_at "seq", by walk_at "at", ?_⟩
  | refine ⟨_, _, _, _, rfl, rfl, by assumption, rfl, ?_⟩
  | refine ⟨_, _, rfl, Or.inl (by walk_at "seq"), ?_⟩
  | refine Or.inl ⟨_, rfl, ?_⟩
  | refine Or.inr ⟨_, rfl, ?_⟩
  | refine And.intro (by walk_at "ar") ?_))
open Pr
/-! ### places, common multiples -/
def spPlace : Sp := fun vs H Q _ => ∃ n s p : Nat, vs = [.int n, .int s, .int p] ∧ 0 < p ∧ Q (.int (spot n s p : Nat)) H
def spMult : Sp := fun vs H Q _ => ∃ a b : Nat, vs = [.int a, .int b] ∧ 0 < a ∧ 0 < b ∧ a ≤ 1000 ∧ b ≤ 1000 ∧ Q (.int (Nat.lcm a b : Nat)) H
/-- a list or a tuple of two -/
def Sq2 (K : PySem.W.Frag) (H : Hp) (a : Addr) (i j : Nat) : Prop := SqL K H a [.int i, .int j] ∨ SqT K H a [.int i, .int j]
theorem Sq2.same {K : PySem.W.Frag} {H H' : Hp} {a : Addr} {i j : Nat} (s : Same H H') (h : Sq2 K H a i j) : Sq2 K H' a i j := h.elim (fun h => .inl (s.seq h)) (fun h => .inr (s.seqT h))
theorem sq_same {K : PySem.W.Frag} {H H' : Hp} {a : Addr} {xs : List V} (s : Same H H') (h : SqL K H a xs ∨ SqT K H a xs) : SqL K H' a xs ∨ SqT K H' a xs := h.elim (fun h => .inl (s.seq h)) (fun h => .inr (s.seqT h))
def spWid (K : PySem.W.Frag) : Sp := fun vs H Q _ => ∃ (ar as ap am ao : Addr) (t : Tb) (m0 m1 o0 o1 : Nat), vs = [.ref ar, .ref as, .ref ap, .ref am, .ref ao] ∧ (SqL K H ar (t.rows.map V.str) ∨ SqT K H ar (t.rows.map V.str)) ∧ Sq2 K H as t.s0 t.s1 ∧ Sq2 K H ap t.p0 t.p1 ∧ Sq2 K H am m0 m1 ∧ Sq2 K H ao o0 o1 ∧
  t.Ok ∧ t.s0 + t.p0 ≤ 1000 ∧ t.s1 + t.p1 ≤ 1000 ∧ m0 + o0 ≤ 1000 ∧ m1 + o1 ≤ 1000 ∧
  ∀ (l : Addr) (H' : Hp), Same H H' → H l = none → H' l = some (.lst ((canR t.has (m0 + o0) (m1 + o1)).map V.str)) → Q (.ref l) H'
/-- the sign that four signs tell of two -/
def pick4 (q : Bool → Bool → Bool) : Str := sgnS [q false false, q false true, q true false, q true true]
def spSof (K : PySem.W.Frag) : Sp := fun vs H Q _ => ∃ (a b : Addr) (f g : Nat → Nat → Bool) (tall wide : Nat) (q : Bool → Bool → Bool), vs = [.ref a, .ref b, .str (pick4 q)] ∧
  ((SqL K H a ((canR f tall wide).map V.str) ∧ SqL K H b ((canR g tall wide).map V.str)) ∨ (SqT K H a ((canR f tall wide).map V.str) ∧ SqT K H b ((canR g tall wide).map V.str))) ∧ tall ≤ 1000 ∧ wide ≤ 1000 ∧
  ∀ (l : Addr) (H' : Hp), Same H H' → H l = none → H' l = some (.lst ((canR (fun k l => q (f k l) (g k l)) tall wide).map V.str)) → Q (.ref l) H'
/-- a row looked up at places -/
def rowAt (x : Str) (s p wide : Nat) : Str := Txt.join (Str.ofString "") (ones ((List.range wide).map fun i => chAt x (spot i s p)))
theorem str_tl {x y : Str} (h : tlS x = tlS y) : x = y := by
  cases x; cases y
  have : _ = _ := h
  simp [tlS] at this
  rw [this]
theorem tl_sgn (bs : List Bool) : tlS (sgnS bs) = bs.map fun b => if b = true then 43 else 45 := by
  show (List.toArray _).toList = _
  simp
theorem rowAt_sgn {x : Str} {s p wide : Nat} (hp : 0 < p) (hl : x.length = s + p) (hs : Sg x) : rowAt x s p wide = sgnS ((List.range wide).map fun i => inB x (spot i s p)) := by
  refine str_tl ?_
  unfold rowAt
  rw [join_ones, tl_sgn, List.map_map]
  refine List.map_congr_left fun i _ => ?_
  exact ch_sg hs (by rw [hl]; exact spot_lt hp)
theorem len_canR (f : Nat → Nat → Bool) (tall wide : Nat) : (canR f tall wide).length = tall := by unfold canR; rw [List.length_map, List.length_range]
theorem canR_get (f : Nat → Nat → Bool) {tall wide k : Nat} (h : k < tall) : (canR f tall wide)[k]? = some (sgnS ((List.range wide).map fun l => f k l)) := by
  unfold canR
  rw [List.getElem?_map, List.getElem?_range h]
  rfl
theorem ch_sgn {bs : List Bool} {i : Nat} (h : i < bs.length) : (sgnS bs).cps[i]? = some (if bs[i] = true then 43 else 45) := by
  unfold sgnS
  rw [List.getElem?_toArray, List.getElem?_map, List.getElem?_eq_getElem h]
  rfl
theorem sgEq (x : Str) (i : Nat) : decide (V.str (signS x i) = V.str (Str.ofString "+")) = inB x i := by
  have e : Str.ofString "+" = ⟨#[43]⟩ := by decide +kernel
  rw [e, dStr]
  unfold inB chAt signS
  by_cases h : x.cps.getD i 0 = 43
  · rw [h]; simp
  · rw [decide_eq_false h]
    exact decide_eq_false fun z => h (by simpa using congrArg Str.cps z)
theorem at_pick4 (q : Bool → Bool → Bool) (b1 b2 : Bool) : atI (pick4 q).cps.toList ((2 : Int) * (if b1 = true then 1 else 0) + (if b2 = true then 1 else 0)) = some (if q b1 b2 = true then 43 else 45) := by
  have e : (pick4 q).cps.toList = [if q false false = true then 43 else 45, if q false true = true then 43 else 45, if q true false = true then 43 else 45, if q true true = true then 43 else 45] := by
    show (List.toArray _).toList = _
    simp
  rw [e]
  cases b1 <;> cases b2
  · exact atI_nat (j := 0) rfl
  · exact atI_nat (j := 1) rfl
  · exact atI_nat (j := 2) rfl
  · exact atI_nat (j := 3) rfl
section
variable {P : Program} {w : World} {K : PySem.W.Frag} {mg : Str → Option Value} {base : Heap}
theorem sc_place_of : FnScope ["number", "start", "period"] ["number", "start", "period"] (defScope (topS 42)) := ⟨rfl, rfl, rfl, by decide +kernel, rfl, by decide +kernel, by decide +kernel⟩
theorem ok_place {f : Addr} {fd : FuncData} {k : Nat} (F : Fun K "place_of" "place_of" (topS 42) f fd) (T : Bt mg) : FnOk P w K mg base CX0 (k + 1) f fd ["number", "start", "period"] spPlace := by
  refine F.ok sc_place_of (fun vs H Q E h => ?_) (fun cdv A outer s H vs Q E hr h => ?_)
  · obtain ⟨n, s, p, rfl, _⟩ := h
    rfl
  · obtain ⟨n, st, p, rfl, hp, q⟩ := h
    refine ⟨_, (pss_one (ps_ret (pe_ifExp (pt_cmpR op_lt (pv 0) (pe_op op_add (pv 1) (pv 2)) (nomark _)) (pv 0) (pe_op op_add (pv 1) (pe_op op_mod (pe_callTy call_int1 (by rfl) T.m_int (by decide +kernel) (pa_cons (pe_op op_sub (pv 0) (pv 1)) pa_nil)) (pv 2)))))), ?_⟩
    refine ⟨_, rfl, _, rfl, _, rfl, _, _, rfl, rfl, _, _, rfl, rfl, _, rfl, ite2 (fun e => ?_) (fun e => ?_)⟩
    · refine ⟨_, rfl, ?_⟩
      have := of_decide_eq_true e
      rw [spot_id (by omega)] at q
      exact q
    · refine ⟨_, rfl, _, rfl, _, rfl, _, _, rfl, rfl, .inl ⟨_, rfl, _, rfl, _, _, rfl, rfl, by show (0 : Int) < (p : Int); omega, _, _, rfl, rfl, ?_⟩⟩
      have hn : ¬ n < st + p := fun z => e (decide_eq_true (by omega))
      have : (spot n st p : Nat) = st + (n - st) % p := by unfold spot; rw [if_neg (by omega)]
      rw [this] at q
      have e1 : ((st : Int) + ((n : Int) - (st : Int)) % (p : Int)) = ((st + (n - st) % p : Nat) : Int) := by
        rw [show (n : Int) - (st : Int) = ((n - st : Nat) : Int) by omega, ← Int.natCast_emod, ← Int.natCast_add]
      show Q (.int ((st : Int) + ((n : Int) - (st : Int)) % (p : Int))) H
      rw [e1]
      exact q
theorem sc_common_multiple : FnScope ["one", "other", "first", "second"] ["one", "other"] (defScope (topS 17)) := ⟨rfl, rfl, rfl, by decide +kernel, rfl, by decide +kernel, by decide +kernel⟩
theorem ok_mult {f : Addr} {fd : FuncData} {k : Nat} (F : Fun K "common_multiple" "common_multiple" (topS 17) f fd) (T : Bt mg) : FnOk P w K mg base CX0 (k + 1) f fd ["one", "other"] spMult := by
  refine F.ok sc_common_multiple (fun vs H Q E h => ?_) (fun cdv A outer s H vs Q E hr h => ?_)
  · obtain ⟨a, b, rfl, _⟩ := h
    rfl
  · obtain ⟨a, b, rfl, a0, b0, a1, b1, q⟩ := h
    refine ⟨_, (pss_cons (ps_par (i := 2) (j := 3) rfl sc_common_multiple.nd rfl rfl (by decide) rfl rfl (pa_cons (pv 0) (pa_cons (pv 1) pa_nil)) (by rfl))
  (pss_cons (ps_while PassesOwn.never (pt_cmpR op_ne (pv 3) pe_int (nomark _)) (pss_one (ps_par (i := 2) (j := 3) rfl sc_common_multiple.nd rfl rfl (by decide) rfl rfl (pa_cons (pv 3) (pa_cons (pe_op op_mod (pe_callTy call_int1 (by rfl) T.m_int (by decide +kernel) (pa_cons (pv 2) pa_nil)) (pv 3)) pa_nil)) (by rfl))))
  (pss_one (ps_ret (pe_op op_mul (pe_op op_fdiv (pv 0) (pv 2)) (pv 1)))))), ?_⟩
    refine ⟨_, rfl, _, rfl, _, _, rfl, ?_⟩
    refine ⟨fun m σ H1 => H1 = H ∧ ∃ f : Nat, 0 < f ∧ f ≤ 1000 ∧ m ≤ 1000 ∧ Nat.gcd f m = Nat.gcd a b ∧ σ = [some (.int a), some (.int b), some (.int f), some (.int m)], ⟨b, rfl, a, a0, a1, b1, rfl, rfl⟩, fun m σ H1 hW => ?_⟩
    obtain ⟨rfl, f, f0, f1, m1, hg, rfl⟩ := hW
    refine ⟨_, rfl, rfl, _, rfl, ?_⟩
    rw [show decide (V.int (m : Int) = V.int 0) = decide (m = 0) from dNat m 0]
    by_cases hm : m = 0
    · subst hm
      refine iteF ⟨_, rfl, _, rfl, _, _, rfl, rfl, ⟨by omega, by omega⟩, _, rfl, _, _, rfl, rfl, .inr ⟨by omega, by omega⟩, ?_⟩
      rw [Nat.gcd_zero_right] at hg
      have e1 : ((a : Int) / (f : Int) * (b : Int)) = ((Nat.lcm a b : Nat) : Int) := by
        rw [hg]
        unfold Nat.lcm
        rw [← Nat.div_mul_right_comm (Nat.gcd_dvd_left a b) b, Int.natCast_mul, Int.natCast_ediv]
      show Q (.int ((a : Int) / (f : Int) * (b : Int))) H1
      rw [e1]
      exact q
    · rw [decide_eq_false hm]
      refine iteT ⟨fun σ' H' => ∃ m', m' < m ∧ H' = H1 ∧ ∃ f : Nat, 0 < f ∧ f ≤ 1000 ∧ m' ≤ 1000 ∧ Nat.gcd f m' = Nat.gcd a b ∧ σ' = [some (.int a), some (.int b), some (.int f), some (.int m')], fun σ' H' h => h, ?_⟩
      refine ⟨_, rfl, _, rfl, .inl ⟨_, rfl, _, rfl, _, _, rfl, rfl, by show (0 : Int) < (m : Int); omega, _, _, rfl, ?_⟩⟩
      have hlt : f % m < m := Nat.mod_lt _ (by omega)
      refine ⟨f % m, hlt, rfl, m, by omega, m1, by omega, ?_, ?_⟩
      · rw [← hg, Nat.gcd_comm f m, Nat.gcd_comm m (f % m)]
        exact (Nat.gcd_rec m f).symm
      · show [some (V.int a), some (V.int b), some (V.int m), some (V.int ((f : Int) % (m : Int)))] = _
        rw [← Int.natCast_emod]
theorem sc_widened : FnScope ["rows", "starts", "periods", "more", "others", "places", "number", "found", "place", "row"] ["rows", "starts", "periods", "more", "others"] (defScope (topS 43)) := ⟨rfl, rfl, rfl, by decide +kernel, rfl, by decide +kernel, by decide +kernel⟩
theorem ok_wid {f fP : Addr} {fd fdP : FuncData} {k : Nat} (F : Fun K "widened" "widened" (topS 43) f fd) (T : Bt mg) (FP : Fun K "place_of" "place_of" (topS 42) fP fdP) (bP : Binds K fdP ["number", "start", "period"] []) (gP : mg "place_of" = some (.ref fP)) :
    FnOk P w K mg base CX0 (k + 2) f fd ["rows", "starts", "periods", "more", "others"] (spWid K) := by
  have GP : FnOk P w K mg base CX0 (k + 1) fP fdP ["number", "start", "period"] spPlace := ok_place FP T
  refine F.ok sc_widened (fun vs H Q E h => ?_) (fun cdv A outer s H vs Q E hr h => ?_)
  · obtain ⟨ar, as, ap, am, ao, t, m0, m1, o0, o1, rfl, _⟩ := h
    rfl
  · obtain ⟨ar, as, ap, am, ao, t, m0, m1, o0, o1, rfl, hr0, hs0, hp0, hm0, ho0, O, l0, l1, l2, l3, q⟩ := h
    refine ⟨_, (pss_cons (ps_set (i := 5) sc_widened.nd rfl (by first | exact Or.inl rfl | exact Or.inr rfl) (pe_lc (own := [("number", 6)]) (g := (gName 6)) (tt := tYes) rfl sc_widened.nd (pi_range1 (by rfl) T.m_range (pa_cons (pe_op op_add (pe_ix (ixQK (K := K) rfl) (pv 3) pe_int (fun _ _ => rfl)) (pe_ix (ixQK (K := K) rfl) (pv 4) pe_int (fun _ _ => rfl))) pa_nil)) (blkOk_by (own := [("number", 6)]) (N := ["rows", "starts", "periods", "more", "others", "places", "number", "found", "place", "row"]) (sc := defScope (topS 43)) (by decide +kernel)) (fun _ _ _ _ _ => (pg_name (i := 6) sc_widened.nd rfl (by first | exact Or.inl rfl | exact Or.inr rfl))) (fun _ _ _ _ _ => pts_nil) (fun _ _ _ _ _ => (pe_call GP hr (by rfl) gP FP.kp bP .nil pass0 (pa_cons (pv 6) (pa_cons (pe_ix (ixQK (K := K) rfl) (pv 1) pe_int (fun _ _ => rfl)) (pa_cons (pe_ix (ixQK (K := K) rfl) (pv 2) pe_int (fun _ _ => rfl)) pa_nil)))))))
  (pss_cons (ps_set (i := 7) sc_widened.nd rfl (by first | exact Or.inl rfl | exact Or.inr rfl) (pe_lc (own := [("row", 9)]) (g := (gName 9)) (tt := tYes) rfl sc_widened.nd (piSK (K := K) rfl (pv 0)) (blkOk_by (own := [("row", 9)]) (N := ["rows", "starts", "periods", "more", "others", "places", "number", "found", "place", "row"]) (sc := defScope (topS 43)) (by decide +kernel)) (fun _ _ _ _ _ => (pg_name (i := 9) sc_widened.nd rfl (by first | exact Or.inl rfl | exact Or.inr rfl))) (fun _ _ _ _ _ => pts_nil) (fun _ _ _ _ _ => (pe_joinK (K := K) rfl pe_str (pe_lc (own := [("place", 8)]) (g := (gName 8)) (tt := tYes) rfl sc_widened.nd (piLK (K := K) rfl (pv 5)) (blkOk_by (own := [("place", 8)]) (N := ["rows", "starts", "periods", "more", "others", "places", "number", "found", "place", "row"]) (by kernel_rfl)) (fun _ _ _ _ _ => (pg_name (i := 8) sc_widened.nd rfl (by first | exact Or.inl rfl | exact Or.inr rfl))) (fun _ _ _ _ _ => pts_nil) (fun _ _ _ _ _ => (pe_ix ix_str (pv 9) (pv 8) (fun _ _ => rfl))))))))
  (pss_one (ps_ret (pe_lc (own := [("number", 6)]) (g := (gName 6)) (tt := tYes) rfl sc_widened.nd (pi_range1 (by rfl) T.m_range (pa_cons (pe_op op_add (pe_ix (ixQK (K := K) rfl) (pv 3) pe_int (fun _ _ => rfl)) (pe_ix (ixQK (K := K) rfl) (pv 4) pe_int (fun _ _ => rfl))) pa_nil)) (blkOk_by (own := [("number", 6)]) (N := ["rows", "starts", "periods", "more", "others", "places", "number", "found", "place", "row"]) (sc := defScope (topS 43)) (by decide +kernel)) (fun _ _ _ _ _ => (pg_name (i := 6) sc_widened.nd rfl (by first | exact Or.inl rfl | exact Or.inr rfl))) (fun _ _ _ _ _ => pts_nil) (fun _ _ _ _ _ => (pe_ix (ixLK (K := K) rfl) (pv 7) (pe_call GP hr (by rfl) gP FP.kp bP .nil pass0 (pa_cons (pv 6) (pa_cons (pe_ix (ixQK (K := K) rfl) (pv 1) pe_int (fun _ _ => rfl)) (pa_cons (pe_ix (ixQK (K := K) rfl) (pv 2) pe_int (fun _ _ => rfl)) pa_nil)))) (fun _ _ => rfl)))))))), ?_⟩
    have h0 := O.h0
    have h1 := O.h1
    -- places
    refine ⟨_, rfl, am, _, 1, _, rfl, rfl, hm0, atI_nat (j := 1) rfl, _, rfl, ao, _, 1, _, rfl, rfl, ho0, atI_nat (j := 1) rfl, _, _, rfl, rfl, (m1 : Int) + o1, rfl, by omega, by omega, fun D1 nD1 => ?_⟩
    rw [show ((m1 : Int) + (o1 : Int)).toNat = m1 + o1 by omega]
    refine lc_fmR nD1 (by omega) (fun i => some (.int (spot i t.s1 t.p1 : Nat))) (fun i H1 Nx hi s1 tk nt => ?_) (fun H1 s1 hD1 => ?_)
    · refine ⟨rfl, _, rfl, _, rfl, as, _, 1, _, rfl, rfl, hs0.same s1, atI_nat (j := 1) rfl, _, rfl, ap, _, 1, _, rfl, rfl, hp0.same s1, atI_nat (j := 1) rfl, i, t.s1, t.p1, ?_, h1, tk _ _ (fun _ _ q => q) rfl⟩
      rw [show (0 : Int) + (i : Int) = (i : Int) by omega]
      rfl
    have e1 : (List.range (m1 + o1)).filterMap (fun i => some (V.int (spot i t.s1 t.p1 : Nat))) = ((List.range (m1 + o1)).map fun i => spot i t.s1 t.p1).map fun (n : Nat) => V.int (n : Int) := by
      rw [List.filterMap_eq_map', List.map_map]; rfl
    rw [e1] at hD1
    -- the rows, looked up
    dsimp only [gName, tSeq]
    refine lc_seqV (k := 0) (by rfl) (sq_same s1 hr0) (by rw [List.length_map, O.len]; omega) (fun x => match x with | .str z => some (.str (rowAt z t.s1 t.p1 (m1 + o1))) | _ => none) (fun D2 i x H2 Nx nD2 hx s2 tk nt => ?_) (fun D2 H2 nD2 s2 hD2 => ?_)
    · obtain ⟨z, hz, rfl⟩ := List.mem_map.mp (List.mem_of_getElem? hx)
      have zl := (O.row z hz).1
      refine ⟨rfl, ⟨_, rfl⟩, _, rfl, D1, rfl, ⟨_, SqL.of (s2 _ _ hD1)⟩, fun D3 nD3 => lc_fmL nD3 (SqL.of (s2 _ _ hD1)) (by rw [List.length_map, List.length_map, List.length_range]; omega) (fun v => match v with | .int j => some (.str ⟨#[chAt z j.toNat]⟩) | _ => none) (fun j v H3 Nx3 hv s3 tk3 nt3 => ?_) (fun H3 s3 hD3 => ?_)⟩
      · obtain ⟨n, hn, rfl⟩ := List.mem_map.mp (List.mem_of_getElem? hv)
        obtain ⟨i', hi', rfl⟩ := List.mem_map.mp hn
        have hlt : spot i' t.s1 t.p1 < z.cps.size := by
          have := spot_lt (n := i') (s := t.s1) h1
          rw [← zl] at this
          exact this
        refine ⟨rfl, _, rfl, _, rfl, z, _, chAt z (spot i' t.s1 t.p1), rfl, rfl, ?_, ?_, tk3 _ _ (fun _ _ q => q) rfl⟩
        · rw [zl]; exact Nat.le_trans l1 (by decide)
        · refine atI_nat ?_
          rw [Array.getElem?_toList]
          unfold chAt
          rw [Array.getD_eq_getD_getElem?, Array.getElem?_eq_getElem hlt]
          rfl
      · have e3 : (((List.range (m1 + o1)).map fun i => spot i t.s1 t.p1).map fun (n : Nat) => V.int (n : Int)).filterMap (fun v => match v with | .int j => some (V.str ⟨#[chAt z j.toNat]⟩) | _ => none) = (ones ((List.range (m1 + o1)).map fun i => chAt z (spot i t.s1 t.p1))).map V.str := by
          unfold ones
          rw [List.map_map, List.map_map, List.map_map]
          generalize List.range (m1 + o1) = l
          induction l with
          | nil => rfl
          | cons a r ih => rw [List.map_cons, List.filterMap_cons, List.map_cons, ih]; rfl
        rw [e3] at hD3
        refine ⟨_, D3, _, rfl, rfl, .inl (SqL.of hD3), ?_, tk _ _ s3 rfl⟩
        rw [sum_ones, ones_len, List.length_map, List.length_range]
        show (m1 + o1) + (m1 + o1) * 0 ≤ 16777216
        omega
    have e2 : (t.rows.map V.str).filterMap (fun x => match x with | .str z => some (V.str (rowAt z t.s1 t.p1 (m1 + o1))) | _ => none) = (t.rows.map fun z => rowAt z t.s1 t.p1 (m1 + o1)).map V.str := by
      generalize t.rows = l
      induction l with
      | nil => rfl
      | cons a r ih => rw [List.map_cons, List.filterMap_cons, List.map_cons, ih]; rfl
    rw [e2] at hD2
    -- the places of the rows
    have s02 := s1.trans s2
    dsimp only [gName, tRet]
    refine ⟨_, rfl, am, _, 0, _, rfl, rfl, hm0.same s02, atI_nat (j := 0) rfl, _, rfl, ao, _, 0, _, rfl, rfl, ho0.same s02, atI_nat (j := 0) rfl, _, _, rfl, rfl, (m0 : Int) + o0, rfl, by omega, by omega, fun D4 nD4 => ?_⟩
    rw [show ((m0 : Int) + (o0 : Int)).toNat = m0 + o0 by omega]
    refine lc_fmR nD4 (by omega) (fun i => some (.str (rowAt (t.row i) t.s1 t.p1 (m1 + o1)))) (fun i H3 Nx hi s3 tk nt => ?_) (fun H3 s3 hD4 => ?_)
    · have s03 := s02.trans s3
      refine ⟨rfl, _, rfl, _, rfl, _, rfl, as, _, 0, _, rfl, rfl, hs0.same s03, atI_nat (j := 0) rfl, _, rfl, ap, _, 0, _, rfl, rfl, hp0.same s03, atI_nat (j := 0) rfl, i, t.s0, t.p0, ?_, h0, ?_⟩
      · rw [show (0 : Int) + (i : Int) = (i : Int) by omega]
        rfl
      refine ⟨D2, _, _, .str (rowAt (t.row i) t.s1 t.p1 (m1 + o1)), rfl, rfl, SqL.of (s3 _ _ hD2), atI_nat ?_, tk _ _ (fun _ _ q => q) rfl⟩
      rw [List.getElem?_map, List.getElem?_map, (t.row_mem O i).1]
      rfl
    refine q D4 H3 (s02.trans s3) (s02.free nD4) ?_
    rw [hD4]
    unfold canR
    rw [List.filterMap_eq_map', List.map_map]
    congr 2
    refine List.map_congr_left fun i _ => ?_
    show V.str (rowAt (t.row i) t.s1 t.p1 (m1 + o1)) = V.str _
    rw [rowAt_sgn h1 (t.row_ok O i).1 (t.row_ok O i).2]
    rfl
theorem sc_signs_of : FnScope ["some", "others", "signs", "one", "two", "row", "other"] ["some", "others", "signs"] (defScope (topS 45)) := ⟨rfl, rfl, rfl, by decide +kernel, rfl, by decide +kernel, by decide +kernel⟩
theorem ok_sof {f : Addr} {fd : FuncData} {k : Nat} {t1 : Tok} (F : Fun K "signs_of" "signs_of" (topS 45) f fd) (T : Bt mg) (gIN : mg "IN" = some (.str "+" t1)) : FnOk P w K mg base CX0 (k + 1) f fd ["some", "others", "signs"] (spSof K) := by
  refine F.ok sc_signs_of (fun vs H Q E h => ?_) (fun cdv A outer s H vs Q E hr h => ?_)
  · obtain ⟨a, b, f, g, tall, wide, q, rfl, _⟩ := h
    rfl
  · obtain ⟨a, b, f, g, tall, wide, q4, rfl, hab, ht, hw, q⟩ := h
    refine ⟨_, (pss_one (ps_ret (pe_lc (own := [("row", 5), ("other", 6)]) (g := (gTup K 2 (gCons (gName 5) (gCons (gName 6) gNil)))) (tt := tYes) rfl sc_signs_of.nd (RZ.pi_zipA (by rfl) T.m_zip (pa_cons (pv 0) (pa_cons (pv 1) pa_nil))) (blkOk_by (own := [("row", 5), ("other", 6)]) (N := ["some", "others", "signs", "one", "two", "row", "other"]) (sc := defScope (topS 45)) (by decide +kernel)) (fun _ _ _ _ _ => (pg_tup rfl (pgs_cons (pg_name (i := 5) sc_signs_of.nd rfl (by first | exact Or.inl rfl | exact Or.inr rfl)) (pgs_cons (pg_name (i := 6) sc_signs_of.nd rfl (by first | exact Or.inl rfl | exact Or.inr rfl)) pgs_nil)))) (fun _ _ _ _ _ => pts_nil) (fun _ _ _ _ _ => (pe_joinK (K := K) rfl pe_str (pe_lc (own := [("one", 3), ("two", 4)]) (g := (gTup K 2 (gCons (gName 3) (gCons (gName 4) gNil)))) (tt := tYes) rfl sc_signs_of.nd (pi_zip2S (by rfl) T.m_zip (pa_cons (pv 5) (pa_cons (pv 6) pa_nil))) (blkOk_by (own := [("one", 3), ("two", 4)]) (N := ["some", "others", "signs", "one", "two", "row", "other"]) (by kernel_rfl)) (fun _ _ _ _ _ => (pg_tup rfl (pgs_cons (pg_name (i := 3) sc_signs_of.nd rfl (by first | exact Or.inl rfl | exact Or.inr rfl)) (pgs_cons (pg_name (i := 4) sc_signs_of.nd rfl (by first | exact Or.inl rfl | exact Or.inr rfl)) pgs_nil)))) (fun _ _ _ _ _ => pts_nil) (fun _ _ _ _ _ => (pe_ix ix_str (pv 2) (pe_op op_add (pe_op op_mul pe_int (pe_callTy call_int1 (by rfl) T.m_int (by decide +kernel) (pa_cons (pe_cmpR op_eq (pv 3) (pe_glob (v := .str "+") (by rfl) gIN ⟨_, rfl⟩) (nomark _)) pa_nil))) (pe_callTy call_int1 (by rfl) T.m_int (by decide +kernel) (pa_cons (pe_cmpR op_eq (pv 4) (pe_glob (v := .str "+") (by rfl) gIN ⟨_, rfl⟩) (nomark _)) pa_nil))) (fun _ _ => rfl))))))))), ?_⟩
    let oo : V → V → Option V := fun x y => match x, y with | .str x, .str y => some (.str (Txt.join (Str.ofString "") (ones ((List.range wide).map fun i => if q4 (inB x i) (inB y i) = true then 43 else 45)))) | _, _ => none
    have ll : ((canR f tall wide).map V.str).length = ((canR g tall wide).map V.str).length := by rw [List.length_map, List.length_map, len_canR, len_canR]
    have hz : ((canR f tall wide).map V.str).length < 100000 := by rw [List.length_map, len_canR]; omega
    have fin : ∀ (D : Addr) (H1 : Hp), H D = none → Same H H1 → H1 D = some (.lst ((((canR f tall wide).map V.str).zip ((canR g tall wide).map V.str)).filterMap fun p => oo p.1 p.2)) → Q (.ref D) H1 := by
      intro D H1 nD s1 hD
      refine q D H1 s1 nD ?_
      rw [hD]
      congr 2
      have e0 : ∀ l : List Nat, (((l.map fun k => sgnS ((List.range wide).map fun l => f k l)).map V.str).zip ((l.map fun k => sgnS ((List.range wide).map fun l => g k l)).map V.str)).filterMap (fun p => oo p.1 p.2) = (l.map fun k => sgnS ((List.range wide).map fun l => q4 (f k l) (g k l))).map V.str := fun l => by
        induction l with
        | nil => rfl
        | cons k r ih =>
          rw [List.map_cons, List.map_cons, List.map_cons, List.map_cons, List.zip_cons_cons, List.filterMap_cons, List.map_cons, List.map_cons, ih]
          show V.str _ :: _ = V.str _ :: _
          congr 2
          refine str_tl ?_
          rw [join_ones, tl_sgn, List.map_map]
          refine List.map_congr_left fun i hi => ?_
          have hi := List.mem_range.mp hi
          rw [in_sgn, in_sgn, List.getD_eq_getElem?_getD, List.getD_eq_getElem?_getD, List.getElem?_map, List.getElem?_map, List.getElem?_range hi]
          rfl
      exact e0 (List.range tall)
    have shape : ∀ (i : Nat) (x y : V), ((canR f tall wide).map V.str)[i]? = some x → ((canR g tall wide).map V.str)[i]? = some y → ∃ x1 y1 : Str, x = .str x1 ∧ y = .str y1 ∧ x1.length = wide ∧ y1.length = wide := by
      intro i x y hx hy
      rw [List.getElem?_map] at hx hy
      have hi : i < tall := by
        by_cases z : i < tall
        · exact z
        · rw [List.getElem?_eq_none (by rw [len_canR]; omega)] at hx; cases hx
      rw [canR_get f hi] at hx
      rw [canR_get g hi] at hy
      cases hx; cases hy
      exact ⟨_, _, rfl, rfl, by rw [len_sgn, List.length_map, List.length_range], by rw [len_sgn, List.length_map, List.length_range]⟩
    refine ⟨_, rfl, _, rfl, a, b, (canR f tall wide).map V.str, (canR g tall wide).map V.str, rfl, ?_⟩
    rcases hab with ⟨ha, hb⟩ | ⟨ha, hb⟩
    · refine .inl ⟨ha, hb, fun D nD => lc_zip2L nD ha hb ll hz oo (fun i x y Tp H1 Nx hx hy s1 nT tk nt => ?_) (fun H1 s1 hD => fin D H1 nD s1 hD)⟩
      obtain ⟨x1, y1, rfl, rfl, lx, ly⟩ := shape i x y hx hy
      refine ⟨Tp, _, rfl, SqT.of upd_same, rfl, _, _, rfl, _, _, rfl, rfl, rfl, ⟨_, rfl⟩, _, rfl, _, rfl, x1, y1, wide, rfl, lx, ly, fun D3 nD3 => lc_zipS nD3 (by omega) (fun i => some (.str ⟨#[if q4 (inB x1 i) (inB y1 i) = true then 43 else 45]⟩)) (fun j T3 H3 Nx3 hj s3 nT3 tk3 nt3 => ?_) (fun H3 s3 hD3 => ?_)⟩
      · refine ⟨T3, _, rfl, SqT.of upd_same, rfl, _, _, rfl, _, _, rfl, rfl, rfl, _, rfl, _, rfl, rfl, .inr ⟨_, rfl, _, _, rfl, rfl, .inl ⟨by decide, by decide⟩, _, rfl, rfl, .inr ⟨_, rfl, _, _, rfl, rfl, pick4 q4, _, (if q4 (inB x1 j) (inB y1 j) = true then 43 else 45), rfl, rfl, ?_, ?_, tk3 _ _ (same_new nT3) rfl⟩⟩⟩
        · show (4 : Nat) ≤ sizeLine; decide
        · rw [sgEq, sgEq]
          exact at_pick4 q4 _ _
      · have e3 : (List.range wide).filterMap (fun i => some (V.str ⟨#[if q4 (inB x1 i) (inB y1 i) = true then 43 else 45]⟩)) = (ones ((List.range wide).map fun i => if q4 (inB x1 i) (inB y1 i) = true then 43 else 45)).map V.str := by
          unfold ones
          rw [List.filterMap_eq_map', List.map_map, List.map_map]; rfl
        rw [e3] at hD3
        refine ⟨_, D3, _, rfl, rfl, .inl (SqL.of hD3), ?_, tk _ _ ((same_new nT).trans s3) rfl⟩
        rw [sum_ones, ones_len, List.length_map, List.length_range]
        show wide + wide * 0 ≤ 16777216
        omega
    · refine .inr ⟨ha, hb, fun D nD => lc_zip2T nD ha hb ll hz oo (fun i x y Tp H1 Nx hx hy s1 nT tk nt => ?_) (fun H1 s1 hD => fin D H1 nD s1 hD)⟩
      obtain ⟨x1, y1, rfl, rfl, lx, ly⟩ := shape i x y hx hy
      refine ⟨Tp, _, rfl, SqT.of upd_same, rfl, _, _, rfl, _, _, rfl, rfl, rfl, ⟨_, rfl⟩, _, rfl, _, rfl, x1, y1, wide, rfl, lx, ly, fun D3 nD3 => lc_zipS nD3 (by omega) (fun i => some (.str ⟨#[if q4 (inB x1 i) (inB y1 i) = true then 43 else 45]⟩)) (fun j T3 H3 Nx3 hj s3 nT3 tk3 nt3 => ?_) (fun H3 s3 hD3 => ?_)⟩
      · refine ⟨T3, _, rfl, SqT.of upd_same, rfl, _, _, rfl, _, _, rfl, rfl, rfl, _, rfl, _, rfl, rfl, .inr ⟨_, rfl, _, _, rfl, rfl, .inl ⟨by decide, by decide⟩, _, rfl, rfl, .inr ⟨_, rfl, _, _, rfl, rfl, pick4 q4, _, (if q4 (inB x1 j) (inB y1 j) = true then 43 else 45), rfl, rfl, ?_, ?_, tk3 _ _ (same_new nT3) rfl⟩⟩⟩
        · show (4 : Nat) ≤ sizeLine; decide
        · rw [sgEq, sgEq]
          exact at_pick4 q4 _ _
      · have e3 : (List.range wide).filterMap (fun i => some (V.str ⟨#[if q4 (inB x1 i) (inB y1 i) = true then 43 else 45]⟩)) = (ones ((List.range wide).map fun i => if q4 (inB x1 i) (inB y1 i) = true then 43 else 45)).map V.str := by
          unfold ones
          rw [List.filterMap_eq_map', List.map_map, List.map_map]; rfl
        rw [e3] at hD3
        refine ⟨_, D3, _, rfl, rfl, .inl (SqL.of hD3), ?_, tk _ _ ((same_new nT).trans s3) rfl⟩
        rw [sum_ones, ones_len, List.length_map, List.length_range]
        show wide + wide * 0 ≤ 16777216
        omega
end
end FH

set_option Elab.async false
set_option linter.all false
set_option maxRecDepth 100000
set_option maxHeartbeats 1000000
namespace FH
open PySem L2
open Pr
/-! ### the table of a test that comes again -/
def tabF (F : Nat → Nat → Bool) (s0 s1 p0 p1 : Nat) : Tb := ⟨s0, s1, p0, p1, canR F (s0 + p0) (s1 + p1)⟩
structure PerF (F : Nat → Nat → Bool) (s0 s1 p0 p1 : Nat) : Prop where
  a : Per F s0 p0
  b : Per (fun l k => F k l) s1 p1
section
variable {F : Nat → Nat → Bool} {s0 s1 p0 p1 : Nat}
theorem tabF_ok (h0 : 0 < p0) (h1 : 0 < p1) : (tabF F s0 s1 p0 p1).Ok := ⟨h0, h1, len_canR _ _ _, fun x hx => by
  obtain ⟨k, _, rfl⟩ := List.mem_map.mp hx
  exact ⟨by rw [len_sgn, List.length_map, List.length_range]; rfl, sg_sgn _⟩⟩
theorem PerF.spot (P : PerF F s0 s1 p0 p1) (k l : Nat) : F (Pr.spot k s0 p0) (Pr.spot l s1 p1) = F k l := by
  rw [congrFun (P.b.spot l) (Pr.spot k s0 p0)]
  exact congrFun (P.a.spot k) l
theorem tabF_has (h0 : 0 < p0) (h1 : 0 < p1) (P : PerF F s0 s1 p0 p1) (k l : Nat) : (tabF F s0 s1 p0 p1).has k l = F k l := by
  have hk := spot_lt (n := k) (s := s0) h0
  have hl := spot_lt (n := l) (s := s1) h1
  have e := ((tabF F s0 s1 p0 p1).row_mem (tabF_ok h0 h1) k).1
  have e' : (tabF F s0 s1 p0 p1).rows[Pr.spot k s0 p0]? = some (sgnS ((List.range (s1 + p1)).map fun l => F (Pr.spot k s0 p0) l)) := canR_get F hk
  have e := Option.some.inj (e.symm.trans e')
  show inB ((tabF F s0 s1 p0 p1).row k) (Pr.spot l s1 p1) = _
  rw [e, in_sgn, List.getD_eq_getElem?_getD, List.getElem?_map, List.getElem?_range hl]
  exact P.spot k l
theorem Tb.perF {t : Tb} (h : t.Ok) : PerF t.has t.s0 t.s1 t.p0 t.p1 := by
  refine ⟨fun n hn => ?_, fun n hn => ?_⟩
  · funext l
    unfold Tb.has Tb.row
    rw [show Pr.spot (n + t.p0) t.s0 t.p0 = Pr.spot n t.s0 t.p0 from spot_per n hn]
  · funext k
    show t.has k (n + t.p1) = t.has k n
    unfold Tb.has
    rw [show Pr.spot (n + t.p1) t.s1 t.p1 = Pr.spot n t.s1 t.p1 from spot_per n hn]
end
/-! ### the least period and start, by looking -/
section
variable {α : Type} {g : Nat → α} {s p sz st : Nat}
def Ag (g : Nat → α) (s p sz : Nat) : Prop := ∀ n, s ≤ n → n < s + p → g n = g (n + sz)
theorem ag_per (hp : 0 < p) (P : Per g s p) : Ag g s p sz ↔ Per g s sz := by
  constructor
  · intro h n hn
    have e : n = s + (n - s) % p + (n - s) / p * p := by
      have := Nat.mod_add_div (n - s) p
      rw [Nat.mul_comm] at this
      omega
    have hm := Nat.mod_lt (n - s) hp
    have h1 := P.mul ((n - s) / p) (s + (n - s) % p + sz) (by omega)
    have h2 := P.mul ((n - s) / p) (s + (n - s) % p) (by omega)
    have h3 := h (s + (n - s) % p) (by omega) (by omega)
    rw [← e] at h2
    rw [show s + (n - s) % p + sz + (n - s) / p * p = n + sz by omega] at h1
    rw [h1, h2, h3]
  · exact fun h n hn _ => (h n hn).symm
theorem lst_of (hp : 0 < p) (P : Per g s p) (h0 : 0 < sz) (h1 : Ag g s p sz) (h2 : ∀ z, 0 < z → z < sz → ¬ Ag g s p z) (hs : st ≤ s) (h3 : ∀ m, st ≤ m → m < s → g m = g (m + sz)) (h4 : 0 < st → g (st - 1) ≠ g (st - 1 + sz)) : Lst g st sz := by
  have hb := (ag_per hp P).mp h1
  refine ⟨h0, fun n hn => ?_, fun a' q' hq k => ?_, fun a' k => ?_⟩
  · by_cases h : s ≤ n
    · exact hb n h
    · exact (h3 n hn (by omega)).symm
  · refine Nat.le_of_not_lt fun z => h2 q' hq z ((ag_per hp P).mpr (Per.of hp P k))
  · by_cases hc : st ≤ a'
    · exact hc
    · exact absurd (k (st - 1) (by omega)).symm (h4 (by omega))
end
/-! ### rows and columns of a test -/
section
variable {F : Nat → Nat → Bool} {s0 s1 p0 p1 : Nat}
def rowF (F : Nat → Nat → Bool) (wide k : Nat) : Str := sgnS ((List.range wide).map fun l => F k l)
def colF (F : Nat → Nat → Bool) (tall l : Nat) : Str := sgnS ((List.range tall).map fun k => F k l)
theorem sgn_inj {a b : List Bool} (h : sgnS a = sgnS b) : a = b := by
  have hl : a.length = b.length := by rw [← len_sgn a, ← len_sgn b, h]
  refine List.ext_getElem hl fun i h1 h2 => ?_
  have e : inB (sgnS a) i = inB (sgnS b) i := by rw [h]
  rw [in_sgn, in_sgn, List.getD_eq_getElem?_getD, List.getD_eq_getElem?_getD, List.getElem?_eq_getElem h1, List.getElem?_eq_getElem h2] at e
  exact e
theorem rng_inj {f g : Nat → Bool} {n : Nat} (h : (List.range n).map f = (List.range n).map g) {i : Nat} (hi : i < n) : f i = g i := by
  have := congrArg (fun z => z[i]?) h
  simp only [List.getElem?_map, List.getElem?_range hi, Option.map_some, Option.some.injEq] at this
  exact this
theorem rowF_iff (P : PerF F s0 s1 p0 p1) (h1 : 0 < p1) {wide : Nat} (hw : s1 + p1 ≤ wide) (n m : Nat) : rowF F wide n = rowF F wide m ↔ F n = F m := by
  constructor
  · intro h
    have h := sgn_inj h
    funext l
    rw [← congrFun (P.b.spot l) n, ← congrFun (P.b.spot l) m]
    exact rng_inj h (Nat.lt_of_lt_of_le (spot_lt h1) hw)
  · intro h
    unfold rowF
    rw [h]
theorem colF_iff (P : PerF F s0 s1 p0 p1) (h0 : 0 < p0) {tall : Nat} (hw : s0 + p0 ≤ tall) (n m : Nat) : colF F tall n = colF F tall m ↔ (fun k => F k n) = (fun k => F k m) := by
  constructor
  · intro h
    have h := sgn_inj h
    funext k
    show F k n = F k m
    rw [← congrFun (P.a.spot k) n, ← congrFun (P.a.spot k) m]
    exact rng_inj (f := fun k => F k n) (g := fun k => F k m) h (Nat.lt_of_lt_of_le (spot_lt h0) hw)
  · intro h
    unfold colF
    rw [show (fun k => F k n) = (fun k => F k m) from h]
theorem rowF_per (P : PerF F s0 s1 p0 p1) (wide : Nat) : Per (rowF F wide) s0 p0 := fun n hn => by
  unfold rowF
  rw [P.a n hn]
theorem colF_per (P : PerF F s0 s1 p0 p1) (tall : Nat) : Per (colF F tall) s1 p1 := fun n hn => by
  have := P.b n hn
  unfold colF
  rw [show (fun k => F k (n + p1)) = (fun k => F k n) from this]
/-- what is found is the least table -/
theorem found_least (P : PerF F s0 s1 p0 p1) (h0 : 0 < p0) (h1 : 0 < p1) {wide tall a0 q0 a1 q1 : Nat} (hw : s1 + p1 ≤ wide) (ht : s0 + p0 ≤ tall) (L0 : Lst (rowF F wide) a0 q0) (L1 : Lst (colF F tall) a1 q1) :
    (tabF F s0 s1 p0 p1).least = ⟨a0, a1, q0, q1, canR F (a0 + q0) (a1 + q1)⟩ := by
  have O : (tabF F s0 s1 p0 p1).Ok := tabF_ok h0 h1
  have eh : (tabF F s0 s1 p0 p1).has = F := by funext k l; exact tabF_has h0 h1 P k l
  have R := (tabF F s0 s1 p0 p1).lst_rows O
  have C := (tabF F s0 s1 p0 p1).lst_cols O
  have rr := (tabF F s0 s1 p0 p1).least_rows O
  rw [eh] at R C rr
  obtain ⟨e1, e2⟩ := R.uniq (L0.eqv (rowF_iff P h1 hw))
  obtain ⟨e3, e4⟩ := C.uniq (L1.eqv (colF_iff P h0 ht))
  have : (tabF F s0 s1 p0 p1).least = ⟨(tabF F s0 s1 p0 p1).f0, (tabF F s0 s1 p0 p1).f1, (tabF F s0 s1 p0 p1).b0, (tabF F s0 s1 p0 p1).b1, (tabF F s0 s1 p0 p1).least.rows⟩ := rfl
  rw [this, rr, e1, e2, e3, e4]
end
end FH

set_option Elab.async false
set_option linter.all false
set_option maxRecDepth 100000
set_option maxHeartbeats 2000000
/-! lambdas of two numbers, handed to a def: the function and its cells are tracked while the def runs -/
namespace FH
open PySem PySem.Spec PyProof.Rows L2
/-- a thing known to the very object -/
def ObO (a : Addr) (o : Obj) : HO := .ext fun h => h.get? a = some o
def Lay (L : List (Addr × Obj)) (H : Hp) : Hp := fun b => match L.lookup b with
  | some o => some (ObO b o)
  | none => H b
def Off (L : List (Addr × Obj)) (H : Hp) : Hp := fun b => match L.lookup b with
  | some _ => none
  | none => H b
theorem lay_in {L : List (Addr × Obj)} {H : Hp} {b : Addr} {o : Obj} (h : L.lookup b = some o) : Lay L H b = some (ObO b o) := by unfold Lay; rw [h]
theorem lay_out {L : List (Addr × Obj)} {H : Hp} {b : Addr} (h : L.lookup b = none) : Lay L H b = H b := by unfold Lay; rw [h]
theorem off_in {L : List (Addr × Obj)} {H : Hp} {b : Addr} {o : Obj} (h : L.lookup b = some o) : Off L H b = none := by unfold Off; rw [h]
theorem off_out {L : List (Addr × Obj)} {H : Hp} {b : Addr} (h : L.lookup b = none) : Off L H b = H b := by unfold Off; rw [h]
theorem memL : ∀ {L : List (Addr × Obj)} {b : Addr} {o : Obj}, L.lookup b = some o → (b, o) ∈ L
  | [], _, _, h => by cases h
  | (c, u) :: L, b, o, h => by
    rw [List.lookup_cons] at h
    by_cases e : b = c
    · subst e
      simp at h
      rw [h]
      exact .head _
    · rw [show (b == c) = false by simpa using e] at h
      exact .tail _ (memL h)
theorem out_of {L : List (Addr × Obj)} {b : Addr} (h : ∀ p ∈ L, p.1 ≠ b) : L.lookup b = none := by
  cases e : L.lookup b with
  | none => rfl
  | some o => exact absurd rfl (h (b, o) (memL e))
theorem obO_ok {P : Program} {w : World} {H : Hp} {h : Heap} {a : Addr} {o : Obj} (e : h.get? a = some o) : ObjOk P w H h a (ObO a o) := ⟨e, ⟨o, e⟩, fun _ _ q k => k _ q⟩
theorem of_obO {P : Program} {w : World} {H : Hp} {h : Heap} {a : Addr} {o : Obj} (x : ObjOk P w H h a (ObO a o)) : h.get? a = some o := x.1
section
variable {P : Program} {w : World} {K : PySem.W.Frag} {mg : Str → Option Value} {base : Heap} {A : Around} {outer : List Env} {s s' : Shared} {H H' : Hp} {L : List (Addr × Obj)}
theorem nlay (hn : ∀ p ∈ L, H p.1 = none) {b : Addr} {u : HO} (e : H b = some u) : L.lookup b = none := out_of fun p hp z => by
  have := hn p hp
  rw [z, e] at this
  cases this
theorem noff (hn : ∀ p ∈ L, H p.1 = some (ObO p.1 p.2)) {b : Addr} {u : HO} (e : H b = some u) (nx : ∀ φ, u ≠ .ext φ) : L.lookup b = none := out_of fun p hp z => by
  have := hn p hp
  rw [z, e] at this
  exact nx _ (Option.some.inj this)
theorem env_lay (e : Env0 P w K mg base A outer s H) (hn : ∀ p ∈ L, H p.1 = none) (hg : ∀ p ∈ L, s.heap.get? p.1 = some p.2) (hb : ∀ p ∈ L, base.get? p.1 = none) (hf : ∀ p ∈ L, p.1 ∉ frs outer) : Env0 P w K mg base A outer s (Lay L H) := by
  refine ⟨e.frames, e.mod, fun b o q => ⟨(e.bs b o q).1, ?_⟩, e.bsz, e.funs, fun b q => ?_, fun b u q => ?_, e.bare⟩
  · rw [lay_out (out_of fun p hp z => ?_)]
    · exact (e.bs b o q).2
    · have := hb p hp
      rw [z, q] at this
      cases this
  · rw [lay_out (out_of fun p hp z => hf p hp (by rw [z]; exact q))]
    exact e.frf b q
  · cases l : L.lookup b with
    | some o =>
      rw [lay_in l] at q
      cases q
      exact obO_ok (hg (b, o) (memL l))
    | none =>
      rw [lay_out l] at q
      exact (e.hok b u q).stay (fun _ _ _ z => z) (fun c z => by rw [lay_out (nlay hn z)]; exact z) fun c xs z => by rw [lay_out (nlay hn z)]; exact z
theorem hok_off {h : Heap} (e : HOk P w H h) (hn : ∀ p ∈ L, H p.1 = some (ObO p.1 p.2)) : HOk P w (Off L H) h := fun b u q => by
  cases l : L.lookup b with
  | some o => rw [off_in l] at q; cases q
  | none =>
    rw [off_out l] at q
    exact (e b u q).stay (fun _ _ _ z => z) (fun c z => by rw [off_out (noff hn z fun φ y => by cases y)]; exact z) fun c xs z => by rw [off_out (noff hn z fun φ y => by cases y)]; exact z
theorem off_none {b : Addr} (n : H b = none) : Off L H b = none := by
  cases l : L.lookup b with
  | some o => exact off_in l
  | none => rw [off_out l]; exact n
theorem env_off (e : Env0 P w K mg base A outer s H) (hn : ∀ p ∈ L, H p.1 = some (ObO p.1 p.2)) : Env0 P w K mg base A outer s (Off L H) :=
  ⟨e.frames, e.mod, fun b o q => ⟨(e.bs b o q).1, off_none (e.bs b o q).2⟩, e.bsz, e.funs, fun b q => off_none (e.frf b q), hok_off e.hok hn, e.bare⟩
/-- the def's end: what was tracked for it is hidden again -/
theorem ce_back {Q Q' : VK} {u : Value} (h : CE outer P w (Lay L H) s Q u s') (hn : ∀ p ∈ L, H p.1 = none) (hg : ∀ p ∈ L, s.heap.get? p.1 = some p.2) (hq : ∀ v H', Q v H' → (∀ p ∈ L, H' p.1 = some (ObO p.1 p.2)) ∧ Q' v (Off L H')) : CE outer P w H s Q' u s' := by
  obtain ⟨v, H', os, bare, un, hok, r, q⟩ := h
  obtain ⟨hk, q'⟩ := hq v H' q
  refine ⟨v, Off L H', os, bare, ⟨fun b o e n hb hx => ?_, fun b o e n hb hx => ?_, fun b o e n hx => ?_, fun b o e hx => un.there b o e hx, fun b xs e => ?_, fun b o xs e => ?_, fun b ps e => ?_⟩, hok_off hok hk, r, q'⟩
  · cases l : L.lookup b with
    | some o' =>
      have m := memL l
      have z := hg _ m
      rw [e] at z
      cases z
      exact of_obO (hok b _ (hk _ m))
    | none => exact un.keep b o e (by rw [lay_out l]; exact n) hb hx
  · cases l : L.lookup b with
    | some o' =>
      have m := memL l
      have z := hg _ m
      rw [e] at z
      cases z
      exact ⟨o'.slots, of_obO (hok b _ (hk _ m))⟩
    | none => exact un.slot b o e (by rw [lay_out l]; exact n) hb hx
  · cases l : L.lookup b with
    | some o' => exact off_in l
    | none => rw [off_out l]; exact un.free b o e (by rw [lay_out l]; exact n) hx
  · have l := nlay hn e
    rw [off_out l]
    exact un.tups b xs (by rw [lay_out l]; exact e)
  · have l := nlay hn e
    rw [off_out l]
    exact un.frzs b o xs (by rw [lay_out l]; exact e)
  · have l := nlay hn e
    rw [off_out l]
    exact un.tbls b ps (by rw [lay_out l]; exact e)
/-- the lambda's end: its cells are tracked again -/
theorem ce_lam {Q Q' : VK} {u : Value} (h : CE outer P w (Off L H) s Q u s') (ho : HOk P w H s.heap) (hn : ∀ p ∈ L, H p.1 = some (ObO p.1 p.2)) (hf : ∀ p ∈ L, p.1 ∉ frs outer) (hq : ∀ v H', Q v H' → Q' v (Lay L H')) : CE outer P w H s Q' u s' := by
  obtain ⟨v, H', os, bare, un, hok, r, q⟩ := h
  have out : ∀ {b : Addr}, H b = none → L.lookup b = none := fun {b} n => out_of fun p hp z => by
    have := hn p hp
    rw [z, n] at this
    cases this
  have gone : ∀ p ∈ L, H' p.1 = none := fun p hp => by
    have e := of_obO (ho _ _ (hn p hp))
    refine un.free p.1 p.2 e ?_ (by simp)
    cases l : L.lookup p.1 with
    | some o => exact off_in l
    | none => exact absurd hp (by
        intro _
        have : (L.lookup p.1).isSome = true := by
          rw [List.lookup_isSome_iff]
          exact ⟨p, hp, by simp⟩
        rw [l] at this
        cases this)
  refine ⟨v, Lay L H', os, bare, ⟨fun b o e n hb hx => un.keep b o e (off_none n) hb hx, fun b o e n hb hx => un.slot b o e (off_none n) hb hx, fun b o e n hx => ?_, fun b o e hx => un.there b o e hx, fun b xs e => ?_, fun b o xs e => ?_, fun b ps e => ?_⟩, fun b u e => ?_, r, hq v H' q⟩
  · rw [lay_out (out n)]
    exact un.free b o e (off_none n) hx
  · have l := noff hn e (fun φ y => by cases y)
    rw [lay_out l]
    exact un.tups b xs (by rw [off_out l]; exact e)
  · have l := noff hn e (fun φ y => by cases y)
    rw [lay_out l]
    exact un.frzs b o xs (by rw [off_out l]; exact e)
  · have l := noff hn e (fun φ y => by cases y)
    rw [lay_out l]
    exact un.tbls b ps (by rw [off_out l]; exact e)
  · cases l : L.lookup b with
    | some o =>
      rw [lay_in l] at e
      cases e
      have m := memL l
      exact obO_ok (un.keep b o (of_obO (ho _ _ (hn _ m))) (off_in l) (hf _ m) (by simp))
    | none =>
      rw [lay_out l] at e
      exact (hok b u e).stay (fun _ _ _ z => z) (fun c z => by rw [lay_out (nlay gone z)]; exact z) fun c xs z => by rw [lay_out (nlay gone z)]; exact z
end
end FH

set_option Elab.async false
set_option linter.all false
set_option maxRecDepth 100000
set_option maxHeartbeats 2000000
namespace FH
open PySem PySem.Spec PyProof.Rows L2 LamX
/-- the promise of a test of two numbers -/
def spB (F : Nat → Nat → Bool) : Sp := fun vs H Q _ => ∃ k l : Nat, vs = [.int k, .int l] ∧ ∀ H', Same H H' → Q (.bl (F k l)) H'
/-- at f stands a test of two numbers: it may be called wherever nothing of H has changed -/
structure LamAt (P : Program) (w : World) (K : PySem.W.Frag) (mg : Str → Option Value) (base : Heap) (k : Nat) (H : Hp) (f : Addr) (F : Nat → Nat → Bool) : Prop where
  fn : ∃ oc od fd sl, H f = some (ObO f ⟨oc, od, .func fd, sl⟩)
  run : ∀ H2, Same H H2 → ∀ (A : Around) (outer : List Env) (s : Shared) (us : List Value) (vs : List V) (Q : VK), Room k A → Env0 P w K mg base A outer s H2 → Vals vs us → spB F vs H2 Q E0 → codeAny (model P w) A (.call (.ref f) ⟨us, []⟩) (CR CX0 outer P w H2 s Q E0) s
theorem LamAt.same {P : Program} {w : World} {K : PySem.W.Frag} {mg : Str → Option Value} {base : Heap} {k : Nat} {H H' : Hp} {f : Addr} {F : Nat → Nat → Bool} (h : LamAt P w K mg base k H f F) (s : Same H H') : LamAt P w K mg base k H' f F := by
  refine ⟨?_, fun H2 s2 => h.run H2 (s.trans s2)⟩
  obtain ⟨oc, od, fd, sl, e⟩ := h.fn
  exact ⟨oc, od, fd, sl, s _ _ e⟩
theorem LamAt.mono {P : Program} {w : World} {K : PySem.W.Frag} {mg : Str → Option Value} {base : Heap} {j k : Nat} {H : Hp} {f : Addr} {F : Nat → Nat → Bool} (h : LamAt P w K mg base j H f F) (l : j ≤ k) : LamAt P w K mg base k H f F :=
  ⟨h.fn, fun H2 s2 A outer s us vs Q hr => h.run H2 s2 A outer s us vs Q (hr.mono l)⟩
/-- what is seen of the lambda's names: a, b its parameters; cap, at the places ids of N, what it captures -/
structure LamP (N : List Str) (sc scope : Scope) (a b : Str) (ids : List Nat) (cap : List Str) : Prop where
  kind : scope.kind = .function
  co : scope.isCoroutine = false
  gen : scope.isGenerator = false
  ab : a ≠ b
  pa : scope.names.lookup a = some .local
  pb : scope.names.lookup b = some .local
  cell : ∀ y ∈ scope.names, y.2 ≠ .cell
  free : ∀ y ∈ scope.names, y.2 = .free → sc.names.lookup y.1 = some .cell ∨ sc.names.lookup y.1 = some .free
  caps : ∀ x ∈ cap, scope.names.lookup x = some .free
  ix : ids.map (fun i => N[i]?) = cap.map some
def lamPB (N : List Str) (sc scope : Scope) (a b : Str) (ids : List Nat) (cap : List Str) : Bool :=
  decide (scope.kind = .function) && !scope.isCoroutine && !scope.isGenerator && !decide (a = b) && decide (scope.names.lookup a = some .local) && decide (scope.names.lookup b = some .local) &&
  scope.names.all (fun y => !decide (y.2 = .cell) && (!decide (y.2 = .free) || decide (sc.names.lookup y.1 = some .cell) || decide (sc.names.lookup y.1 = some .free))) && cap.all (fun x => decide (scope.names.lookup x = some .free)) && decide (ids.map (fun i => N[i]?) = cap.map some)
theorem lamP_by {N : List Str} {sc scope : Scope} {a b : Str} {ids : List Nat} {cap : List Str} (h : lamPB N sc scope a b ids cap = true) : LamP N sc scope a b ids cap := by
  unfold lamPB at h
  simp only [Bool.and_eq_true, Bool.or_eq_true, Bool.not_eq_true', decide_eq_true_eq, decide_eq_false_iff_not, List.all_eq_true] at h
  obtain ⟨⟨⟨⟨⟨⟨⟨⟨h1, h2⟩, h3⟩, h4⟩, h5⟩, h6⟩, h7⟩, h8⟩, h9⟩ := h
  refine ⟨h1, h2, h3, h4, h5, h6, fun y hy => (h7 y hy).1, fun y hy e => ?_, h8, h9⟩
  rcases (h7 y hy).2 with (z | z) | z
  · exact absurd e z
  · exact .inl z
  · exact .inr z
abbrev envL (qual : Str) (scope : Scope) (L f : Addr) (cd : Value) (clos : List (Str × Addr)) : Env := PySem.W.envX qual scope L f cd clos
/-- the context of a lambda's body -/
def cxL (P : Program) (w : World) (K : PySem.W.Frag) (mg : Str → Option Value) (base : Heap) (N : List Str) (qual : Str) (scope : Scope) (f : Addr) (cd : Value) (clos : List (Str × Addr)) (A : Around) (outer : List Env) (s : Shared) (H : Hp) : Cx where
  prog := P
  w := w
  K := K
  mg := mg
  base := base
  A := A.deeper (envL qual scope s.heap.objs.size f cd clos)
  N := N
  s_0 := s
  H_0 := H
  env := envL qual scope s.heap.objs.size f cd clos
  outer := outer
  stack := envL qual scope s.heap.objs.size f cd clos :: outer
  ex := []
  calm := true
  fn := fun _ => false
  pn := []
  xe := fun _ _ => False
section
variable {P : Program} {w : World} {K : PySem.W.Frag} {mg : Str → Option Value} {base : Heap} {A : Around} {outer : List Env} {s : Shared} {H : Hp}
theorem lam_start {N : List Str} {σ : L2.St} {qual : Str} {scope : Scope} {f : Addr} {cd : Value} {clos : List (Str × Addr)} {h₁ : Heap} {m : Str → Option Value} {tk : Nat} (hl : σ.length = N.length) (kind : scope.kind = .function) (e0 : Env0 P w K mg base A outer s H) (hd : A.handled = none)
    (hinj : ∀ x y c, clos.lookup x = some c → clos.lookup y = some c → x = y) (hhas : ∀ x, (scope.names.lookup x = some .cell ∨ scope.names.lookup x = some .free) → ∃ c, clos.lookup x = some c) (hcell : ∀ x c, clos.lookup x = some c → ∃ v, h₁.IsCell c v) (hfc : ∀ x c, clos.lookup x = some c → H c = none)
    (hns : h₁.Ns s.heap.objs.size m) (kp : ∀ b o, s.heap.get? b = some o → h₁.get? b = some o) (hloc : ∀ (i : Nat) (x : Str) (v : V), N[i]? = some x → σ[i]? = some (some v) → ∃ u, RelV v u ∧ Look (envL qual scope s.heap.objs.size f cd clos) h₁ m x u) :
    Inv (cxL P w K mg base N qual scope f cd clos A outer s H) [] σ H { s with heap := h₁, toks := tk } := by
  have noA : ∀ b : Addr, b ∉ (cxL P w K mg base N qual scope f cd clos A outer s H).ex := fun b z => absurd (show b ∈ ([] : List Addr) from z) (by simp)
  refine ⟨⟨e0.mod, kind, rfl, rfl, Nat.le_refl _, hinj, hhas, fun y c z _ => ?_, fun _ => hd, Around.frames_deeper e0.frames, .inr ⟨rfl, rfl⟩, fun b z => absurd z (noA b), e0.bs, e0.bsz, fun b _ _ => noA b, fun b z => absurd z (noA b), e0.funs, e0.frf⟩,
    rfl, e0.bare, Un.kept kp, ⟨m, hns, fun i y v e1 e2 _ => hloc i y v e1 e2⟩, hcell, e0.hok.fresh (Nat.le_refl _), hfc, fun q hq => absurd (show q ∈ ([] : List (Addr × Obj)) ++ [] from hq) (by simp), e0.hok.kept kp, hl⟩
  have z : false = true := z
  cases z
end
section
variable {X : Cx} {pins : List (Addr × Obj)} {σ : L2.St} {H : Hp} {s : Shared}
/-- the lambda is made -/
theorem lam_mk {T : List (Addr × Str)} {c P : Addr} {params : Arguments} {body : Expr} {scope : Scope} {pos : Pos} {E : Value → Shared → Prop} {Q : Value → Shared → Prop} (I : Inv X pins σ H s) (TB : TabB X.base X.mg c P) (hcode : X.env.code = .ref c)
    (hm : (P, X.env.qual ++ "<lambda>") ∈ T) (hu : ∀ p ∈ T, p.1 = P → p.2 = X.env.qual ++ "<lambda>") (hT : Tabs T H) (hdef : defaultsOf params X.env = ([], [])) (hfree : ∀ y ∈ scope.names, y.2 = .free → ∃ c, X.env.cells.lookup y.1 = some c)
    (h : ∀ (f c' : Addr) (pm ctv : Value) (H1 : Hp) (s' : Shared), Inv X pins σ H1 s' → ExtN H H1 → Tabs T H1 → s'.heap.get? f = some (PySem.W.kla_obj "<lambda>" (X.env.qual ++ "<lambda>") params body scope (cloFrom X.env.cells scope.names []) pm c' ctv) →
      H1 f = none → s.heap.objs.size ≤ f → H1 c' = some (CodeO c' (X.env.qual ++ "<lambda>")) → Q (.ref f) s') :
    wpAny (model X.prog X.w) X.A (eval (.Lambda params body scope pos) X.env) Q E s := by
  obtain ⟨ps, hP, ht, ha⟩ := hT _ hm
  have gP : s.heap.get? P = some { cls := .none, data := .fields ps } := I.hok P _ hP
  have bP : s.heap.BuiltinsAt X.mg P := TB.bm.keeps I.bk
  refine PySem.W.kla_eval hdef ?_
  cases hc : codeAmong pos ps.toList with
  | some cv =>
    obtain ⟨c', rfl, hco⟩ := ha pos cv hc
    refine PySem.W.kla_makeFunctionHit (mg := X.mg) (closure_ok hfree) I.ok.glob (I.mod.glob.keeps I.bk) hcode (TB.code.keeps I.bk) gP ht hc bP fun ctv h' tk hx hsz => ?_
    exact h _ c' _ ctv H _ (I.kept fun b o e => Heap.get?_push_of_some _ (hx b o e)) (ExtN.refl H) hT (Heap.get?_push_size _ rfl) (I.hok.fresh hsz) hsz hco
  | none =>
    refine PySem.W.kla_makeFunction (mg := X.mg) (closure_ok hfree) I.ok.glob (I.mod.glob.keeps I.bk) hcode (TB.code.keeps I.bk) gP ht hc TB.gP bP fun c' ctv h' tk hx hge hlt hrec htb => ?_
    obtain ⟨c2, oc, vs, t, e2, hoc, hd, hv⟩ := hrec
    cases e2
    have hsz : s.heap.objs.size ≤ h'.objs.size := Nat.le_trans hge (Nat.le_of_lt hlt)
    have nC : H c' = none := I.hok.fresh hge
    let more : Array Value := #[rawInt pos.line, rawInt pos.col, .ref c']
    have hE : ExtN H (upd (upd H P (.tbl (ps ++ more))) c' (CodeO c' (X.env.qual ++ "<lambda>"))) := fun b o e n => by
      have h1 : b ≠ c' := ne_of_none e nC
      have h2 : b ≠ P := fun z => n ps (by rw [z, hP] at e; exact (Option.some.inj e).symm)
      rw [upd_ne h1, upd_ne h2]
      exact e
    refine h _ c' _ ctv _ _ (inv_table (t' := tk) (more := more) I hP (fun b o hb e => Heap.get?_push_of_some _ (hx b o hb e)) (Heap.get?_push_of_some _ htb) hge ⟨oc, vs, t, Heap.get?_push_of_some _ hoc, hd, hv⟩) hE (fun p hp => ?_) (Heap.get?_push_size _ rfl) ?_ hsz upd_same
    · have old : ∀ {cv : Value}, (∃ c, cv = .ref c ∧ H c = some (CodeO c p.2)) → ∃ c, cv = .ref c ∧ upd (upd H P (.tbl (ps ++ more))) c' (CodeO c' (X.env.qual ++ "<lambda>")) c = some (CodeO c p.2) := fun ⟨c, e1, e2⟩ => ⟨c, e1, hE _ _ e2 codeO_ne⟩
      by_cases hb : p.1 = P
      · have e2 := hu p hp hb
        have eL : (ps ++ more).toList = ps.toList ++ [rawInt pos.line, rawInt pos.col, .ref c'] := by simp [more]
        refine ⟨ps ++ more, by rw [hb, upd_ne (ne_of_none hP nC), upd_same], by rw [eL]; exact PySem.TriplesOk_snoc _ _ _ _ ht, fun p' cv hcv => ?_⟩
        rw [eL] at hcv
        rcases among_app _ ht hcv with z | z
        · exact old (by rw [e2]; exact ha p' cv z)
        · exact ⟨c', z, by rw [e2]; exact upd_same⟩
      · obtain ⟨ps', a1, a2, a3⟩ := hT p hp
        exact ⟨ps', by rw [upd_ne (ne_of_none a1 nC), upd_ne hb]; exact a1, a2, fun p' cv hcv => old (a3 p' cv hcv)⟩
    · rw [upd_ne (Nat.ne_of_gt hlt), upd_ne (Nat.ne_of_gt (Nat.lt_of_lt_of_le (Heap.lt_size gP) hsz))]
      exact I.hok.fresh hsz
/-- what is tracked for the def, and the lambda's promise there -/
theorem lam_at {k : Nat} {params : Arguments} {body : Expr} {scope : Scope} {a b : Str} {ids : List Nat} {cap : List Str} {f c' : Addr} {pm ctv : Value} {tb : TE} {F : Nat → Nat → Bool} (I : Inv X pins σ H s) (L : LamP X.N X.env.scope scope a b ids cap) (hfn : ∀ y, X.fn y = true)
    (hf : s.heap.get? f = some (PySem.W.kla_obj "<lambda>" (X.env.qual ++ "<lambda>") params body scope (cloFrom X.env.cells scope.names []) pm c' ctv)) (hf0 : H f = none) (hfr : f ∉ frs X.stack) (hfb : X.base.objs.size ≤ f) (hc : H c' = some (CodeO c' (X.env.qual ++ "<lambda>")))
    (hbind : ∀ (q : Str) (cl : List (Str × Addr)) (pm cv ctv u v : Value), bindArgs (PySem.W.kla_fn "<lambda>" q params body scope cl pm cv ctv) ⟨[u, v], []⟩ = pure [(a, u), (b, v)])
    (hbody : ∀ (A : Around) (outer : List Env) (s : Shared) (H : Hp), Room k (A.deeper (envL (X.env.qual ++ "<lambda>") scope s.heap.objs.size f (.ref c') (cloFrom X.env.cells scope.names []))) → PE (cxL X.prog X.w X.K X.mg X.base (a :: b :: cap) (X.env.qual ++ "<lambda>") scope f (.ref c') (cloFrom X.env.cells scope.names []) A outer s H) body tb)
    (hF : ∀ (HD : Hp) (k l : Nat) (Q : VK), Same H HD → (∀ H', Same HD H' → Q (.bl (F k l)) H') → tb (some (.int k) :: some (.int l) :: ids.map fun i => (σ[i]?).getD none) HD Q) :
    ∃ G : List (Addr × Obj), (∀ p ∈ G, H p.1 = none) ∧ (∀ p ∈ G, s.heap.get? p.1 = some p.2) ∧ (∀ p ∈ G, X.base.get? p.1 = none) ∧ (∀ p ∈ G, p.1 ∉ frs X.stack) ∧ LamAt X.prog X.w X.K X.mg X.base (k + 1) (Lay G H) f F := by
  have hfree : ∀ y ∈ scope.names, y.2 = .free → ∃ c, X.env.cells.lookup y.1 = some c := fun y hy e => by
    rcases L.free y hy e with z | z
    · exact I.ok.has _ (.inl z)
    · exact I.ok.has _ (.inr z)
  generalize hcl : cloFrom X.env.cells scope.names [] = clos at hf hbody
  have cmm : ∀ {y c}, (y, c) ∈ clos → X.env.cells.lookup y = some c := fun {y c} e => by
    rw [← hcl] at e
    rcases cloFrom_mem e with z | ⟨h1, h2⟩
    · cases z
    · obtain ⟨c1, h3⟩ := hfree _ h1 rfl
      rw [h2, show X.env.cells.lookup y = some c1 from h3]
      rfl
  have cm : ∀ {y c}, clos.lookup y = some c → X.env.cells.lookup y = some c := fun e => cmm (PySem.mem_of_lookup e)
  have look : ∀ {y}, scope.names.lookup y = some .free → ∃ c, clos.lookup y = some c := fun {y} h => by
    rw [← hcl]
    exact mem_lookup (cloFrom_has (cells := X.env.cells) (acc := []) (PySem.mem_of_lookup h))
  generalize hob : PySem.W.kla_obj "<lambda>" (X.env.qual ++ "<lambda>") params body scope clos pm c' ctv = ob at hf
  let C : List (Addr × Obj) := clos.map fun p => (p.2, (s.heap.get? p.2).getD ob)
  have inC : ∀ p ∈ C, ∃ y, (y, p.1) ∈ clos ∧ X.env.cells.lookup y = some p.1 ∧ s.heap.get? p.1 = some p.2 := fun p hp => by
    obtain ⟨q, hq, rfl⟩ := List.mem_map.mp hp
    have e := cmm (y := q.1) (c := q.2) hq
    obtain ⟨v, o, ho, _⟩ := I.cell _ _ e
    refine ⟨q.1, hq, e, ?_⟩
    show s.heap.get? q.2 = some ((s.heap.get? q.2).getD ob)
    rw [ho]
    rfl
  have hasC : ∀ {y c}, clos.lookup y = some c → ∃ o, C.lookup c = some o := fun {y c} e => by
    have : (C.lookup c).isSome = true := by
      rw [List.lookup_isSome_iff]
      exact ⟨(c, _), List.mem_map.mpr ⟨(y, c), PySem.mem_of_lookup e, rfl⟩, by simp⟩
    exact Option.isSome_iff_exists.mp this
  have cge : ∀ {y c}, X.env.cells.lookup y = some c → X.s_0.heap.objs.size ≤ c := fun {y c} e => I.ok.cab y c (hfn y) e
  have hH : ∀ p ∈ (f, ob) :: C, H p.1 = none := fun p hp => by
    rcases List.mem_cons.mp hp with rfl | hp
    · exact hf0
    · obtain ⟨y, _, e, _⟩ := inC p hp
      exact I.freeC y _ e
  have hg : ∀ p ∈ (f, ob) :: C, s.heap.get? p.1 = some p.2 := fun p hp => by
    rcases List.mem_cons.mp hp with rfl | hp
    · exact hf
    · obtain ⟨y, _, _, e⟩ := inC p hp
      exact e
  refine ⟨(f, ob) :: C, hH, hg, fun p hp => ?_, fun p hp => ?_, ⟨?_, fun H2 s2 A outer t2 us vs Q hr e0 hv hsp => ?_⟩⟩
  · rcases List.mem_cons.mp hp with rfl | hp
    · exact Heap.get?_none_of_le hfb
    · obtain ⟨y, _, e, _⟩ := inC p hp
      exact Heap.get?_none_of_le (Nat.le_trans I.ok.bsz (cge e))
  · rcases List.mem_cons.mp hp with rfl | hp
    · exact hfr
    · obtain ⟨y, _, e, _⟩ := inC p hp
      intro z
      rcases List.mem_cons.mp (I.stkSub _ z) with z | z
      · obtain ⟨v, o, ho, hd⟩ := I.cell _ _ e
        obtain ⟨m, ⟨o', es, ep, e1, e2, _⟩, _⟩ := I.loc
        rw [← z, ho] at e1
        cases e1
        rw [hd] at e2
        cases e2
      · obtain ⟨_, o, ho, _⟩ := I.ok.funs.mem z
        exact absurd (Nat.lt_of_lt_of_le (Heap.lt_size ho) (cge e)) (Nat.lt_irrefl _)
  · have e := lay_in (L := (f, ob) :: C) (H := H) (b := f) (o := ob) (by simp [List.lookup_cons])
    rw [← hob] at e
    rw [← hob]
    exact ⟨_, _, _, _, e⟩
  · obtain ⟨kk, l, rfl, hq⟩ := hsp
    obtain ⟨u1, us, rfl⟩ : ∃ u us', us = u :: us' := by cases hv; exact ⟨_, _, rfl⟩
    obtain ⟨u2, us, rfl⟩ : ∃ u us', us = u :: us' := by cases hv with | cons _ h => cases h; exact ⟨_, _, rfl⟩
    obtain rfl : us = [] := by cases hv with | cons _ h => cases h with | cons _ h => cases h; rfl
    have r1 : RelV (.int kk) u1 := by cases hv with | cons h _ => exact h
    have r2 : RelV (.int l) u2 := by cases hv with | cons _ h => cases h with | cons h _ => exact h
    have trk : ∀ p ∈ (f, ob) :: C, H2 p.1 = some (ObO p.1 p.2) := fun p hp => s2 _ _ (by
      have : (((f, ob) :: C).lookup p.1).isSome = true := by
        rw [List.lookup_isSome_iff]
        exact ⟨p, hp, by simp⟩
      obtain ⟨o, ho⟩ := Option.isSome_iff_exists.mp this
      rw [lay_in ho]
      have e1 := hg _ (memL ho)
      rw [hg p hp] at e1
      have e1 : p.2 = o := Option.some.inj e1
      rw [e1])
    have trkC : ∀ p ∈ C, H2 p.1 = some (ObO p.1 p.2) := fun p hp => trk p (.tail _ hp)
    have of2 : t2.heap.get? f = some ob := of_obO (e0.hok _ _ (trk (f, ob) (.head _)))
    have hc2 : H2 c' = some (CodeO c' (X.env.qual ++ "<lambda>")) := s2 _ _ (by rw [lay_out (nlay hH hc)]; exact hc)
    obtain ⟨⟨oc, vs, t, hoc, hdc, hvc⟩, _, _⟩ := e0.hok c' _ hc2
    rw [← hob] at of2
    refine PySem.W.kla_callFunE hr.depth of2 rfl L.co L.gen rfl ⟨c', oc, vs, t, rfl, hoc, hdc, hvc⟩ ?_
    rw [hbind]
    have lim : t2.heap.NoLimit := e0.mod.nolimit.keeps fun b o e => (e0.bs b o e).1
    refine wpAny_pure (wpAny_newFunctionEnv (fun y hy => L.cell y hy) (fun y hy => ?_) (fun h₁ hns hsb => ⟨lim.fresh _ hsb, ?_⟩) L.kind)
    · simp only [List.mem_cons, List.not_mem_nil, or_false] at hy
      rcases hy with rfl | rfl
      · exact L.pa
      · exact L.pb
    · show codeAny _ _ (.expr body (envL (X.env.qual ++ "<lambda>") scope t2.heap.objs.size f (.ref c') clos)) _ _
      have kp : ∀ b o, t2.heap.get? b = some o → h₁.get? b = some o := fun b o e => hsb.extBut b o (Nat.ne_of_lt (Heap.lt_size e)) (Heap.get?_push_of_some _ e)
      have cellK : ∀ {y c} {v : Option Value}, clos.lookup y = some c → s.heap.IsCell c v → h₁.IsCell c v := fun {y c v} e ⟨o, ho, hd⟩ => by
        obtain ⟨o', ho'⟩ := hasC e
        have m := memL ho'
        have e1 := hg _ (.tail _ m)
        rw [ho] at e1
        cases e1
        exact ⟨_, kp _ _ (of_obO (e0.hok _ _ (trkC _ m))), hd⟩
      have sHD : Same H (Off C H2) := fun b o e => by
        have l1 := nlay hH e
        have l2 : C.lookup b = none := nlay (fun p hp => hH p (.tail _ hp)) e
        rw [off_out l2]
        exact s2 _ _ (by rw [lay_out l1]; exact e)
      have J : Inv (cxL X.prog X.w X.K X.mg X.base (a :: b :: cap) (X.env.qual ++ "<lambda>") scope f (.ref c') clos A outer t2 (Off C H2)) [] (some (.int kk) :: some (.int l) :: ids.map fun i => (σ[i]?).getD none) (Off C H2) { t2 with heap := h₁, toks := t2.toks + 2 } := by
        refine lam_start ?_ L.kind (env_off e0 trkC) hr.hd (fun x y c h1 h2 => I.ok.inj x y c (cm h1) (cm h2)) (fun x hx => ?_) (fun x c h => ?_) (fun x c h => ?_) hns kp (fun i x v h1 h2 => ?_)
        · have := congrArg List.length L.ix
          simp at this
          simp [this]
        · rcases hx with hx | hx
          · exact absurd rfl (L.cell _ (PySem.mem_of_lookup hx))
          · exact look hx
        · obtain ⟨v, z⟩ := I.cell _ _ (cm h)
          exact ⟨v, cellK h z⟩
        · obtain ⟨o, ho⟩ := hasC h
          exact off_in ho
        · match i, h1, h2 with
          | 0, h1, h2 =>
            simp at h1 h2
            subst h1 h2
            refine ⟨u1, r1, .inl ⟨L.pa, ?_⟩⟩
            have : (a == b) = false := by simpa using L.ab
            simp [List.lookup_cons, this]
          | 1, h1, h2 =>
            simp at h1 h2
            subst h1 h2
            exact ⟨u2, r2, .inl ⟨L.pb, by simp [List.lookup_cons]⟩⟩
          | j + 2, h1, h2 =>
            simp only [List.getElem?_cons_succ] at h1 h2
            have hx := congrArg (fun z => z[j]?) L.ix
            simp only [List.getElem?_map, h1] at hx
            rw [List.getElem?_map] at h2
            cases hi : ids[j]? with
            | none => rw [hi] at h2; cases h2
            | some i0 =>
              rw [hi] at h2 hx
              simp only [Option.map_some, Option.some.injEq] at h2 hx
              have hs : σ[i0]? = some (some v) := by
                cases e : σ[i0]? with
                | none => rw [e] at h2; cases h2
                | some z => rw [e] at h2; exact congrArg some h2
              have hfr2 := L.caps x (List.mem_of_getElem? h1)
              have hk := L.free _ (PySem.mem_of_lookup hfr2) rfl
              obtain ⟨m, hn, hl⟩ := I.loc
              obtain ⟨u, ru, q⟩ := hl i0 x v hx hs (hk.elim (fun k => .inr (.inl k)) fun k => .inr (.inr k))
              obtain ⟨c2, hc2⟩ := look hfr2
              refine ⟨u, ru, .inr ⟨.inr hfr2, c2, hc2, ?_⟩⟩
              rcases q with ⟨k', _⟩ | ⟨_, c3, e3, z⟩
              · have k' : X.env.scope.names.lookup x = some .local := k'
                rcases hk with k2 | k2 <;> rw [show X.env.scope.names.lookup x = _ from k2] at k' <;> cases k'
              · rw [cm hc2] at e3
                cases e3
                exact cellK hc2 z
      have ht := hF (Off C H2) kk l (fun v H' => Q v (Lay C H')) sHD fun H' sH' => hq (Lay C H') fun b o e => by
        cases lk : C.lookup b with
        | some o' =>
          rw [lay_in lk]
          have e1 := trkC _ (memL lk)
          rw [e] at e1
          exact e1.symm
        | none =>
          rw [lay_out lk]
          exact sH' _ _ (by rw [off_out lk]; exact e)
      refine PySem.W.kla_codeExpr (wpAny_mono ((hbody A outer t2 (Off C H2) (hr.deeper _)).run [] _ _ _ _ J ht) (fun v s' h => ?_) fun e s' h => (show False from h).elim)
      obtain ⟨w', H', J', rv, q⟩ := h
      refine ce_lam (L := C) ⟨w', H', J'.os, J'.bare, J'.base, J'.hok, rv, q⟩ e0.hok trkC (fun p hp z => ?_) fun v H' q => q
      have := e0.frf _ z
      rw [trkC p hp] at this
      cases this
end
end FH

set_option Elab.async false
set_option linter.all false
set_option maxRecDepth 100000
set_option maxHeartbeats 2000000
namespace FH
open PySem PySem.Spec PyProof.Rows L2 LamX
section
variable {X : Cx} {pins : List (Addr × Obj)} {σ : L2.St} {H : Hp} {s : Shared}
theorem inv_pin {f : Addr} {o : Obj} (I : Inv X pins σ H s) (h1 : s.heap.get? f = some o) (h2 : H f = none) (h3 : f ≠ X.env.locals) (h4 : f ∉ X.fs) (h5 : ∀ v, o.data ≠ .cell v) : Inv X ((f, o) :: pins) σ H s :=
  ⟨I.ok, I.os, I.bare, I.base, I.loc, I.cell, I.free, I.freeC, fun p hp => (List.mem_append.mp hp).elim (fun hp => I.pin p (List.mem_append_left _ hp)) fun hp => (List.mem_cons.mp hp).elim (fun e => by rw [e]; exact ⟨h1, h2, h3, h4, h5⟩) fun hp => I.pin p (List.mem_append_right _ hp), I.hok, I.len⟩
theorem inv_unpin {p : Addr × Obj} (I : Inv X (p :: pins) σ H s) : Inv X pins σ H s :=
  ⟨I.ok, I.os, I.bare, I.base, I.loc, I.cell, I.free, I.freeC, fun q hq => I.pin q ((List.mem_append.mp hq).elim (fun h => List.mem_append_left _ h) fun h => List.mem_append_right _ (.tail _ h)), I.hok, I.len⟩
theorem lay_all {G : List (Addr × Obj)} (hg : ∀ p ∈ G, s.heap.get? p.1 = some p.2) : ∀ p ∈ G, Lay G H p.1 = some (ObO p.1 p.2) := fun p hp => by
  have : (G.lookup p.1).isSome = true := by
    rw [List.lookup_isSome_iff]
    exact ⟨p, hp, by simp⟩
  obtain ⟨o, ho⟩ := Option.isSome_iff_exists.mp this
  rw [lay_in ho]
  have e1 := hg _ (memL ho)
  rw [hg p hp] at e1
  have e1 : p.2 = o := Option.some.inj e1
  rw [e1]
end
abbrev TL := L2.St → Hp → (Addr → List V → Hp → Prop) → Prop
/-- arguments, one of them a lambda -/
structure PL (X : Cx) (es : List Expr) (params : Arguments) (body : Expr) (scope : Scope) (t : TL) : Prop where
  run : ∀ (pos : Pos) (pins : List (Addr × Obj)) (s : Shared) (σ : L2.St) (H : Hp) (Q : Addr → List V → Hp → Prop), Inv X pins σ H s → t σ H Q → wpAny (model X.prog X.w) X.A (spliced (backTo pos (starEach es X.env)))
    (fun us s' => ∃ f c' pm ctv vs H', Inv X ((f, PySem.W.kla_obj "<lambda>" (X.env.qual ++ "<lambda>") params body scope (cloFrom X.env.cells scope.names []) pm c' ctv) :: pins) σ H' s' ∧ Vals vs us ∧ H' c' = some (CodeO c' (X.env.qual ++ "<lambda>")) ∧ X.base.objs.size ≤ f ∧ f ∉ frs X.stack ∧ Q f vs H') X.xe s
def tLam0 (T : List (Addr × Str)) (ta : TA) : TL := fun σ H Q => Tabs T H ∧ ∀ H1, ExtN H H1 → Tabs T H1 → ∀ f, H1 f = none → ta σ H1 fun vs H2 => Same H1 H2 ∧ Q f (.ref f :: vs) H2
def tLamC (te : TE) (t : TL) : TL := fun σ H Q => te σ H fun x H1 => t σ H1 fun f vs H2 => Q f (x :: vs) H2
section
variable {X : Cx}
theorem pl_head {T : List (Addr × Str)} {c P : Addr} {params : Arguments} {body : Expr} {scope : Scope} {a b : Str} {ids : List Nat} {cap : List Str} {es : List Expr} {ta : TA} {lpos : Pos} (TB : TabB X.base X.mg c P) (hcode : X.env.code = .ref c) (hm : (P, X.env.qual ++ "<lambda>") ∈ T)
    (hu : ∀ p ∈ T, p.1 = P → p.2 = X.env.qual ++ "<lambda>") (L : LamP X.N X.env.scope scope a b ids cap) (ha : PA X es ta) (hdef : defaultsOf params X.env = ([], []) := by rfl) (hs : starEach (.Lambda params body scope lpos :: es) X.env = (false, eval (.Lambda params body scope lpos) X.env) :: starEach es X.env := by rfl) :
    PL X (.Lambda params body scope lpos :: es) params body scope (tLam0 T ta) := by
  refine ⟨fun pos pins s σ H Q I h => ?_⟩
  obtain ⟨hT, h⟩ := h
  rw [hs]
  show wpAny _ _ (spliced ((false, eval (.Lambda params body scope lpos) X.env) :: backTo pos (starEach es X.env))) _ _ s
  have hfree : ∀ y ∈ scope.names, y.2 = .free → ∃ c, X.env.cells.lookup y.1 = some c := fun y hy e => by
    rcases L.free y hy e with z | z
    · exact I.ok.has _ (.inl z)
    · exact I.ok.has _ (.inr z)
  refine Calls.spliced_cons (lam_mk I TB hcode hm hu hT hdef hfree fun f c' pm ctv H1 s1 I1 eN T1 hf hf0 hge hco => ?_)
  have nl : f ≠ X.env.locals := Nat.ne_of_gt (Nat.lt_of_lt_of_le I.lt hge)
  have nfs : f ∉ X.fs := I.nofs hge
  have I2 := inv_pin I1 hf hf0 nl nfs (fun v z => by cases z)
  refine thn (ha.run pos _ s1 σ H1 _ I2 (h H1 eN T1 f hf0)) fun us s2 ⟨vs, H2, I3, r, sm, q⟩ => ⟨f, c', pm, ctv, .ref f :: vs, H2, I3, .cons rfl r, sm _ _ hco, Nat.le_trans (Nat.le_trans I.ok.bsz I.sz) hge, fun z => ?_, q⟩
  rcases List.mem_cons.mp (I.stkSub _ z) with z | z
  · exact nl z
  · exact nfs z
theorem pl_cons {params : Arguments} {body : Expr} {scope : Scope} {e : Expr} {es : List Expr} {te : TE} {t : TL} (he : PE X e te) (hr : PL X es params body scope t) (hs : starEach (e :: es) X.env = (false, eval e X.env) :: starEach es X.env := by rfl) : PL X (e :: es) params body scope (tLamC te t) := by
  refine ⟨fun pos pins s σ H Q I h => ?_⟩
  rw [hs]
  show wpAny _ _ (spliced ((false, eval e X.env) :: backTo pos (starEach es X.env))) _ _ s
  refine Calls.spliced_cons (thn (he.run pins s σ H _ I h) fun u s1 ⟨x, H1, I1, r1, q1⟩ => ?_)
  exact thn (hr.run pos pins s1 σ H1 _ I1 q1) fun us s2 ⟨f, c', pm, ctv, vs, H2, I2, r2, h1, h2, h3, q2⟩ => ⟨f, c', pm, ctv, x :: vs, H2, I2, .cons r1 r2, h1, h2, h3, q2⟩
/-- what is asked at g(.., lambda a, b: .., ..) -/
def tCallL (P : Program) (w : World) (K : PySem.W.Frag) (mg : Str → Option Value) (base : Heap) (k : Nat) (sp : Sp) (tb : TE) (ids : List Nat) (t : TL) : TE := fun σ H Q => t σ H fun f vs H1 => ∃ F : Nat → Nat → Bool,
  (∀ (HD : Hp) (k l : Nat) (Qb : VK), Same H1 HD → (∀ H', Same HD H' → Qb (.bl (F k l)) H') → tb (some (.int k) :: some (.int l) :: ids.map fun i => (σ[i]?).getD none) HD Qb) ∧
  ∀ (HL : Hp) (dr : Hp → Hp), Same H1 HL → LamAt P w K mg base k HL f F → (∀ H', Same HL H' → Same H1 (dr H')) → (∀ H', Same HL H' → ∀ b o, H' b = some o → (∀ φ, o ≠ .ext φ) → dr H' b = some o) → sp vs HL (fun v H' => Same HL H' ∧ Q v (dr H')) E0
theorem pe_callL {x : Str} {g : Addr} {fd : FuncData} {ps : List Str} {sp : Sp} {k j : Nat} {params : Arguments} {body : Expr} {scope : Scope} {a b : Str} {ids : List Nat} {cap : List Str} {e : Expr} {es : List Expr} {t : TL} {tb : TE} {p pos : Pos}
    (F : FnOk X.prog X.w X.K X.mg X.base CX0 j g fd ps sp) (hr : Room j X.A) (hg : Gl X x) (hm : X.mg x = some (.ref g)) (hk : PySem.W.keepIn X.K (.ref g) = true) (hb : Binds X.K fd ps []) (pl : PL X (e :: es) params body scope t) (L : LamP X.N X.env.scope scope a b ids cap) (hfn : ∀ y, X.fn y = true)
    (hbind : ∀ (q : Str) (cl : List (Str × Addr)) (pm cv ctv u v : Value), bindArgs (PySem.W.kla_fn "<lambda>" q params body scope cl pm cv ctv) ⟨[u, v], []⟩ = pure [(a, u), (b, v)])
    (hbody : ∀ (f c' : Addr) (A : Around) (outer : List Env) (s : Shared) (H : Hp), Room k (A.deeper (envL (X.env.qual ++ "<lambda>") scope s.heap.objs.size f (.ref c') (cloFrom X.env.cells scope.names []))) → PE (cxL X.prog X.w X.K X.mg X.base (a :: b :: cap) (X.env.qual ++ "<lambda>") scope f (.ref c') (cloFrom X.env.cells scope.names []) A outer s H) body tb)
    (hdb : (x == ("__debug__" : Str)) = false := by decide) (he : starEach (e :: es) X.env = (false, eval e X.env) :: starEach es X.env := by rfl) (hpl : (backTo pos (starEach es X.env)).any (·.1) = false := by rfl) :
    PE X (.Call (.Name x p) (e :: es) [] pos) (tCallL X.prog X.w X.K X.mg X.base (k + 1) sp tb ids t) := by
  refine ⟨fun pins s σ H Q I h => ?_⟩
  refine wpAny_Call_Name_kw (ld_glob I hg hm ?_ hdb)
  refine PySem.W.callWith_K (h₀ := X.base) I.ok.mod.kin hk (thn (pl.run pos pins s σ H _ I h) fun us s1 ⟨f, c', pm, ctv, vs, H1, I1, r, hc, hfb, hfr, G, hG, q⟩ => ⟨I1.kIn, ?_⟩) he hpl
  have pn := I1.pin (f, _) (List.mem_append_right _ (.head _))
  obtain ⟨D, g1, g2, g3, g4, LA⟩ := lam_at I1 L hfn pn.1 pn.2.1 hfr hfb hc hbind (fun A outer s H hr => hbody f c' A outer s H hr) hG
  have eL : Same H1 (Lay D H1) := fun b o e => by rw [lay_out (nlay g1 e)]; exact e
  have q2 := q (Lay D H1) (Off D) eL LA (fun H' sm b o e => by
      have l := nlay g1 e
      rw [off_out l]
      exact sm _ _ (by rw [lay_out l]; exact e))
    (fun H' sm b o e nx => by
      rw [off_out (noff (fun p hp => sm _ _ (lay_all g2 p hp)) e nx)]
      exact e)
  have r2 : Vals (vs ++ []) (us ++ []) := by simpa using r
  have hl : (us ++ ([] : List Value)).length = ps.length := by rw [← r2.length]; exact F.len _ _ _ _ (by simpa using q2)
  refine wpAny_call (codeAny_mono (F.run X.A X.stack s1 (Lay D H1) ⟨us, []⟩ (us ++ []) (vs ++ []) _ E0 hr (env_lay I1.env0 g1 g2 g3 g4) (hb s1 us I1.kIn hl) r2 (by simpa using q2)) fun r s' hq => ?_)
  cases r with
  | error e => exact (show False from hq).elim
  | ok fl =>
    cases fl with
    | ret u =>
      obtain ⟨v, H', J, rv, qq⟩ := I1.after (ce_back (Q' := Q) hq g1 g2 fun v H' q => ⟨fun p hp => q.1 _ _ (lay_all g2 p hp), q.2⟩)
      exact ⟨v, H', inv_unpin J, rv, qq⟩
    | next => exact False.elim hq
    | brk => exact False.elim hq
    | cont => exact False.elim hq
/-- a(.., ..), a being a test that was handed in -/
def tLamV (P : Program) (w : World) (K : PySem.W.Frag) (mg : Str → Option Value) (base : Heap) (k i : Nat) (t : TA) : TE := fun σ H Q => ∃ f F, σ[i]? = some (some (.ref f)) ∧ LamAt P w K mg base k H f F ∧ t σ H fun vs H1 => Same H H1 ∧ ∃ kk l : Nat, vs = [.int kk, .int l] ∧ ∀ H2, Same H1 H2 → Q (.bl (F kk l)) H2
theorem pe_lamv {P : Program} {w : World} {K : PySem.W.Frag} {mg : Str → Option Value} {base : Heap} {k i : Nat} {a : Str} {e : Expr} {es : List Expr} {t : TA} {p pos : Pos} (hP : X.prog = P) (hw : X.w = w) (hK : X.K = K) (hmg : X.mg = mg) (hba : X.base = base) (hr : Room k X.A) (hN : X.N[i]? = some a) (hv : Vis X.env.scope a) (ha : PA X (e :: es) t)
    (hd : (a == ("__debug__" : Str)) = false := by decide) (hcd : (a == ("__classdict__" : Str)) = false := by decide) (he : starEach (e :: es) X.env = (false, eval e X.env) :: starEach es X.env := by rfl) (hpl : (backTo pos (starEach es X.env)).any (·.1) = false := by rfl) :
    PE X (.Call (.Name a p) (e :: es) [] pos) (tLamV P w K mg base k i t) := by
  subst hP hw hK hmg hba
  refine ⟨fun pins s σ H Q I h => ?_⟩
  obtain ⟨f, F, hs, LA, ht⟩ := h
  refine wpAny_Call_Name_kw (thn ((pe_var (pos := p) (i := i) hN hv hd hcd).run pins s σ H (fun v H1 => v = .ref f ∧ H1 = H) I ⟨.ref f, hs, rfl, rfl⟩) fun u s1 ⟨v, H1, I1, r1, q1⟩ => ?_)
  obtain ⟨ev, eH⟩ := q1
  subst ev
  rw [eH] at I1
  obtain rfl : u = Value.ref f := r1
  obtain ⟨oc, od, fd, sl, hf⟩ := LA.fn
  refine PySem.W.callWith_F ⟨oc, od, fd, sl, of_obO (I1.hok _ _ hf)⟩ (thn (ha.run pos pins s1 σ H _ I1 ht) fun us s2 ⟨vs, H2, I2, r, sm, kk, l, ev, q⟩ => ⟨⟨oc, od, fd, sl, of_obO (I2.hok _ _ (sm _ _ hf))⟩, ?_⟩) he hpl
  refine wpAny_call (codeAny_mono (LA.run H2 sm X.A X.stack s2 us vs Q hr I2.env0 r ⟨kk, l, ev, q⟩) fun r s' hq => ?_)
  cases r with
  | error e => exact (show False from hq).elim
  | ok fl =>
    cases fl with
    | ret u => exact I2.after hq
    | next => exact False.elim hq
    | brk => exact False.elim hq
    | cont => exact False.elim hq
end
/-- a def by its body, its code object being told -/
theorem okC {P : Program} {w : World} {K : PySem.W.Frag} {mg : Str → Option Value} {base : Heap} {x qual : Str} {st : Stmt} {f : Addr} {fd : FuncData} {N ps : List Str} {k : Nat} {sp : Sp} (F : Fun K x qual st f fd) (S : FnScope N ps (defScope st)) (len : ∀ vs H Q E, sp vs H Q E → vs.length = ps.length)
    (hbody : ∀ (A : Around) (outer : List Env) (s : Shared) (H : Hp) (vs : List V) (Q : VK) (E : XK), Room k (A.deeper (envOfC qual (defScope st) s.heap.objs.size f fd.code)) → sp vs H Q E →
      ∃ t, PSs (cxOf CX0 P w K mg base N qual (defScope st) f fd.code A outer s H E).nox (defBody st) t ∧ t { nx := fun _ H' => Q .non H', rt := Q } (start N vs) H) : FnOk P w K mg base CX0 (k + 1) f fd ps sp := by
  obtain ⟨oc, od, kV, doc, pm, an, cdv, ct, osl, rfl, lk, hcd⟩ := F.ex
  refine fn_of lk hcd S len fun A outer s H vs Q E hr hsp => ?_
  obtain ⟨t, h, q⟩ := hbody A outer s H vs Q E hr hsp
  exact ⟨t, h.nox, q⟩
end FH

set_option Elab.async false
set_option linter.all false
set_option maxRecDepth 100000
set_option maxHeartbeats 1000000
namespace FH
open PySem L2
local macro_rules | `(tactic| walk_at "seq") => `(tactic| first | assumption | exact SqL.of (by assumption) | exact SqT.of (by assumption) | exact SqL.of upd_same | exact SqT.of upd_same)
local macro_rules | `(tactic| walk_at "at") => `(tactic| first | exact atI_nat (j := 0) rfl | exact atI_nat (j := 1) rfl | exact atI_nat (j := 2) rfl | exact atI_nat (by assumption) | assumption)
local macro_rules | `(tactic| walk_at "ar") => `(tactic| first | omega | exact ⟨by omega, by omega⟩ | exact Or.inl ⟨by omega, by omega⟩ | exact Or.inr ⟨by omega, by omega⟩ | exact ⟨by decide, by decide⟩ | exact Or.inr ⟨by decide, by decide⟩ | exact Or.inl ⟨by decide, by decide⟩ | exact ⟨by decide, by decide, by omega⟩ | exact ⟨by decide, by decide, by decide⟩)
local macro_rules | `(tactic| walk_at "r") => `(tactic| repeat (first
  | refine ⟨_, rfl, ?_⟩
  | refine ⟨_, _, rfl, rfl, ?_⟩
  | refine ⟨_, _, _, _, rfl, rfl, by walk_at "seq", by walk_at "at", ?_⟩
  | refine ⟨_, _, _, _, rfl, rfl, by assumption, rfl, ?_⟩
  | refine ⟨_, _, rfl, Or.inl (by walk_at "seq"), ?_⟩
  | refine Or.inl ⟨_, rfl, ?_⟩
  | refine Or.inr ⟨_, rfl, ?_⟩
  | refine And.intro (by walk_at "ar") ?_))
open Pr
def spAgain (K : PySem.W.Frag) : Sp := fun vs H Q _ => ∃ (a : Addr) (g : Nat → Str) (s p : Nat), vs = [.ref a, .int s, .int p] ∧ SqL K H a ((List.range (s + 2 * p)).map fun n => .str (g n)) ∧ Per g s p ∧ 0 < p ∧ s + 2 * p ≤ 1000 ∧
  ∀ (t : Addr) (st sz : Nat) (H' : Hp), Same H H' → Lst g st sz → st ≤ s → sz ≤ p → H' t = some (.tup [.int st, .int sz]) → Q (.ref t) H'
section
variable {P : Program} {w : World} {K : PySem.W.Frag} {mg : Str → Option Value} {base : Heap}
end
end FH

set_option Elab.async false
set_option linter.all false
set_option maxRecDepth 100000
set_option maxHeartbeats 1000000
namespace FH
open PySem L2
local macro_rules | `(tactic| walk_at "seq") => `(tactic| first | assumption | exact SqL.of (by assumption) | exact SqT.of (by assumption) | exact SqL.of upd_same | exact SqT.of upd_same)
local macro_rules | `(tactic| walk_at "at") => `(tactic| first | exact atI_nat (j := 0) rfl | exact atI_nat (j := 1) rfl | exact atI_nat (j := 2) rfl | exact atI_nat (by assumption) | assumption)
local macro_rules | `(tactic| walk_at "ar") => `(tactic| first | omega | exact ⟨by omega, by omega⟩ | exact Or.inl ⟨by omega, by omega⟩ | exact Or.inr ⟨by omega, by omega⟩ | exact ⟨by decide, by decide⟩ | exact Or.inr ⟨by decide, by decide⟩ | exact Or.inl ⟨by decide, by decide⟩ | exact ⟨by decide, by decide, by omega⟩ | exact ⟨by decide, by decide, by decide⟩)
local macro_rules | `(tactic| walk_at "r") => `(tactic| repeat (first
  | refine ⟨_, rfl, ?_⟩
  | refine ⟨_, _, rfl, rfl, ?_⟩
  | refine ⟨_, _, _, _, rfl, rfl, by walk_at "seq", by walk_at "at", ?_⟩
  | refine ⟨_, _, _, _, rfl, rfl, by assumption, rfl, ?_⟩
  | refine ⟨_, _, rfl, Or.inl (by walk_at "seq"), ?_⟩
  | refine Or.inl ⟨_, rfl, ?_⟩
  | refine Or.inr ⟨_, rfl, ?_⟩
  | refine And.intro (by walk_at "ar") ?_))
open Pr
def numsT (t : Tb) : List Str := [Str.ofString (toString (t.s0 : Int)), Str.ofString (toString (t.s1 : Int)), Str.ofString (toString (t.p0 : Int)), Str.ofString (toString (t.p1 : Int))]
/-- the text of a table -/
def txtT (t : Tb) : Str := Str.ofString "[" ++ Txt.join (Str.ofString " ") (numsT t) ++ Str.ofString ": " ++ Txt.join (Str.ofString " ") t.rows ++ Str.ofString "]"
theorem jn_len (sep : Str) : ∀ ys : List Str, (Str.join sep ys).length ≤ (ys.map (·.length)).sum + ys.length * sep.length
  | [] => by show 0 ≤ _; exact Nat.zero_le _
  | [x] => by show x.length ≤ _; simp
  | x :: y :: r => by
    have ih := jn_len sep (y :: r)
    have e : (Str.join sep (x :: y :: r)).length = x.length + sep.length + (Str.join sep (y :: r)).length := by
      show (x ++ sep ++ Str.join sep (y :: r)).length = _
      show ((x.cps ++ sep.cps) ++ (Str.join sep (y :: r)).cps).size = _
      rw [Array.size_append, Array.size_append]
      rfl
    rw [e]
    simp only [List.map_cons, List.sum_cons, List.length_cons] at ih ⊢
    have : (r.length + 1 + 1) * sep.length = (r.length + 1) * sep.length + sep.length := Nat.succ_mul _ _
    omega
theorem join_len (sep : Str) (ys : List Str) : (Txt.join sep ys).length ≤ (ys.map (·.length)).sum + ys.length * sep.length := by
  rw [TL.join_eq]
  exact jn_len sep ys
theorem sum_le {ys : List Str} {B : Nat} (h : ∀ y ∈ ys, y.length ≤ B) : (ys.map (·.length)).sum ≤ ys.length * B := by
  induction ys with
  | nil => simp
  | cons y r ih =>
    have h1 := h y (.head _)
    have h2 := ih fun z hz => h z (.tail _ hz)
    rw [List.map_cons, List.sum_cons, List.length_cons, Nat.succ_mul]
    omega
theorem log_small {n : Nat} (h : n ≤ 1000) : ((n : Int)).natAbs.log2 < 1920 := by
  rw [Int.natAbs_natCast]
  by_cases e : n = 0
  · rw [e]; decide
  · exact (Nat.log2_lt e).mpr (Nat.lt_of_lt_of_le (show n < 2 ^ 10 by omega) (Nat.pow_le_pow_right (by decide) (by decide)))
theorem num_len {n : Nat} (h : n ≤ 1000) : (Str.ofString (toString (n : Int))).length ≤ 11 := by
  have := PySem.int_text_length_le (a := (n : Int)) (k := 10) (by decide) (by
    rw [Int.natAbs_natCast]
    by_cases e : n = 0
    · rw [e]; decide
    · exact (Nat.log2_lt e).mpr (by omega))
  rw [PySem.ofString_length]
  exact this
theorem cutS_sgn (bs : List Bool) (j : Nat) (h : j ≤ bs.length) : cutS (sgnS bs) none (some (j : Int)) = sgnS (bs.take j) := by
  have hl := len_sgn bs
  unfold cutS
  rw [HT.sIx_none, HT.sIx_nat, hl, Nat.min_eq_left h, Nat.sub_zero, List.drop_zero]
  unfold sgnS
  rw [List.map_take]
structure Tb.Sm (t : Tb) : Prop where
  a : t.s0 ≤ 1000
  b : t.s1 ≤ 1000
  c : t.p0 ≤ 1000
  d : t.p1 ≤ 1000
  e : t.rows.length ≤ 2000
  f : ∀ x ∈ t.rows, x.length ≤ 2000
theorem Tb.Sm.m {t : Tb} (h : t.Sm) : ((numsT t).map (·.length)).sum + (numsT t).length * (Str.ofString " ").length ≤ 48 := by
  have h1 := num_len h.a
  have h2 := num_len h.b
  have h3 := num_len h.c
  have h4 := num_len h.d
  show _ + (_ + (_ + (_ + 0))) + 4 * 1 ≤ 48
  simp only [] at *
  omega
theorem Tb.Sm.n {t : Tb} (h : t.Sm) : (Txt.join (Str.ofString " ") (numsT t)).length ≤ 48 := Nat.le_trans (join_len _ _) h.m
theorem len_app (x y : Str) : (x ++ y).length = x.length + y.length := by
  show (x.cps ++ y.cps).size = _
  rw [Array.size_append]
  rfl
theorem Tb.Sm.r {t : Tb} (h : t.Sm) : (t.rows.map (·.length)).sum + t.rows.length * (Str.ofString " ").length ≤ 4002000 := by
  have h1 := sum_le h.f
  have h2 := h.e
  have h3 : t.rows.length * 2000 ≤ 2000 * 2000 := Nat.mul_le_mul_right _ h2
  show _ + t.rows.length * 1 ≤ _
  omega
def spLst (P : Program) (w : World) (K : PySem.W.Frag) (mg : Str → Option Value) (base : Heap) (kL : Nat) : Sp := fun vs H Q _ => ∃ (f a b : Addr) (F : Nat → Nat → Bool) (s0 s1 p0 p1 : Nat), vs = [.ref f, .ref a, .ref b] ∧ LamAt P w K mg base kL H f F ∧
  (SqL K H a [.int s0, .int s1] ∨ SqT K H a [.int s0, .int s1]) ∧ (SqL K H b [.int p0, .int p1] ∨ SqT K H b [.int p0, .int p1]) ∧ PerF F s0 s1 p0 p1 ∧ 0 < p0 ∧ 0 < p1 ∧ s0 + 2 * p0 ≤ 1000 ∧ s1 + 2 * p1 ≤ 1000 ∧
  ∀ H', Same H H' → Q (.str (txtT (tabF F s0 s1 p0 p1).least)) H'
section
variable {P : Program} {w : World} {K : PySem.W.Frag} {mg : Str → Option Value} {base : Heap}
end
end FH

set_option Elab.async false
set_option linter.all false
set_option maxRecDepth 100000
set_option maxHeartbeats 1000000
namespace FH
open PySem L2
local macro_rules | `(tactic| walk_at "seq") => `(tactic| first | assumption | exact SqL.of (by assumption) | exact SqT.of (by assumption) | exact SqL.of upd_same | exact SqT.of upd_same)
local macro_rules | `(tactic| walk_at "at") => `(tactic| first | exact atI_nat (j := 0) rfl | exact atI_nat (j := 1) rfl | exact atI_nat (j := 2) rfl | exact atI_nat (by assumption) | assumption)
local macro_rules | `(tactic| walk_at "ar") => `(tactic| first | omega | exact ⟨by omega, by omega⟩ | exact Or.inl ⟨by omega, by omega⟩ | exact Or.inr ⟨by omega, by omega⟩ | exact ⟨by decide, by decide⟩ | exact Or.inr ⟨by decide, by decide⟩ | exact Or.inl ⟨by decide, by decide⟩ | exact ⟨by decide, by decide, by omega⟩ | exact ⟨by decide, by decide, by decide⟩)
local macro_rules | `(tactic| walk_at "r") => `(tactic| repeat (first
  | refine ⟨_, rfl, ?_⟩
  | refine ⟨_, _, rfl, rfl, ?_⟩
  | refine ⟨_, _, _, _, rfl, rfl, by walk_at "seq", by walk_at "at", ?_⟩
  | refine ⟨_, _, _, _, rfl, rfl, by assumption, rfl, ?_⟩
  | refine ⟨_, _, rfl, Or.inl (by walk_at "seq"), ?_⟩
  | refine Or.inl ⟨_, rfl, ?_⟩
  | refine Or.inr ⟨_, rfl, ?_⟩
  | refine And.intro (by walk_at "ar") ?_))
/-! ### the source of draws: a list of two numbers -/
/-- all but b is kept -/
def Xb (b : Addr) (H H' : Hp) : Prop := ∀ a o, a ≠ b → H a = some o → H' a = some o
theorem Xb.refl (b : Addr) (H : Hp) : Xb b H H := fun _ _ _ h => h
theorem Xb.trans {b : Addr} {H H1 H2 : Hp} (x : Xb b H H1) (y : Xb b H1 H2) : Xb b H H2 := fun a o n h => y a o n (x a o n h)
theorem Xb.of {b : Addr} {H H' : Hp} (x : Same H H') : Xb b H H' := fun a o _ h => x a o h
theorem Xb.put {b : Addr} {H : Hp} {o : HO} : Xb b H (upd H b o) := fun a u n h => by rw [upd_ne n]; exact h
def BxAt (H : Hp) (b : Addr) : Prop := ∃ i j k : Int, H b = some (.lst [.int i, .int j, .int k]) ∧ 0 ≤ i ∧ 0 < j ∧ j < 4294967296 ∧ 0 ≤ k
theorem BxAt.same {H H' : Hp} {b : Addr} (x : Same H H') (h : BxAt H b) : BxAt H' b := by
  obtain ⟨i, j, k, e, r⟩ := h
  exact ⟨i, j, k, x _ _ e, r⟩
theorem BxAt.ne {H : Hp} {b p : Addr} (h : BxAt H b) (n : H p = none) : p ≠ b := fun e => by
  obtain ⟨i, j, k, z, _⟩ := h
  rw [e, z] at n
  cases n
theorem BxAt.list {H : Hp} {b : Addr} (h : BxAt H b) : ∃ xs, H b = some (.lst xs) := by
  obtain ⟨i, j, k, z, _⟩ := h
  exact ⟨_, z⟩
/-! ### take -/
def spTakeB : Sp := fun vs H Q _ => ∃ (b : Addr) (n : Int), vs = [.ref b, .int n] ∧ BxAt H b ∧ 0 < n ∧ n < 1000000 ∧
  ∀ (r : Int) (H' : Hp), 0 ≤ r → r < n → Xb b H H' → BxAt H' b → Q (.int r) H'
section
variable {P : Program} {w : World} {K : PySem.W.Frag} {mg : Str → Option Value} {base : Heap}
theorem sc__law_take : FnScope ["_law_box_here", "_law_many", "_law_digit", "_law_first"] ["_law_box_here", "_law_many"] (defScope (topS 113)) := ⟨rfl, rfl, rfl, by decide +kernel, rfl, by decide +kernel, by decide +kernel⟩
theorem ok_takeB {f : Addr} {fd : FuncData} {k : Nat} (F : Fun K "_law_take" "_law_take" (topS 113) f fd) (T : Bt mg) : FnOk P w K mg base CX0 (k + 1) f fd ["_law_box_here", "_law_many"] spTakeB := by
  refine F.ok sc__law_take (fun vs H Q E h => ?_) (fun cdv A outer s H vs Q E hr h => ?_)
  · obtain ⟨b, n, rfl, _⟩ := h
    rfl
  · obtain ⟨b, n, rfl, ⟨i, j, m, hb, hi, hj, hj2, hm⟩, hn, hn2, q⟩ := h
    refine ⟨_, (pss_cons (ps_if (pt_cmpR op_gt (pe_ix (ixLK (K := K) rfl) (pv 0) pe_int (fun _ _ => rfl)) pe_int (nomark _)) (pss_cons (ps_set (i := 2) sc__law_take.nd rfl (by first | exact Or.inl rfl | exact Or.inr rfl) (pe_op op_mod (pe_callTy call_int1 (by rfl) T.m_int (by decide +kernel) (pa_cons (pe_ix (ixLK (K := K) rfl) (pv 0) pe_int (fun _ _ => rfl)) pa_nil)) (pv 1)))
  (pss_cons (ps_asg (pe_op op_fdiv (pe_ix (ixLK (K := K) rfl) (pv 0) pe_int (fun _ _ => rfl)) (pv 1)) (pg_sub (pv 0) pe_int set_list))
  (pss_one (ps_ret (pv 2))))) pss_nil)
  (pss_cons (ps_asg (pe_op op_add (pe_ix (ixLK (K := K) rfl) (pv 0) pe_int (fun _ _ => rfl)) pe_int) (pg_sub (pv 0) pe_int set_list))
  (pss_cons (ps_set (i := 3) sc__law_take.nd rfl (by first | exact Or.inl rfl | exact Or.inr rfl) (pe_op op_mod (pe_callTy call_int1 (by rfl) T.m_int (by decide +kernel) (pa_cons (pe_op op_mul (pe_op op_add (pe_ix (ixLK (K := K) rfl) (pv 0) pe_int (fun _ _ => rfl)) (pe_op op_mul pe_int (pe_ix (ixLK (K := K) rfl) (pv 0) pe_int (fun _ _ => rfl)))) pe_int) pa_nil)) pe_int))
  (pss_cons (ps_asg (pe_op op_add (pe_op op_mod (pe_callTy call_int1 (by rfl) T.m_int (by decide +kernel) (pa_cons (pe_op op_add (pe_op op_mul (pv 3) pe_int) pe_int) pa_nil)) pe_int) pe_int) (pg_sub (pv 0) pe_int set_list))
  (pss_one (ps_ret (pe_op op_mod (pe_callTy call_int1 (by rfl) T.m_int (by decide +kernel) (pa_cons (pe_op op_fdiv (pe_op op_add (pe_op op_mul (pv 3) pe_int) (pe_ix (ixLK (K := K) rfl) (pv 0) pe_int (fun _ _ => rfl))) pe_int) pa_nil)) (pv 1)))))))), ?_⟩
    walk_at "r"
    refine ite2 (fun e => ?_) (fun e => ?_)
    · have hi0 : 0 < i := of_decide_eq_true e
      walk_at "r"
      refine q _ _ (Int.emod_nonneg _ (by omega)) (Int.emod_lt_of_pos _ hn) Xb.put ⟨_, _, _, upd_same, ?_, hj, hj2, hm⟩
      exact Int.ediv_nonneg hi (by omega)
    · walk_at "r"
      refine ⟨_, _, _, _, rfl, rfl, upd_same, rfl, ?_⟩
      walk_at "r"
      refine q _ _ (Int.emod_nonneg _ (by omega)) (Int.emod_lt_of_pos _ hn) (Xb.put.trans Xb.put) ⟨_, _, _, upd_same, hi, ?_, ?_, by omega⟩
      · have := Int.emod_nonneg ((j + 104711 * (m + 1)) * 48271 % 2147483647 * 69621 + 30011) (b := 2147483629) (by decide)
        omega
      · have := Int.emod_lt_of_pos ((j + 104711 * (m + 1)) * 48271 % 2147483647 * 69621 + 30011) (b := 2147483629) (by decide)
        omega
/-! ### pick -/
def spPickB (K : PySem.W.Frag) : Sp := fun vs H Q _ => ∃ (b l : Addr) (xs : List V), vs = [.ref b, .ref l] ∧ BxAt H b ∧ SqL K H l xs ∧ b ≠ l ∧ 0 < xs.length ∧ xs.length < 1000 ∧
  ∀ (x : V) (H' : Hp), x ∈ xs → Xb b H H' → BxAt H' b → Q x H'
theorem xb_l {K : PySem.W.Frag} {b a : Addr} {H H' : Hp} {xs : List V} (x : Xb b H H') (n : a ≠ b) (h : SqL K H a xs) : SqL K H' a xs := by
  rcases h with (h | ⟨o, h⟩) | h
  · exact .inl (.inl (x _ _ n h))
  · exact .inl (.inr ⟨o, x _ _ n h⟩)
  · exact .inr h
theorem xb_t {K : PySem.W.Frag} {b a : Addr} {H H' : Hp} {xs : List V} (x : Xb b H H') (n : a ≠ b) (h : SqT K H a xs) : SqT K H' a xs := by
  rcases h with (h | ⟨o, h⟩) | h
  · exact .inl (.inl (x _ _ n h))
  · exact .inl (.inr ⟨o, x _ _ n h⟩)
  · exact .inr h
theorem sc__law_pick : FnScope ["_law_box_here", "_law_some"] ["_law_box_here", "_law_some"] (defScope (topS 114)) := ⟨rfl, rfl, rfl, by decide +kernel, rfl, by decide +kernel, by decide +kernel⟩
theorem ok_pickB {f fT : Addr} {fd fdT : FuncData} {k : Nat} (F : Fun K "_law_pick" "_law_pick" (topS 114) f fd) (T : Bt mg) (FT : Fun K "_law_take" "_law_take" (topS 113) fT fdT) (bT : Binds K fdT ["_law_box_here", "_law_many"] []) (gT : mg "_law_take" = some (.ref fT)) :
    FnOk P w K mg base CX0 (k + 2) f fd ["_law_box_here", "_law_some"] (spPickB K) := by
  have GT : FnOk P w K mg base CX0 (k + 1) fT fdT ["_law_box_here", "_law_many"] spTakeB := ok_takeB FT T
  refine F.ok sc__law_pick (fun vs H Q E h => ?_) (fun cdv A outer s H vs Q E hr h => ?_)
  · obtain ⟨b, l, xs, rfl, _⟩ := h
    rfl
  · obtain ⟨b, l, xs, rfl, hb, hl, hbl, h0, h1, q⟩ := h
    refine ⟨_, (pss_one (ps_ret (pe_ix (ixLK (K := K) rfl) (pv 1) (pe_call GT hr (by rfl) gT FT.kp bT .nil pass0 (pa_cons (pv 0) (pa_cons (pe_callB (lenK (K := K) rfl) (by rfl) T.m_len PySem.boot_len (pa_cons (pv 1) pa_nil)) pa_nil))) (fun _ _ => rfl)))), ?_⟩
    walk_at "r"
    refine ⟨b, xs.length, rfl, hb, by omega, by omega, fun r H' r0 r1 x hb' => ?_⟩
    obtain ⟨v, ev, hv⟩ := atI_mem r0 r1
    exact ⟨l, xs, r, v, rfl, rfl, xb_l x hbl.symm hl, ev, q v H' hv x hb'⟩
/-! ### feed: _law_box -/
def spFeedB (K : PySem.W.Frag) : Sp := fun vs H Q _ => ∃ (a : Addr) (ns : List Int) (n o : Nat), vs = [.ref a, .int n, .int o] ∧ SqL K H a (ns.map V.int) ∧ n < 100 ∧ o < 1000 ∧
  ∀ (p : Addr) (H' : Hp), Same H H' → H p = none → BxAt H' p → Q (.ref p) H'
theorem sc__law_box : FnScope ["_law_script", "_law_k", "_law_own", "_law_cell", "_law_seed"] ["_law_script", "_law_k", "_law_own"] (defScope (topS 112)) := ⟨rfl, rfl, rfl, by decide +kernel, rfl, by decide +kernel, by decide +kernel⟩
theorem ok_feedB {f : Addr} {fd : FuncData} {k : Nat} (F : Fun K "_law_box" "_law_box" (topS 112) f fd) (T : Bt mg) : FnOk P w K mg base CX0 (k + 1) f fd ["_law_script", "_law_k", "_law_own"] (spFeedB K) := by
  refine F.ok sc__law_box (fun vs H Q E h => ?_) (fun cdv A outer s H vs Q E hr h => ?_)
  · obtain ⟨a, ns, n, o, rfl, _⟩ := h
    rfl
  · obtain ⟨a, ns, n, o, rfl, ha, hn, ho, q⟩ := h
    refine ⟨_, (pss_cons (ps_set (i := 3) sc__law_box.nd rfl (by first | exact Or.inl rfl | exact Or.inr rfl) (pe_op op_add (pe_op op_add (pe_op op_mul pe_int (pv 1)) (pe_op op_mul pe_int (pv 2))) pe_int))
  (pss_cons (ps_if (pt_cmpR op_lt (pv 1) (pe_callB (lenK (K := K) rfl) (by rfl) T.m_len PySem.boot_len (pa_cons (pv 0) pa_nil)) (nomark _)) (pss_one (ps_set (i := 3) sc__law_box.nd rfl (by first | exact Or.inl rfl | exact Or.inr rfl) (pe_callB call_abs (by rfl) T.m_abs (by decide +kernel) (pa_cons (pe_ix (ixLK (K := K) rfl) (pv 0) (pv 1) (fun _ _ => rfl)) pa_nil)))) (pss_one (ps_if (pt_cmpR op_gt (pe_callB (lenK (K := K) rfl) (by rfl) T.m_len PySem.boot_len (pa_cons (pv 0) pa_nil)) pe_int (nomark _)) (pss_one (ps_set (i := 3) sc__law_box.nd rfl (by first | exact Or.inl rfl | exact Or.inr rfl) (pe_op op_add (pv 3) (pe_op op_mul (pe_op op_mod (pe_callTy call_int1 (by rfl) T.m_int (by decide +kernel) (pa_cons (pe_callB call_abs (by rfl) T.m_abs (by decide +kernel) (pa_cons (pe_ix (ixLK (K := K) rfl) (pv 0) (pe_op op_mod (pe_callTy call_int1 (by rfl) T.m_int (by decide +kernel) (pa_cons (pv 1) pa_nil)) (pe_callB (lenK (K := K) rfl) (by rfl) T.m_len PySem.boot_len (pa_cons (pv 0) pa_nil))) (fun _ _ => rfl)) pa_nil)) pa_nil)) pe_int) pe_int)))) pss_nil)))
  (pss_cons (ps_set (i := 4) sc__law_box.nd rfl (by first | exact Or.inl rfl | exact Or.inr rfl) (pe_op op_add (pe_op op_mod (pe_callTy call_int1 (by rfl) T.m_int (by decide +kernel) (pa_cons (pe_op op_add (pe_op op_mul (pe_op op_mod (pe_callTy call_int1 (by rfl) T.m_int (by decide +kernel) (pa_cons (pv 3) pa_nil)) pe_int) pe_int) (pe_op op_mul pe_int (pe_op op_add (pv 1) (pe_op op_mul pe_int (pv 2))))) pa_nil)) pe_int) pe_int))
  (pss_one (ps_ret (pe_lst (pa_cons (pe_ix (ixLK (K := K) rfl) (pe_lst (pa_cons pe_int (pa_cons (pv 3) pa_nil))) (pe_callTy call_int1 (by rfl) T.m_int (by decide +kernel) (pa_cons (pe_cmpR op_ge (pv 3) (pe_op op_pow pe_int pe_int) (nomark _)) pa_nil)) (fun _ _ => rfl)) (pa_cons (pv 4) (pa_cons pe_int pa_nil))))))))), ?_⟩
    have pk : ∀ c : Int, ∃ c' : Int, 0 ≤ c' ∧ atI [V.int 0, V.int c] (if decide ((10 : Int) ^ Int.toNat 18 ≤ c) = true then 1 else 0) = some (.int c') := fun c => by
      by_cases h : (10 : Int) ^ Int.toNat 18 ≤ c
      · rw [decide_eq_true h, if_pos rfl]
        exact ⟨c, by have : (0 : Int) ≤ 10 ^ Int.toNat 18 := by decide
                     omega, atI_nat (j := 1) rfl⟩
      · rw [decide_eq_false h, if_neg Bool.false_ne_true]
        exact ⟨0, by omega, atI_nat (j := 0) rfl⟩
    have sd : ∀ z : Int, 0 < z % 2147483629 + 1 ∧ z % 2147483629 + 1 < 4294967296 := fun z => by
      have h1 := Int.emod_nonneg z (b := 2147483629) (by decide)
      have h2 := Int.emod_lt_of_pos z (b := 2147483629) (by decide)
      omega
    walk_at "r"
    refine ite2 (fun e => ?_) (fun e => ?_)
    · have e' : (n : Int) < ((ns.map V.int).length : Int) := of_decide_eq_true e
      obtain ⟨c, hc⟩ : ∃ c, (ns.map V.int)[n]? = some (.int c) := by
        rw [List.length_map] at e'
        have hl : n < ns.length := by omega
        exact ⟨ns[n], by rw [List.getElem?_map, List.getElem?_eq_getElem hl]; rfl⟩
      obtain ⟨c', h0, hp'⟩ := pk (if c < 0 then -c else c)
      walk_at "r"
      refine ⟨by show 2 ≤ sizeLine; decide, fun p np => ?_⟩
      walk_at "r"
      refine ⟨by show 3 ≤ sizeLine; decide, fun p2 np2 => ?_⟩
      exact q p2 _ ((same_new np).trans (same_new np2)) ((same_new np).free np2) ⟨_, _, _, upd_same, h0, (sd _).1, (sd _).2, Int.le_refl _⟩
    · walk_at "r"
      refine ite2 (fun e2 => ?_) (fun e2 => ?_)
      · have e' : (0 : Int) < ((ns.map V.int).length : Int) := of_decide_eq_true e2
        obtain ⟨c, hc⟩ : ∃ c, atI (ns.map V.int) ((n : Int) % ((ns.map V.int).length : Int)) = some (.int c) := by
          obtain ⟨v, hv, hm⟩ := atI_mem (xs := ns.map V.int) (Int.emod_nonneg (n : Int) (by omega)) (Int.emod_lt_of_pos (n : Int) e')
          obtain ⟨x, _, rfl⟩ := List.mem_map.mp hm
          exact ⟨x, hv⟩
        obtain ⟨c', h0, hp'⟩ := pk (6983 * (n : Int) + 100057 * (o : Int) + 29 + (if c < 0 then -c else c) % 2147483629 * 48611)
        walk_at "r"
        refine ⟨by show 2 ≤ sizeLine; decide, fun p np => ?_⟩
        walk_at "r"
        refine ⟨by show 3 ≤ sizeLine; decide, fun p2 np2 => ?_⟩
        exact q p2 _ ((same_new np).trans (same_new np2)) ((same_new np).free np2) ⟨_, _, _, upd_same, h0, (sd _).1, (sd _).2, Int.le_refl _⟩
      · obtain ⟨c', h0, hp'⟩ := pk (6983 * (n : Int) + 100057 * (o : Int) + 29)
        walk_at "r"
        refine ⟨by show 2 ≤ sizeLine; decide, fun p np => ?_⟩
        walk_at "r"
        refine ⟨by show 3 ≤ sizeLine; decide, fun p2 np2 => ?_⟩
        exact q p2 _ ((same_new np).trans (same_new np2)) ((same_new np).free np2) ⟨_, _, _, upd_same, h0, (sd _).1, (sd _).2, Int.le_refl _⟩
end
end FH

set_option Elab.async false
set_option linter.all false
set_option maxRecDepth 100000
set_option maxHeartbeats 1000000
namespace FH
open PySem L2
local macro_rules | `(tactic| walk_at "seq") => `(tactic| first | assumption | exact SqL.of (by assumption) | exact SqT.of (by assumption) | exact SqL.of upd_same | exact SqT.of upd_same)
local macro_rules | `(tactic| walk_at "at") => `(tactic| first | exact atI_nat (j := 0) rfl | exact atI_nat (j := 1) rfl | exact atI_nat (j := 2) rfl | exact atI_nat (by assumption) | assumption)
local macro_rules | `(tactic| walk_at "ar") => `(tactic| first | omega | exact ⟨by omega, by omega⟩ | exact Or.inl ⟨by omega, by omega⟩ | exact Or.inr ⟨by omega, by omega⟩ | exact ⟨by decide, by decide⟩ | exact Or.inr ⟨by decide, by decide⟩ | exact Or.inl ⟨by decide, by decide⟩ | exact ⟨by decide, by decide, by omega⟩ | exact ⟨by decide, by decide, by decide⟩)
local macro_rules | `(tactic| walk_at "r") => `(tactic| repeat (first
  | refine ⟨_, rfl, ?_⟩
  | refine ⟨_, _, rfl, rfl, ?_⟩
  | refine ⟨_, _, _, _, rfl, rfl, by walk_at "seq", by walk_at "at", ?_⟩
  | refine ⟨_, _, _, _, rfl, rfl, by assumption, rfl, ?_⟩
  | refine ⟨_, _, rfl, Or.inl (by walk_at "seq"), ?_⟩
  | refine Or.inl ⟨_, rfl, ?_⟩
  | refine Or.inr ⟨_, rfl, ?_⟩
  | refine And.intro (by walk_at "ar") ?_))
open Pr
/-- a table of the law's own, at a -/
def TbAt (H : Hp) (a : Addr) (t : Tb) : Prop := ∃ ts tp tr : Addr, H a = some (.tup [.ref ts, .ref tp, .ref tr]) ∧ H ts = some (.tup [.int t.s0, .int t.s1]) ∧ H tp = some (.tup [.int t.p0, .int t.p1]) ∧ H tr = some (.lst (t.rows.map V.str))
theorem TbAt.same {H H' : Hp} {a : Addr} {t : Tb} (s : Same H H') (h : TbAt H a t) : TbAt H' a t := by
  obtain ⟨ts, tp, tr, h1, h2, h3, h4⟩ := h
  exact ⟨ts, tp, tr, s _ _ h1, s _ _ h2, s _ _ h3, s _ _ h4⟩
/-- .. whatever becomes of the deal -/
def TbS (d c : Addr) (H : Hp) (a : Addr) (t : Tb) : Prop := ∀ H', Xt d c H H' → TbAt H' a t
theorem TbS.now {d c : Addr} {H : Hp} {a : Addr} {t : Tb} (h : TbS d c H a t) : TbAt H a t := h H (Xt.refl _ _ _)
theorem TbS.xt {d c : Addr} {H H' : Hp} {a : Addr} {t : Tb} (h : TbS d c H a t) (x : Xt d c H H') : TbS d c H' a t := fun H2 y => h H2 (x.trans y)
theorem TbS.same {d c : Addr} {H H' : Hp} {a : Addr} {t : Tb} (h : TbS d c H a t) (s : Same H H') : TbS d c H' a t := h.xt (Xt.of s)
theorem tbS_of {d c : Addr} {H : Hp} {a ts tp tr : Addr} {t : Tb} (hb : BoxAt H d c) (h1 : H a = some (.tup [.ref ts, .ref tp, .ref tr])) (h2 : H ts = some (.tup [.int t.s0, .int t.s1])) (h3 : H tp = some (.tup [.int t.p0, .int t.p1])) (h4 : H tr = some (.lst (t.rows.map V.str))) (n1 : tr ≠ d) (n2 : tr ≠ c) : TbS d c H a t := by
  have nTup : ∀ {z : Addr} {xs : List V}, H z = some (.tup xs) → z ≠ d ∧ z ≠ c := fun hz => by
    obtain ⟨ns, m, e1, e2, _⟩ := hb
    exact ⟨ne_of hz e1 (by intro z; cases z), ne_of hz e2 (by intro z; cases z)⟩
  exact fun H' x => ⟨ts, tp, tr, x _ _ (nTup h1).1 (nTup h1).2 h1, x _ _ (nTup h2).1 (nTup h2).2 h2, x _ _ (nTup h3).1 (nTup h3).2 h3, x _ _ n1 n2 h4⟩
def spSpot : Sp := fun vs H Q _ => ∃ n s p : Nat, vs = [.int n, .int s, .int p] ∧ 0 < p ∧ Q (.int (spot n s p : Nat)) H
def spHas : Sp := fun vs H Q _ => ∃ (a : Addr) (k l : Nat) (t : Tb), vs = [.ref a, .int k, .int l] ∧ TbAt H a t ∧ t.Ok ∧ t.s1 + t.p1 ≤ 1000 ∧ Q (.bl (t.has k l)) H
theorem chEq (x : Str) (i : Nat) : decide (V.str ⟨#[chAt x i]⟩ = V.str (Str.ofString "+")) = inB x i := by
  have e : Str.ofString "+" = ⟨#[43]⟩ := by decide +kernel
  rw [e, dStr]
  unfold inB
  by_cases h : chAt x i = 43
  · rw [h]; simp
  · rw [decide_eq_false h]
    exact decide_eq_false fun z => h (by simpa using congrArg Str.cps z)
section
variable {P : Program} {w : World} {K : PySem.W.Frag} {mg : Str → Option Value} {base : Heap}
end
end FH

set_option Elab.async false
set_option linter.all false
set_option maxRecDepth 100000
set_option maxHeartbeats 1000000
namespace FH
open PySem L2
local macro_rules | `(tactic| walk_at "seq") => `(tactic| first | assumption | exact SqL.of (by assumption) | exact SqT.of (by assumption) | exact SqL.of upd_same | exact SqT.of upd_same)
local macro_rules | `(tactic| walk_at "at") => `(tactic| first | exact atI_nat (j := 0) rfl | exact atI_nat (j := 1) rfl | exact atI_nat (j := 2) rfl | exact atI_nat (by assumption) | assumption)
local macro_rules | `(tactic| walk_at "ar") => `(tactic| first | omega | exact ⟨by omega, by omega⟩ | exact Or.inl ⟨by omega, by omega⟩ | exact Or.inr ⟨by omega, by omega⟩ | exact ⟨by decide, by decide⟩ | exact Or.inr ⟨by decide, by decide⟩ | exact Or.inl ⟨by decide, by decide⟩ | exact ⟨by decide, by decide, by omega⟩ | exact ⟨by decide, by decide, by decide⟩)
local macro_rules | `(tactic| walk_at "r") => `(tactic| repeat (first
  | refine ⟨_, rfl, ?_⟩
  | refine ⟨_, _, rfl, rfl, ?_⟩
  | refine ⟨_, _, _, _, rfl, rfl, by walk_at "seq", by walk_at "at", ?_⟩
  | refine ⟨_, _, _, _, rfl, rfl, by assumption, rfl, ?_⟩
  | refine ⟨_, _, rfl, Or.inl (by walk_at "seq"), ?_⟩
  | refine Or.inl ⟨_, rfl, ?_⟩
  | refine Or.inr ⟨_, rfl, ?_⟩
  | refine And.intro (by walk_at "ar") ?_))
open Pr
/-! ### a set made of a table of the law's own -/
theorem made_same {H H' : Hp} {x dx : Addr} {o : HO} (nx : H x = none) (nd : H dx = none) (e : Xo x (upd (upd H dx (.own x)) x o) H') : Same H H' := fun b u h =>
  e b u (ne_of_none h nx) (by rw [upd_ne (ne_of_none h nx), upd_ne (ne_of_none h nd)]; exact h)
theorem made_up {H : Hp} {x dx : Addr} {o : HO} (nx : H x = none) (nd : H dx = none) : Same H (upd (upd H dx (.own x)) x o) := fun b u h => by
  rw [upd_ne (ne_of_none h nx), upd_ne (ne_of_none h nd)]; exact h
theorem dv_rows {H : Hp} : ∀ {rows : List Str}, (∀ x ∈ rows, x.length ≤ 1000 ∧ Sg x) → DvAll H (rows.map V.str) (rows.map PyData.str)
  | [], _ => .nil
  | x :: r, h => .cons (.str x (h x (by simp)).1 (sg_lay (h x (by simp)).2)) (dv_rows fun y hy => h y (List.mem_cons_of_mem _ hy))
theorem row_all {wide : Int} : ∀ {rows : List Str}, (∀ x ∈ rows, (x.length : Int) = wide ∧ Sg x) → (rows.map PyData.str).all (isRowD wide) = true
  | [], _ => rfl
  | x :: r, h => by
    rw [List.map_cons, List.all_cons, row_all fun y hy => h y (List.mem_cons_of_mem _ hy), Bool.and_true]
    obtain ⟨h1, h2⟩ := h x (by simp)
    show (decide ((x.length : Int) = wide) && (tlS x).all fun ch => decide (ch = 43) || decide (ch = 45)) = true
    rw [decide_eq_true h1, Bool.true_and, List.all_eq_true]
    intro c hc
    rcases h2 c hc with rfl | rfl <;> rfl
theorem check_tab {t : Tb} (O : t.Ok) {s p r : PyData} (hs : isSeqD s = true ∧ itemsD s = [.int t.s0, .int t.s1]) (hp : isSeqD p = true ∧ itemsD p = [.int t.p0, .int t.p1]) (hr : isSeqD r = true ∧ itemsD r = t.rows.map PyData.str) :
    checkR s p r = none ∧ tabD s p r = t := by
  have h0 := O.h0
  have h1 := O.h1
  have e1 : okS s = true := by
    unfold okS
    rw [hs.1, hs.2]
    show (true && (true && (decide ((0 : Int) ≤ (t.s0 : Int)) && (decide ((0 : Int) ≤ (t.s1 : Int)) && true)))) = true
    rw [decide_eq_true (by omega), decide_eq_true (by omega)]; rfl
  have e2 : okP p = true := by
    unfold okP
    rw [hp.1, hp.2]
    show (true && (true && (decide ((0 : Int) < (t.p0 : Int)) && (decide ((0 : Int) < (t.p1 : Int)) && true)))) = true
    rw [decide_eq_true (by omega), decide_eq_true (by omega)]; rfl
  have e3 : okR s p r = true := by
    unfold okR isTableD itemD
    rw [hs.2, hp.2, hr.1, hr.2]
    show (true && (decide (((t.rows.map PyData.str).length : Int) = (t.s0 : Int) + (t.p0 : Int)) && (t.rows.map PyData.str).all (isRowD ((t.s1 : Int) + (t.p1 : Int))))) = true
    rw [List.length_map, O.len, decide_eq_true (by omega), row_all fun x hx => ⟨by have := (O.row x hx).1; omega, (O.row x hx).2⟩]; rfl
  refine ⟨by unfold checkR; rw [if_pos e1, if_pos e2, if_pos e3], ?_⟩
  unfold tabD itemD
  rw [hs.2, hp.2, hr.2]
  show (⟨(t.s0 : Int).toNat, (t.s1 : Int).toNat, (t.p0 : Int).toNat, (t.p1 : Int).toNat, (t.rows.map PyData.str).map strD⟩ : Tb) = t
  have e4 : ∀ l : List Str, (l.map PyData.str).map strD = l := fun l => by
    induction l with
    | nil => rfl
    | cons a r ih => rw [List.map_cons, List.map_cons, ih]; rfl
  rw [e4]
  rfl
/-- a list or tuple of two numbers, as data -/
inductive D2 (H : Hp) (v : V) (i j : Nat) : PyData → Prop
  | tup {a : Addr} (e : v = .ref a) (h : H a = some (.tup [.int i, .int j])) : D2 H v i j (.tuple [.int i, .int j])
  | lst {a : Addr} (e : v = .ref a) (h : H a = some (.lst [.int i, .int j])) : D2 H v i j (.list [.int i, .int j])
theorem D2.dv {H : Hp} {v : V} {i j : Nat} {e : PyData} (h : D2 H v i j e) : Dv H v e := by
  cases h with
  | tup e h => subst e; exact .tup h (by show 2 ≤ 1000; decide) (.cons (.int _) (.cons (.int _) .nil))
  | lst e h => subst e; exact .lst h (by show 2 ≤ 1000; decide) (.cons (.int _) (.cons (.int _) .nil))
theorem D2.it {H : Hp} {v : V} {i j : Nat} {e : PyData} (h : D2 H v i j e) : isSeqD e = true ∧ itemsD e = [.int i, .int j] := by
  cases h <;> exact ⟨rfl, rfl⟩
theorem D2.same {H H' : Hp} {v : V} {i j : Nat} {e : PyData} (s : Same H H') (h : D2 H v i j e) : D2 H' v i j e := by
  cases h with
  | tup e h => exact .tup e (s _ _ h)
  | lst e h => exact .lst e (s _ _ h)
inductive DR (H : Hp) (v : V) (rows : List Str) : PyData → Prop
  | tup {a : Addr} (e : v = .ref a) (h : H a = some (.tup (rows.map V.str))) : DR H v rows (.tuple (rows.map PyData.str))
  | lst {a : Addr} (e : v = .ref a) (h : H a = some (.lst (rows.map V.str))) : DR H v rows (.list (rows.map PyData.str))
theorem DR.dv {H : Hp} {v : V} {rows : List Str} {e : PyData} (h : DR H v rows e) (hl : rows.length ≤ 1000) (hr : ∀ x ∈ rows, x.length ≤ 1000 ∧ Sg x) : Dv H v e := by
  cases h with
  | tup e h => subst e; exact .tup h (by rw [List.length_map]; exact hl) (dv_rows hr)
  | lst e h => subst e; exact .lst h (by rw [List.length_map]; exact hl) (dv_rows hr)
theorem DR.it {H : Hp} {v : V} {rows : List Str} {e : PyData} (h : DR H v rows e) : isSeqD e = true ∧ itemsD e = rows.map PyData.str := by
  cases h <;> exact ⟨rfl, rfl⟩
theorem DR.same {H H' : Hp} {v : V} {rows : List Str} {e : PyData} (s : Same H H') (h : DR H v rows e) : DR H' v rows e := by
  cases h with
  | tup e h => exact .tup e (s _ _ h)
  | lst e h => exact .lst e (s _ _ h)
/-- Crowds(starts, periods, rows) of a good table: what its maker is asked, and gives -/
theorem init_tab {C CE : Addr} {H : Hp} {x dx : Addr} {v1 v2 v3 : V} {e1 e2 e3 : PyData} {t : Tb} {Q : VK} (nx : H x = none) (ndx : H dx = none) (O : t.Ok) (l0 : t.s0 + t.p0 ≤ 1000) (l1 : t.s1 + t.p1 ≤ 1000)
    (h1 : D2 H v1 t.s0 t.s1 e1) (h2 : D2 H v2 t.p0 t.p1 e2) (h3 : DR H v3 t.rows e3) (q : ∀ H' : Hp, Same H H' → CrAt C H' x t.least → Q .non H') :
    spInit C CE [.ref x, v1, v2, v3] (upd (upd H dx (.own x)) x (.ins C dx [])) Q (fun _ _ _ => False) := by
  have su := made_up (o := .ins C dx []) nx ndx
  obtain ⟨c1, c2⟩ := check_tab O h1.it h2.it h3.it
  have rl : t.rows.length ≤ 1000 := by rw [O.len]; exact l0
  have rr : ∀ x ∈ t.rows, x.length ≤ 1000 ∧ Sg x := fun x hx => ⟨by rw [(O.row x hx).1]; exact l1, (O.row x hx).2⟩
  refine ⟨x, dx, v1, v2, v3, e1, e2, e3, rfl, upd_same, h1.dv.same su, h2.dv.same su, (h3.dv rl rr).same su, fun _ H' xt cr => ?_, fun word hw => by rw [c1] at hw; cases hw⟩
  rw [c2] at cr
  exact q H' (made_same nx ndx xt) cr
theorem TbAt.args {H : Hp} {a : Addr} {t : Tb} (h : TbAt H a t) : ∃ ts tp tr : Addr, H a = some (.tup [.ref ts, .ref tp, .ref tr]) ∧ D2 H (.ref ts) t.s0 t.s1 (.tuple [.int t.s0, .int t.s1]) ∧ D2 H (.ref tp) t.p0 t.p1 (.tuple [.int t.p0, .int t.p1]) ∧ DR H (.ref tr) t.rows (.list (t.rows.map PyData.str)) := by
  obtain ⟨ts, tp, tr, h1, h2, h3, h4⟩ := h
  exact ⟨ts, tp, tr, h1, .tup rfl h2, .tup rfl h3, .lst rfl h4⟩
end FH

set_option Elab.async false
set_option linter.all false
set_option maxRecDepth 100000
set_option maxHeartbeats 1000000
namespace FH
open PySem L2
local macro_rules | `(tactic| walk_at "seq") => `(tactic| first | assumption | exact SqL.of (by assumption) | exact SqT.of (by assumption) | exact SqL.of upd_same | exact SqT.of upd_same)
local macro_rules | `(tactic| walk_at "at") => `(tactic| first | exact atI_nat (j := 0) rfl | exact atI_nat (j := 1) rfl | exact atI_nat (j := 2) rfl | exact atI_nat (by assumption) | assumption)
local macro_rules | `(tactic| walk_at "ar") => `(tactic| first | omega | exact ⟨by omega, by omega⟩ | exact Or.inl ⟨by omega, by omega⟩ | exact Or.inr ⟨by omega, by omega⟩ | exact ⟨by decide, by decide⟩ | exact Or.inr ⟨by decide, by decide⟩ | exact Or.inl ⟨by decide, by decide⟩ | exact ⟨by decide, by decide, by omega⟩ | exact ⟨by decide, by decide, by decide⟩)
local macro_rules | `(tactic| walk_at "r") => `(tactic| repeat (first
  | refine ⟨_, rfl, ?_⟩
  | refine ⟨_, _, rfl, rfl, ?_⟩
  | refine ⟨_, _, _, _, rfl, rfl, by walk_at "seq", by walk_at "at", ?_⟩
  | refine ⟨_, _, _, _, rfl, rfl, by assumption, rfl, ?_⟩
  | refine ⟨_, _, rfl, Or.inl (by walk_at "seq"), ?_⟩
  | refine Or.inl ⟨_, rfl, ?_⟩
  | refine Or.inr ⟨_, rfl, ?_⟩
  | refine And.intro (by walk_at "ar") ?_))
open Pr
/-! ### two sets side by side -/
structure Two (t u : Tb) : Prop where
  o1 : t.Ok
  o2 : u.Ok
  a0 : t.s0 + t.p0 ≤ 1000
  a1 : t.s1 + t.p1 ≤ 1000
  b0 : u.s0 + u.p0 ≤ 1000
  b1 : u.s1 + u.p1 ≤ 1000
  c0 : max t.s0 u.s0 + Nat.lcm t.p0 u.p0 ≤ 1000
  c1 : max t.s1 u.s1 + Nat.lcm t.p1 u.p1 ≤ 1000
theorem Two.symm {t u : Tb} (h : Two t u) : Two u t := ⟨h.o2, h.o1, h.b0, h.b1, h.a0, h.a1, by rw [Nat.max_comm, Nat.lcm_comm]; exact h.c0, by rw [Nat.max_comm, Nat.lcm_comm]; exact h.c1⟩
def tall (t u : Tb) : Nat := max t.s0 u.s0 + Nat.lcm t.p0 u.p0
def wide (t u : Tb) : Nat := max t.s1 u.s1 + Nat.lcm t.p1 u.p1
def spBoth (C : Addr) : Sp := fun vs H Q _ => ∃ (x y : Addr) (t u : Tb), vs = [.ref x, .ref y] ∧ CrAt C H x t ∧ CrAt C H y u ∧ Two t u ∧
  ∀ (T ls lp l1 l2 : Addr) (H' : Hp), Same H H' → H' T = some (.tup [.ref ls, .ref lp, .ref l1, .ref l2]) → H' ls = some (.lst [.int (max t.s0 u.s0 : Nat), .int (max t.s1 u.s1 : Nat)]) → H' lp = some (.lst [.int (Nat.lcm t.p0 u.p0 : Nat), .int (Nat.lcm t.p1 u.p1 : Nat)]) →
    H' l1 = some (.lst ((canR t.has (tall t u) (wide t u)).map V.str)) → H' l2 = some (.lst ((canR u.has (tall t u) (wide t u)).map V.str)) → Q (.ref T) H'
def anyIn (xs : List Str) : Bool := xs.any fun x => decide (43 ∈ tlS x)
def subB (t u : Tb) : Bool := !anyIn (canR (fun k l => t.has k l && !u.has k l) (tall t u) (wide t u))
def spWithin (C : Addr) : Sp := fun vs H Q _ => ∃ (x y : Addr) (t u : Tb), vs = [.ref x, .ref y] ∧ CrAt C H x t ∧ CrAt C H y u ∧ Two t u ∧ ∀ H', Same H H' → Q (.bl (subB t u)) H'
/-! plain: a set comes again -/
theorem Tb.per0 {t : Tb} {s q : Nat} (hs : t.s0 ≤ s) (hd : t.p0 ∣ q) (l : Nat) : Per (fun k => t.has k l) s q := by
  obtain ⟨m, rfl⟩ := hd
  have : Per (fun k => spot k t.s0 t.p0) t.s0 (m * t.p0) := spot_per.mul m
  intro n hn
  have e := this n (by omega)
  show inB (t.rows.getD (spot (n + t.p0 * m) t.s0 t.p0) Str.empty) _ = inB (t.rows.getD (spot n t.s0 t.p0) Str.empty) _
  rw [Nat.mul_comm t.p0 m]
  have e' : spot (n + m * t.p0) t.s0 t.p0 = spot n t.s0 t.p0 := e
  rw [e']
theorem Tb.per1 {t : Tb} {s q : Nat} (hs : t.s1 ≤ s) (hd : t.p1 ∣ q) (k : Nat) : Per (fun l => t.has k l) s q := by
  obtain ⟨m, rfl⟩ := hd
  have : Per (fun k => spot k t.s1 t.p1) t.s1 (m * t.p1) := spot_per.mul m
  intro n hn
  have e := this n (by omega)
  show inB _ (spot (n + t.p1 * m) t.s1 t.p1) = inB _ (spot n t.s1 t.p1)
  rw [Nat.mul_comm t.p1 m]
  have e' : spot (n + m * t.p1) t.s1 t.p1 = spot n t.s1 t.p1 := e
  rw [e']
theorem any_canR {f : Nat → Nat → Bool} {tl wd : Nat} : anyIn (canR f tl wd) = true ↔ ∃ k l, k < tl ∧ l < wd ∧ f k l = true := by
  unfold anyIn canR
  rw [List.any_map, List.any_eq_true]
  constructor
  · rintro ⟨k, hk, h⟩
    have h := of_decide_eq_true h
    rw [tl_sgn, List.map_map] at h
    obtain ⟨l, hl, e⟩ := List.mem_map.mp h
    refine ⟨k, l, List.mem_range.mp hk, List.mem_range.mp hl, ?_⟩
    cases hf : f k l with
    | true => rfl
    | false => simp [hf] at e
  · rintro ⟨k, l, hk, hl, hf⟩
    refine ⟨k, List.mem_range.mpr hk, decide_eq_true ?_⟩
    rw [tl_sgn, List.map_map]
    exact List.mem_map.mpr ⟨l, List.mem_range.mpr hl, by simp [hf]⟩
theorem box {t u : Tb} (h : Two t u) (q : Bool → Bool → Bool) (k l : Nat) :
    q (t.has (spot k (max t.s0 u.s0) (Nat.lcm t.p0 u.p0)) (spot l (max t.s1 u.s1) (Nat.lcm t.p1 u.p1))) (u.has (spot k (max t.s0 u.s0) (Nat.lcm t.p0 u.p0)) (spot l (max t.s1 u.s1) (Nat.lcm t.p1 u.p1))) = q (t.has k l) (u.has k l) := by
  have e1 : ∀ (v : Tb), (v = t ∨ v = u) → v.has (spot k (max t.s0 u.s0) (Nat.lcm t.p0 u.p0)) (spot l (max t.s1 u.s1) (Nat.lcm t.p1 u.p1)) = v.has k l := by
    intro v hv
    have s0 : v.s0 ≤ max t.s0 u.s0 := by rcases hv with rfl | rfl <;> omega
    have s1 : v.s1 ≤ max t.s1 u.s1 := by rcases hv with rfl | rfl <;> omega
    have d0 : v.p0 ∣ Nat.lcm t.p0 u.p0 := by rcases hv with rfl | rfl <;> first | exact Nat.dvd_lcm_left _ _ | exact Nat.dvd_lcm_right _ _
    have d1 : v.p1 ∣ Nat.lcm t.p1 u.p1 := by rcases hv with rfl | rfl <;> first | exact Nat.dvd_lcm_left _ _ | exact Nat.dvd_lcm_right _ _
    have a := (Tb.per0 (t := v) s0 d0 (spot l (max t.s1 u.s1) (Nat.lcm t.p1 u.p1))).spot k
    have b := (Tb.per1 (t := v) s1 d1 k).spot l
    exact a.trans b
  rw [e1 t (.inl rfl), e1 u (.inr rfl)]
theorem lcm_pos {t u : Tb} (h : Two t u) : 0 < Nat.lcm t.p0 u.p0 ∧ 0 < Nat.lcm t.p1 u.p1 := ⟨Nat.lcm_pos h.o1.h0 h.o2.h0, Nat.lcm_pos h.o1.h1 h.o2.h1⟩
theorem subB_iff {t u : Tb} (h : Two t u) : subB t u = true ↔ ∀ k l, t.has k l = true → u.has k l = true := by
  have hn : subB t u = true ↔ ¬ anyIn (canR (fun k l => t.has k l && !u.has k l) (tall t u) (wide t u)) = true := by
    unfold subB
    cases anyIn _ <;> simp
  rw [hn, any_canR]
  constructor
  · intro z k l hk
    cases hu : u.has k l with
    | true => rfl
    | false =>
      exfalso
      have e := box h (fun a b => a && !b) k l
      refine z ⟨spot k (max t.s0 u.s0) (Nat.lcm t.p0 u.p0), spot l (max t.s1 u.s1) (Nat.lcm t.p1 u.p1), spot_lt (lcm_pos h).1, spot_lt (lcm_pos h).2, ?_⟩
      refine Eq.trans e ?_
      rw [hk, hu]; rfl
  · rintro z ⟨k, l, _, _, hf⟩
    rw [Bool.and_eq_true] at hf
    rw [z k l hf.1] at hf
    exact absurd hf.2 (by decide)
theorem p4_sub : Str.ofString "--+-" = pick4 (fun a b => a && !b) := by decide +kernel
section
variable {P : Program} {w : World} {K : PySem.W.Frag} {mg : Str → Option Value} {base : Heap} {C : Addr}
theorem sc_both_tables : FnScope ["one", "other", "starts", "at", "periods", "some"] ["one", "other"] (defScope (topS 44)) := ⟨rfl, rfl, rfl, by decide +kernel, rfl, by decide +kernel, by decide +kernel⟩
theorem ok_both {f fM fW fP : Addr} {fd fdM fdW fdP : FuncData} {k : Nat} (F : Fun K "both_tables" "both_tables" (topS 44) f fd) (T : Bt mg) (L : CrC K mg C)
    (FM : Fun K "common_multiple" "common_multiple" (topS 17) fM fdM) (bM : Binds K fdM ["one", "other"] []) (gM : mg "common_multiple" = some (.ref fM))
    (FP : Fun K "place_of" "place_of" (topS 42) fP fdP) (bP : Binds K fdP ["number", "start", "period"] []) (gP : mg "place_of" = some (.ref fP))
    (FW : Fun K "widened" "widened" (topS 43) fW fdW) (bW : Binds K fdW ["rows", "starts", "periods", "more", "others"] []) (gW : mg "widened" = some (.ref fW)) :
    FnOk P w K mg base CX0 (k + 3) f fd ["one", "other"] (spBoth C) := by
  have GM : FnOk P w K mg base CX0 (k + 2) fM fdM ["one", "other"] spMult := ok_mult FM T
  have GW : FnOk P w K mg base CX0 (k + 2) fW fdW ["rows", "starts", "periods", "more", "others"] (spWid K) := ok_wid FW T FP bP gP
  refine F.ok sc_both_tables (fun vs H Q E h => ?_) (fun cdv A outer s H vs Q E hr h => ?_)
  · obtain ⟨x, y, t, u, rfl, _⟩ := h
    rfl
  · obtain ⟨x, y, t, u, rfl, hx, hy, h2, q⟩ := h
    refine ⟨_, (pss_cons (ps_setLc (i := 2) (own := [("at", 3)]) (g := (gName 3)) (tt := tYes) rfl sc_both_tables.nd rfl rfl (sw_true rfl rfl rfl (by decide +kernel)) (pi_range1 (by rfl) T.m_range (pa_cons pe_int pa_nil)) (blkOk_by (own := [("at", 3)]) (N := ["one", "other", "starts", "at", "periods", "some"]) (sc := defScope (topS 44)) (by decide +kernel)) (fun _ _ _ _ _ => (pg_name (i := 3) sc_both_tables.nd rfl (by first | exact Or.inl rfl | exact Or.inr rfl))) (fun _ _ _ _ _ => pts_nil) (fun _ _ _ _ _ => (pe_ifExp (pt_cmpR op_gt (pe_ix (ixTK (K := K) rfl) (fldK (K := K) rfl (pv 0)) (pv 3) (fun _ _ => rfl)) (pe_ix (ixTK (K := K) rfl) (fldK (K := K) rfl (pv 1)) (pv 3) (fun _ _ => rfl)) (nomark _)) (pe_ix (ixTK (K := K) rfl) (fldK (K := K) rfl (pv 0)) (pv 3) (fun _ _ => rfl)) (pe_ix (ixTK (K := K) rfl) (fldK (K := K) rfl (pv 1)) (pv 3) (fun _ _ => rfl)))))
  (pss_cons (ps_setLc (i := 4) (own := [("at", 3)]) (g := (gName 3)) (tt := tYes) rfl sc_both_tables.nd rfl rfl (sw_true rfl rfl rfl (by decide +kernel)) (pi_range1 (by rfl) T.m_range (pa_cons pe_int pa_nil)) (blkOk_by (own := [("at", 3)]) (N := ["one", "other", "starts", "at", "periods", "some"]) (sc := defScope (topS 44)) (by decide +kernel)) (fun _ _ _ _ _ => (pg_name (i := 3) sc_both_tables.nd rfl (by first | exact Or.inl rfl | exact Or.inr rfl))) (fun _ _ _ _ _ => pts_nil) (fun _ _ _ _ _ => (pe_call GM hr (by rfl) gM FM.kp bM .nil pass0 (pa_cons (pe_ix (ixTK (K := K) rfl) (fldK (K := K) rfl (pv 0)) (pv 3) (fun _ _ => rfl)) (pa_cons (pe_ix (ixTK (K := K) rfl) (fldK (K := K) rfl (pv 1)) (pv 3) (fun _ _ => rfl)) pa_nil)))))
  (pss_cons (ps_set (i := 5) sc_both_tables.nd rfl (by first | exact Or.inl rfl | exact Or.inr rfl) (pe_call GW hr (by rfl) gW FW.kp bW .nil pass0 (pa_cons (fldK (K := K) rfl (pv 0)) (pa_cons (fldK (K := K) rfl (pv 0)) (pa_cons (fldK (K := K) rfl (pv 0)) (pa_cons (pv 2) (pa_cons (pv 4) pa_nil)))))))
  (pss_one (ps_ret (pe_tup (pa_cons (pv 2) (pa_cons (pv 4) (pa_cons (pv 5) (pa_cons (pe_call GW hr (by rfl) gW FW.kp bW .nil pass0 (pa_cons (fldK (K := K) rfl (pv 1)) (pa_cons (fldK (K := K) rfl (pv 1)) (pa_cons (fldK (K := K) rfl (pv 1)) (pa_cons (pv 2) (pa_cons (pv 4) pa_nil)))))) pa_nil)))))))))), ?_⟩
    obtain ⟨dx, ts, tp, tr, hx, hts, htp, htr⟩ := hx
    obtain ⟨dy, us, up, ur, hy, hus, hup, hur⟩ := hy
    have two : ∀ {i : Nat}, i < Int.toNat 2 → i = 0 ∨ i = 1 := fun {i} h => by
      have : i < 2 := h
      omega
    have gt : ∀ a b : Nat, (if a > b then a else b) = max a b := fun a b => by rw [Nat.max_def]; split <;> split <;> omega
    -- starts
    refine ⟨2, rfl, by omega, by omega, fun D1 nD1 => lc_fmR nD1 (by decide) (fun i => some (.int ((if i = 0 then max t.s0 u.s0 else max t.s1 u.s1 : Nat) : Int))) (fun i H1 Nx hi s1 tk nt => ?_) (fun H1 s1 hD1 => ?_)⟩
    · have h1x := s1 _ _ hx
      have h1y := s1 _ _ hy
      have h1t := s1 _ _ hts
      have h1u := s1 _ _ hus
      rcases two hi with rfl | rfl
      · refine ⟨rfl, _, rfl, x, C, dx, _, _, rfl, h1x, L.cl, L.nS, cget_s _ _ _, _, rfl, ts, _, _, .int t.s0, rfl, rfl, SqT.of h1t, atI_nat (j := 0) rfl, _, rfl, y, C, dy, _, _, rfl, h1y, L.cl, L.nS, cget_s _ _ _, _, rfl, us, _, _, .int u.s0, rfl, rfl, SqT.of h1u, atI_nat (j := 0) rfl, _, _, rfl, rfl, _, rfl, ite2 (fun e => ?_) (fun e => ?_)⟩
        · refine ⟨_, rfl, x, C, dx, _, _, rfl, h1x, L.cl, L.nS, cget_s _ _ _, _, rfl, ts, _, _, .int t.s0, rfl, rfl, SqT.of h1t, atI_nat (j := 0) rfl, tk _ _ (fun _ _ q => q) ?_⟩
          have := of_decide_eq_true e
          show some (V.int ((max t.s0 u.s0 : Nat) : Int)) = _
          rw [Nat.max_eq_left (by omega)]
        · refine ⟨_, rfl, y, C, dy, _, _, rfl, h1y, L.cl, L.nS, cget_s _ _ _, _, rfl, us, _, _, .int u.s0, rfl, rfl, SqT.of h1u, atI_nat (j := 0) rfl, tk _ _ (fun _ _ q => q) ?_⟩
          have : ¬ (u.s0 : Int) < t.s0 := fun z => e (decide_eq_true z)
          show some (V.int ((max t.s0 u.s0 : Nat) : Int)) = _
          rw [Nat.max_eq_right (by omega)]
      · refine ⟨rfl, _, rfl, x, C, dx, _, _, rfl, h1x, L.cl, L.nS, cget_s _ _ _, _, rfl, ts, _, _, .int t.s1, rfl, rfl, SqT.of h1t, atI_nat (j := 1) rfl, _, rfl, y, C, dy, _, _, rfl, h1y, L.cl, L.nS, cget_s _ _ _, _, rfl, us, _, _, .int u.s1, rfl, rfl, SqT.of h1u, atI_nat (j := 1) rfl, _, _, rfl, rfl, _, rfl, ite2 (fun e => ?_) (fun e => ?_)⟩
        · refine ⟨_, rfl, x, C, dx, _, _, rfl, h1x, L.cl, L.nS, cget_s _ _ _, _, rfl, ts, _, _, .int t.s1, rfl, rfl, SqT.of h1t, atI_nat (j := 1) rfl, tk _ _ (fun _ _ q => q) ?_⟩
          have := of_decide_eq_true e
          show some (V.int ((max t.s1 u.s1 : Nat) : Int)) = _
          rw [Nat.max_eq_left (by omega)]
        · refine ⟨_, rfl, y, C, dy, _, _, rfl, h1y, L.cl, L.nS, cget_s _ _ _, _, rfl, us, _, _, .int u.s1, rfl, rfl, SqT.of h1u, atI_nat (j := 1) rfl, tk _ _ (fun _ _ q => q) ?_⟩
          have : ¬ (u.s1 : Int) < t.s1 := fun z => e (decide_eq_true z)
          show some (V.int ((max t.s1 u.s1 : Nat) : Int)) = _
          rw [Nat.max_eq_right (by omega)]
    have hS : H1 D1 = some (.lst [.int (max t.s0 u.s0 : Nat), .int (max t.s1 u.s1 : Nat)]) := hD1
    clear hD1
    have h1x := s1 _ _ hx
    have h1y := s1 _ _ hy
    have h1t := s1 _ _ htp
    have h1u := s1 _ _ hup
    -- periods
    dsimp only [gName, tSeq]
    refine ⟨2, rfl, by omega, by omega, fun D2 nD2 => lc_fmR nD2 (by decide) (fun i => some (.int ((if i = 0 then Nat.lcm t.p0 u.p0 else Nat.lcm t.p1 u.p1 : Nat) : Int))) (fun i H2 Nx hi s2 tk nt => ?_) (fun H2 s2 hD2 => ?_)⟩
    · have h2x := s2 _ _ h1x
      have h2y := s2 _ _ h1y
      have h2t := s2 _ _ h1t
      have h2u := s2 _ _ h1u
      have := h2.o1.h0
      have := h2.o1.h1
      have := h2.o2.h0
      have := h2.o2.h1
      have := h2.a0
      have := h2.a1
      have := h2.b0
      have := h2.b1
      rcases two hi with rfl | rfl
      · exact ⟨rfl, _, rfl, x, C, dx, _, _, rfl, h2x, L.cl, L.nP, cget_p _ _ _, _, rfl, tp, _, _, .int t.p0, rfl, rfl, SqT.of h2t, atI_nat (j := 0) rfl, _, rfl, y, C, dy, _, _, rfl, h2y, L.cl, L.nP, cget_p _ _ _, _, rfl, up, _, _, .int u.p0, rfl, rfl, SqT.of h2u, atI_nat (j := 0) rfl, t.p0, u.p0, rfl, by omega, by omega, by omega, by omega, tk _ _ (fun _ _ q => q) rfl⟩
      · exact ⟨rfl, _, rfl, x, C, dx, _, _, rfl, h2x, L.cl, L.nP, cget_p _ _ _, _, rfl, tp, _, _, .int t.p1, rfl, rfl, SqT.of h2t, atI_nat (j := 1) rfl, _, rfl, y, C, dy, _, _, rfl, h2y, L.cl, L.nP, cget_p _ _ _, _, rfl, up, _, _, .int u.p1, rfl, rfl, SqT.of h2u, atI_nat (j := 1) rfl, t.p1, u.p1, rfl, by omega, by omega, by omega, by omega, tk _ _ (fun _ _ q => q) rfl⟩
    have hP : H2 D2 = some (.lst [.int (Nat.lcm t.p0 u.p0 : Nat), .int (Nat.lcm t.p1 u.p1 : Nat)]) := hD2
    clear hD2
    have s02 := s1.trans s2
    have h2x := s2 _ _ h1x
    -- the rows of the first
    dsimp only [gName, tSeq]
    refine ⟨_, rfl, x, C, dx, _, _, rfl, h2x, L.cl, L.nR, cget_r _ _ _, _, rfl, x, C, dx, _, _, rfl, h2x, L.cl, L.nS, cget_s _ _ _, _, rfl, x, C, dx, _, _, rfl, h2x, L.cl, L.nP, cget_p _ _ _, _, rfl, _, rfl, ?_⟩
    refine ⟨tr, ts, tp, D1, D2, t, _, _, _, _, rfl, .inr (SqT.of (s02 _ _ htr)), .inr (SqT.of (s02 _ _ hts)), .inr (SqT.of (s02 _ _ htp)), .inl (SqL.of (s2 _ _ hS)), .inl (SqL.of hP), h2.o1, h2.a0, h2.a1, h2.c0, h2.c1, fun l1 H3 s3 nl1 hl1 => ?_⟩
    have s03 := s02.trans s3
    have h3y := s03 _ _ hy
    refine ⟨_, rfl, _, rfl, _, rfl, _, rfl, y, C, dy, _, _, rfl, h3y, L.cl, L.nR, cget_r _ _ _, _, rfl, y, C, dy, _, _, rfl, h3y, L.cl, L.nS, cget_s _ _ _, _, rfl, y, C, dy, _, _, rfl, h3y, L.cl, L.nP, cget_p _ _ _, _, rfl, _, rfl, ?_⟩
    refine ⟨ur, us, up, D1, D2, u, _, _, _, _, rfl, .inr (SqT.of (s03 _ _ hur)), .inr (SqT.of (s03 _ _ hus)), .inr (SqT.of (s03 _ _ hup)), .inl (SqL.of (s3 _ _ (s2 _ _ hS))), .inl (SqL.of (s3 _ _ hP)), h2.o2, h2.b0, h2.b1, h2.c0, h2.c1, fun l2 H4 s4 nl2 hl2 => ⟨by show 4 ≤ sizeLine; decide, fun Tp nT => ?_⟩⟩
    obtain ⟨H5, e5, s5, g5⟩ := new_ex nT (.tup [.ref D1, .ref D2, .ref l1, .ref l2])
    rw [e5]
    exact q Tp D1 D2 l1 l2 H5 ((s03.trans s4).trans s5) g5 (s5 _ _ (s4 _ _ (s3 _ _ (s2 _ _ hS)))) (s5 _ _ (s4 _ _ (s3 _ _ hP))) (s5 _ _ (s4 _ _ hl1)) (s5 _ _ hl2)
theorem sc_is_within : FnScope ["one", "other", "starts", "periods", "some", "others", "row"] ["one", "other"] (defScope (topS 47)) := ⟨rfl, rfl, rfl, by decide +kernel, rfl, by decide +kernel, by decide +kernel⟩
theorem ok_within {f fB fS : Addr} {fd fdB fdS : FuncData} {k : Nat} {t1 : Tok} (F : Fun K "is_within" "is_within" (topS 47) f fd) (T : Bt mg)
    (FB : Fun K "both_tables" "both_tables" (topS 44) fB fdB) (bB : Binds K fdB ["one", "other"] []) (gB : mg "both_tables" = some (.ref fB)) (GB : FnOk P w K mg base CX0 (k + 3) fB fdB ["one", "other"] (spBoth C))
    (FS : Fun K "signs_of" "signs_of" (topS 45) fS fdS) (bS : Binds K fdS ["some", "others", "signs"] []) (gS : mg "signs_of" = some (.ref fS)) (gIN : mg "IN" = some (.str "+" t1)) :
    FnOk P w K mg base CX0 (k + 4) f fd ["one", "other"] (spWithin C) := by
  have GS : FnOk P w K mg base CX0 (k + 3) fS fdS ["some", "others", "signs"] (spSof K) := ok_sof FS T gIN
  refine F.ok sc_is_within (fun vs H Q E h => ?_) (fun cdv A outer s H vs Q E hr h => ?_)
  · obtain ⟨x, y, t, u, rfl, _⟩ := h
    rfl
  · obtain ⟨x, y, t, u, rfl, hx, hy, h2, q⟩ := h
    refine ⟨_, (pss_cons (ps_asg (pe_call GB hr (by rfl) gB FB.kp bB .nil pass0 (pa_cons (pv 0) (pa_cons (pv 1) pa_nil))) (pg_tup rfl (pgs_cons (pg_name (i := 2) sc_is_within.nd rfl (by first | exact Or.inl rfl | exact Or.inr rfl)) (pgs_cons (pg_name (i := 3) sc_is_within.nd rfl (by first | exact Or.inl rfl | exact Or.inr rfl)) (pgs_cons (pg_name (i := 4) sc_is_within.nd rfl (by first | exact Or.inl rfl | exact Or.inr rfl)) (pgs_cons (pg_name (i := 5) sc_is_within.nd rfl (by first | exact Or.inl rfl | exact Or.inr rfl)) pgs_nil))))))
  (pss_one (ps_ret (pe_not (pe_callB (anyK (K := K) rfl rfl) (by rfl) T.m_any (by decide +kernel) (pa_cons (pe_lc (own := [("row", 6)]) (g := (gName 6)) (tt := tYes) rfl sc_is_within.nd (piLK (K := K) rfl (pe_call GS hr (by rfl) gS FS.kp bS .nil pass0 (pa_cons (pv 4) (pa_cons (pv 5) (pa_cons pe_str pa_nil))))) (blkOk_by (own := [("row", 6)]) (N := ["one", "other", "starts", "periods", "some", "others", "row"]) (sc := defScope (topS 47)) (by decide +kernel)) (fun _ _ _ _ _ => (pg_name (i := 6) sc_is_within.nd rfl (by first | exact Or.inl rfl | exact Or.inr rfl))) (fun _ _ _ _ _ => pts_nil) (fun _ _ _ _ _ => (pe_cmpR op_in_sign (pe_glob (v := .str "+") (by rfl) gIN ⟨_, rfl⟩) (pv 6) (by rfl)))) pa_nil)))))), ?_⟩
    refine ⟨_, rfl, _, rfl, x, y, t, u, rfl, hx, hy, h2, fun Tp ls lp l1 l2 H1 s1 hT hS hP h1 h2' => ?_⟩
    refine ⟨Tp, _, rfl, SqT.of hT, rfl, _, _, rfl, _, _, rfl, _, _, rfl, _, _, rfl, rfl, ?_⟩
    refine ⟨_, rfl, _, rfl, l1, l2, t.has, u.has, tall t u, wide t u, (fun a b => a && !b), by rw [← p4_sub]; rfl, .inl ⟨SqL.of h1, SqL.of h2'⟩, h2.c0, h2.c1, fun l H2 s2 nl hl => ?_⟩
    have ll : (canR (fun k l => t.has k l && !u.has k l) (tall t u) (wide t u)).length ≤ 1000 := by rw [len_canR]; exact h2.c0
    refine ⟨l, rfl, ⟨_, SqL.of hl⟩, fun D nD => lc_fmL nD (SqL.of hl) (by rw [List.length_map, len_canR]; exact Nat.lt_of_le_of_lt h2.c0 (by decide)) (fun v => match v with | .str x => some (.bl (decide (43 ∈ tlS x))) | _ => none) (fun i v H3 Nx hv s3 tk nt => ?_) (fun H3 s3 hD => ?_)⟩
    · obtain ⟨z, hz, rfl⟩ := List.mem_map.mp (List.mem_of_getElem? hv)
      refine ⟨rfl, _, rfl, 43, z, ?_, rfl, tk _ _ (fun _ _ q => q) rfl⟩
      exact congrArg V.str (by decide +kernel)
    · have e : ∀ l : List Str, (l.map V.str).filterMap (fun v => match v with | .str x => some (V.bl (decide (43 ∈ tlS x))) | _ => none) = (l.map fun x => decide (43 ∈ tlS x)).map V.bl := fun l => by
        induction l with
        | nil => rfl
        | cons a r ih => rw [List.map_cons, List.filterMap_cons, List.map_cons, List.map_cons, ih]
      rw [e] at hD
      refine ⟨D, _, rfl, SqL.of hD, _, rfl, ?_⟩
      have := q H3 ((s1.trans s2).trans s3)
      unfold subB anyIn at this
      rw [List.any_map]
      exact this
end
end FH

set_option Elab.async false
set_option linter.all false
set_option maxRecDepth 100000
set_option maxHeartbeats 1000000
namespace FH
open PySem L2
local macro_rules | `(tactic| walk_at "seq") => `(tactic| first | assumption | exact SqL.of (by assumption) | exact SqT.of (by assumption) | exact SqL.of upd_same | exact SqT.of upd_same)
local macro_rules | `(tactic| walk_at "at") => `(tactic| first | exact atI_nat (j := 0) rfl | exact atI_nat (j := 1) rfl | exact atI_nat (j := 2) rfl | exact atI_nat (by assumption) | assumption)
local macro_rules | `(tactic| walk_at "ar") => `(tactic| first | omega | exact ⟨by omega, by omega⟩ | exact Or.inl ⟨by omega, by omega⟩ | exact Or.inr ⟨by omega, by omega⟩ | exact ⟨by decide, by decide⟩ | exact Or.inr ⟨by decide, by decide⟩ | exact Or.inl ⟨by decide, by decide⟩ | exact ⟨by decide, by decide, by omega⟩ | exact ⟨by decide, by decide, by decide⟩)
local macro_rules | `(tactic| walk_at "r") => `(tactic| repeat (first
  | refine ⟨_, rfl, ?_⟩
  | refine ⟨_, _, rfl, rfl, ?_⟩
  | refine ⟨_, _, _, _, rfl, rfl, by walk_at "seq", by walk_at "at", ?_⟩
  | refine ⟨_, _, _, _, rfl, rfl, by assumption, rfl, ?_⟩
  | refine ⟨_, _, rfl, Or.inl (by walk_at "seq"), ?_⟩
  | refine Or.inl ⟨_, rfl, ?_⟩
  | refine Or.inr ⟨_, rfl, ?_⟩
  | refine And.intro (by walk_at "ar") ?_))
open Pr
/-- the class Crowds for isinstance -/
structure CrI (K : PySem.W.Frag) (C : Addr) : Prop where
  ha : PySem.W.findIn K (.ref C) "__class__" = some (some (.builtin "object.__class__"))
  hn : PySem.W.specialIn K (.builtin "object.__class__") "__get__" = some (some (.builtin "getset_descriptor.__get__"))
  ht : PySem.W.takesIn K (.builtin "object.__class__") = some true
  hm : PySem.W.mroIn K C (.type "object") = some true
  kOwn : PySem.W.kitOne K (.ref C) (.ref C) = some true
theorem CrAt.tyx {K : PySem.W.Frag} {mg : Str → Option Value} {C : Addr} {H : Hp} {x : Addr} {t : Tb} (h : CrAt C H x t) (L : CrC K mg C) (I : CrI K C) : TyX K H (.ref x) (.ref C) := by
  obtain ⟨dx, ts, tp, tr, hx, _⟩ := h
  exact .base (.ins hx L.cl I.ha I.hn I.ht I.hm)
def eqT (t u : Tb) : Bool := decide (t.s0 = u.s0 ∧ t.s1 = u.s1 ∧ t.p0 = u.p0 ∧ t.p1 = u.p1 ∧ t.rows = u.rows)
theorem eqT_iff {t u : Tb} : eqT t u = true ↔ t = u := by
  unfold eqT
  rw [decide_eq_true_iff]
  constructor
  · intro h
    cases t; cases u
    obtain ⟨rfl, rfl, rfl, rfl, rfl⟩ := h
    rfl
  · rintro rfl
    exact ⟨rfl, rfl, rfl, rfl, rfl⟩
def datT (t : Tb) : PyData := .tuple [tI [t.s0, t.s1], tI [t.p0, t.p1], tS t.rows]
theorem eqv_datT (t u : Tb) : PyData.eqv (datT t) (datT u) = eqT t u := by
  show (PyData.eqv (tI _) (tI _) && (PyData.eqv (tI _) (tI _) && (PyData.eqv (tS _) (tS _) && true))) = _
  rw [eqv_tI, eqv_tI, eqv_tS]
  unfold eqT
  by_cases h1 : t.s0 = u.s0 <;> by_cases h2 : t.s1 = u.s1 <;> by_cases h3 : t.p0 = u.p0 <;> by_cases h4 : t.p1 = u.p1 <;> by_cases h5 : t.rows = u.rows <;> simp [h1, h2, h3, h4, h5] <;> omega
theorem shaped_datT {t : Tb} (h : ∀ x ∈ t.rows, LayS x) : SeqAt.shaped (datT t) = true := by
  have e1 : PyData.canLayAll0 (t.rows.map PyData.str) = true := lay_strs _ h
  have d1 := depth_tS t.rows
  show ((true && (true && true)) && ((true && (true && true)) && (PyData.canLayAll0 (t.rows.map PyData.str) && true)) && decide (max 1 (max 1 (max (tS t.rows).depth 0)) + 1 ≤ 64)) = true
  rw [e1, d1]
  rfl
def spEq (K : PySem.W.Frag) (C : Addr) : Sp := fun vs H Q _ => ∃ (x : Addr) (v : V) (t : Tb), vs = [.ref x, v] ∧ CrAt C H x t ∧ (∀ r ∈ t.rows, LayS r) ∧
  ((∃ (y : Addr) (u : Tb), v = .ref y ∧ CrAt C H y u ∧ (∀ r ∈ u.rows, LayS r) ∧ ∀ H', Same H H' → Q (.bl (eqT t u)) H') ∨ (∃ ty, TyX K H v ty ∧ PySem.W.kitOne K ty (.ref C) = some false ∧ ∀ H', Same H H' → Q (.bl false) H'))
section
variable {P : Program} {w : World} {K : PySem.W.Frag} {mg : Str → Option Value} {base : Heap} {C : Addr}
theorem sc_Crowds___eq__ : FnScope ["self", "other"] ["self", "other"] (defScope (inClass (topS 49) 11)) := ⟨rfl, rfl, rfl, by decide +kernel, rfl, by decide +kernel, by decide +kernel⟩
theorem ok_eq {f : Addr} {fd : FuncData} {k : Nat} (F : Fun K "__eq__" "Crowds.__eq__" (inClass (topS 49) 11) f fd) (T : Bt mg) (L : CrC K mg C) (I : CrI K C) : FnOk P w K mg base CX0 (k + 1) f fd ["self", "other"] (spEq K C) := by
  refine F.ok sc_Crowds___eq__ (fun vs H Q E h => ?_) (fun cdv A outer s H vs Q E hr h => ?_)
  · obtain ⟨x, v, t, rfl, _⟩ := h
    rfl
  · obtain ⟨x, v, t, rfl, hx, hlt, h⟩ := h
    have hu := hr.units
    refine ⟨_, (pss_cons (ps_if (pt_not (pt_val (pe_callB (isiK (K := K) rfl) (by rfl) T.m_isinstance (by decide +kernel) (pa_cons (pv 1) (pa_cons (pe_glob (v := .ref C) (by rfl) L.mgC rfl) pa_nil))))) (pss_one (ps_ret pe_bl)) pss_nil)
  (pss_one (ps_ret (pe_cmpR (eqDK (K := K) rfl hu) (pe_tup (pa_cons (fldK (K := K) rfl (pv 0)) (pa_cons (fldK (K := K) rfl (pv 0)) (pa_cons (fldK (K := K) rfl (pv 0)) pa_nil)))) (pe_tup (pa_cons (fldK (K := K) rfl (pv 1)) (pa_cons (fldK (K := K) rfl (pv 1)) (pa_cons (fldK (K := K) rfl (pv 1)) pa_nil)))) (nomark _))))), ?_⟩
    rcases h with ⟨y, u, rfl, hy, hlu, q⟩ | ⟨ty, hty, kf, q⟩
    · refine ⟨_, rfl, _, _, _, _, _, rfl, .own C, hy.tyx L I, I.kOwn, _, rfl, iteF ?_⟩
      obtain ⟨dx, ts, tp, tr, hx, hts, htp, htr⟩ := hx
      obtain ⟨dy, us, up, ur, hy, hus, hup, hur⟩ := hy
      refine ⟨_, rfl, x, C, dx, _, _, rfl, hx, L.cl, L.nS, cget_s _ _ _, _, rfl, x, C, dx, _, _, rfl, hx, L.cl, L.nP, cget_p _ _ _, _, rfl, x, C, dx, _, _, rfl, hx, L.cl, L.nR, cget_r _ _ _, by show 3 ≤ sizeLine; decide, fun T1 n1 => ?_⟩
      obtain ⟨H1, e1, s1, g1⟩ := new_ex n1 (.tup [.ref ts, .ref tp, .ref tr])
      rw [e1]
      have hy1 := s1 _ _ hy
      refine ⟨_, rfl, y, C, dy, _, _, rfl, hy1, L.cl, L.nS, cget_s _ _ _, _, rfl, y, C, dy, _, _, rfl, hy1, L.cl, L.nP, cget_p _ _ _, _, rfl, y, C, dy, _, _, rfl, hy1, L.cl, L.nR, cget_r _ _ _, by show 3 ≤ sizeLine; decide, fun T2 n2 => ?_⟩
      obtain ⟨H2, e2, s2, g2⟩ := new_ex n2 (.tup [.ref us, .ref up, .ref ur])
      rw [e2]
      have s02 := s1.trans s2
      refine ⟨datT t, datT u, ?_, ?_, shaped_datT hlt, shaped_datT hlu, ?_⟩
      · exact .tup (SqT.of (s2 _ _ g1)) (.cons (dp_tI (ns := [(t.s0 : Int), (t.s1 : Int)]) (s02 _ _ hts)) (.cons (dp_tI (ns := [(t.p0 : Int), (t.p1 : Int)]) (s02 _ _ htp)) (.cons (dp_tS (SqT.of (s02 _ _ htr))) .nil)))
      · exact .tup (SqT.of g2) (.cons (dp_tI (ns := [(u.s0 : Int), (u.s1 : Int)]) (s02 _ _ hus)) (.cons (dp_tI (ns := [(u.p0 : Int), (u.p1 : Int)]) (s02 _ _ hup)) (.cons (dp_tS (SqT.of (s02 _ _ hur))) .nil)))
      · rw [eqv_datT]
        exact q H2 s02
    · exact ⟨_, rfl, _, _, _, _, _, rfl, .own C, hty, kf, _, rfl, iteT (q H fun _ _ e => e)⟩
end
end FH

set_option Elab.async false
set_option linter.all false
set_option maxRecDepth 100000
set_option maxHeartbeats 1000000
namespace FH
open PySem L2
local macro_rules | `(tactic| walk_at "seq") => `(tactic| first | assumption | exact SqL.of (by assumption) | exact SqT.of (by assumption) | exact SqL.of upd_same | exact SqT.of upd_same)
local macro_rules | `(tactic| walk_at "at") => `(tactic| first | exact atI_nat (j := 0) rfl | exact atI_nat (j := 1) rfl | exact atI_nat (j := 2) rfl | exact atI_nat (by assumption) | assumption)
local macro_rules | `(tactic| walk_at "ar") => `(tactic| first | omega | exact ⟨by omega, by omega⟩ | exact Or.inl ⟨by omega, by omega⟩ | exact Or.inr ⟨by omega, by omega⟩ | exact ⟨by decide, by decide⟩ | exact Or.inr ⟨by decide, by decide⟩ | exact Or.inl ⟨by decide, by decide⟩ | exact ⟨by decide, by decide, by omega⟩ | exact ⟨by decide, by decide, by decide⟩)
local macro_rules | `(tactic| walk_at "r") => `(tactic| repeat (first
  | refine ⟨_, rfl, ?_⟩
  | refine ⟨_, _, rfl, rfl, ?_⟩
  | refine ⟨_, _, _, _, rfl, rfl, by walk_at "seq", by walk_at "at", ?_⟩
  | refine ⟨_, _, _, _, rfl, rfl, by assumption, rfl, ?_⟩
  | refine ⟨_, _, rfl, Or.inl (by walk_at "seq"), ?_⟩
  | refine Or.inl ⟨_, rfl, ?_⟩
  | refine Or.inr ⟨_, rfl, ?_⟩
  | refine And.intro (by walk_at "ar") ?_))
open Pr
theorem D2.seq {K : PySem.W.Frag} {H : Hp} {v : V} {i j : Nat} {e : PyData} (h : D2 H v i j e) : ∃ a, v = .ref a ∧ (SqL K H a [.int i, .int j] ∨ SqT K H a [.int i, .int j]) := by
  cases h with
  | tup e h => exact ⟨_, e, .inr (SqT.of h)⟩
  | lst e h => exact ⟨_, e, .inl (SqL.of h)⟩
theorem D2.tupOf {K : PySem.W.Frag} {H : Hp} {v : V} {i j : Nat} {e : PyData} {Q : VK} (h : D2 H v i j e) (q : ∀ (a : Addr) (H' : Hp), Same H H' → H' a = some (.tup [.int i, .int j]) → Q (.ref a) H') : rTupOfQ K [v] H Q := by
  cases h with
  | tup e h => subst e; exact ⟨_, _, rfl, .inr ⟨SqT.of h, q _ _ (Same.refl _) h⟩⟩
  | lst e h => subst e; exact ⟨_, _, rfl, .inl ⟨SqL.of h, fun l nl => q _ _ (same_new nl) upd_same⟩⟩
def spMade (P : Program) (w : World) (K : PySem.W.Frag) (mg : Str → Option Value) (base : Heap) (kL : Nat) (C : Addr) : Sp := fun vs H Q _ => ∃ (v1 v2 : V) (e1 e2 : PyData) (f : Addr) (F : Nat → Nat → Bool) (s0 s1 p0 p1 : Nat), vs = [v1, v2, .ref f] ∧ LamAt P w K mg base kL H f F ∧
  D2 H v1 s0 s1 e1 ∧ D2 H v2 p0 p1 e2 ∧ 0 < p0 ∧ 0 < p1 ∧ s0 + p0 ≤ 1000 ∧ s1 + p1 ≤ 1000 ∧ ∀ (z : Addr) (H' : Hp), Same H H' → CrAt C H' z (tabF F s0 s1 p0 p1).least → Q (.ref z) H'
section
variable {P : Program} {w : World} {K : PySem.W.Frag} {mg : Str → Option Value} {base : Heap} {C CE : Addr}
theorem sc_made_by : FnScope ["starts", "periods", "is_in", "rows", "k", "l"] ["starts", "periods", "is_in"] (defScope (topS 48)) := ⟨rfl, rfl, rfl, by decide +kernel, rfl, by decide +kernel, by decide +kernel⟩
theorem ok_made {f fI : Addr} {fd fdI : FuncData} {k : Nat} {t1 t2 : Tok} (F : Fun K "made_by" "made_by" (topS 48) f fd) (T : Bt mg) (L : CrC K mg C) (gIN : mg "IN" = some (.str "+" t1)) (gNI : mg "NOT_IN" = some (.str "-" t2))
    (MK : Mk K C fI) (bI : Binds K fdI ["self", "starts", "periods", "rows"] []) (GI : FnOk P w K mg base (L2.CX P w) (k + 4) fI fdI ["self", "starts", "periods", "rows"] (spInit C CE)) :
    FnOk P w K mg base CX0 (k + 6) f fd ["starts", "periods", "is_in"] (spMade P w K mg base (k + 5) C) := by
  refine F.ok sc_made_by (fun vs H Q E h => ?_) (fun cdv A outer s H vs Q E hr h => ?_)
  · obtain ⟨v1, v2, e1, e2, f, G, s0, s1, p0, p1, rfl, _⟩ := h
    rfl
  · obtain ⟨v1, v2, e1, e2, ff, G, s0, s1, p0, p1, rfl, LA, d1, d2, h0, h1, l0, l1, q⟩ := h
    refine ⟨_, (pss_cons (ps_set (i := 3) sc_made_by.nd rfl (by first | exact Or.inl rfl | exact Or.inr rfl) (pe_lst pa_nil))
  (pss_cons (ps_for PassesOwn.never rfl (pi_range1 (by rfl) T.m_range (pa_cons (pe_op op_add (pe_ix (ixQK (K := K) rfl) (pv 0) pe_int (fun _ _ => rfl)) (pe_ix (ixQK (K := K) rfl) (pv 1) pe_int (fun _ _ => rfl))) pa_nil)) (pg_name (i := 4) sc_made_by.nd rfl (by first | exact Or.inl rfl | exact Or.inr rfl)) (pss_one (ps_expr (pe_bm PySem.F.plainAttrs_list PySem.F.slot_list_append PySem.F.type_list_append mt_append (pv 3) (pa_cons (pe_joinK (K := K) rfl pe_str (pe_lc (own := [("l", 5)]) (g := (gName 5)) (tt := tYes) rfl sc_made_by.nd (pi_range1 (by rfl) T.m_range (pa_cons (pe_op op_add (pe_ix (ixQK (K := K) rfl) (pv 0) pe_int (fun _ _ => rfl)) (pe_ix (ixQK (K := K) rfl) (pv 1) pe_int (fun _ _ => rfl))) pa_nil)) (blkOk_by (own := [("l", 5)]) (N := ["starts", "periods", "is_in", "rows", "k", "l"]) (sc := defScope (topS 48)) (by decide +kernel)) (fun _ _ _ _ _ => (pg_name (i := 5) sc_made_by.nd rfl (by first | exact Or.inl rfl | exact Or.inr rfl))) (fun _ _ _ _ _ => pts_nil) (fun _ _ _ _ _ => (pe_ifExp (pt_val (pe_lamv (i := 2) rfl rfl rfl rfl rfl hr rfl (by first | exact Or.inl rfl | exact Or.inr (Or.inl rfl) | exact Or.inr (Or.inr rfl)) (pa_cons (pv 4) (pa_cons (pv 5) pa_nil)))) (pe_glob (v := .str "+") (by rfl) gIN ⟨_, rfl⟩) (pe_glob (v := .str "-") (by rfl) gNI ⟨_, rfl⟩))))) pa_nil)))))
  (pss_one (ps_ret (pe_make MK GI hr (by rfl) L.mgC bI .nil passF (pa_cons (pe_callTy (tupK (K := K) rfl) (by rfl) T.m_tuple (by decide +kernel) (pa_cons (pv 0) pa_nil)) (pa_cons (pe_callTy (tupK (K := K) rfl) (by rfl) T.m_tuple (by decide +kernel) (pa_cons (pv 1) pa_nil)) (pa_cons (pv 3) pa_nil)))))))), ?_⟩
    refine ⟨by decide, fun lf nlf => ?_⟩
    obtain ⟨H2, e2', s2, g2⟩ := new_ex nlf (.lst [])
    rw [e2']
    obtain ⟨a, ea, ha⟩ := d1.seq (K := K)
    obtain ⟨b, eb, hb⟩ := d2.seq (K := K)
    refine ⟨_, rfl, a, _, 0, _, ea, rfl, sq_same s2 ha, atI_nat (j := 0) rfl, _, rfl, b, _, 0, _, eb, rfl, sq_same s2 hb, atI_nat (j := 0) rfl, _, _, rfl, rfl, ((s0 : Int) + p0), rfl, by omega, by omega, ?_⟩
    rw [show ((s0 : Int) + (p0 : Int)).toNat = s0 + p0 by omega]
    refine for_range (lo := 0) (n := s0 + p0) (fun i σ H3 => ∃ o4 : Option V, Same H H3 ∧ H3 lf = some (.lst ((canR G i (s1 + p1)).map V.str)) ∧ σ = [some v1, some v2, some (.ref ff), some (.ref lf), o4, none])
      ⟨none, s2, g2, rfl⟩ (fun i σ H3 hi hp => ?_) (fun σ H3 hp => ?_)
    · obtain ⟨o4, s3, hlf, rfl⟩ := hp
      refine ⟨_, rfl, .inl ⟨rfl, _, SqL.of hlf⟩, ⟨_, rfl⟩, _, rfl, a, _, 1, _, ea, rfl, sq_same s3 ha, atI_nat (j := 1) rfl, _, rfl, b, _, 1, _, eb, rfl, sq_same s3 hb, atI_nat (j := 1) rfl, _, _, rfl, rfl, ((s1 : Int) + p1), rfl, by omega, by omega, fun D nD => ?_⟩
      rw [show ((s1 : Int) + (p1 : Int)).toNat = s1 + p1 by omega]
      refine lc_fmR nD (by omega) (fun j => some (.str ⟨#[if G i j = true then 43 else 45]⟩)) (fun j H4 Nx hj s4 tk nt => ?_) (fun H4 s4 hD => ?_)
      · refine ⟨rfl, ff, G, rfl, LA.same (s3.trans s4), _, rfl, _, rfl, Same.refl _, i, j, by rw [show (0 : Int) + (i : Int) = (i : Int) by omega, show (0 : Int) + (j : Int) = (j : Int) by omega], fun H5 s5 => ?_⟩
        refine ⟨_, rfl, ?_⟩
        cases hb : G i j with
        | true => exact iteT (tk _ _ s5 (by rw [hb]; rfl))
        | false => exact iteF (tk _ _ s5 (by rw [hb]; rfl))
      · have e3 : (List.range (s1 + p1)).filterMap (fun j => some (V.str ⟨#[if G i j = true then 43 else 45]⟩)) = (ones ((List.range (s1 + p1)).map fun j => if G i j = true then 43 else 45)).map V.str := by
          unfold ones
          rw [List.filterMap_eq_map', List.map_map, List.map_map]; rfl
        rw [e3] at hD
        refine ⟨_, D, _, rfl, rfl, .inl (SqL.of hD), ?_, ?_⟩
        · rw [sum_ones, ones_len, List.length_map, List.length_range]
          show (s1 + p1) + (s1 + p1) * 0 ≤ 16777216
          omega
        · have hlf4 := s4 _ _ hlf
          refine ⟨lf, _, _, rfl, rfl, hlf4, by rw [List.length_map, len_canR]; exact Nat.lt_of_lt_of_le (show i < 1000 by omega) (by decide), some (.int (0 + (i : Int))), fun b o e => ?_, ?_, rfl⟩
          · have nb : b ≠ lf := fun z => by rw [z, nlf] at e; cases e
            rw [upd_ne nb]
            exact s4 _ _ (s3 _ _ e)
          · rw [upd_same]
            congr 2
            unfold canR
            rw [List.range_succ, List.map_append, List.map_append]
            congr 1
            show [V.str _] = [V.str _]
            congr 2
            refine str_tl ?_
            rw [join_ones, tl_sgn, List.map_map]
            rfl
    · obtain ⟨o4, s3, hlf, rfl⟩ := hp
      refine ⟨_, rfl, ?_⟩
      dsimp only [tNil]
      refine (d1.same s3).tupOf fun a1 H4 s4 g4 => ⟨_, rfl, ?_⟩
      dsimp only [tNil]
      refine (d2.same (s3.trans s4)).tupOf fun a2 H5 s5 g5 => ⟨_, rfl, ?_⟩
      exact fun x dx nx ndx nxd => init_tab nx ndx (t := tabF G s0 s1 p0 p1) (tabF_ok h0 h1) l0 l1 (.tup rfl (s5 _ _ g4)) (.tup rfl g5) (.lst rfl (s5 _ _ (s4 _ _ hlf))) fun H6 s6 cr => ⟨rfl, q _ H6 (((s3.trans s4).trans s5).trans s6) cr⟩
end
end FH

set_option Elab.async false
set_option linter.all false
set_option maxRecDepth 100000
set_option maxHeartbeats 1000000
namespace FH
open PySem L2
local macro_rules | `(tactic| walk_at "seq") => `(tactic| first | assumption | exact SqL.of (by assumption) | exact SqT.of (by assumption) | exact SqL.of upd_same | exact SqT.of upd_same)
local macro_rules | `(tactic| walk_at "at") => `(tactic| first | exact atI_nat (j := 0) rfl | exact atI_nat (j := 1) rfl | exact atI_nat (j := 2) rfl | exact atI_nat (by assumption) | assumption)
local macro_rules | `(tactic| walk_at "ar") => `(tactic| first | omega | exact ⟨by omega, by omega⟩ | exact Or.inl ⟨by omega, by omega⟩ | exact Or.inr ⟨by omega, by omega⟩ | exact ⟨by decide, by decide⟩ | exact Or.inr ⟨by decide, by decide⟩ | exact Or.inl ⟨by decide, by decide⟩ | exact ⟨by decide, by decide, by omega⟩ | exact ⟨by decide, by decide, by decide⟩)
local macro_rules | `(tactic| walk_at "r") => `(tactic| repeat (first
  | refine ⟨_, rfl, ?_⟩
  | refine ⟨_, _, rfl, rfl, ?_⟩
  | refine ⟨_, _, _, _, rfl, rfl, by walk_at "seq", by walk_at "at", ?_⟩
  | refine ⟨_, _, _, _, rfl, rfl, by assumption, rfl, ?_⟩
  | refine ⟨_, _, rfl, Or.inl (by walk_at "seq"), ?_⟩
  | refine Or.inl ⟨_, rfl, ?_⟩
  | refine Or.inr ⟨_, rfl, ?_⟩
  | refine And.intro (by walk_at "ar") ?_))
open Pr
def isCrowdD : PyData → Bool | .tuple [a, b] => isNumD a && isNumD b | _ => false
def spSign (C : Addr) : Sp := fun vs H Q _ => ∃ (x : Addr) (t : Tb) (k l : Nat), vs = [.ref x, .int k, .int l] ∧ CrAt C H x t ∧ t.Ok ∧ t.s1 + t.p1 ≤ 1000 ∧ Q (.str ⟨#[chAt (t.row k) (spot l t.s1 t.p1)]⟩) H
/-- whether data are a crowd of a set -/
def inD (t : Tb) : PyData → Bool | .tuple [.int k, .int l] => decide (0 ≤ k) && decide (0 ≤ l) && t.has k.toNat l.toNat | _ => false
def spCon (C : Addr) : Sp := fun vs H Q _ => ∃ (x : Addr) (t : Tb) (v : V) (e : PyData), vs = [.ref x, v] ∧ CrAt C H x t ∧ t.Ok ∧ t.s1 + t.p1 ≤ 1000 ∧ Dv H v e ∧ Q (.bl (inD t e)) H
section
variable {P : Program} {w : World} {K : PySem.W.Frag} {mg : Str → Option Value} {base : Heap} {C : Addr}
theorem sc_is_crowd : FnScope ["value"] ["value"] (defScope (topS 16)) := ⟨rfl, rfl, rfl, by decide +kernel, rfl, by decide +kernel, by decide +kernel⟩
theorem ok_crowd {f fI fN : Addr} {fd fdI fdN : FuncData} {k : Nat} (F : Fun K "is_crowd" "is_crowd" (topS 16) f fd) (T : Bt mg) (FI : Fun K "is_integer" "is_integer" (topS 12) fI fdI) (bI : Binds K fdI ["value"] []) (gI : mg "is_integer" = some (.ref fI))
    (FN : Fun K "is_number" "is_number" (topS 13) fN fdN) (bN : Binds K fdN ["value"] []) (gN : mg "is_number" = some (.ref fN)) :
    FnOk P w K mg base CX0 (k + 3) f fd ["value"] (spInt isCrowdD) := by
  have GN : FnOk P w K mg base CX0 (k + 2) fN fdN ["value"] (spInt isNumD) := ok_isNum FN T FI bI gI
  refine F.ok sc_is_crowd (fun vs H Q E h => ?_) (fun cdv A outer s H vs Q E hr h => ?_)
  · obtain ⟨v, e, rfl, _⟩ := h
    rfl
  · obtain ⟨v, e, rfl, hv, q⟩ := h
    refine ⟨_, (pss_one (ps_ret (pe_and (pe_callB (isiK (K := K) rfl) (by rfl) T.m_isinstance (by decide +kernel) (pa_cons (pv 0) (pa_cons (pe_bltn (v := .ty "tuple") (by rfl) T.m_tuple (by decide +kernel) rfl) pa_nil))) (pe_and (pe_cmpR op_eq (pe_callB (lenK (K := K) rfl) (by rfl) T.m_len PySem.boot_len (pa_cons (pv 0) pa_nil)) pe_int (nomark _)) (pe_and (pe_call GN hr (by rfl) gN FN.kp bN .nil pass0 (pa_cons (pe_ix (ixTK (K := K) rfl) (pv 0) pe_int (fun _ _ => rfl)) pa_nil)) (pe_one (pe_call GN hr (by rfl) gN FN.kp bN .nil pass0 (pa_cons (pe_ix (ixTK (K := K) rfl) (pv 0) pe_int (fun _ _ => rfl)) pa_nil)))))))), ?_⟩
    refine ⟨_, rfl, _, _, _, _, _, rfl, .ty _, hv.tyx, kitTp hv, _, rfl, ?_⟩
    cases hv with
    | @tup a xs ds h hl l =>
      refine iteT ⟨_, rfl, a, xs, rfl, .inr (SqT.of h), rfl, _, rfl, ?_⟩
      cases l with
      | nil => exact iteF q
      | @cons v1 e1 vs1 es1 h1 l =>
        cases l with
        | nil => exact iteF q
        | @cons v2 e2 vs2 es2 h2 l =>
          cases l with
          | nil =>
            refine iteT ⟨_, rfl, a, _, 0, _, rfl, rfl, SqT.of h, atI_nat (j := 0) rfl, v1, e1, rfl, h1, _, rfl, ?_⟩
            have q : Q (.bl (isNumD e1 && isNumD e2)) H := q
            cases he : isNumD e1 with
            | false => rw [he] at q; exact iteF q
            | true =>
              rw [he] at q
              exact iteT ⟨_, rfl, a, _, 1, _, rfl, rfl, SqT.of h, atI_nat (j := 1) rfl, v2, e2, rfl, h2, q⟩
          | @cons v3 e3 vs3 es3 h3 l =>
            have el : decide (V.int ((v1 :: v2 :: v3 :: vs3).length : Nat) = V.int 2) = false := decide_eq_false fun z => by
              have z := V.int.inj z
              simp only [List.length_cons] at z
              omega
            rw [el]
            exact iteF q
    | _ => exact iteF q
theorem sc_Crowds_sign : FnScope ["self", "k", "l", "row"] ["self", "k", "l"] (defScope (inClass (topS 49) 19)) := ⟨rfl, rfl, rfl, by decide +kernel, rfl, by decide +kernel, by decide +kernel⟩
theorem ok_sign {f fP : Addr} {fd fdP : FuncData} {k : Nat} (F : Fun K "sign" "Crowds.sign" (inClass (topS 49) 19) f fd) (T : Bt mg) (L : CrC K mg C) (FP : Fun K "place_of" "place_of" (topS 42) fP fdP) (bP : Binds K fdP ["number", "start", "period"] []) (gP : mg "place_of" = some (.ref fP)) :
    FnOk P w K mg base CX0 (k + 2) f fd ["self", "k", "l"] (spSign C) := by
  have GP : FnOk P w K mg base CX0 (k + 1) fP fdP ["number", "start", "period"] spPlace := ok_place FP T
  refine F.ok sc_Crowds_sign (fun vs H Q E h => ?_) (fun cdv A outer s H vs Q E hr h => ?_)
  · obtain ⟨x, t, k, l, rfl, _⟩ := h
    rfl
  · obtain ⟨x, t, k, l, rfl, hx, O, hw, q⟩ := h
    refine ⟨_, (pss_cons (ps_set (i := 3) sc_Crowds_sign.nd rfl (by first | exact Or.inl rfl | exact Or.inr rfl) (pe_ix (ixTK (K := K) rfl) (fldK (K := K) rfl (pv 0)) (pe_call GP hr (by rfl) gP FP.kp bP .nil pass0 (pa_cons (pv 1) (pa_cons (pe_ix (ixTK (K := K) rfl) (fldK (K := K) rfl (pv 0)) pe_int (fun _ _ => rfl)) (pa_cons (pe_ix (ixTK (K := K) rfl) (fldK (K := K) rfl (pv 0)) pe_int (fun _ _ => rfl)) pa_nil)))) (fun _ _ => rfl)))
  (pss_one (ps_ret (pe_ix ix_str (pv 3) (pe_call GP hr (by rfl) gP FP.kp bP .nil pass0 (pa_cons (pv 2) (pa_cons (pe_ix (ixTK (K := K) rfl) (fldK (K := K) rfl (pv 0)) pe_int (fun _ _ => rfl)) (pa_cons (pe_ix (ixTK (K := K) rfl) (fldK (K := K) rfl (pv 0)) pe_int (fun _ _ => rfl)) pa_nil)))) (fun _ _ => rfl))))), ?_⟩
    obtain ⟨dx, ts, tp, tr, h1, h2, h3, h4⟩ := hx
    refine ⟨_, rfl, x, C, dx, _, _, rfl, h1, L.cl, L.nR, cget_r _ _ _, _, rfl, _, rfl, x, C, dx, _, _, rfl, h1, L.cl, L.nS, cget_s _ _ _, ts, _, 0, _, rfl, rfl, SqT.of h2, atI_nat (j := 0) rfl, _, rfl, x, C, dx, _, _, rfl, h1, L.cl, L.nP, cget_p _ _ _, tp, _, 0, _, rfl, rfl, SqT.of h3, atI_nat (j := 0) rfl, k, t.s0, t.p0, rfl, O.h0, ?_⟩
    refine ⟨tr, _, _, .str (t.row k), rfl, rfl, SqT.of h4, atI_nat (by rw [List.getElem?_map, (t.row_mem O k).1]; rfl), ?_⟩
    refine ⟨_, rfl, _, rfl, _, rfl, x, C, dx, _, _, rfl, h1, L.cl, L.nS, cget_s _ _ _, ts, _, 1, _, rfl, rfl, SqT.of h2, atI_nat (j := 1) rfl, _, rfl, x, C, dx, _, _, rfl, h1, L.cl, L.nP, cget_p _ _ _, tp, _, 1, _, rfl, rfl, SqT.of h3, atI_nat (j := 1) rfl, l, t.s1, t.p1, rfl, O.h1, ?_⟩
    have hl := (t.row_ok O k).1
    have hlt : spot l t.s1 t.p1 < (t.row k).cps.size := by
      have := spot_lt (n := l) (s := t.s1) O.h1
      rw [← hl] at this
      exact this
    refine ⟨t.row k, _, chAt (t.row k) (spot l t.s1 t.p1), rfl, rfl, by rw [hl]; exact Nat.le_trans hw (by decide), atI_nat ?_, q⟩
    rw [Array.getElem?_toList]
    unfold chAt
    rw [Array.getD_eq_getD_getElem?, Array.getElem?_eq_getElem hlt]
    rfl
theorem sc_Crowds___contains__ : FnScope ["self", "value"] ["self", "value"] (defScope (inClass (topS 49) 16)) := ⟨rfl, rfl, rfl, by decide +kernel, rfl, by decide +kernel, by decide +kernel⟩
theorem ok_con {f fS fC : Addr} {fd fdS fdC : FuncData} {k : Nat} {t1 : Tok} (F : Fun K "__contains__" "Crowds.__contains__" (inClass (topS 49) 16) f fd) (T : Bt mg) (L : CrC K mg C) (gIN : mg "IN" = some (.str "+" t1))
    (FC : Fun K "is_crowd" "is_crowd" (topS 16) fC fdC) (bC : Binds K fdC ["value"] []) (gC : mg "is_crowd" = some (.ref fC)) (GC : FnOk P w K mg base CX0 (k + 3) fC fdC ["value"] (spInt isCrowdD))
    (hmS : Meth K C "sign" fS) (bS : Binds K fdS ["self", "k", "l"] []) (GS : FnOk P w K mg base CX0 (k + 3) fS fdS ["self", "k", "l"] (spSign C)) :
    FnOk P w K mg base CX0 (k + 4) f fd ["self", "value"] (spCon C) := by
  refine F.ok sc_Crowds___contains__ (fun vs H Q E h => ?_) (fun cdv A outer s H vs Q E hr h => ?_)
  · obtain ⟨x, t, v, e, rfl, _⟩ := h
    rfl
  · obtain ⟨x, t, v, e, rfl, hx, O, hw, hv, q⟩ := h
    refine ⟨_, (pss_one (ps_ret (pe_and (pe_call GC hr (by rfl) gC FC.kp bC .nil pass0 (pa_cons (pv 1) pa_nil)) (pe_one (pe_cmpR op_eq (pe_meth (pv 0) L.cl hmS GS hr bS .nil pass0 (pa_cons (pe_ix (ixTK (K := K) rfl) (pv 1) pe_int (fun _ _ => rfl)) (pa_cons (pe_ix (ixTK (K := K) rfl) (pv 1) pe_int (fun _ _ => rfl)) pa_nil))) (pe_glob (v := .str "+") (by rfl) gIN ⟨_, rfl⟩) (nomark _)))))), ?_⟩
    refine ⟨_, rfl, v, e, rfl, hv, _, rfl, ?_⟩
    have no : isCrowdD e = false → inD t e = false := fun h => by
      unfold inD
      split
      · rename_i k l
        have h : (decide (0 ≤ k) && decide (0 ≤ l)) = false := h
        rw [h]; rfl
      · rfl
    cases hc : isCrowdD e with
    | false => rw [no hc] at q; exact iteF q
    | true =>
      obtain ⟨k, l, rfl⟩ : ∃ k l : Nat, e = .tuple [.int k, .int l] := by
        unfold isCrowdD at hc
        split at hc
        · rename_i a b
          rw [Bool.and_eq_true] at hc
          obtain ⟨ha, hb⟩ := hc
          cases a <;> first | (cases ha; done) | skip
          cases b <;> first | (cases hb; done) | skip
          rename_i i j
          have hi : 0 ≤ i := of_decide_eq_true ha
          have hj : 0 ≤ j := of_decide_eq_true hb
          exact ⟨i.toNat, j.toNat, by rw [Int.toNat_of_nonneg hi, Int.toNat_of_nonneg hj]⟩
        · cases hc
      obtain ⟨a, ea, ha⟩ : ∃ a, v = .ref a ∧ H a = some (.tup [.int k, .int l]) := by
        cases hv with
        | @tup a xs ds h hl l =>
          cases l with
          | cons h1 l =>
            cases h1
            cases l with
            | cons h2 l =>
              cases h2
              cases l
              exact ⟨a, rfl, h⟩
      subst ea
      have hx' := hx
      obtain ⟨dx, ts, tp, tr, h1, h2, h3, h4⟩ := hx
      refine iteT ⟨_, rfl, x, dx, _, rfl, h1, by rfl, _, rfl, a, _, 0, _, rfl, rfl, SqT.of ha, atI_nat (j := 0) rfl, _, rfl, a, _, 1, _, rfl, rfl, SqT.of ha, atI_nat (j := 1) rfl, x, t, k, l, rfl, hx', O, hw, rfl, ?_⟩
      rw [chEq]
      have e1 : inD t (.tuple [.int k, .int l]) = t.has k l := by
        show (decide ((0 : Int) ≤ k) && decide ((0 : Int) ≤ l) && t.has (k : Int).toNat (l : Int).toNat) = _
        rw [decide_eq_true (by omega), decide_eq_true (by omega), Int.toNat_natCast, Int.toNat_natCast]
        rfl
      rw [e1] at q
      exact q
end
end FH

set_option Elab.async false
set_option linter.all false
set_option maxRecDepth 100000
set_option maxHeartbeats 1000000
namespace FH
open PySem L2
local macro_rules | `(tactic| walk_at "seq") => `(tactic| first | assumption | exact SqL.of (by assumption) | exact SqT.of (by assumption) | exact SqL.of upd_same | exact SqT.of upd_same)
local macro_rules | `(tactic| walk_at "at") => `(tactic| first | exact atI_nat (j := 0) rfl | exact atI_nat (j := 1) rfl | exact atI_nat (j := 2) rfl | exact atI_nat (by assumption) | assumption)
local macro_rules | `(tactic| walk_at "ar") => `(tactic| first | omega | exact ⟨by omega, by omega⟩ | exact Or.inl ⟨by omega, by omega⟩ | exact Or.inr ⟨by omega, by omega⟩ | exact ⟨by decide, by decide⟩ | exact Or.inr ⟨by decide, by decide⟩ | exact Or.inl ⟨by decide, by decide⟩ | exact ⟨by decide, by decide, by omega⟩ | exact ⟨by decide, by decide, by decide⟩)
local macro_rules | `(tactic| walk_at "r") => `(tactic| repeat (first
  | refine ⟨_, rfl, ?_⟩
  | refine ⟨_, _, rfl, rfl, ?_⟩
  | refine ⟨_, _, _, _, rfl, rfl, by walk_at "seq", by walk_at "at", ?_⟩
  | refine ⟨_, _, _, _, rfl, rfl, by assumption, rfl, ?_⟩
  | refine ⟨_, _, rfl, Or.inl (by walk_at "seq"), ?_⟩
  | refine Or.inl ⟨_, rfl, ?_⟩
  | refine Or.inr ⟨_, rfl, ?_⟩
  | refine And.intro (by walk_at "ar") ?_))
open Pr LamX
/-! ### sets beside -/
def besF (m : Bool) (t : Tb) : Nat → Nat → Bool := if m = true then fun k l => decide (0 < k) && t.has (k - 1) (l + 1) else fun k l => decide (0 < l) && t.has (k + 1) (l - 1)
def besT (m : Bool) (t : Tb) : Tb := if m = true then tabF (besF true t) (t.s0 + 1) (t.s1 - 1) t.p0 t.p1 else tabF (besF false t) (t.s0 - 1) (t.s1 + 1) t.p0 t.p1
def kindS (m : Bool) : Str := if m = true then "marked" else "plain"
theorem CrAt.ext {C : Addr} {H H' : Hp} {x : Addr} {t : Tb} (e : ∀ b o, H b = some o → (∀ ps, o ≠ .tbl ps) → (∀ φ, o ≠ .ext φ) → H' b = some o) (h : CrAt C H x t) : CrAt C H' x t := by
  obtain ⟨dx, ts, tp, tr, h1, h2, h3, h4⟩ := h
  exact ⟨dx, ts, tp, tr, e _ _ h1 (fun _ z => by cases z) (fun _ z => by cases z), e _ _ h2 (fun _ z => by cases z) (fun _ z => by cases z), e _ _ h3 (fun _ z => by cases z) (fun _ z => by cases z), e _ _ h4 (fun _ z => by cases z) (fun _ z => by cases z)⟩
theorem CrAt.extN {C : Addr} {H H' : Hp} {x : Addr} {t : Tb} (e : ExtN H H') (h : CrAt C H x t) : CrAt C H' x t := h.ext fun b o h1 h2 _ => e b o h1 h2
def spBes (C : Addr) (T : List (Addr × Str)) : Sp := fun vs H Q _ => ∃ (x : Addr) (t : Tb) (m : Bool), vs = [.ref x, .str (kindS m)] ∧ CrAt C H x t ∧ t.Ok ∧ t.s0 + t.p0 < 1000 ∧ t.s1 + t.p1 < 1000 ∧ Tabs T H ∧ ∀ (z : Addr) (H' : Hp), ExtN H H' → Tabs T H' → CrAt C H' z (besT m t).least → Q (.ref z) H'
section
variable {P : Program} {w : World} {K : PySem.W.Frag} {mg : Str → Option Value} {base : Heap} {C CE : Addr}
end
end FH

set_option Elab.async false
set_option linter.all false
set_option maxRecDepth 100000
set_option maxHeartbeats 1000000
namespace FH
open PySem L2
/-! ### what sayings tell -/
inductive Sgn where
  | and | or | xor | sub
  deriving DecidableEq
def Sgn.str : Sgn → Str
  | .and => "&" | .or => "|" | .xor => "^" | .sub => "-"
inductive Tl where
  | least (m : Bool) (n : Nat)
  | rest (m : Bool) (r p : Nat)
  | fact (t : Tb)
  | sure (m : Bool)
  | silent
  | knows (m : Bool) (u : Tl)
  | common (u : Tl)
  | no (u : Tl)
  | both (s : Sgn) (u v : Tl)
def Tl.ht : Tl → Nat
  | .knows _ u => u.ht + 1
  | .common u => u.ht + 1
  | .no u => u.ht + 1
  | .both _ u v => max u.ht v.ht + 1
  | _ => 0
/-- how much there is of it -/
def Tl.wt : Tl → Nat
  | .knows _ u => u.wt + 1
  | .common u => u.wt + 1
  | .no u => u.wt + 1
  | .both _ u v => u.wt + v.wt + 1
  | _ => 1
def numS (n : Nat) : Str := Str.ofString (toString (n : Int))
def Tl.txt : Tl → Str
  | .least m n => kindS m ++ Str.ofString " >= " ++ numS n
  | .rest m r p => kindS m ++ Str.ofString " by " ++ numS p ++ Str.ofString " leaves " ++ numS r
  | .fact t => txtT t
  | .sure m => Str.ofString "sure " ++ kindS m
  | .silent => Str.ofString "silent"
  | .knows m u => Str.ofString "knows " ++ kindS m ++ Str.ofString " (" ++ u.txt ++ Str.ofString ")"
  | .common u => Str.ofString "common (" ++ u.txt ++ Str.ofString ")"
  | .no u => Str.ofString "~(" ++ u.txt ++ Str.ofString ")"
  | .both s u v => Str.ofString "(" ++ u.txt ++ Str.ofString ") " ++ s.str ++ Str.ofString " (" ++ v.txt ++ Str.ofString ")"
/-- a table of some size -/
structure Tb.Sz (t : Tb) : Prop where
  ok : t.Ok
  a : t.s0 ≤ 100
  b : t.s1 ≤ 100
  c : t.p0 ≤ 20
  d : t.p1 ≤ 20
theorem Tb.Sz.sm {t : Tb} (h : t.Sz) : t.Sm := by
  obtain ⟨o, a, b, c, d⟩ := h
  refine ⟨by omega, by omega, by omega, by omega, by rw [o.len]; omega, fun x hx => ?_⟩
  rw [(o.row x hx).1]; omega
/-- numbers and tables are of some size -/
def Tl.Ok : Tl → Prop
  | .least _ n => n < 1000000
  | .rest _ r p => r < 1000000 ∧ p < 1000000 ∧ 0 < p ∧ r < p
  | .fact t => t.Sz
  | .sure _ => True
  | .silent => True
  | .knows _ u => u.Ok
  | .common u => u.Ok
  | .no u => u.Ok
  | .both _ u v => u.Ok ∧ v.Ok
theorem log_million {n : Nat} (h : n < 1000000) : ((n : Int)).natAbs.log2 < 1920 := by
  rw [Int.natAbs_natCast]
  by_cases e : n = 0
  · rw [e]; decide
  · exact (Nat.log2_lt e).mpr (Nat.lt_of_lt_of_le (show n < 2 ^ 20 by omega) (Nat.pow_le_pow_right (by decide) (by decide)))
theorem numS_len {n : Nat} (h : n < 1000000) : (numS n).length ≤ 21 := by
  have := PySem.int_text_length_le (a := (n : Int)) (k := 20) (by decide) (by
    rw [Int.natAbs_natCast]
    by_cases e : n = 0
    · rw [e]; decide
    · exact (Nat.log2_lt e).mpr (by omega))
  unfold numS
  rw [PySem.ofString_length]
  exact this
theorem kindS_len (m : Bool) : (kindS m).length ≤ 6 := by cases m <;> decide
theorem Sgn.len (s : Sgn) : s.str.length = 1 := by cases s <;> rfl
theorem txtT_len {t : Tb} (h : t.Sz) : (txtT t).length ≤ 15600 := by
  have h1 := h.sm.n
  have h2 := join_len (Str.ofString " ") t.rows
  have h3 : (t.rows.map (·.length)).sum ≤ t.rows.length * 120 := sum_le fun x hx => by
    rw [(h.ok.row x hx).1]
    have := h.b
    have := h.d
    omega
  have h4 : t.rows.length ≤ 120 := by
    rw [h.ok.len]
    have := h.a
    have := h.c
    omega
  unfold txtT
  rw [len_app, len_app, len_app, len_app]
  show 1 + _ + 2 + _ + 1 ≤ 15600
  have h5 : (Str.ofString " ").length = 1 := by decide
  rw [h5] at h2
  have h6 : t.rows.length * 120 ≤ 120 * 120 := Nat.mul_le_mul_right _ h4
  omega
theorem Tl.wt_pos (u : Tl) : 0 < u.wt := by cases u <;> (unfold Tl.wt; omega)
theorem Tl.len : ∀ {u : Tl}, u.Ok → u.txt.length ≤ 16000 * u.wt
  | .least m n, h => by
    have h1 := kindS_len m
    have h2 := numS_len (show n < 1000000 from h)
    unfold Tl.txt Tl.wt
    rw [len_app, len_app]
    show _ + 4 + _ ≤ 16000
    omega
  | .rest m r p, h => by
    have h1 := kindS_len m
    have h2 := numS_len (show r < 1000000 from h.1)
    have h3 := numS_len (show p < 1000000 from h.2.1)
    unfold Tl.txt Tl.wt
    rw [len_app, len_app, len_app, len_app]
    show _ + 4 + _ + 8 + _ ≤ 16000
    omega
  | .fact t, h => by
    have := txtT_len (show t.Sz from h)
    unfold Tl.txt Tl.wt
    omega
  | .sure m, h => by
    have h1 := kindS_len m
    unfold Tl.txt Tl.wt
    rw [len_app]
    show 5 + _ ≤ 16000
    omega
  | .silent, h => by
    unfold Tl.txt Tl.wt
    show 6 ≤ 16000
    decide
  | .knows m u, h => by
    have h1 := kindS_len m
    have h2 := Tl.len (u := u) h
    unfold Tl.txt Tl.wt
    rw [len_app, len_app, len_app, len_app]
    show 6 + _ + 2 + _ + 1 ≤ 16000 * (u.wt + 1)
    omega
  | .common u, h => by
    have h2 := Tl.len (u := u) h
    unfold Tl.txt Tl.wt
    rw [len_app, len_app]
    show 8 + _ + 1 ≤ 16000 * (u.wt + 1)
    omega
  | .no u, h => by
    have h2 := Tl.len (u := u) h
    unfold Tl.txt Tl.wt
    rw [len_app, len_app]
    show 2 + _ + 1 ≤ 16000 * (u.wt + 1)
    omega
  | .both s u v, h => by
    have h2 := Tl.len (u := u) h.1
    have h3 := Tl.len (u := v) h.2
    have h4 := s.len
    unfold Tl.txt Tl.wt
    rw [len_app, len_app, len_app, len_app, len_app, len_app]
    show 1 + _ + 2 + _ + 2 + _ + 1 ≤ 16000 * (u.wt + v.wt + 1)
    omega
/-! ### where it stands -/
/-- what is no list and no table of code is kept -/
def Kp (H H' : Hp) : Prop := ∀ b o, H b = some o → (∀ xs, o ≠ .lst xs) → (∀ ps, o ≠ .tbl ps) → (∀ φ, o ≠ .ext φ) → H' b = some o
theorem Kp.refl (H : Hp) : Kp H H := fun _ _ h _ _ _ => h
theorem Kp.of {H H' : Hp} (h : Same H H') : Kp H H' := fun b o e _ _ _ => h b o e
theorem Kp.trans {H H1 H2 : Hp} (x : Kp H H1) (y : Kp H1 H2) : Kp H H2 := fun b o e n1 n2 n3 => y b o (x b o e n1 n2 n3) n1 n2 n3
theorem Kp.tup {H H' : Hp} {a : Addr} {xs : List V} (x : Kp H H') (h : H a = some (.tup xs)) : H' a = some (.tup xs) := x _ _ h (fun _ z => by cases z) (fun _ z => by cases z) (fun _ z => by cases z)
theorem Kp.ins {H H' : Hp} {a C dx : Addr} {fs : List (Str × V)} (x : Kp H H') (h : H a = some (.ins C dx fs)) : H' a = some (.ins C dx fs) := x _ _ h (fun _ z => by cases z) (fun _ z => by cases z) (fun _ z => by cases z)
theorem CrAt.kp {C : Addr} {H H' : Hp} {x : Addr} {t : Tb} (e : Kp H H') (h : CrAt C H x t) : CrAt C H' x t := by
  obtain ⟨dx, ts, tp, tr, h1, h2, h3, h4⟩ := h
  exact ⟨dx, ts, tp, tr, e.ins h1, e.tup h2, e.tup h3, e.tup h4⟩
/-- what is told stands at a -/
def TlAt (C : Addr) (H : Hp) : Tl → Addr → Prop
  | .least m n, a => H a = some (.tup [.str "least", .str (kindS m), .int n])
  | .rest m r p, a => H a = some (.tup [.str "rest", .str (kindS m), .int r, .int p])
  | .fact t, a => ∃ z, H a = some (.tup [.str "fact", .ref z]) ∧ CrAt C H z t
  | .sure m, a => H a = some (.tup [.str "sure", .str (kindS m)])
  | .silent, a => H a = some (.tup [.str "silent"])
  | .knows m u, a => ∃ b, H a = some (.tup [.str "knows", .str (kindS m), .ref b]) ∧ TlAt C H u b
  | .common u, a => ∃ b, H a = some (.tup [.str "common", .ref b]) ∧ TlAt C H u b
  | .no u, a => ∃ b, H a = some (.tup [.str "not", .ref b]) ∧ TlAt C H u b
  | .both s u v, a => ∃ b c, H a = some (.tup [.str s.str, .ref b, .ref c]) ∧ TlAt C H u b ∧ TlAt C H v c
theorem TlAt.kp {C : Addr} {H H' : Hp} (e : Kp H H') : ∀ {u : Tl} {a : Addr}, TlAt C H u a → TlAt C H' u a
  | .least _ _, _, h => e.tup h
  | .rest _ _ _, _, h => e.tup h
  | .fact _, _, ⟨z, h, c⟩ => ⟨z, e.tup h, c.kp e⟩
  | .sure _, _, h => e.tup h
  | .silent, _, h => e.tup h
  | .knows _ u, _, ⟨b, h, c⟩ => ⟨b, e.tup h, TlAt.kp e (u := u) c⟩
  | .common u, _, ⟨b, h, c⟩ => ⟨b, e.tup h, TlAt.kp e (u := u) c⟩
  | .no u, _, ⟨b, h, c⟩ => ⟨b, e.tup h, TlAt.kp e (u := u) c⟩
  | .both _ u v, _, ⟨b, c, h, d, f⟩ => ⟨b, c, e.tup h, TlAt.kp e (u := u) d, TlAt.kp e (u := v) f⟩
theorem TlAt.same {C : Addr} {H H' : Hp} {u : Tl} {a : Addr} (s : Same H H') (h : TlAt C H u a) : TlAt C H' u a := h.kp (Kp.of s)
/-- the classes of sayings -/
structure Sy where
  say : Addr
  lst : Addr
  rst : Addr
  fct : Addr
  sur : Addr
  sil : Addr
  kno : Addr
  com : Addr
  non : Addr
  bth : Addr
def Sy.all (Y : Sy) : List Addr := [Y.lst, Y.rst, Y.fct, Y.sur, Y.sil, Y.kno, Y.com, Y.non, Y.bth]
theorem Sy.all9 {Y : Sy} {p : Addr → Prop} (h1 : p Y.lst) (h2 : p Y.rst) (h3 : p Y.fct) (h4 : p Y.sur) (h5 : p Y.sil) (h6 : p Y.kno) (h7 : p Y.com) (h8 : p Y.non) (h9 : p Y.bth) : ∀ D ∈ Y.all, p D := fun D hD => by
  simp only [Sy.all, List.mem_cons, List.not_mem_nil, or_false] at hD
  rcases hD with rfl | rfl | rfl | rfl | rfl | rfl | rfl | rfl | rfl <;> assumption
def Tl.cls (Y : Sy) : Tl → Addr
  | .least _ _ => Y.lst | .rest _ _ _ => Y.rst | .fact _ => Y.fct | .sure _ => Y.sur | .silent => Y.sil | .knows _ _ => Y.kno | .common _ => Y.com | .no _ => Y.non | .both _ _ _ => Y.bth
theorem Tl.cls_mem (Y : Sy) (u : Tl) : u.cls Y ∈ Y.all := by cases u <;> simp [Tl.cls, Sy.all]
/-- a saying stands at a -/
def SayAt (Y : Sy) (C : Addr) (H : Hp) : Tl → Addr → Prop
  | .least m n, a => ∃ dx t, H a = some (.ins Y.lst dx [("told", .ref t), ("kind", .str (kindS m)), ("number", .int n)]) ∧ TlAt C H (.least m n) t
  | .rest m r p, a => ∃ dx t, H a = some (.ins Y.rst dx [("told", .ref t), ("kind", .str (kindS m)), ("rest", .int r), ("period", .int p)]) ∧ TlAt C H (.rest m r p) t
  | .fact tb, a => ∃ dx t z, H a = some (.ins Y.fct dx [("told", .ref t), ("crowds", .ref z)]) ∧ TlAt C H (.fact tb) t ∧ CrAt C H z tb
  | .sure m, a => ∃ dx t, H a = some (.ins Y.sur dx [("told", .ref t), ("kind", .str (kindS m))]) ∧ TlAt C H (.sure m) t
  | .silent, a => ∃ dx t, H a = some (.ins Y.sil dx [("told", .ref t)]) ∧ TlAt C H .silent t
  | .knows m u, a => ∃ dx t b, H a = some (.ins Y.kno dx [("told", .ref t), ("kind", .str (kindS m)), ("saying", .ref b)]) ∧ TlAt C H (.knows m u) t ∧ SayAt Y C H u b
  | .common u, a => ∃ dx t b, H a = some (.ins Y.com dx [("told", .ref t), ("saying", .ref b)]) ∧ TlAt C H (.common u) t ∧ SayAt Y C H u b
  | .no u, a => ∃ dx t, H a = some (.ins Y.non dx [("told", .ref t)]) ∧ TlAt C H (.no u) t
  | .both s u v, a => ∃ dx t, H a = some (.ins Y.bth dx [("told", .ref t)]) ∧ TlAt C H (.both s u v) t
theorem SayAt.kp {Y : Sy} {C : Addr} {H H' : Hp} (e : Kp H H') : ∀ {u : Tl} {a : Addr}, SayAt Y C H u a → SayAt Y C H' u a
  | .least _ _, _, ⟨dx, t, h, c⟩ => ⟨dx, t, e.ins h, c.kp e⟩
  | .rest _ _ _, _, ⟨dx, t, h, c⟩ => ⟨dx, t, e.ins h, c.kp e⟩
  | .fact _, _, ⟨dx, t, z, h, c, d⟩ => ⟨dx, t, z, e.ins h, c.kp e, d.kp e⟩
  | .sure _, _, ⟨dx, t, h, c⟩ => ⟨dx, t, e.ins h, c.kp e⟩
  | .silent, _, ⟨dx, t, h, c⟩ => ⟨dx, t, e.ins h, c.kp e⟩
  | .knows _ u, _, ⟨dx, t, b, h, c, d⟩ => ⟨dx, t, b, e.ins h, c.kp e, SayAt.kp e (u := u) d⟩
  | .common u, _, ⟨dx, t, b, h, c, d⟩ => ⟨dx, t, b, e.ins h, c.kp e, SayAt.kp e (u := u) d⟩
  | .no _, _, ⟨dx, t, h, c⟩ => ⟨dx, t, e.ins h, c.kp e⟩
  | .both _ _ _, _, ⟨dx, t, h, c⟩ => ⟨dx, t, e.ins h, c.kp e⟩
theorem SayAt.same {Y : Sy} {C : Addr} {H H' : Hp} {u : Tl} {a : Addr} (s : Same H H') (h : SayAt Y C H u a) : SayAt Y C H' u a := h.kp (Kp.of s)
/-- its class and what it tells -/
theorem SayAt.ins {Y : Sy} {C : Addr} {H : Hp} {u : Tl} {a : Addr} (h : SayAt Y C H u a) : ∃ dx fs t, H a = some (.ins (u.cls Y) dx fs) ∧ fs.lookup (Str.ofString "told") = some (V.ref t) ∧ TlAt C H u t := by
  cases u with
  | least m n => obtain ⟨dx, t, h1, h2⟩ := h; exact ⟨dx, _, t, h1, rfl, h2⟩
  | rest m r p => obtain ⟨dx, t, h1, h2⟩ := h; exact ⟨dx, _, t, h1, rfl, h2⟩
  | fact tb => obtain ⟨dx, t, z, h1, h2, h3⟩ := h; exact ⟨dx, _, t, h1, rfl, h2⟩
  | sure m => obtain ⟨dx, t, h1, h2⟩ := h; exact ⟨dx, _, t, h1, rfl, h2⟩
  | silent => obtain ⟨dx, t, h1, h2⟩ := h; exact ⟨dx, _, t, h1, rfl, h2⟩
  | knows m u => obtain ⟨dx, t, b, h1, h2, h3⟩ := h; exact ⟨dx, _, t, h1, rfl, h2⟩
  | common u => obtain ⟨dx, t, b, h1, h2, h3⟩ := h; exact ⟨dx, _, t, h1, rfl, h2⟩
  | no u => obtain ⟨dx, t, h1, h2⟩ := h; exact ⟨dx, _, t, h1, rfl, h2⟩
  | both s u v => obtain ⟨dx, t, h1, h2⟩ := h; exact ⟨dx, _, t, h1, rfl, h2⟩
/-- what each class of sayings says; the methods stand in Saying -/
structure SyD (K : PySem.W.Frag) (S D : Addr) : Prop where
  cl : Cls K D
  nT : NoAttr K D "told"
  nK : NoAttr K D "kind"
  nN : NoAttr K D "number"
  nR : NoAttr K D "rest"
  nP : NoAttr K D "period"
  nC : NoAttr K D "crowds"
  nS : NoAttr K D "saying"
  ha : PySem.W.findIn K (.ref D) "__class__" = some (some (.builtin "object.__class__"))
  hm : PySem.W.mroIn K D (.type "object") = some true
  kS : PySem.W.kitOne K (.ref D) (.ref S) = some true
  mr : ∃ cd, PySem.W.clsIn K D = some cd ∧ cd.mro = [.ref D, .ref S, .type "object"]
structure SyC (K : PySem.W.Frag) (mg : Str → Option Value) (Y : Sy) (C : Addr) : Prop where
  d : ∀ D ∈ Y.all, SyD K Y.say D
  hn : PySem.W.specialIn K (.builtin "object.__class__") "__get__" = some (some (.builtin "getset_descriptor.__get__"))
  ht : PySem.W.takesIn K (.builtin "object.__class__") = some true
  mgS : mg "Saying" = some (.ref Y.say)
  nd : Y.all.Nodup
  nS : Y.say ∉ Y.all
  nC : C ∉ Y.say :: Y.all
section
variable {K : PySem.W.Frag} {mg : Str → Option Value} {Y : Sy} {C : Addr}
theorem SyC.of (L : SyC K mg Y C) (u : Tl) : SyD K Y.say (u.cls Y) := L.d _ (u.cls_mem Y)
theorem SyC.tyD (L : SyC K mg Y C) {D a dx : Addr} {fs : List (Str × V)} {H : Hp} (hD : D ∈ Y.all) (h : H a = some (.ins D dx fs)) : TyX K H (.ref a) (.ref D) := .base (.ins h (L.d D hD).cl (L.d D hD).ha L.hn L.ht (L.d D hD).hm)
theorem SayAt.tyx (L : SyC K mg Y C) {H : Hp} {u : Tl} {a : Addr} (h : SayAt Y C H u a) : TyX K H (.ref a) (.ref (u.cls Y)) := by
  obtain ⟨dx, fs, t, h1, _⟩ := h.ins
  exact L.tyD (u.cls_mem Y) h1
theorem SyD.sub {S D G : Addr} (h : SyD K S D) (h1 : G ≠ D) (h2 : G ≠ S) : PySem.W.subIn K (.ref D) (.ref G) = some false := by
  obtain ⟨cd, hc, hm⟩ := h.mr
  show PySem.W.mroIn K D (.ref G) = some false
  unfold PySem.W.mroIn
  rw [hc, Option.bind_some, hm]
  have e1 : (Value.ref G == Value.ref D) = false := Bool.eq_false_iff.mpr fun q => h1 (Value.ref.inj (beq_iff_eq.mp q))
  have e2 : (Value.ref G == Value.ref S) = false := Bool.eq_false_iff.mpr fun q => h2 (Value.ref.inj (beq_iff_eq.mp q))
  have e3 : (Value.ref G == Value.type "object") = false := by
    refine Bool.eq_false_iff.mpr fun q => ?_
    cases beq_iff_eq.mp q
  simp [List.contains_cons, h1, h2]
theorem SyC.ne_say (L : SyC K mg Y C) {D : Addr} (h : D ∈ Y.all) : D ≠ Y.say := fun e => L.nS (e ▸ h)
theorem SyD.self {S D : Addr} (h : SyD K S D) : PySem.W.selfFirst K D = true := by
  obtain ⟨cd, hc, hm⟩ := h.mr
  unfold PySem.W.selfFirst
  rw [hc]
  simp [hm]
/-- the left one is asked first -/
theorem SyC.nf (L : SyC K mg Y C) {D G : Addr} (hD : D ∈ Y.all) (hG : G ∈ Y.all) : PySem.W.notFirst K D (.ref G) = true := by
  unfold PySem.W.notFirst
  by_cases e : G = D
  · rw [e]; simp
  · rw [(L.d G hG).sub (Ne.symm e) (L.ne_say hD)]
    simp
end
end FH

set_option Elab.async false
set_option linter.all false
set_option maxRecDepth 100000
set_option maxHeartbeats 2000000
namespace FH
open PySem PySem.Spec PyProof.Rows L2
/-- x in q, q a list or a tuple of data -/
def rInQ (K : PySem.W.Frag) : R2 := fun x y H Q => ∃ d e ds, Dp K H x d ∧ Dp K H y e ∧ (e = .list ds ∨ e = .tuple ds) ∧ SeqAt.shaped d = true ∧ SeqAt.shaped (.list ds) = true ∧ Q (.bl (ds.any fun z => PyData.eqv z d)) H
theorem inQK {X : Cx} {K : PySem.W.Frag} (h : X.K = K) (hu : X.A.units + 65 < cLine) : OpR X (compareOp .In) (rInQ K) := by
  subst h
  intro pins s σ H x y v u Q I rx ry h
  obtain ⟨d, e, ds, hd, he, hs, sd, se, q⟩ := h
  obtain ⟨as, r1⟩ := Dp.reads I d x v hd rx
  obtain ⟨bs, r2⟩ := Dp.reads I e y u he ry
  rcases hs with rfl | rfl
  · exact SeqAt.in_list_reads r2 r1 (SeqAt.canLay_of_shaped se) (SeqAt.canLay_of_shaped sd) (room_in_shaped sd hu) ⟨.bl _, H, I, rfl, q⟩
  · exact SeqAt.in_tuple_reads r2 r1 (SeqAt.canLay_of_shaped se) (SeqAt.canLay_of_shaped sd) (room_in_shaped sd hu) ⟨.bl _, H, I, rfl, q⟩
theorem pa_starK {X : Cx} {K : PySem.W.Frag} {e : Expr} {es : List Expr} {te : TE} {t : TA} {p : Pos} (h : X.K = K) (he : PE X e te) (hr : PA X es t) (hs : starEach (.Starred e p :: es) X.env = (true, eval e X.env) :: starEach es X.env := by rfl) : PA X (.Starred e p :: es) (StX.tStar K te t) := by
  subst h
  exact StX.pa_star he hr hs
theorem units65 {k : Nat} {A : Around} (r : Room k A) : A.units + 65 < cLine := by have := r.un; omega
/-- a def that may raise, by its body, its code object being told -/
theorem okXC {P : Program} {w : World} {K : PySem.W.Frag} {mg : Str → Option Value} {base : Heap} {x qual : Str} {st : Stmt} {f : Addr} {fd : FuncData} {N ps : List Str} {k : Nat} {sp : Sp} (F : Fun K x qual st f fd) (S : FnScope N ps (defScope st)) (len : ∀ vs H Q E, sp vs H Q E → vs.length = ps.length)
    (hbody : ∀ (A : Around) (outer : List Env) (s : Shared) (H : Hp) (vs : List V) (Q : VK) (E : XK), Room k (A.deeper (envOfC qual (defScope st) s.heap.objs.size f fd.code)) → sp vs H Q E →
      ∃ t, PSs (cxOf (L2.CX P w) P w K mg base N qual (defScope st) f fd.code A outer s H E) (defBody st) t ∧ t { nx := fun _ H' => Q .non H', rt := Q } (start N vs) H) : FnOk P w K mg base (L2.CX P w) (k + 1) f fd ps sp := by
  obtain ⟨oc, od, kV, doc, pm, an, cdv, ct, osl, rfl, lk, hcd⟩ := F.ex
  exact fn_of lk hcd S len fun A outer s H vs Q E hr hsp => hbody A outer s H vs Q E hr hsp
end FH
namespace L2
open PySem PySem.Spec PyProof.Rows
theorem PS.nox {X : Cx} {st : Stmt} {t : TS} (h : PS X.nox st t) : PS X st t := ⟨fun pins s σ H D I hw => wpAny_mono (h.run pins s σ H D (I.wish _) hw) (fun _ _ q => q.unwish) fun _ _ z => False.elim z⟩
end L2

set_option Elab.async false
set_option linter.all false
set_option maxRecDepth 100000
set_option maxHeartbeats 2000000
namespace SupX
open PySem PySem.Spec PyProof.Rows L2 LamX NdefX ClX
section
variable {CX CX' : CXT} {P : Program} {w : World} {K : PySem.W.Frag} {mg : Str → Option Value} {base : Heap} {N ps : List Str} {x qual : Str} {st : Stmt} {D f g cc cda : Addr} {fd : FuncData} {k n a b c' d e' f' : Nat} {sp : Sp}
/-- super().__init__(e, ..) in the body that okS asks for -/
theorem psa_supT {A : Around} {outer : List Env} {s : Shared} {H : Hp} {E E' : XK} {ar : Arg} {e : Expr} {es : List Expr} {ta : TA} {rest : List Stmt} {u : TS} {p0 p1 pos : Pos} (ST : SupT P K st x qual D f cc cda fd) (S : SupC P K D g)
    (F : FnR P w K mg base CX' k g sp) (hr : Room k (A.deeper (envF (nfS st x qual cc cda) f s.heap.objs.size)))
    (hx : Passes CX' (ncx CX P w K mg base N (nfS st x qual cc cda) f A outer s H E) E') (ha : PA (ncx CX P w K mg base N (nfS st x qual cc cda) f A outer s H E) (e :: es) ta)
    (hp : ((defArgs st).posonlyargs ++ (defArgs st).args).head? = some ar) (hN : N[0]? = some ar.arg)
    (hks : (defScope st).names.lookup ("super" : Str) = some .globalImplicit) (hkc : (defScope st).names.lookup ("__class__" : Str) = some .free) (hka : (defScope st).names.lookup ar.arg = some .local) (hk : (defScope st).kind = .function)
    (r : PSa (ncx CX P w K mg base N (nfS st x qual cc cda) f A outer s H E) (.func (defBody st) (envF (nfS st x qual cc cda) f s.heap.objs.size)) rest u)
    (hst : starEach (e :: es) (envF (nfS st x qual cc cda) f s.heap.objs.size) = (false, eval e (envF (nfS st x qual cc cda) f s.heap.objs.size)) :: starEach es (envF (nfS st x qual cc cda) f s.heap.objs.size) := by rfl)
    (hpl : (backTo ⟨n, d, e', f'⟩ (starEach es (envF (nfS st x qual cc cda) f s.heap.objs.size))).any (·.1) = false := by rfl)
    (hform : methodCallForm ((e :: es).length + 0) (backTo ⟨n, d, e', f'⟩ (starEach (e :: es) (envF (nfS st x qual cc cda) f s.heap.objs.size))) [] = true := by rfl) :
    PSa (ncx CX P w K mg base N (nfS st x qual cc cda) f A outer s H E) (.func (defBody st) (envF (nfS st x qual cc cda) f s.heap.objs.size))
      (.Expr (.Call (.Attribute (.Call (.Name "super" p0) [] [] p1) "__init__" ⟨a, b, n, c'⟩) (e :: es) [] ⟨n, d, e', f'⟩) pos :: rest) (tSup D sp E' ta u) := by
  obtain ⟨kV, doc, pm, an, ct, hfd⟩ := ST.words
  obtain ⟨oc, od, osl, hf⟩ := ST.fn
  obtain ⟨ccl, cdd, vs, ccs, file, tf, h1, h2, h3⟩ := ST.code
  obtain ⟨cl, cld, csl, h4⟩ := ST.cell
  subst hfd
  exact psa_sup (X := ncx CX P w K mg base N (nfS st x qual cc cda) f A outer s H E) (scope := defScope st) rfl hN hf hp h1 h2 h3 h4 S F hr hx ha hks hkc hka hk r hst hpl hform
end
end SupX

set_option Elab.async false
set_option linter.all false
set_option maxRecDepth 100000
set_option maxHeartbeats 1000000
namespace FH
open PySem L2
local macro_rules | `(tactic| walk_at "seq") => `(tactic| first | assumption | exact SqL.of (by assumption) | exact SqT.of (by assumption) | exact SqL.of upd_same | exact SqT.of upd_same)
local macro_rules | `(tactic| walk_at "at") => `(tactic| first | exact atI_nat (j := 0) rfl | exact atI_nat (j := 1) rfl | exact atI_nat (j := 2) rfl | exact atI_nat (by assumption) | assumption)
local macro_rules | `(tactic| walk_at "ar") => `(tactic| first | omega | exact ⟨by omega, by omega⟩ | exact Or.inl ⟨by omega, by omega⟩ | exact Or.inr ⟨by omega, by omega⟩ | exact ⟨by decide, by decide⟩ | exact Or.inr ⟨by decide, by decide⟩ | exact Or.inl ⟨by decide, by decide⟩ | exact ⟨by decide, by decide, by omega⟩ | exact ⟨by decide, by decide, by decide⟩)
local macro_rules | `(tactic| walk_at "r") => `(tactic| repeat (first
  | refine ⟨_, rfl, ?_⟩
  | refine ⟨_, _, rfl, rfl, ?_⟩
  | refine ⟨_, _, _, _, rfl, rfl, by walk_at "seq", by walk_at "at", ?_⟩
  | refine ⟨_, _, _, _, rfl, rfl, by assumption, rfl, ?_⟩
  | refine ⟨_, _, rfl, Or.inl (by walk_at "seq"), ?_⟩
  | refine Or.inl ⟨_, rfl, ?_⟩
  | refine Or.inr ⟨_, rfl, ?_⟩
  | refine And.intro (by walk_at "ar") ?_))
open SupX
/-! ### kinds -/
def isKindD : PyData → Bool
  | .str x => decide (x = Str.ofString "marked") || decide (x = Str.ofString "plain")
  | _ => false
theorem isKind_iff {e : PyData} (h : isKindD e = true) : ∃ m, e = .str (kindS m) := by
  cases e <;> first | (cases h; done) | skip
  rename_i x
  rcases Bool.or_eq_true_iff.mp h with h | h
  · exact ⟨true, by rw [of_decide_eq_true h]; rfl⟩
  · exact ⟨false, by rw [of_decide_eq_true h]; rfl⟩
theorem isKind_kind (m : Bool) : isKindD (.str (kindS m)) = true := by cases m <;> decide
theorem kind_in (x : Str) : inV (.str x) [.str (Str.ofString "marked"), .str (Str.ofString "plain")] = isKindD (.str x) := by
  have e : ∀ y : Str, eqV (.str y) (.str x) = decide (x = y) := fun y => by
    by_cases h : x = y
    · subst h; simp [eqV]
    · have h2 : ¬ y = x := fun z => h z.symm
      simp [eqV, h, h2]
  show (eqV (.str (Str.ofString "marked")) (.str x) || (eqV (.str (Str.ofString "plain")) (.str x) || false)) = _
  rw [e, e, Bool.or_false]
  rfl
theorem isNum_nat {e : PyData} (h : isNumD e = true) : ∃ n : Nat, e = .int n := by
  cases e <;> first | (cases h; done) | skip
  rename_i i
  exact ⟨i.toNat, by rw [Int.toNat_of_nonneg (of_decide_eq_true h)]⟩
theorem isPos_nat {e : PyData} (h : isPosD e = true) : ∃ n : Nat, e = .int n := by
  cases e <;> first | (cases h; done) | skip
  rename_i i
  exact ⟨i.toNat, by rw [Int.toNat_of_nonneg (Int.le_of_lt (of_decide_eq_true h))]⟩
/-! ### promises -/
/-- a refusal by a word: all but x is kept -/
def Ref1 (CE : Addr) (word : Str) (H : Hp) (E : XK) : Prop := ∀ (d : Addr) (H' : Hp), Same H H' → H d = none → H' d = some (.xd [(("word" : Str), .str word)]) → E (.ref CE) (some d) H'
def spNeedK (CE : Addr) : Sp := fun vs H Q E => ∃ (v : V) (e : PyData), vs = [v] ∧ Dv H v e ∧ (isKindD e = true → Q .non H) ∧ (isKindD e = false → Ref1 CE "kind" H E)
def spToldB (K : PySem.W.Frag) (Y : Sy) (C CE : Addr) : Sp := fun vs H Q E => ∃ v, vs = [v] ∧
  ((∃ (a : Addr) (u : Tl), v = .ref a ∧ SayAt Y C H u a ∧ ∀ t, TlAt C H u t → Q (.ref t) H) ∨ ∃ t, TyX K H v t ∧ PySem.W.kitOne K t (.ref Y.say) = some false ∧ Ref1 CE "saying" H E)
def spSIni (K : PySem.W.Frag) : Sp := fun vs H Q _ => ∃ (x dx D : Addr) (v : V), vs = [.ref x, v] ∧ H x = some (.ins D dx []) ∧ Cls K D ∧ NoAttr K D "told" ∧ Q .non (upd H x (.ins D dx [("told", v)]))
/-- behind a maker at x -/
def Made1 (Y : Sy) (C x : Addr) (u : Tl) (H : Hp) (Q : VK) : Prop := ∀ H', Xo x H H' → SayAt Y C H' u x → Q .non H'
def spYl (Y : Sy) (C CE : Addr) : Sp := fun vs H Q E => ∃ (x dx : Addr) (kv nv : V) (ek en : PyData), vs = [.ref x, kv, nv] ∧ H x = some (.ins Y.lst dx []) ∧ Dv H kv ek ∧ Dv H nv en ∧
  (isKindD ek = false → Ref1 CE "kind" H E) ∧ (isKindD ek = true → isNumD en = false → Ref1 CE "number" H E) ∧ (∀ (m : Bool) (n : Nat), ek = .str (kindS m) → en = .int n → Made1 Y C x (.least m n) H Q)
def restR (er ep : PyData) : Option Str := if isPosD ep = true then (if isNumD er = true ∧ intD er < intD ep then none else some "rest") else some "period"
def spRst (Y : Sy) (C CE : Addr) : Sp := fun vs H Q E => ∃ (x dx : Addr) (kv rv pv : V) (ek er ep : PyData), vs = [.ref x, kv, rv, pv] ∧ H x = some (.ins Y.rst dx []) ∧ Dv H kv ek ∧ Dv H rv er ∧ Dv H pv ep ∧
  (isKindD ek = false → Ref1 CE "kind" H E) ∧ (isKindD ek = true → ∀ word, restR er ep = some word → Ref1 CE word H E) ∧ (∀ (m : Bool) (r p : Nat), ek = .str (kindS m) → er = .int r → ep = .int p → r < p → Made1 Y C x (.rest m r p) H Q)
def spFct (K : PySem.W.Frag) (Y : Sy) (C CE : Addr) : Sp := fun vs H Q E => ∃ (x dx : Addr) (v : V), vs = [.ref x, v] ∧ H x = some (.ins Y.fct dx []) ∧
  ((∃ (z : Addr) (t : Tb), v = .ref z ∧ CrAt C H z t ∧ Made1 Y C x (.fact t) H Q) ∨ ∃ t, TyX K H v t ∧ PySem.W.kitOne K t (.ref C) = some false ∧ Ref1 CE "crowds" H E)
def spSur (Y : Sy) (C CE : Addr) : Sp := fun vs H Q E => ∃ (x dx : Addr) (kv : V) (ek : PyData), vs = [.ref x, kv] ∧ H x = some (.ins Y.sur dx []) ∧ Dv H kv ek ∧
  (isKindD ek = false → Ref1 CE "kind" H E) ∧ (∀ m : Bool, ek = .str (kindS m) → Made1 Y C x (.sure m) H Q)
def spSil (Y : Sy) (C : Addr) : Sp := fun vs H Q _ => ∃ (x dx : Addr), vs = [.ref x] ∧ H x = some (.ins Y.sil dx []) ∧ Made1 Y C x .silent H Q
def spKno (K : PySem.W.Frag) (Y : Sy) (C CE : Addr) : Sp := fun vs H Q E => ∃ (x dx : Addr) (kv v : V) (ek : PyData), vs = [.ref x, kv, v] ∧ H x = some (.ins Y.kno dx []) ∧ Dv H kv ek ∧
  (isKindD ek = false → Ref1 CE "kind" H E) ∧
  (∀ m : Bool, ek = .str (kindS m) → (∃ (a : Addr) (u : Tl), v = .ref a ∧ SayAt Y C H u a ∧ Made1 Y C x (.knows m u) H Q) ∨ ∃ t, TyX K H v t ∧ PySem.W.kitOne K t (.ref Y.say) = some false ∧ Ref1 CE "saying" H E)
def spCom (K : PySem.W.Frag) (Y : Sy) (C CE : Addr) : Sp := fun vs H Q E => ∃ (x dx : Addr) (v : V), vs = [.ref x, v] ∧ H x = some (.ins Y.com dx []) ∧
  ((∃ (a : Addr) (u : Tl), v = .ref a ∧ SayAt Y C H u a ∧ Made1 Y C x (.common u) H Q) ∨ ∃ t, TyX K H v t ∧ PySem.W.kitOne K t (.ref Y.say) = some false ∧ Ref1 CE "saying" H E)
def spNon (Y : Sy) (C : Addr) : Sp := fun vs H Q _ => ∃ (x dx a : Addr) (u : Tl), vs = [.ref x, .ref a] ∧ H x = some (.ins Y.non dx []) ∧ SayAt Y C H u a ∧ Made1 Y C x (.no u) H Q
def spBth (Y : Sy) (C : Addr) : Sp := fun vs H Q _ => ∃ (x dx a b : Addr) (s : Sgn) (u v : Tl), vs = [.ref x, .str s.str, .ref a, .ref b] ∧ H x = some (.ins Y.bth dx []) ∧ SayAt Y C H u a ∧ SayAt Y C H v b ∧ Made1 Y C x (.both s u v) H Q
theorem Ref1.after {CE : Addr} {word : Str} {H H1 : Hp} {E : XK} (h : Ref1 CE word H E) (s : Same H H1) : Ref1 CE word H1 E := fun d H' s' n e => h d H' (s.trans s') (s.free n) e
theorem Ref1.now {CE : Addr} {word : Str} {H : Hp} {E : XK} (h : Ref1 CE word H E) : ∀ d, H d = none → E (.ref CE) (some d) (upd H d (.xd [(("word" : Str), .str word)])) := fun d n => h d _ (same_new n) n upd_same
/-- what stood at another place than x -/
theorem fresh_ne {H : Hp} {x t : Addr} {o : HO} (h : H x = some o) (n : H t = none) : t ≠ x := fun e => by rw [e, h] at n; cases n
theorem Xo.tup {x dx D a : Addr} {H H' : Hp} {xs : List V} (e : Xo x H H') (hx : H x = some (.ins D dx [])) (h : H a = some (.tup xs)) : H' a = some (.tup xs) := e _ _ (fun z => by rw [z, hx] at h; cases h) h
theorem Xo.ins {x dx D a C dy : Addr} {H H' : Hp} {f : Str × V} {fs : List (Str × V)} (e : Xo x H H') (hx : H x = some (.ins D dx [])) (h : H a = some (.ins C dy (f :: fs))) : H' a = some (.ins C dy (f :: fs)) := e _ _ (fun z => by rw [z, hx] at h; cases h) h
theorem CrAt.xo {x dx D C z : Addr} {H H' : Hp} {t : Tb} (e : Xo x H H') (hx : H x = some (.ins D dx [])) (h : CrAt C H z t) : CrAt C H' z t := by
  obtain ⟨d1, ts, tq, tr, h1, h2, h3, h4⟩ := h
  exact ⟨d1, ts, tq, tr, e.ins hx h1, e.tup hx h2, e.tup hx h3, e.tup hx h4⟩
theorem TlAt.xo {x dx D C : Addr} {H H' : Hp} (e : Xo x H H') (hx : H x = some (.ins D dx [])) : ∀ {u : Tl} {a : Addr}, TlAt C H u a → TlAt C H' u a := by
  intro u
  induction u with
  | least m n => exact fun h => e.tup hx h
  | rest m r p => exact fun h => e.tup hx h
  | fact t => exact fun ⟨z, h, c⟩ => ⟨z, e.tup hx h, c.xo e hx⟩
  | sure m => exact fun h => e.tup hx h
  | silent => exact fun h => e.tup hx h
  | knows m u ih => exact fun ⟨b, h, c⟩ => ⟨b, e.tup hx h, ih c⟩
  | common u ih => exact fun ⟨b, h, c⟩ => ⟨b, e.tup hx h, ih c⟩
  | no u ih => exact fun ⟨b, h, c⟩ => ⟨b, e.tup hx h, ih c⟩
  | both s u v ih1 ih2 => exact fun ⟨b, c, h, d, f⟩ => ⟨b, c, e.tup hx h, ih1 d, ih2 f⟩
theorem SayAt.xo {Y : Sy} {x dx D C : Addr} {H H' : Hp} (e : Xo x H H') (hx : H x = some (.ins D dx [])) : ∀ {u : Tl} {a : Addr}, SayAt Y C H u a → SayAt Y C H' u a := by
  intro u
  induction u with
  | least m n => exact fun ⟨d, t, h, c⟩ => ⟨d, t, e.ins hx h, c.xo e hx⟩
  | rest m r p => exact fun ⟨d, t, h, c⟩ => ⟨d, t, e.ins hx h, c.xo e hx⟩
  | fact t => exact fun ⟨d, t, z, h, c, q⟩ => ⟨d, t, z, e.ins hx h, c.xo e hx, q.xo e hx⟩
  | sure m => exact fun ⟨d, t, h, c⟩ => ⟨d, t, e.ins hx h, c.xo e hx⟩
  | silent => exact fun ⟨d, t, h, c⟩ => ⟨d, t, e.ins hx h, c.xo e hx⟩
  | knows m u ih => exact fun ⟨d, t, b, h, c, q⟩ => ⟨d, t, b, e.ins hx h, c.xo e hx, ih q⟩
  | common u ih => exact fun ⟨d, t, b, h, c, q⟩ => ⟨d, t, b, e.ins hx h, c.xo e hx, ih q⟩
  | no u ih => exact fun ⟨d, t, h, c⟩ => ⟨d, t, e.ins hx h, c.xo e hx⟩
  | both s u v ih1 ih2 => exact fun ⟨d, t, h, c⟩ => ⟨d, t, e.ins hx h, c.xo e hx⟩
section
variable {P : Program} {w : World} {K : PySem.W.Frag} {mg : Str → Option Value} {base : Heap} {C CE fE : Addr} {Y : Sy}
theorem sc_is_kind : FnScope ["value"] ["value"] (defScope (topS 14)) := ⟨rfl, rfl, rfl, by decide +kernel, rfl, by decide +kernel, by decide +kernel⟩
theorem ok_isKind {f aK : Addr} {fd : FuncData} {k : Nat} (F : Fun K "is_kind" "is_kind" (topS 14) f fd) (T : Bt mg) (gKS : mg "KINDS" = some (.ref aK)) (hKS : ∀ H : Hp, SqT K H aK [.str (Str.ofString "marked"), .str (Str.ofString "plain")]) : FnOk P w K mg base CX0 (k + 1) f fd ["value"] (spInt isKindD) := by
  refine F.ok sc_is_kind (fun vs H Q E h => ?_) (fun cdv A outer s H vs Q E hr h => ?_)
  · obtain ⟨v, e, rfl, _⟩ := h
    rfl
  · obtain ⟨v, e, rfl, hv, q⟩ := h
    refine ⟨_, (pss_one (ps_ret (pe_and (pe_callB (isiK (K := K) rfl) (by rfl) T.m_isinstance (by decide +kernel) (pa_cons (pv 0) (pa_cons (pe_bltn (v := .ty "str") (by rfl) T.m_str (by decide +kernel) rfl) pa_nil))) (pe_one (pe_cmpR (inK (K := K) rfl) (pv 0) (pe_glob (v := .ref aK) (by rfl) gKS rfl) (by rfl)))))), ?_⟩
    refine ⟨_, rfl, _, _, _, _, _, rfl, .ty _, hv.tyx, kitS hv, _, rfl, ?_⟩
    cases hv with
    | str x _ _ =>
      refine iteT ⟨_, rfl, aK, _, rfl, .inr (hKS H), rfl, rfl, ?_⟩
      rw [← kind_in] at q
      exact q
    | _ => exact iteF q
theorem sc_need_kind : FnScope ["kind"] ["kind"] (defScope (topS 53)) := ⟨rfl, rfl, rfl, by decide +kernel, rfl, by decide +kernel, by decide +kernel⟩
theorem ok_needK {f fI aK : Addr} {fd fdI : FuncData} {k : Nat} (F : Fun K "need_kind" "need_kind" (topS 53) f fd) (T : Bt mg) (XE : PySem.ErrX.ErrTxt P K mg "InvalidSaying" CE fE) (FI : Fun K "is_kind" "is_kind" (topS 14) fI fdI) (bI : Binds K fdI ["value"] []) (gI : mg "is_kind" = some (.ref fI))
    (gKS : mg "KINDS" = some (.ref aK)) (hKS : ∀ H : Hp, SqT K H aK [.str (Str.ofString "marked"), .str (Str.ofString "plain")]) : FnOk P w K mg base (L2.CX P w) (k + 2) f fd ["kind"] (spNeedK CE) := by
  have GI : FnOk P w K mg base CX0 (k + 1) fI fdI ["value"] (spInt isKindD) := ok_isKind FI T gKS hKS
  refine F.okX sc_need_kind (fun vs H Q E h => ?_) (fun cdv A outer s H vs Q E hr h => ?_)
  · obtain ⟨v, e, rfl, _⟩ := h
    rfl
  · obtain ⟨v, e, rfl, hv, yes, no⟩ := h
    refine ⟨_, (pss_one (ps_if (PT.nox (pt_not (pt_val (pe_call GI hr (by rfl) gI FI.kp bI .nil pass0 (pa_cons (pv 0) pa_nil))))) (pss_one (ps_raiseErr rfl XE hr (takes_of rfl rfl rfl rfl) (pa_cons pe_str pa_nil) (by rfl))) pss_nil)), ?_⟩
    refine ⟨_, rfl, v, e, rfl, hv, _, rfl, ?_⟩
    cases he : isKindD e with
    | true => exact iteF (yes he)
    | false => exact iteT ⟨_, rfl, (no he).now⟩
theorem sc_told_by : FnScope ["saying"] ["saying"] (defScope (topS 52)) := ⟨rfl, rfl, rfl, by decide +kernel, rfl, by decide +kernel, by decide +kernel⟩
theorem ok_toldB {f : Addr} {fd : FuncData} {k : Nat} (F : Fun K "told_by" "told_by" (topS 52) f fd) (T : Bt mg) (L : SyC K mg Y C) (XE : PySem.ErrX.ErrTxt P K mg "InvalidSaying" CE fE) : FnOk P w K mg base (L2.CX P w) (k + 1) f fd ["saying"] (spToldB K Y C CE) := by
  refine F.okX sc_told_by (fun vs H Q E h => ?_) (fun cdv A outer s H vs Q E hr h => ?_)
  · obtain ⟨v, rfl, _⟩ := h
    rfl
  · obtain ⟨v, rfl, h⟩ := h
    refine ⟨_, (pss_cons (ps_if (PT.nox (pt_not (pt_val (pe_callB (isiK (K := K) rfl) (by rfl) T.m_isinstance (by decide +kernel) (pa_cons (pv 0) (pa_cons (pe_glob (v := .ref Y.say) (by rfl) L.mgS rfl) pa_nil)))))) (pss_one (ps_raiseErr rfl XE hr (takes_of rfl rfl rfl rfl) (pa_cons pe_str pa_nil) (by rfl))) pss_nil)
  (pss_one (ps_ret (PE.nox (fldK (K := K) rfl (pv 0)))))), ?_⟩
    rcases h with ⟨a, u, rfl, hs, q⟩ | ⟨t, ty, kt, no⟩
    · have D := L.of u
      refine ⟨_, rfl, _, _, _, _, _, rfl, .own _, hs.tyx L, D.kS, _, rfl, iteF ?_⟩
      obtain ⟨dx, fs, t, h1, h2, h3⟩ := hs.ins
      exact ⟨_, rfl, a, _, dx, fs, .ref t, rfl, h1, D.cl, D.nT, h2, q t h3⟩
    · exact ⟨_, rfl, _, _, _, _, _, rfl, .own _, ty, kt, _, rfl, iteT ⟨_, rfl, no.now⟩⟩
theorem sc_Saying___init__ : FnScope ["self", "told"] ["self", "told"] (defScope (inClass (topS 55) 0)) := ⟨rfl, rfl, rfl, by decide +kernel, rfl, by decide +kernel, by decide +kernel⟩
theorem ok_sini {f : Addr} {fd : FuncData} {k : Nat} (F : Fun K "__init__" "Saying.__init__" (inClass (topS 55) 0) f fd) : FnOk P w K mg base CX0 (k + 1) f fd ["self", "told"] (spSIni K) := by
  refine F.ok sc_Saying___init__ (fun vs H Q E h => ?_) (fun cdv A outer s H vs Q E hr h => ?_)
  · obtain ⟨x, dx, D, v, rfl, _⟩ := h
    rfl
  · obtain ⟨x, dx, D, v, rfl, hx, cl, na, q⟩ := h
    refine ⟨_, (pss_one (ps_fld (pv 0) (pv 1) rfl)), ?_⟩
    exact ⟨_, rfl, _, rfl, x, D, dx, _, rfl, hx, cl, na, by show 0 < 1000; decide, q⟩
theorem sc_AtLeast___init__ : NdefX.NScope ["self", "kind", "number", "__class__"] ["self", "kind", "number"] ["__class__"] (defScope (inClass (topS 58) 0)) := NdefX.nscope_by (by decide +kernel)
theorem ok_lst {f fK fN fS : Addr} {fd fdK fdN : FuncData} {k : Nat} (F : FunS P K "__init__" "AtLeast.__init__" (inClass (topS 58) 0) Y.lst f fd) (T : Bt mg) (L : SyC K mg Y C) (XE : PySem.ErrX.ErrTxt P K mg "InvalidSaying" CE fE) (SC : SupC P K Y.lst fS) (GS : FnR P w K mg base CX0 (k + 2) fS (spSIni K))
    (FK : Fun K "need_kind" "need_kind" (topS 53) fK fdK) (bK : Binds K fdK ["kind"] []) (gK : mg "need_kind" = some (.ref fK)) (GK : FnOk P w K mg base (L2.CX P w) (k + 2) fK fdK ["kind"] (spNeedK CE))
    (FN : Fun K "is_number" "is_number" (topS 13) fN fdN) (bN : Binds K fdN ["value"] []) (gN : mg "is_number" = some (.ref fN)) (GN : FnOk P w K mg base CX0 (k + 2) fN fdN ["value"] (spInt isNumD)) :
    FnOk P w K mg base (L2.CX P w) (k + 3) f fd ["self", "kind", "number"] (spYl Y C CE) := by
  refine SupX.okS F sc_AtLeast___init__ (fun vs H Q E h => ?_) (fun cc cda A outer s H vs Q E ST hr h => ?_)
  · obtain ⟨x, dx, kv, nv, ek, en, rfl, _⟩ := h
    rfl
  · obtain ⟨x, dx, kv, nv, ek, en, rfl, hx, hk, hn, no1, no2, yes⟩ := h
    have D := L.of (.least true 0)
    refine ⟨_, (SupX.psa_cons (ps_expr (pe_call GK hr (by rfl) gK FK.kp bK .nil (passes_call (takes_of rfl rfl rfl rfl) (W := fun cls d _ H => E cls d H) (fun _ _ _ _ h => h)) (pa_cons (pv 1) pa_nil)))
  (SupX.psa_cons (ps_if (PT.nox (pt_not (pt_val (pe_call GN hr (by rfl) gN FN.kp bN .nil pass0 (pa_cons (pv 2) pa_nil))))) (pss_one (ps_raiseErr rfl XE hr (takes_of rfl rfl rfl rfl) (pa_cons pe_str pa_nil) (by rfl))) pss_nil)
  (SupX.psa_supT ST SC GS hr pass0 (pa_cons (pe_tup (pa_cons pe_str (pa_cons (pv 1) (pa_cons (pv 2) pa_nil)))) pa_nil) rfl rfl rfl rfl rfl rfl
  (SupX.psa_cons (ps_fld (pv 0) (PE.nox (pv 1)) rfl)
  (SupX.psa_cons (ps_fld (pv 0) (PE.nox (pv 2)) rfl)
  (SupX.psa_of pss_nil)))))), ?_⟩
    refine ⟨_, rfl, kv, ek, rfl, hk, fun hK => ?_, no1⟩
    obtain ⟨m, rfl⟩ := isKind_iff hK
    refine ⟨_, rfl, nv, en, rfl, hn, _, rfl, ?_⟩
    cases hN : isNumD en with
    | false => exact iteT ⟨_, rfl, (no2 hK hN).now⟩
    | true =>
      obtain ⟨n, rfl⟩ := isNum_nat hN
      cases hk
      cases hn
      refine iteF ⟨x, dx, _, rfl, hx, ?_⟩
      refine ⟨_, rfl, _, rfl, by show 3 ≤ sizeLine; decide, fun t nt => ?_⟩
      have htx := fresh_ne hx nt
      have sm := same_new (o := .tup [.str (Str.ofString "least"), .str (kindS m), .int n]) nt
      refine ⟨x, dx, _, _, rfl, sm _ _ hx, D.cl, D.nT, ?_⟩
      refine ⟨_, rfl, _, rfl, x, _, dx, _, rfl, upd_same, D.cl, D.nK, by show 1 < 1000; decide, ?_⟩
      refine ⟨_, rfl, _, rfl, x, _, dx, _, rfl, upd_same, D.cl, D.nN, by show 2 < 1000; decide, ?_⟩
      rw [upd_upd, upd_upd]
      exact yes m n rfl rfl _ ((Xo.of sm).trans Xo.put) ⟨dx, t, upd_same, by show upd _ _ _ _ = _; rw [upd_ne htx, upd_same]⟩
theorem tup_new {H : Hp} {x D dx t : Addr} {fs : List (Str × V)} {o : HO} {xs : List V} (hx : H x = some (.ins D dx fs)) (nt : H t = none) : upd (upd H t (.tup xs)) x o t = some (.tup xs) := by
  rw [upd_ne (fresh_ne hx nt), upd_same]
theorem sm_fld {H : Hp} {x D dx t : Addr} {xs : List V} (hx : H x = some (.ins D dx [])) (nt : H t = none) : upd H t (.tup xs) x = some (.ins D dx []) := same_new nt _ _ hx
theorem xo_two {H : Hp} {x t : Addr} {xs : List V} {o : HO} (nt : H t = none) : Xo x H (upd (upd H t (.tup xs)) x o) := (Xo.of (same_new nt)).trans Xo.put
theorem sc_Sure___init__ : NdefX.NScope ["self", "kind", "__class__"] ["self", "kind"] ["__class__"] (defScope (inClass (topS 61) 0)) := NdefX.nscope_by (by decide +kernel)
theorem ok_sur {f fS fK : Addr} {fd fdK : FuncData} {k : Nat} (F : FunS P K "__init__" "Sure.__init__" (inClass (topS 61) 0) Y.sur f fd) (T : Bt mg) (L : SyC K mg Y C) (XE : PySem.ErrX.ErrTxt P K mg "InvalidSaying" CE fE) (SC : SupC P K Y.sur fS) (GS : FnR P w K mg base CX0 (k + 2) fS (spSIni K))
    (FK : Fun K "need_kind" "need_kind" (topS 53) fK fdK) (bK : Binds K fdK ["kind"] []) (gK : mg "need_kind" = some (.ref fK)) (GK : FnOk P w K mg base (L2.CX P w) (k + 2) fK fdK ["kind"] (spNeedK CE)) :
    FnOk P w K mg base (L2.CX P w) (k + 3) f fd ["self", "kind"] (spSur Y C CE) := by
  refine SupX.okS F sc_Sure___init__ (fun vs H Q E h => ?_) (fun cc cda A outer s H vs Q E ST hr h => ?_)
  · obtain ⟨x, dx, kv, ek, rfl, _⟩ := h
    rfl
  · obtain ⟨x, dx, kv, ek, rfl, hx, hk, no1, yes⟩ := h
    have D := L.of (.sure true)
    refine ⟨_, (SupX.psa_cons (ps_expr (pe_call GK hr (by rfl) gK FK.kp bK .nil (passes_call (takes_of rfl rfl rfl rfl) (W := fun cls d _ H => E cls d H) (fun _ _ _ _ h => h)) (pa_cons (pv 1) pa_nil)))
  (SupX.psa_supT ST SC GS hr pass0 (pa_cons (pe_tup (pa_cons pe_str (pa_cons (pv 1) pa_nil))) pa_nil) rfl rfl rfl rfl rfl rfl
  (SupX.psa_cons (ps_fld (pv 0) (PE.nox (pv 1)) rfl)
  (SupX.psa_of pss_nil)))), ?_⟩
    refine ⟨_, rfl, kv, ek, rfl, hk, fun hK => ?_, no1⟩
    obtain ⟨m, rfl⟩ := isKind_iff hK
    cases hk
    refine ⟨x, dx, _, rfl, hx, _, rfl, by show 2 ≤ sizeLine; decide, fun t nt => ?_⟩
    refine ⟨x, dx, _, _, rfl, sm_fld hx nt, D.cl, D.nT, ?_⟩
    refine ⟨_, rfl, _, rfl, x, _, dx, _, rfl, upd_same, D.cl, D.nK, by show 1 < 1000; decide, ?_⟩
    rw [upd_upd]
    exact yes m rfl _ (xo_two nt) ⟨dx, t, upd_same, tup_new hx nt⟩
theorem sc_Silent___init__ : NdefX.NScope ["self", "__class__"] ["self"] ["__class__"] (defScope (inClass (topS 62) 0)) := NdefX.nscope_by (by decide +kernel)
theorem ok_sil {f fS : Addr} {fd : FuncData} {k : Nat} (F : FunS P K "__init__" "Silent.__init__" (inClass (topS 62) 0) Y.sil f fd) (T : Bt mg) (L : SyC K mg Y C) (SC : SupC P K Y.sil fS) (GS : FnR P w K mg base CX0 (k + 2) fS (spSIni K))
     :
    FnOk P w K mg base CX0 (k + 3) f fd ["self"] (spSil Y C) := by
  refine SupX.okS F sc_Silent___init__ (fun vs H Q E h => ?_) (fun cc cda A outer s H vs Q E ST hr h => ?_)
  · obtain ⟨x, dx, rfl, _⟩ := h
    rfl
  · obtain ⟨x, dx, rfl, hx, yes⟩ := h
    have D := L.of .silent
    refine ⟨_, (SupX.psa_supT ST SC GS hr pass0 (pa_cons (pe_tup (pa_cons pe_str pa_nil)) pa_nil) rfl rfl rfl rfl rfl rfl
  (SupX.psa_of pss_nil)), ?_⟩
    refine ⟨x, dx, _, rfl, hx, by show 1 ≤ sizeLine; decide, fun t nt => ?_⟩
    refine ⟨x, dx, _, _, rfl, sm_fld hx nt, D.cl, D.nT, ?_⟩
    exact yes _ (xo_two nt) ⟨dx, t, upd_same, tup_new hx nt⟩
theorem sc_Contrary___init__ : NdefX.NScope ["self", "saying", "__class__"] ["self", "saying"] ["__class__"] (defScope (inClass (topS 57) 0)) := NdefX.nscope_by (by decide +kernel)
theorem ok_non {f fS : Addr} {fd : FuncData} {k : Nat} (F : FunS P K "__init__" "Contrary.__init__" (inClass (topS 57) 0) Y.non f fd) (T : Bt mg) (L : SyC K mg Y C) (SC : SupC P K Y.non fS) (GS : FnR P w K mg base CX0 (k + 2) fS (spSIni K))
     :
    FnOk P w K mg base CX0 (k + 3) f fd ["self", "saying"] (spNon Y C) := by
  refine SupX.okS F sc_Contrary___init__ (fun vs H Q E h => ?_) (fun cc cda A outer s H vs Q E ST hr h => ?_)
  · obtain ⟨x, dx, a, u, rfl, _⟩ := h
    rfl
  · obtain ⟨x, dx, a, u, rfl, hx, ha, yes⟩ := h
    have D := L.of (.no u)
    have G := L.of u
    refine ⟨_, (SupX.psa_supT ST SC GS hr pass0 (pa_cons (pe_tup (pa_cons pe_str (pa_cons (fldK (K := K) rfl (pv 1)) pa_nil))) pa_nil) rfl rfl rfl rfl rfl rfl
  (SupX.psa_of pss_nil)), ?_⟩
    obtain ⟨da, fs, b, h1, h2, h3⟩ := ha.ins
    refine ⟨x, dx, _, rfl, hx, _, rfl, a, _, da, fs, .ref b, rfl, h1, G.cl, G.nT, h2, by show 2 ≤ sizeLine; decide, fun t nt => ?_⟩
    refine ⟨x, dx, _, _, rfl, sm_fld hx nt, D.cl, D.nT, ?_⟩
    exact yes _ (xo_two nt) ⟨dx, t, upd_same, b, tup_new hx nt, h3.xo (xo_two nt) hx⟩
theorem sc_Both___init__ : NdefX.NScope ["self", "sign", "one", "other", "__class__"] ["self", "sign", "one", "other"] ["__class__"] (defScope (inClass (topS 56) 0)) := NdefX.nscope_by (by decide +kernel)
theorem ok_bth {f fS : Addr} {fd : FuncData} {k : Nat} (F : FunS P K "__init__" "Both.__init__" (inClass (topS 56) 0) Y.bth f fd) (T : Bt mg) (L : SyC K mg Y C) (SC : SupC P K Y.bth fS) (GS : FnR P w K mg base CX0 (k + 2) fS (spSIni K))
     :
    FnOk P w K mg base CX0 (k + 3) f fd ["self", "sign", "one", "other"] (spBth Y C) := by
  refine SupX.okS F sc_Both___init__ (fun vs H Q E h => ?_) (fun cc cda A outer s H vs Q E ST hr h => ?_)
  · obtain ⟨x, dx, a, b, sg, u, v, rfl, _⟩ := h
    rfl
  · obtain ⟨x, dx, a, b, sg, u, v, rfl, hx, ha, hb, yes⟩ := h
    have D := L.of (.both sg u v)
    have G := L.of u
    have G2 := L.of v
    refine ⟨_, (SupX.psa_supT ST SC GS hr pass0 (pa_cons (pe_tup (pa_cons (pv 1) (pa_cons (fldK (K := K) rfl (pv 2)) (pa_cons (fldK (K := K) rfl (pv 3)) pa_nil)))) pa_nil) rfl rfl rfl rfl rfl rfl
  (SupX.psa_of pss_nil)), ?_⟩
    obtain ⟨da, fs, ta, h1, h2, h3⟩ := ha.ins
    obtain ⟨db, gs, tb, g1, g2, g3⟩ := hb.ins
    refine ⟨x, dx, _, rfl, hx, _, rfl, _, rfl, a, _, da, fs, .ref ta, rfl, h1, G.cl, G.nT, h2, _, rfl, b, _, db, gs, .ref tb, rfl, g1, G2.cl, G2.nT, g2, by show 3 ≤ sizeLine; decide, fun t nt => ?_⟩
    refine ⟨x, dx, _, _, rfl, sm_fld hx nt, D.cl, D.nT, ?_⟩
    exact yes _ (xo_two nt) ⟨dx, t, upd_same, ta, tb, tup_new hx nt, h3.xo (xo_two nt) hx, g3.xo (xo_two nt) hx⟩
theorem sc_Fact___init__ : NdefX.NScope ["self", "crowds", "__class__"] ["self", "crowds"] ["__class__"] (defScope (inClass (topS 60) 0)) := NdefX.nscope_by (by decide +kernel)
theorem ok_fct {f fS : Addr} {fd : FuncData} {k : Nat} (F : FunS P K "__init__" "Fact.__init__" (inClass (topS 60) 0) Y.fct f fd) (T : Bt mg) (L : SyC K mg Y C) (XE : PySem.ErrX.ErrTxt P K mg "InvalidSaying" CE fE) (SC : SupC P K Y.fct fS) (GS : FnR P w K mg base CX0 (k + 2) fS (spSIni K))
    (LC : CrC K mg C) (IC : CrI K C) :
    FnOk P w K mg base (L2.CX P w) (k + 3) f fd ["self", "crowds"] (spFct K Y C CE) := by
  refine SupX.okS F sc_Fact___init__ (fun vs H Q E h => ?_) (fun cc cda A outer s H vs Q E ST hr h => ?_)
  · obtain ⟨x, dx, v, rfl, _⟩ := h
    rfl
  · obtain ⟨x, dx, v, rfl, hx, h⟩ := h
    refine ⟨_, (SupX.psa_cons (ps_if (PT.nox (pt_not (pt_val (pe_callB (isiK (K := K) rfl) (by rfl) T.m_isinstance (by decide +kernel) (pa_cons (pv 1) (pa_cons (pe_glob (v := .ref C) (by rfl) LC.mgC rfl) pa_nil)))))) (pss_one (ps_raiseErr rfl XE hr (takes_of rfl rfl rfl rfl) (pa_cons pe_str pa_nil) (by rfl))) pss_nil)
  (SupX.psa_supT ST SC GS hr pass0 (pa_cons (pe_tup (pa_cons pe_str (pa_cons (pv 1) pa_nil))) pa_nil) rfl rfl rfl rfl rfl rfl
  (SupX.psa_cons (ps_fld (pv 0) (PE.nox (pv 1)) rfl)
  (SupX.psa_of pss_nil)))), ?_⟩
    rcases h with ⟨z, tb, rfl, hz, yes⟩ | ⟨ty, htx, kt, no⟩
    · have D := L.of (.fact tb)
      refine ⟨_, rfl, _, _, _, _, _, rfl, .own _, hz.tyx LC IC, IC.kOwn, _, rfl, iteF ?_⟩
      refine ⟨x, dx, _, rfl, hx, _, rfl, by show 2 ≤ sizeLine; decide, fun t nt => ?_⟩
      refine ⟨x, dx, _, _, rfl, sm_fld hx nt, D.cl, D.nT, ?_⟩
      refine ⟨_, rfl, _, rfl, x, _, dx, _, rfl, upd_same, D.cl, D.nC, by show 1 < 1000; decide, ?_⟩
      rw [upd_upd]
      exact yes _ (xo_two nt) ⟨dx, t, z, upd_same, ⟨z, tup_new hx nt, hz.xo (xo_two nt) hx⟩, hz.xo (xo_two nt) hx⟩
    · exact ⟨_, rfl, _, _, _, _, _, rfl, .own _, htx, kt, _, rfl, iteT ⟨_, rfl, no.now⟩⟩
theorem sc_Common___init__ : NdefX.NScope ["self", "saying", "__class__"] ["self", "saying"] ["__class__"] (defScope (inClass (topS 64) 0)) := NdefX.nscope_by (by decide +kernel)
theorem ok_com {f fS fT : Addr} {fd fdT : FuncData} {k : Nat} (F : FunS P K "__init__" "Common.__init__" (inClass (topS 64) 0) Y.com f fd) (T : Bt mg) (L : SyC K mg Y C) (XE : PySem.ErrX.ErrTxt P K mg "InvalidSaying" CE fE) (SC : SupC P K Y.com fS) (GS : FnR P w K mg base CX0 (k + 2) fS (spSIni K))
    (FT : Fun K "told_by" "told_by" (topS 52) fT fdT) (bT : Binds K fdT ["saying"] []) (gT : mg "told_by" = some (.ref fT)) (GT : FnOk P w K mg base (L2.CX P w) (k + 2) fT fdT ["saying"] (spToldB K Y C CE)) :
    FnOk P w K mg base (L2.CX P w) (k + 3) f fd ["self", "saying"] (spCom K Y C CE) := by
  refine SupX.okS F sc_Common___init__ (fun vs H Q E h => ?_) (fun cc cda A outer s H vs Q E ST hr h => ?_)
  · obtain ⟨x, dx, v, rfl, _⟩ := h
    rfl
  · obtain ⟨x, dx, v, rfl, hx, h⟩ := h
    refine ⟨_, (SupX.psa_supT ST SC GS hr pass0 (pa_cons (pe_tup (pa_cons pe_str (pa_cons (pe_call GT hr (by rfl) gT FT.kp bT .nil (passes_call (takes_of rfl rfl rfl rfl) (W := fun cls d _ H => E cls d H) (fun _ _ _ _ h => h)) (pa_cons (pv 1) pa_nil)) pa_nil))) pa_nil) rfl rfl rfl rfl rfl rfl
  (SupX.psa_cons (ps_fld (pv 0) (PE.nox (pv 1)) rfl)
  (SupX.psa_of pss_nil))), ?_⟩
    refine ⟨x, dx, _, rfl, hx, _, rfl, v, rfl, ?_⟩
    rcases h with ⟨a, u, rfl, ha, yes⟩ | ⟨ty, htx, kt, no⟩
    · have D := L.of (.common u)
      refine .inl ⟨a, u, rfl, ha, fun b hb => ⟨by show 2 ≤ sizeLine; decide, fun t nt => ?_⟩⟩
      refine ⟨x, dx, _, _, rfl, sm_fld hx nt, D.cl, D.nT, ?_⟩
      refine ⟨_, rfl, _, rfl, x, _, dx, _, rfl, upd_same, D.cl, D.nS, by show 1 < 1000; decide, ?_⟩
      rw [upd_upd]
      exact yes _ (xo_two nt) ⟨dx, t, a, upd_same, ⟨b, tup_new hx nt, hb.xo (xo_two nt) hx⟩, ha.xo (xo_two nt) hx⟩
    · exact .inr ⟨ty, htx, kt, no⟩
theorem sc_Knows___init__ : NdefX.NScope ["self", "kind", "saying", "__class__"] ["self", "kind", "saying"] ["__class__"] (defScope (inClass (topS 63) 0)) := NdefX.nscope_by (by decide +kernel)
theorem ok_kno {f fS fK fT : Addr} {fd fdK fdT : FuncData} {k : Nat} (F : FunS P K "__init__" "Knows.__init__" (inClass (topS 63) 0) Y.kno f fd) (T : Bt mg) (L : SyC K mg Y C) (XE : PySem.ErrX.ErrTxt P K mg "InvalidSaying" CE fE) (SC : SupC P K Y.kno fS) (GS : FnR P w K mg base CX0 (k + 2) fS (spSIni K))
    (FK : Fun K "need_kind" "need_kind" (topS 53) fK fdK) (bK : Binds K fdK ["kind"] []) (gK : mg "need_kind" = some (.ref fK)) (GK : FnOk P w K mg base (L2.CX P w) (k + 2) fK fdK ["kind"] (spNeedK CE))
    (FT : Fun K "told_by" "told_by" (topS 52) fT fdT) (bT : Binds K fdT ["saying"] []) (gT : mg "told_by" = some (.ref fT)) (GT : FnOk P w K mg base (L2.CX P w) (k + 2) fT fdT ["saying"] (spToldB K Y C CE)) :
    FnOk P w K mg base (L2.CX P w) (k + 3) f fd ["self", "kind", "saying"] (spKno K Y C CE) := by
  refine SupX.okS F sc_Knows___init__ (fun vs H Q E h => ?_) (fun cc cda A outer s H vs Q E ST hr h => ?_)
  · obtain ⟨x, dx, kv, v, ek, rfl, _⟩ := h
    rfl
  · obtain ⟨x, dx, kv, v, ek, rfl, hx, hk, no1, h⟩ := h
    refine ⟨_, (SupX.psa_cons (ps_expr (pe_call GK hr (by rfl) gK FK.kp bK .nil (passes_call (takes_of rfl rfl rfl rfl) (W := fun cls d _ H => E cls d H) (fun _ _ _ _ h => h)) (pa_cons (pv 1) pa_nil)))
  (SupX.psa_supT ST SC GS hr pass0 (pa_cons (pe_tup (pa_cons pe_str (pa_cons (pv 1) (pa_cons (pe_call GT hr (by rfl) gT FT.kp bT .nil (passes_call (takes_of rfl rfl rfl rfl) (W := fun cls d _ H => E cls d H) (fun _ _ _ _ h => h)) (pa_cons (pv 2) pa_nil)) pa_nil)))) pa_nil) rfl rfl rfl rfl rfl rfl
  (SupX.psa_cons (ps_fld (pv 0) (PE.nox (pv 1)) rfl)
  (SupX.psa_cons (ps_fld (pv 0) (PE.nox (pv 2)) rfl)
  (SupX.psa_of pss_nil))))), ?_⟩
    refine ⟨_, rfl, kv, ek, rfl, hk, fun hK => ?_, no1⟩
    obtain ⟨m, rfl⟩ := isKind_iff hK
    cases hk
    refine ⟨x, dx, _, rfl, hx, _, rfl, _, rfl, v, rfl, ?_⟩
    rcases h m rfl with ⟨a, u, rfl, ha, yes⟩ | ⟨ty, htx, kt, no⟩
    · have D := L.of (.knows m u)
      refine .inl ⟨a, u, rfl, ha, fun b hb => ⟨by show 3 ≤ sizeLine; decide, fun t nt => ?_⟩⟩
      refine ⟨x, dx, _, _, rfl, sm_fld hx nt, D.cl, D.nT, ?_⟩
      refine ⟨_, rfl, _, rfl, x, _, dx, _, rfl, upd_same, D.cl, D.nK, by show 1 < 1000; decide, ?_⟩
      refine ⟨_, rfl, _, rfl, x, _, dx, _, rfl, upd_same, D.cl, D.nS, by show 2 < 1000; decide, ?_⟩
      rw [upd_upd, upd_upd]
      exact yes _ (xo_two nt) ⟨dx, t, a, upd_same, ⟨b, tup_new hx nt, hb.xo (xo_two nt) hx⟩, ha.xo (xo_two nt) hx⟩
    · exact .inr ⟨ty, htx, kt, no⟩
theorem sc_Rest___init__ : NdefX.NScope ["self", "kind", "rest", "period", "__class__"] ["self", "kind", "rest", "period"] ["__class__"] (defScope (inClass (topS 59) 0)) := NdefX.nscope_by (by decide +kernel)
theorem ok_rst {f fS fK fN fI : Addr} {fd fdK fdN fdI : FuncData} {k : Nat} (F : FunS P K "__init__" "Rest.__init__" (inClass (topS 59) 0) Y.rst f fd) (T : Bt mg) (L : SyC K mg Y C) (XE : PySem.ErrX.ErrTxt P K mg "InvalidSaying" CE fE) (SC : SupC P K Y.rst fS) (GS : FnR P w K mg base CX0 (k + 2) fS (spSIni K))
    (FK : Fun K "need_kind" "need_kind" (topS 53) fK fdK) (bK : Binds K fdK ["kind"] []) (gK : mg "need_kind" = some (.ref fK)) (GK : FnOk P w K mg base (L2.CX P w) (k + 2) fK fdK ["kind"] (spNeedK CE))
    (FN : Fun K "is_number" "is_number" (topS 13) fN fdN) (bN : Binds K fdN ["value"] []) (gN : mg "is_number" = some (.ref fN)) (GN : FnOk P w K mg base CX0 (k + 2) fN fdN ["value"] (spInt isNumD))
    (FI : Fun K "is_integer" "is_integer" (topS 12) fI fdI) (bI : Binds K fdI ["value"] []) (gI : mg "is_integer" = some (.ref fI)) (GI : FnOk P w K mg base CX0 (k + 2) fI fdI ["value"] (spInt isIntD)) :
    FnOk P w K mg base (L2.CX P w) (k + 3) f fd ["self", "kind", "rest", "period"] (spRst Y C CE) := by
  refine SupX.okS F sc_Rest___init__ (fun vs H Q E h => ?_) (fun cc cda A outer s H vs Q E ST hr h => ?_)
  · obtain ⟨x, dx, kv, rv, zv, ek, er, ep, rfl, _⟩ := h
    rfl
  · obtain ⟨x, dx, kv, rv, zv, ek, er, ep, rfl, hx, hk, hrr, hpp, no1, no2, yes⟩ := h
    refine ⟨_, (SupX.psa_cons (ps_expr (pe_call GK hr (by rfl) gK FK.kp bK .nil (passes_call (takes_of rfl rfl rfl rfl) (W := fun cls d _ H => E cls d H) (fun _ _ _ _ h => h)) (pa_cons (pv 1) pa_nil)))
  (SupX.psa_cons (ps_if (PT.nox (PW.pt (pw_or (pt_not (pt_val (pe_call GI hr (by rfl) gI FI.kp bI .nil pass0 (pa_cons (pv 3) pa_nil)))) (pw_or1 (pt_cmpR op_lt (pv 3) pe_int (nomark _)))))) (pss_one (ps_raiseErr rfl XE hr (takes_of rfl rfl rfl rfl) (pa_cons pe_str pa_nil) (by rfl))) pss_nil)
  (SupX.psa_cons (ps_if (PT.nox (PW.pt (pw_or (pt_not (pt_val (pe_call GN hr (by rfl) gN FN.kp bN .nil pass0 (pa_cons (pv 2) pa_nil)))) (pw_or1 (pt_cmpR op_ge (pv 2) (pv 3) (nomark _)))))) (pss_one (ps_raiseErr rfl XE hr (takes_of rfl rfl rfl rfl) (pa_cons pe_str pa_nil) (by rfl))) pss_nil)
  (SupX.psa_supT ST SC GS hr pass0 (pa_cons (pe_tup (pa_cons pe_str (pa_cons (pv 1) (pa_cons (pv 2) (pa_cons (pv 3) pa_nil))))) pa_nil) rfl rfl rfl rfl rfl rfl
  (SupX.psa_cons (ps_fld (pv 0) (PE.nox (pv 1)) rfl)
  (SupX.psa_cons (ps_fld (pv 0) (PE.nox (pv 2)) rfl)
  (SupX.psa_cons (ps_fld (pv 0) (PE.nox (pv 3)) rfl)
  (SupX.psa_of pss_nil)))))))), ?_⟩
    refine ⟨_, rfl, kv, ek, rfl, hk, fun hK => ?_, no1⟩
    replace no2 := no2 hK
    obtain ⟨m, rfl⟩ := isKind_iff hK
    cases hk
    dsimp only [tSeq, tIfS]
    refine viaT (fun b H2 => H2 = H ∧ b = !isPosD ep) (fun b H2 hP => ?_) (fun Q' k' => ?_)
    rotate_left
    · refine ⟨_, rfl, zv, ep, rfl, hpp, _, rfl, ?_⟩
      cases hpp with
      | int i =>
        refine iteF ⟨_, rfl, _, _, rfl, rfl, _, rfl, k' _ _ ⟨rfl, ?_⟩⟩
        show decide (i < 1) = !decide (0 < i)
        by_cases z : 0 < i
        · rw [decide_eq_true z, decide_eq_false (by omega)]; rfl
        · rw [decide_eq_false z, decide_eq_true (by omega)]; rfl
      | _ => exact iteT (k' _ _ ⟨rfl, rfl⟩)
    obtain ⟨rfl, rfl⟩ := hP
    cases hP : isPosD ep with
    | false => exact iteT ⟨_, rfl, (no2 "period" (by unfold restR; rw [hP]; rfl)).now⟩
    | true =>
    refine iteF ?_
    obtain ⟨p, rfl⟩ := isPos_nat hP
    cases hpp
    try dsimp only [tNext, tSeq, tIfS]
    refine viaT (fun b H3 => H3 = H2 ∧ b = !decide (isNumD er = true ∧ intD er < p)) (fun b H3 hQ => ?_) (fun Q' k' => ?_)
    rotate_left
    · refine ⟨_, rfl, rv, er, rfl, hrr, _, rfl, ?_⟩
      cases hN : isNumD er with
      | false => exact iteT (k' _ _ ⟨rfl, by rw [hN]; simp⟩)
      | true =>
        cases hrr with
        | int i =>
          refine iteF ⟨_, rfl, _, rfl, _, _, rfl, rfl, _, rfl, k' _ _ ⟨rfl, ?_⟩⟩
          rw [hN]
          show decide ((p : Int) ≤ i) = !decide (true = true ∧ i < p)
          by_cases z : i < p
          · rw [decide_eq_true (show true = true ∧ i < p from ⟨rfl, z⟩), decide_eq_false (by omega)]; rfl
          · rw [decide_eq_false (show ¬ (true = true ∧ i < p) from fun q => z q.2), decide_eq_true (by omega)]; rfl
        | _ => cases hN
    obtain ⟨rfl, rfl⟩ := hQ
    by_cases hR : isNumD er = true ∧ intD er < p
    · rw [decide_eq_true hR]
      obtain ⟨r, rfl⟩ := isNum_nat hR.1
      cases hrr
      have hlt : r < p := by have := hR.2; show r < p; have : (r : Int) < p := this; omega
      have D := L.of (.rest m r p)
      refine iteF ⟨x, dx, _, rfl, hx, _, rfl, _, rfl, _, rfl, by show 4 ≤ sizeLine; decide, fun t nt => ?_⟩
      refine ⟨x, dx, _, _, rfl, sm_fld hx nt, D.cl, D.nT, ?_⟩
      refine ⟨_, rfl, _, rfl, x, _, dx, _, rfl, upd_same, D.cl, D.nK, by show 1 < 1000; decide, ?_⟩
      refine ⟨_, rfl, _, rfl, x, _, dx, _, rfl, upd_same, D.cl, D.nR, by show 2 < 1000; decide, ?_⟩
      refine ⟨_, rfl, _, rfl, x, _, dx, _, rfl, upd_same, D.cl, D.nP, by show 3 < 1000; decide, ?_⟩
      rw [upd_upd, upd_upd, upd_upd]
      exact yes m r p rfl rfl rfl hlt _ (xo_two nt) ⟨dx, t, upd_same, tup_new hx nt⟩
    · rw [decide_eq_false hR]
      exact iteT ⟨_, rfl, (no2 "rest" (by unfold restR; rw [hP, if_pos rfl]; exact if_neg hR)).now⟩
end
end FH

set_option Elab.async false
set_option linter.all false
set_option maxRecDepth 100000
set_option maxHeartbeats 1000000
namespace FH
open PySem L2
local macro_rules | `(tactic| walk_at "seq") => `(tactic| first | assumption | exact SqL.of (by assumption) | exact SqT.of (by assumption) | exact SqL.of upd_same | exact SqT.of upd_same)
local macro_rules | `(tactic| walk_at "at") => `(tactic| first | exact atI_nat (j := 0) rfl | exact atI_nat (j := 1) rfl | exact atI_nat (j := 2) rfl | exact atI_nat (by assumption) | assumption)
local macro_rules | `(tactic| walk_at "ar") => `(tactic| first | omega | exact ⟨by omega, by omega⟩ | exact Or.inl ⟨by omega, by omega⟩ | exact Or.inr ⟨by omega, by omega⟩ | exact ⟨by decide, by decide⟩ | exact Or.inr ⟨by decide, by decide⟩ | exact Or.inl ⟨by decide, by decide⟩ | exact ⟨by decide, by decide, by omega⟩ | exact ⟨by decide, by decide, by decide⟩)
local macro_rules | `(tactic| walk_at "r") => `(tactic| repeat (first
  | refine ⟨_, rfl, ?_⟩
  | refine ⟨_, _, rfl, rfl, ?_⟩
  | refine ⟨_, _, _, _, rfl, rfl, by walk_at "seq", by walk_at "at", ?_⟩
  | refine ⟨_, _, _, _, rfl, rfl, by assumption, rfl, ?_⟩
  | refine ⟨_, _, rfl, Or.inl (by walk_at "seq"), ?_⟩
  | refine Or.inl ⟨_, rfl, ?_⟩
  | refine Or.inr ⟨_, rfl, ?_⟩
  | refine And.intro (by walk_at "ar") ?_))
open Pr
/-- str of a set -/
def spStr (C : Addr) : Sp := fun vs H Q _ => ∃ (x : Addr) (t : Tb), vs = [.ref x] ∧ CrAt C H x t ∧ t.Sm ∧ ∀ H', Same H H' → Q (.str (txtT t)) H'
section
variable {P : Program} {w : World} {K : PySem.W.Frag} {mg : Str → Option Value} {base : Heap}
theorem sc_Crowds___str__ : FnScope ["self", "numbers", "number"] ["self"] (defScope (inClass (topS 49) 18)) := ⟨rfl, rfl, rfl, by decide +kernel, rfl, by decide +kernel, by decide +kernel⟩
theorem ok_str {C f : Addr} {fd : FuncData} {k : Nat} (F : Fun K "__str__" "Crowds.__str__" (inClass (topS 49) 18) f fd) (T : Bt mg) (L : CrC K mg C) : FnOk P w K mg base CX0 (k + 1) f fd ["self"] (spStr C) := by
  refine F.ok sc_Crowds___str__ (fun vs H Q E h => ?_) (fun cdv A outer s H vs Q E hr h => ?_)
  · obtain ⟨x, t, rfl, _⟩ := h
    rfl
  · obtain ⟨x, t, rfl, hx, Sm, q⟩ := h
    refine ⟨_, (pss_cons (ps_setLc (i := 1) (own := [("number", 2)]) (g := (gName 2)) (tt := tYes) rfl sc_Crowds___str__.nd rfl rfl (sw_true rfl rfl rfl (by decide +kernel)) (piSK (K := K) rfl (pe_tup (StX.pa_star (fldK (K := K) rfl (pv 0)) (StX.pa_star (fldK (K := K) rfl (pv 0)) pa_nil)))) (blkOk_by (own := [("number", 2)]) (N := ["self", "numbers", "number"]) (sc := defScope (inClass (topS 49) 18)) (by decide +kernel)) (fun _ _ _ _ _ => (pg_name (i := 2) sc_Crowds___str__.nd rfl (by first | exact Or.inl rfl | exact Or.inr rfl))) (fun _ _ _ _ _ => pts_nil) (fun _ _ _ _ _ => (pe_callTy call_str_int (by rfl) T.m_str (by decide +kernel) (pa_cons (pv 2) pa_nil))))
  (pss_one (ps_ret (pe_joined (PJ.cons pe_str (PJ.cons (pe_fmt (pe_joinK (K := K) rfl pe_str (pv 1))) (PJ.cons pe_str (PJ.cons (pe_fmt (pe_joinK (K := K) rfl pe_str (fldK (K := K) rfl (pv 0)))) (PJ.cons pe_str PJ.nil))))))))), ?_⟩
    obtain ⟨dx, ts, tp, tr, h1, h2, h3, h4⟩ := hx
    refine ⟨_, rfl, x, C, dx, _, _, rfl, h1, L.cl, L.nS, cget_s _ _ _, ts, _, rfl, .inl (SqT.of h2), _, rfl, x, C, dx, _, _, rfl, h1, L.cl, L.nP, cget_p _ _ _, tp, _, rfl, .inl (SqT.of h3), by show 4 ≤ sizeLine; decide, fun t5 nt5 => ?_⟩
    have s9 := same_new (o := .tup [.int t.s0, .int t.s1, .int t.p0, .int t.p1]) nt5
    have ht5 := upd_same (H := H) (a := t5) (o := .tup [.int t.s0, .int t.s1, .int t.p0, .int t.p1])
    have h19 := s9 _ _ h1
    have h49 := s9 _ _ h4
    refine ⟨t5, _, rfl, .inr ⟨SqT.of ht5, fun D6 nD6 => lc_fmT nD6 (SqT.of ht5) (by show 4 < 100000; decide) (fun v => match v with | .int i => some (.str (Str.ofString (toString i))) | _ => none) (fun i x HA Nx hx sA tk nt => ?_) (fun HA sA hDA => ?_)⟩⟩
    · have hx' : ∃ n : Nat, n ≤ 1000 ∧ x = .int n := by
        have := List.mem_of_getElem? hx
        simp only [List.mem_cons, List.not_mem_nil, or_false, List.cons_append, List.nil_append] at this
        rcases this with rfl | rfl | rfl | rfl
        · exact ⟨_, Sm.a, rfl⟩
        · exact ⟨_, Sm.b, rfl⟩
        · exact ⟨_, Sm.c, rfl⟩
        · exact ⟨_, Sm.d, rfl⟩
      obtain ⟨n, hn, rfl⟩ := hx'
      exact ⟨rfl, _, rfl, _, rfl, log_small hn, tk _ _ (Same.refl _) rfl⟩
    · have hDA' : HA D6 = some (.lst ((numsT t).map V.str)) := hDA
      have l1 := Sm.n
      have l2 := Sm.r
      have l3 : (Txt.join (Str.ofString " ") t.rows).length ≤ 4002000 := Nat.le_trans (join_len _ _) l2
      have e0 : ∀ y : Str, Str.empty ++ y = y := fun y => by
        show (⟨#[] ++ y.cps⟩ : Str) = y
        rw [Array.empty_append]
      refine ⟨_, rfl, ?_, ⟨_, rfl⟩, _, rfl, _, D6, _, rfl, rfl, .inl (SqL.of hDA'), Nat.le_trans Sm.m (by decide), .inl ⟨_, rfl, ?_, _, rfl, ?_, _, rfl, ?_, ⟨_, rfl⟩, _, rfl, x, C, dx, _, _, rfl, sA _ _ h19, L.cl, L.nR, cget_r _ _ _, _, tr, _, rfl, rfl, .inr (SqT.of (sA _ _ h49)), Nat.le_trans l2 (by decide), .inl ⟨_, rfl, ?_, _, rfl, ?_, _, rfl, ?_, ?_⟩⟩⟩
      · decide
      · exact Nat.le_trans l1 (by decide)
      · rw [e0, len_app]; show 1 + _ ≤ 16777216; omega
      · rw [e0, len_app, len_app]; show 1 + _ + 2 ≤ 16777216; omega
      · exact Nat.le_trans l3 (by decide)
      · rw [e0, len_app, len_app, len_app]; show 1 + _ + 2 + _ ≤ 16777216; omega
      · rw [e0, len_app, len_app, len_app, len_app]; show 1 + _ + 2 + _ + 1 ≤ 16777216; omega
      · show Q (.str (Str.empty ++ Str.ofString "[" ++ _ ++ _ ++ _ ++ _)) _
        rw [e0]
        exact q _ (s9.trans sA)
end
end FH

set_option Elab.async false
set_option linter.all false
set_option maxRecDepth 100000
set_option maxHeartbeats 1000000
namespace FH
open PySem L2
local macro_rules | `(tactic| walk_at "seq") => `(tactic| first | assumption | exact SqL.of (by assumption) | exact SqT.of (by assumption) | exact SqL.of upd_same | exact SqT.of upd_same)
local macro_rules | `(tactic| walk_at "at") => `(tactic| first | exact atI_nat (j := 0) rfl | exact atI_nat (j := 1) rfl | exact atI_nat (j := 2) rfl | exact atI_nat (by assumption) | assumption)
local macro_rules | `(tactic| walk_at "ar") => `(tactic| first | omega | exact ⟨by omega, by omega⟩ | exact Or.inl ⟨by omega, by omega⟩ | exact Or.inr ⟨by omega, by omega⟩ | exact ⟨by decide, by decide⟩ | exact Or.inr ⟨by decide, by decide⟩ | exact Or.inl ⟨by decide, by decide⟩ | exact ⟨by decide, by decide, by omega⟩ | exact ⟨by decide, by decide, by decide⟩)
local macro_rules | `(tactic| walk_at "r") => `(tactic| repeat (first
  | refine ⟨_, rfl, ?_⟩
  | refine ⟨_, _, rfl, rfl, ?_⟩
  | refine ⟨_, _, _, _, rfl, rfl, by walk_at "seq", by walk_at "at", ?_⟩
  | refine ⟨_, _, _, _, rfl, rfl, by assumption, rfl, ?_⟩
  | refine ⟨_, _, rfl, Or.inl (by walk_at "seq"), ?_⟩
  | refine Or.inl ⟨_, rfl, ?_⟩
  | refine Or.inr ⟨_, rfl, ?_⟩
  | refine And.intro (by walk_at "ar") ?_))
def spText (C : Addr) (d : Nat) : Sp := fun vs H Q _ => ∃ (a : Addr) (u : Tl), vs = [.ref a] ∧ TlAt C H u a ∧ u.Ok ∧ u.wt ≤ 1000 ∧ u.ht ≤ d ∧ ∀ H', Same H H' → Q (.str u.txt) H'
def spTextR (C : Addr) : Nat → Sp
  | 0 => fun _ _ _ _ => False
  | d + 1 => spText C d
theorem emp_app (y : Str) : Str.empty ++ y = y := by
  show (⟨#[] ++ y.cps⟩ : Str) = y
  rw [Array.empty_append]
theorem vacY {P : Program} {w : World} {K : PySem.W.Frag} {mg : Str → Option Value} {base : Heap} {k : Nat} {f : Addr} {fd : FuncData} {ps : List Str} : FnOk P w K mg base CX0 k f fd ps (fun _ _ _ _ => False) := ⟨fun _ _ _ _ h => h.elim, fun _ _ _ _ _ _ _ _ _ _ _ _ _ h => h.elim⟩
theorem num_toS (n : Nat) : (toString (n : Int) : Str) = numS n := rfl
section
variable {P : Program} {w : World} {K : PySem.W.Frag} {mg : Str → Option Value} {base : Heap} {C CE fE : Addr} {Y : Sy}
theorem sc_text_of : FnScope ["told", "word"] ["told"] (defScope (topS 54)) := ⟨rfl, rfl, rfl, by decide +kernel, rfl, by decide +kernel, by decide +kernel⟩
theorem text_step {f fC : Addr} {fd fdC : FuncData} {k d : Nat} (F : Fun K "text_of" "text_of" (topS 54) f fd) (T : Bt mg) (bR : Binds K fd ["told"] []) (gR : mg "text_of" = some (.ref f))
    (GC : FnOk P w K mg base CX0 (k + 1) fC fdC ["self"] (spStr C)) (bC : Binds K fdC ["self"] []) (fC' : PySem.W.findIn K (.ref C) "__str__" = some (some (.ref fC))) (fC : PySem.W.isFn K (.ref fC) = true)
    (GR : FnOk P w K mg base CX0 (k + 3) f fd ["told"] (spTextR C d)) : FnOk P w K mg base CX0 (k + 4) f fd ["told"] (spText C d) := by
  refine F.ok sc_text_of (fun vs H Q E h => ?_) (fun cdv A outer s H vs Q E hr h => ?_)
  · obtain ⟨a, u, rfl, _⟩ := h
    rfl
  · obtain ⟨a, u, rfl, ha, ok, hw, hd, q⟩ := h
    refine ⟨_, (pss_cons (ps_set (i := 1) sc_text_of.nd rfl (by first | exact Or.inl rfl | exact Or.inr rfl) (pe_ix (ixTK (K := K) rfl) (pv 0) pe_int (fun _ _ => rfl)))
  (pss_cons (ps_if (pt_cmpR op_eq (pv 1) pe_str (nomark _)) (pss_one (ps_ret (pe_joined (PJ.cons (pe_fmt (pe_ix (ixTK (K := K) rfl) (pv 0) pe_int (fun _ _ => rfl))) (PJ.cons pe_str (PJ.cons (pe_fmt (pe_ix (ixTK (K := K) rfl) (pv 0) pe_int (fun _ _ => rfl))) PJ.nil)))))) pss_nil)
  (pss_cons (ps_if (pt_cmpR op_eq (pv 1) pe_str (nomark _)) (pss_one (ps_ret (pe_joined (PJ.cons (pe_fmt (pe_ix (ixTK (K := K) rfl) (pv 0) pe_int (fun _ _ => rfl))) (PJ.cons pe_str (PJ.cons (pe_fmt (pe_ix (ixTK (K := K) rfl) (pv 0) pe_int (fun _ _ => rfl))) (PJ.cons pe_str (PJ.cons (pe_fmt (pe_ix (ixTK (K := K) rfl) (pv 0) pe_int (fun _ _ => rfl))) PJ.nil)))))))) pss_nil)
  (pss_cons (ps_if (pt_cmpR op_eq (pv 1) pe_str (nomark _)) (pss_one (ps_ret (pe_callTy (call_strO (K := K) rfl GC hr bC pass0 fC) (by rfl) T.m_str (by decide +kernel) (pa_cons (pe_ix (ixTK (K := K) rfl) (pv 0) pe_int (fun _ _ => rfl)) pa_nil)))) pss_nil)
  (pss_cons (ps_if (pt_cmpR op_eq (pv 1) pe_str (nomark _)) (pss_one (ps_ret (pe_joined (PJ.cons pe_str (PJ.cons (pe_fmt (pe_ix (ixTK (K := K) rfl) (pv 0) pe_int (fun _ _ => rfl))) PJ.nil))))) pss_nil)
  (pss_cons (ps_if (pt_cmpR op_eq (pv 1) pe_str (nomark _)) (pss_one (ps_ret pe_str)) pss_nil)
  (pss_cons (ps_if (pt_cmpR op_eq (pv 1) pe_str (nomark _)) (pss_one (ps_ret (pe_joined (PJ.cons pe_str (PJ.cons (pe_fmt (pe_ix (ixTK (K := K) rfl) (pv 0) pe_int (fun _ _ => rfl))) (PJ.cons pe_str (PJ.cons (pe_fmt (pe_call GR hr (by rfl) gR F.kp bR .nil pass0 (pa_cons (pe_ix (ixTK (K := K) rfl) (pv 0) pe_int (fun _ _ => rfl)) pa_nil))) (PJ.cons pe_str PJ.nil)))))))) pss_nil)
  (pss_cons (ps_if (pt_cmpR op_eq (pv 1) pe_str (nomark _)) (pss_one (ps_ret (pe_joined (PJ.cons pe_str (PJ.cons (pe_fmt (pe_call GR hr (by rfl) gR F.kp bR .nil pass0 (pa_cons (pe_ix (ixTK (K := K) rfl) (pv 0) pe_int (fun _ _ => rfl)) pa_nil))) (PJ.cons pe_str PJ.nil)))))) pss_nil)
  (pss_cons (ps_if (pt_cmpR op_eq (pv 1) pe_str (nomark _)) (pss_one (ps_ret (pe_joined (PJ.cons pe_str (PJ.cons (pe_fmt (pe_call GR hr (by rfl) gR F.kp bR .nil pass0 (pa_cons (pe_ix (ixTK (K := K) rfl) (pv 0) pe_int (fun _ _ => rfl)) pa_nil))) (PJ.cons pe_str PJ.nil)))))) pss_nil)
  (pss_one (ps_ret (pe_joined (PJ.cons pe_str (PJ.cons (pe_fmt (pe_call GR hr (by rfl) gR F.kp bR .nil pass0 (pa_cons (pe_ix (ixTK (K := K) rfl) (pv 0) pe_int (fun _ _ => rfl)) pa_nil))) (PJ.cons pe_str (PJ.cons (pe_fmt (pv 1)) (PJ.cons pe_str (PJ.cons (pe_fmt (pe_call GR hr (by rfl) gR F.kp bR .nil pass0 (pa_cons (pe_ix (ixTK (K := K) rfl) (pv 0) pe_int (fun _ _ => rfl)) pa_nil))) (PJ.cons pe_str PJ.nil))))))))))))))))))), ?_⟩
    have hln := Tl.len ok
    have ne : ∀ x y : Str, x ≠ y → decide (V.str x = V.str y) = false := fun x y h => decide_eq_false fun z => h (V.str.inj z)
    have rec' : ∀ (v : Tl) (b : Addr) (H1 : Hp) (R : VK), u.ht = v.ht + 1 ∨ v.ht < u.ht → v.Ok → v.wt ≤ 1000 → TlAt C H1 v b → (∀ H', Same H1 H' → R (.str v.txt) H') → spTextR C d [.ref b] H1 R E0 := fun v b H1 R hh ho hv hb r => by
      cases d with
      | zero => omega
      | succ d => exact ⟨b, v, rfl, hb, ho, hv, by omega, r⟩
    have z0 : (Str.ofString " >= ").length = 4 := by decide
    have z1 : (Str.ofString " by ").length = 4 := by decide
    have z2 : (Str.ofString " leaves ").length = 8 := by decide
    have z3 : (Str.ofString "sure ").length = 5 := by decide
    have z4 : (Str.ofString "silent").length = 6 := by decide
    have z5 : (Str.ofString "knows ").length = 6 := by decide
    have z6 : (Str.ofString " (").length = 2 := by decide
    have z7 : (Str.ofString ")").length = 1 := by decide
    have z8 : (Str.ofString "common (").length = 8 := by decide
    have z9 : (Str.ofString "~(").length = 2 := by decide
    have z10 : (Str.ofString "(").length = 1 := by decide
    have z11 : (Str.ofString ") ").length = 2 := by decide
    have zz : sizeLine = 16777216 := rfl
    cases u with
    | least m n =>
      have ha : H a = some (.tup [.str (Str.ofString "least"), .str (kindS m), .int n]) := ha
      have ok : n < 1000000 := ok
      have h1 := kindS_len m
      have h2 := numS_len ok
      refine ⟨_, rfl, a, _, _, _, rfl, rfl, SqT.of ha, atI_nat (j := 0) rfl, _, rfl, rfl, _, rfl, iteT ?_⟩
      refine ⟨_, rfl, a, _, _, _, rfl, rfl, SqT.of ha, atI_nat (j := 1) rfl, .inl ⟨_, rfl, by omega, _, rfl, by (simp only [emp_app, len_app]; omega), _, rfl, by (simp only [emp_app, len_app]; omega), _, rfl, a, _, _, _, rfl, rfl, SqT.of ha, atI_nat (j := 2) rfl, .inr ⟨_, rfl, log_million ok, _, rfl, ?_, ?_⟩⟩⟩
      · rw [num_toS]; (simp only [emp_app, len_app]; omega)
      · rw [emp_app]
        exact q _ (Same.refl _)
    | rest m r p =>
      have ha : H a = some (.tup [.str (Str.ofString "rest"), .str (kindS m), .int r, .int p]) := ha
      obtain ⟨ok1, ok2, ok3, ok4⟩ : r < 1000000 ∧ p < 1000000 ∧ 0 < p ∧ r < p := ok
      have h1 := kindS_len m
      have h2 := numS_len ok1
      have h3 := numS_len ok2
      refine ⟨_, rfl, a, _, _, _, rfl, rfl, SqT.of ha, atI_nat (j := 0) rfl, _, rfl, rfl, _, rfl, iteF ⟨_, rfl, rfl, _, rfl, iteT ?_⟩⟩
      refine ⟨_, rfl, a, _, _, _, rfl, rfl, SqT.of ha, atI_nat (j := 1) rfl, .inl ⟨_, rfl, by omega, _, rfl, by (simp only [emp_app, len_app]; omega), _, rfl, by (simp only [emp_app, len_app]; omega), _, rfl, a, _, _, _, rfl, rfl, SqT.of ha, atI_nat (j := 3) rfl, .inr ⟨_, rfl, log_million ok2, _, rfl, ?_, _, rfl, ?_, _, rfl, a, _, _, _, rfl, rfl, SqT.of ha, atI_nat (j := 2) rfl, .inr ⟨_, rfl, log_million ok1, _, rfl, ?_, ?_⟩⟩⟩⟩
      · rw [num_toS]; (simp only [emp_app, len_app]; omega)
      · rw [num_toS]; (simp only [emp_app, len_app]; omega)
      · rw [num_toS, num_toS]; (simp only [emp_app, len_app]; omega)
      · rw [emp_app]
        exact q _ (Same.refl _)
    | fact t =>
      obtain ⟨z, ha, hz⟩ : ∃ z, H a = some (.tup [.str (Str.ofString "fact"), .ref z]) ∧ CrAt C H z t := ha
      have ok : t.Sz := ok
      have hz' := hz
      obtain ⟨dx, ts, tp, tr, g1, _⟩ := hz
      refine ⟨_, rfl, a, _, _, _, rfl, rfl, SqT.of ha, atI_nat (j := 0) rfl, _, rfl, rfl, _, rfl, iteF ⟨_, rfl, rfl, _, rfl, iteF ⟨_, rfl, rfl, _, rfl, iteT ?_⟩⟩⟩
      exact ⟨_, rfl, a, _, _, _, rfl, rfl, SqT.of ha, atI_nat (j := 1) rfl, z, C, dx, _, rfl, g1, fC', z, t, rfl, hz', ok.sm, fun H' s' => ⟨_, rfl, q _ s'⟩⟩
    | sure m =>
      have ha : H a = some (.tup [.str (Str.ofString "sure"), .str (kindS m)]) := ha
      have h1 := kindS_len m
      refine ⟨_, rfl, a, _, _, _, rfl, rfl, SqT.of ha, atI_nat (j := 0) rfl, _, rfl, rfl, _, rfl, iteF ⟨_, rfl, rfl, _, rfl, iteF ⟨_, rfl, rfl, _, rfl, iteF ⟨_, rfl, rfl, _, rfl, iteT ?_⟩⟩⟩⟩
      refine ⟨_, rfl, by (simp only [emp_app, len_app]; omega), _, rfl, a, _, _, _, rfl, rfl, SqT.of ha, atI_nat (j := 1) rfl, .inl ⟨_, rfl, by omega, _, rfl, by (simp only [emp_app, len_app]; omega), ?_⟩⟩
      rw [emp_app]
      exact q _ (Same.refl _)
    | silent =>
      have ha : H a = some (.tup [.str (Str.ofString "silent")]) := ha
      refine ⟨_, rfl, a, _, _, _, rfl, rfl, SqT.of ha, atI_nat (j := 0) rfl, _, rfl, rfl, _, rfl, iteF ⟨_, rfl, rfl, _, rfl, iteF ⟨_, rfl, rfl, _, rfl, iteF ⟨_, rfl, rfl, _, rfl, iteF ⟨_, rfl, rfl, _, rfl, iteT ?_⟩⟩⟩⟩⟩
      exact q _ (Same.refl _)
    | knows m u =>
      obtain ⟨b, ha, hb⟩ : ∃ b, H a = some (.tup [.str (Str.ofString "knows"), .str (kindS m), .ref b]) ∧ TlAt C H u b := ha
      have ok : u.Ok := ok
      have hw : u.wt + 1 ≤ 1000 := hw
      have hl := Tl.len ok
      have h1 := kindS_len m
      refine ⟨_, rfl, a, _, _, _, rfl, rfl, SqT.of ha, atI_nat (j := 0) rfl, _, rfl, rfl, _, rfl, iteF ⟨_, rfl, rfl, _, rfl, iteF ⟨_, rfl, rfl, _, rfl, iteF ⟨_, rfl, rfl, _, rfl, iteF ⟨_, rfl, rfl, _, rfl, iteF ⟨_, rfl, rfl, _, rfl, iteT ?_⟩⟩⟩⟩⟩⟩
      refine ⟨_, rfl, by (simp only [emp_app, len_app]; omega), _, rfl, a, _, _, _, rfl, rfl, SqT.of ha, atI_nat (j := 1) rfl, .inl ⟨_, rfl, by omega, _, rfl, by (simp only [emp_app, len_app]; omega), _, rfl, by (simp only [emp_app, len_app]; omega), _, rfl, a, _, _, _, rfl, rfl, SqT.of ha, atI_nat (j := 2) rfl, rec' u b H _ (.inl rfl) ok (by omega) hb fun H1 s1 => .inl ⟨_, rfl, by omega, _, rfl, by (simp only [emp_app, len_app]; omega), _, rfl, by (simp only [emp_app, len_app]; omega), ?_⟩⟩⟩
      rw [emp_app]
      exact q _ s1
    | common u =>
      obtain ⟨b, ha, hb⟩ : ∃ b, H a = some (.tup [.str (Str.ofString "common"), .ref b]) ∧ TlAt C H u b := ha
      have ok : u.Ok := ok
      have hw : u.wt + 1 ≤ 1000 := hw
      have hl := Tl.len ok
      refine ⟨_, rfl, a, _, _, _, rfl, rfl, SqT.of ha, atI_nat (j := 0) rfl, _, rfl, rfl, _, rfl, iteF ⟨_, rfl, rfl, _, rfl, iteF ⟨_, rfl, rfl, _, rfl, iteF ⟨_, rfl, rfl, _, rfl, iteF ⟨_, rfl, rfl, _, rfl, iteF ⟨_, rfl, rfl, _, rfl, iteF ⟨_, rfl, rfl, _, rfl, iteT ?_⟩⟩⟩⟩⟩⟩⟩
      refine ⟨_, rfl, by (simp only [emp_app, len_app]; omega), _, rfl, a, _, _, _, rfl, rfl, SqT.of ha, atI_nat (j := 1) rfl, rec' u b H _ (.inl rfl) ok (by omega) hb fun H1 s1 => .inl ⟨_, rfl, by omega, _, rfl, by (simp only [emp_app, len_app]; omega), _, rfl, by (simp only [emp_app, len_app]; omega), ?_⟩⟩
      rw [emp_app]
      exact q _ s1
    | no u =>
      obtain ⟨b, ha, hb⟩ : ∃ b, H a = some (.tup [.str (Str.ofString "not"), .ref b]) ∧ TlAt C H u b := ha
      have ok : u.Ok := ok
      have hw : u.wt + 1 ≤ 1000 := hw
      have hl := Tl.len ok
      refine ⟨_, rfl, a, _, _, _, rfl, rfl, SqT.of ha, atI_nat (j := 0) rfl, _, rfl, rfl, _, rfl, iteF ⟨_, rfl, rfl, _, rfl, iteF ⟨_, rfl, rfl, _, rfl, iteF ⟨_, rfl, rfl, _, rfl, iteF ⟨_, rfl, rfl, _, rfl, iteF ⟨_, rfl, rfl, _, rfl, iteF ⟨_, rfl, rfl, _, rfl, iteF ⟨_, rfl, rfl, _, rfl, iteT ?_⟩⟩⟩⟩⟩⟩⟩⟩
      refine ⟨_, rfl, by (simp only [emp_app, len_app]; omega), _, rfl, a, _, _, _, rfl, rfl, SqT.of ha, atI_nat (j := 1) rfl, rec' u b H _ (.inl rfl) ok (by omega) hb fun H1 s1 => .inl ⟨_, rfl, by omega, _, rfl, by (simp only [emp_app, len_app]; omega), _, rfl, by (simp only [emp_app, len_app]; omega), ?_⟩⟩
      rw [emp_app]
      exact q _ s1
    | both sg u v =>
      obtain ⟨b, c, ha, hb, hc⟩ : ∃ b c, H a = some (.tup [.str sg.str, .ref b, .ref c]) ∧ TlAt C H u b ∧ TlAt C H v c := ha
      obtain ⟨ok1, ok2⟩ : u.Ok ∧ v.Ok := ok
      have hw : u.wt + v.wt + 1 ≤ 1000 := hw
      have hl := Tl.len ok1
      have hl2 := Tl.len ok2
      have h1 := sg.len
      have p1 := u.wt_pos
      have p2 := v.wt_pos
      have hh : u.ht < (Tl.both sg u v).ht ∧ v.ht < (Tl.both sg u v).ht := by
        show u.ht < max u.ht v.ht + 1 ∧ v.ht < max u.ht v.ht + 1
        omega
      refine ⟨_, rfl, a, _, _, _, rfl, rfl, SqT.of ha, atI_nat (j := 0) rfl, ?_⟩
      have sgn : ∀ x : Str, x.length ≠ 1 → decide (V.str sg.str = V.str x) = false := fun x h => ne _ _ fun e => h (by rw [← e]; exact h1)
      refine ⟨_, rfl, rfl, _, rfl, ?_⟩
      rw [sgn _ (by decide)]
      refine iteF ⟨_, rfl, rfl, _, rfl, ?_⟩
      rw [sgn _ (by decide)]
      refine iteF ⟨_, rfl, rfl, _, rfl, ?_⟩
      rw [sgn _ (by decide)]
      refine iteF ⟨_, rfl, rfl, _, rfl, ?_⟩
      rw [sgn _ (by decide)]
      refine iteF ⟨_, rfl, rfl, _, rfl, ?_⟩
      rw [sgn _ (by decide)]
      refine iteF ⟨_, rfl, rfl, _, rfl, ?_⟩
      rw [sgn _ (by decide)]
      refine iteF ⟨_, rfl, rfl, _, rfl, ?_⟩
      rw [sgn _ (by decide)]
      refine iteF ⟨_, rfl, rfl, _, rfl, ?_⟩
      rw [sgn _ (by decide)]
      refine iteF ?_
      refine ⟨_, rfl, by (simp only [emp_app, len_app]; omega), _, rfl, a, _, _, _, rfl, rfl, SqT.of ha, atI_nat (j := 1) rfl, rec' u b H _ (.inr hh.1) ok1 (by omega) hb fun H1 s1 => .inl ⟨_, rfl, by omega, _, rfl, by (simp only [emp_app, len_app]; omega), _, rfl, by (simp only [emp_app, len_app]; omega), _, rfl, .inl ⟨_, rfl, by omega, _, rfl, by (simp only [emp_app, len_app]; omega), _, rfl, by (simp only [emp_app, len_app]; omega), _, rfl, a, _, _, _, rfl, rfl, SqT.of (s1 _ _ ha), atI_nat (j := 2) rfl, rec' v c H1 _ (.inr hh.2) ok2 (by omega) (hc.same s1) fun H2 s2 => .inl ⟨_, rfl, by omega, _, rfl, by (simp only [emp_app, len_app]; omega), _, rfl, by (simp only [emp_app, len_app]; omega), ?_⟩⟩⟩⟩
      rw [emp_app]
      exact q _ (s1.trans s2)
end
end FH

set_option Elab.async false
set_option linter.all false
set_option maxRecDepth 100000
set_option maxHeartbeats 1000000
namespace FH
open PySem L2
local macro_rules | `(tactic| walk_at "seq") => `(tactic| first | assumption | exact SqL.of (by assumption) | exact SqT.of (by assumption) | exact SqL.of upd_same | exact SqT.of upd_same)
local macro_rules | `(tactic| walk_at "at") => `(tactic| first | exact atI_nat (j := 0) rfl | exact atI_nat (j := 1) rfl | exact atI_nat (j := 2) rfl | exact atI_nat (by assumption) | assumption)
local macro_rules | `(tactic| walk_at "ar") => `(tactic| first | omega | exact ⟨by omega, by omega⟩ | exact Or.inl ⟨by omega, by omega⟩ | exact Or.inr ⟨by omega, by omega⟩ | exact ⟨by decide, by decide⟩ | exact Or.inr ⟨by decide, by decide⟩ | exact Or.inl ⟨by decide, by decide⟩ | exact ⟨by decide, by decide, by omega⟩ | exact ⟨by decide, by decide, by decide⟩)
local macro_rules | `(tactic| walk_at "r") => `(tactic| repeat (first
  | refine ⟨_, rfl, ?_⟩
  | refine ⟨_, _, rfl, rfl, ?_⟩
  | refine ⟨_, _, _, _, rfl, rfl, by walk_at "seq", by walk_at "at", ?_⟩
  | refine ⟨_, _, _, _, rfl, rfl, by assumption, rfl, ?_⟩
  | refine ⟨_, _, rfl, Or.inl (by walk_at "seq"), ?_⟩
  | refine Or.inl ⟨_, rfl, ?_⟩
  | refine Or.inr ⟨_, rfl, ?_⟩
  | refine And.intro (by walk_at "ar") ?_))
open Pr
def spCmp (C : Addr) (g : Tb → Tb → Bool) : Sp := fun vs H Q _ => ∃ (x y : Addr) (t u : Tb), vs = [.ref x, .ref y] ∧ CrAt C H x t ∧ CrAt C H y u ∧ Two t u ∧ ∀ H', Same H H' → Q (.bl (g t u)) H'
section
variable {P : Program} {w : World} {K : PySem.W.Frag} {mg : Str → Option Value} {base : Heap} {C : Addr}
theorem sc_Crowds___le__ : FnScope ["self", "other"] ["self", "other"] (defScope (inClass (topS 49) 12)) := ⟨rfl, rfl, rfl, by decide +kernel, rfl, by decide +kernel, by decide +kernel⟩
theorem ok_le {f fW : Addr} {fd fdW : FuncData} {k : Nat} (F : Fun K "__le__" "Crowds.__le__" (inClass (topS 49) 12) f fd) (T : Bt mg) (L : CrC K mg C) (I : CrI K C)
    (FW : Fun K "is_within" "is_within" (topS 47) fW fdW) (bW : Binds K fdW ["one", "other"] []) (gW : mg "is_within" = some (.ref fW)) (GW : FnOk P w K mg base CX0 (k + 4) fW fdW ["one", "other"] (spWithin C)) :
    FnOk P w K mg base CX0 (k + 5) f fd ["self", "other"] (spCmp C fun t u => subB t u) := by
  refine F.ok sc_Crowds___le__ (fun vs H Q E h => ?_) (fun cdv A outer s H vs Q E hr h => ?_)
  · obtain ⟨x, y, t, u, rfl, _⟩ := h
    rfl
  · obtain ⟨x, y, t, u, rfl, hx, hy, h2, q⟩ := h
    refine ⟨_, (pss_cons (ps_if (pt_not (pt_val (pe_callB (isiK (K := K) rfl) (by rfl) T.m_isinstance (by decide +kernel) (pa_cons (pv 1) (pa_cons (pe_glob (v := .ref C) (by rfl) L.mgC rfl) pa_nil))))) (pss_one ps_never) pss_nil)
  (pss_one (ps_ret (pe_call GW hr (by rfl) gW FW.kp bW .nil pass0 (pa_cons (pv 0) (pa_cons (pv 1) pa_nil)))))), ?_⟩
    refine ⟨_, rfl, _, _, _, _, _, rfl, .own C, hy.tyx L I, I.kOwn, _, rfl, ?_⟩
    exact iteF ⟨_, rfl, _, rfl, ⟨x, y, t, u, rfl, hx, hy, h2, fun H1 s1 =>  q H1 s1⟩⟩
theorem sc_Crowds___lt__ : FnScope ["self", "other"] ["self", "other"] (defScope (inClass (topS 49) 13)) := ⟨rfl, rfl, rfl, by decide +kernel, rfl, by decide +kernel, by decide +kernel⟩
theorem ok_lt {f fW : Addr} {fd fdW : FuncData} {k : Nat} (F : Fun K "__lt__" "Crowds.__lt__" (inClass (topS 49) 13) f fd) (T : Bt mg) (L : CrC K mg C) (I : CrI K C)
    (FW : Fun K "is_within" "is_within" (topS 47) fW fdW) (bW : Binds K fdW ["one", "other"] []) (gW : mg "is_within" = some (.ref fW)) (GW : FnOk P w K mg base CX0 (k + 4) fW fdW ["one", "other"] (spWithin C)) :
    FnOk P w K mg base CX0 (k + 5) f fd ["self", "other"] (spCmp C fun t u => subB t u && !subB u t) := by
  refine F.ok sc_Crowds___lt__ (fun vs H Q E h => ?_) (fun cdv A outer s H vs Q E hr h => ?_)
  · obtain ⟨x, y, t, u, rfl, _⟩ := h
    rfl
  · obtain ⟨x, y, t, u, rfl, hx, hy, h2, q⟩ := h
    refine ⟨_, (pss_cons (ps_if (pt_not (pt_val (pe_callB (isiK (K := K) rfl) (by rfl) T.m_isinstance (by decide +kernel) (pa_cons (pv 1) (pa_cons (pe_glob (v := .ref C) (by rfl) L.mgC rfl) pa_nil))))) (pss_one ps_never) pss_nil)
  (pss_one (ps_ret (pe_and (pe_call GW hr (by rfl) gW FW.kp bW .nil pass0 (pa_cons (pv 0) (pa_cons (pv 1) pa_nil))) (pe_one (pe_not (pe_call GW hr (by rfl) gW FW.kp bW .nil pass0 (pa_cons (pv 1) (pa_cons (pv 0) pa_nil))))))))), ?_⟩
    refine ⟨_, rfl, _, _, _, _, _, rfl, .own C, hy.tyx L I, I.kOwn, _, rfl, ?_⟩
    refine iteF ⟨_, rfl, _, rfl, ⟨x, y, t, u, rfl, hx, hy, h2, fun H1 s1 => ⟨_, rfl, ?_⟩⟩⟩
    cases hb : subB t u with
    | false =>
      have := q H1 s1
      dsimp only at this
      rw [hb] at this
      exact iteF this
    | true =>
      refine iteT ⟨_, rfl, _, rfl, ⟨y, x, u, t, rfl, hy.same s1, hx.same s1, h2.symm, fun H2 s2 => ⟨_, rfl, ?_⟩⟩⟩
      have := q H2 (s1.trans s2)
      dsimp only at this
      rw [hb] at this
      exact this
theorem sc_Crowds___ge__ : FnScope ["self", "other"] ["self", "other"] (defScope (inClass (topS 49) 14)) := ⟨rfl, rfl, rfl, by decide +kernel, rfl, by decide +kernel, by decide +kernel⟩
theorem ok_ge {f fW : Addr} {fd fdW : FuncData} {k : Nat} (F : Fun K "__ge__" "Crowds.__ge__" (inClass (topS 49) 14) f fd) (T : Bt mg) (L : CrC K mg C) (I : CrI K C)
    (FW : Fun K "is_within" "is_within" (topS 47) fW fdW) (bW : Binds K fdW ["one", "other"] []) (gW : mg "is_within" = some (.ref fW)) (GW : FnOk P w K mg base CX0 (k + 4) fW fdW ["one", "other"] (spWithin C)) :
    FnOk P w K mg base CX0 (k + 5) f fd ["self", "other"] (spCmp C fun t u => subB u t) := by
  refine F.ok sc_Crowds___ge__ (fun vs H Q E h => ?_) (fun cdv A outer s H vs Q E hr h => ?_)
  · obtain ⟨x, y, t, u, rfl, _⟩ := h
    rfl
  · obtain ⟨x, y, t, u, rfl, hx, hy, h2, q⟩ := h
    refine ⟨_, (pss_cons (ps_if (pt_not (pt_val (pe_callB (isiK (K := K) rfl) (by rfl) T.m_isinstance (by decide +kernel) (pa_cons (pv 1) (pa_cons (pe_glob (v := .ref C) (by rfl) L.mgC rfl) pa_nil))))) (pss_one ps_never) pss_nil)
  (pss_one (ps_ret (pe_call GW hr (by rfl) gW FW.kp bW .nil pass0 (pa_cons (pv 1) (pa_cons (pv 0) pa_nil)))))), ?_⟩
    refine ⟨_, rfl, _, _, _, _, _, rfl, .own C, hy.tyx L I, I.kOwn, _, rfl, ?_⟩
    exact iteF ⟨_, rfl, _, rfl, ⟨y, x, u, t, rfl, hy, hx, h2.symm, fun H1 s1 =>  q H1 s1⟩⟩
theorem sc_Crowds___gt__ : FnScope ["self", "other"] ["self", "other"] (defScope (inClass (topS 49) 15)) := ⟨rfl, rfl, rfl, by decide +kernel, rfl, by decide +kernel, by decide +kernel⟩
theorem ok_gt {f fW : Addr} {fd fdW : FuncData} {k : Nat} (F : Fun K "__gt__" "Crowds.__gt__" (inClass (topS 49) 15) f fd) (T : Bt mg) (L : CrC K mg C) (I : CrI K C)
    (FW : Fun K "is_within" "is_within" (topS 47) fW fdW) (bW : Binds K fdW ["one", "other"] []) (gW : mg "is_within" = some (.ref fW)) (GW : FnOk P w K mg base CX0 (k + 4) fW fdW ["one", "other"] (spWithin C)) :
    FnOk P w K mg base CX0 (k + 5) f fd ["self", "other"] (spCmp C fun t u => subB u t && !subB t u) := by
  refine F.ok sc_Crowds___gt__ (fun vs H Q E h => ?_) (fun cdv A outer s H vs Q E hr h => ?_)
  · obtain ⟨x, y, t, u, rfl, _⟩ := h
    rfl
  · obtain ⟨x, y, t, u, rfl, hx, hy, h2, q⟩ := h
    refine ⟨_, (pss_cons (ps_if (pt_not (pt_val (pe_callB (isiK (K := K) rfl) (by rfl) T.m_isinstance (by decide +kernel) (pa_cons (pv 1) (pa_cons (pe_glob (v := .ref C) (by rfl) L.mgC rfl) pa_nil))))) (pss_one ps_never) pss_nil)
  (pss_one (ps_ret (pe_and (pe_call GW hr (by rfl) gW FW.kp bW .nil pass0 (pa_cons (pv 1) (pa_cons (pv 0) pa_nil))) (pe_one (pe_not (pe_call GW hr (by rfl) gW FW.kp bW .nil pass0 (pa_cons (pv 0) (pa_cons (pv 1) pa_nil))))))))), ?_⟩
    refine ⟨_, rfl, _, _, _, _, _, rfl, .own C, hy.tyx L I, I.kOwn, _, rfl, ?_⟩
    refine iteF ⟨_, rfl, _, rfl, ⟨y, x, u, t, rfl, hy, hx, h2.symm, fun H1 s1 => ⟨_, rfl, ?_⟩⟩⟩
    cases hb : subB u t with
    | false =>
      have := q H1 s1
      dsimp only at this
      rw [hb] at this
      exact iteF this
    | true =>
      refine iteT ⟨_, rfl, _, rfl, ⟨x, y, t, u, rfl, hx.same s1, hy.same s1, h2, fun H2 s2 => ⟨_, rfl, ?_⟩⟩⟩
      have := q H2 (s1.trans s2)
      dsimp only at this
      rw [hb] at this
      exact this

end
end FH

set_option Elab.async false
set_option linter.all false
set_option maxRecDepth 100000
set_option maxHeartbeats 1000000
namespace FH
open PySem L2
local macro_rules | `(tactic| walk_at "seq") => `(tactic| first | assumption | exact SqL.of (by assumption) | exact SqT.of (by assumption) | exact SqL.of upd_same | exact SqT.of upd_same)
local macro_rules | `(tactic| walk_at "at") => `(tactic| first | exact atI_nat (j := 0) rfl | exact atI_nat (j := 1) rfl | exact atI_nat (j := 2) rfl | exact atI_nat (by assumption) | assumption)
local macro_rules | `(tactic| walk_at "ar") => `(tactic| first | omega | exact ⟨by omega, by omega⟩ | exact Or.inl ⟨by omega, by omega⟩ | exact Or.inr ⟨by omega, by omega⟩ | exact ⟨by decide, by decide⟩ | exact Or.inr ⟨by decide, by decide⟩ | exact Or.inl ⟨by decide, by decide⟩ | exact ⟨by decide, by decide, by omega⟩ | exact ⟨by decide, by decide, by decide⟩)
local macro_rules | `(tactic| walk_at "r") => `(tactic| repeat (first
  | refine ⟨_, rfl, ?_⟩
  | refine ⟨_, _, rfl, rfl, ?_⟩
  | refine ⟨_, _, _, _, rfl, rfl, by walk_at "seq", by walk_at "at", ?_⟩
  | refine ⟨_, _, _, _, rfl, rfl, by assumption, rfl, ?_⟩
  | refine ⟨_, _, rfl, Or.inl (by walk_at "seq"), ?_⟩
  | refine Or.inl ⟨_, rfl, ?_⟩
  | refine Or.inr ⟨_, rfl, ?_⟩
  | refine And.intro (by walk_at "ar") ?_))
/-! ### makers, called -/
theorem dv_kind {H : Hp} (m : Bool) : Dv H (.str (kindS m)) (.str (kindS m)) := .str _ (Nat.le_trans (kindS_len m) (by decide)) (show PyData.canLay0 (.str (kindS m)) = true by cases m <;> decide +kernel)
section
variable {K : PySem.W.Frag} {Y : Sy} {C CE : Addr} {H : Hp} {x dx : Addr} {R : Hp → Prop} {E : XK}
theorem made1_of {D : Addr} {u : Tl} (nx : H x = none) (ndx : H dx = none) (q : ∀ H', Same H H' → SayAt Y C H' u x → R H') : Made1 Y C x u (upd (upd H dx (.own x)) x (.ins D dx [])) (fun v H2 => v = .non ∧ R H2) := fun H' e h => ⟨rfl, q H' (made_same nx ndx e) h⟩
theorem mk_lst {m : Bool} {n : Nat} (nx : H x = none) (ndx : H dx = none) (q : ∀ H', Same H H' → SayAt Y C H' (.least m n) x → R H') : spYl Y C CE [.ref x, .str (kindS m), .int n] (upd (upd H dx (.own x)) x (.ins Y.lst dx [])) (fun v H2 => v = .non ∧ R H2) E :=
  ⟨x, dx, _, _, _, _, rfl, upd_same, dv_kind m, .int n, fun h => (by rw [isKind_kind] at h; cases h), fun _ h => (by
    have : decide ((0 : Int) ≤ (n : Int)) = false := h
    rw [decide_eq_true (by omega)] at this; cases this), fun m' n' e1 e2 => by
    cases (Int.ofNat.inj (PyData.int.inj e2))
    have e1 := PyData.str.inj e1
    have : m = m' := by cases m <;> cases m' <;> first | rfl | (exact absurd e1 (by decide))
    subst this
    exact made1_of nx ndx q⟩
theorem mk_rst {m : Bool} {r p : Nat} (hrp : r < p) (nx : H x = none) (ndx : H dx = none) (q : ∀ H', Same H H' → SayAt Y C H' (.rest m r p) x → R H') : spRst Y C CE [.ref x, .str (kindS m), .int r, .int p] (upd (upd H dx (.own x)) x (.ins Y.rst dx [])) (fun v H2 => v = .non ∧ R H2) E :=
  ⟨x, dx, _, _, _, _, _, _, rfl, upd_same, dv_kind m, .int r, .int p, fun h => (by rw [isKind_kind] at h; cases h), fun _ word h => (by
    have e1 : isPosD (.int (p : Int)) = true := show decide ((0 : Int) < (p : Int)) = true from decide_eq_true (by omega)
    have e2 : isNumD (.int (r : Int)) = true ∧ intD (.int (r : Int)) < intD (.int (p : Int)) := ⟨show decide ((0 : Int) ≤ (r : Int)) = true from decide_eq_true (by omega), by show (r : Int) < p; omega⟩
    unfold restR at h
    rw [if_pos e1, if_pos e2] at h; cases h), fun m' r' p' e1 e2 e3 _ => by
    cases (Int.ofNat.inj (PyData.int.inj e2))
    cases (Int.ofNat.inj (PyData.int.inj e3))
    have e1 := PyData.str.inj e1
    have : m = m' := by cases m <;> cases m' <;> first | rfl | (exact absurd e1 (by decide))
    subst this
    exact made1_of nx ndx q⟩
theorem mk_fct {z : Addr} {t : Tb} (hz : CrAt C H z t) (nx : H x = none) (ndx : H dx = none) (q : ∀ H', Same H H' → SayAt Y C H' (.fact t) x → R H') : spFct K Y C CE [.ref x, .ref z] (upd (upd H dx (.own x)) x (.ins Y.fct dx [])) (fun v H2 => v = .non ∧ R H2) E :=
  ⟨x, dx, _, rfl, upd_same, .inl ⟨z, t, rfl, hz.same (made_up nx ndx), made1_of nx ndx q⟩⟩
theorem mk_sur {m : Bool} (nx : H x = none) (ndx : H dx = none) (q : ∀ H', Same H H' → SayAt Y C H' (.sure m) x → R H') : spSur Y C CE [.ref x, .str (kindS m)] (upd (upd H dx (.own x)) x (.ins Y.sur dx [])) (fun v H2 => v = .non ∧ R H2) E :=
  ⟨x, dx, _, _, rfl, upd_same, dv_kind m, fun h => (by rw [isKind_kind] at h; cases h), fun m' e1 => by
    have e1 := PyData.str.inj e1
    have : m = m' := by cases m <;> cases m' <;> first | rfl | (exact absurd e1 (by decide))
    subst this
    exact made1_of nx ndx q⟩
theorem mk_sil (nx : H x = none) (ndx : H dx = none) (q : ∀ H', Same H H' → SayAt Y C H' .silent x → R H') : spSil Y C [.ref x] (upd (upd H dx (.own x)) x (.ins Y.sil dx [])) (fun v H2 => v = .non ∧ R H2) E :=
  ⟨x, dx, rfl, upd_same, made1_of nx ndx q⟩
theorem mk_kno {m : Bool} {a : Addr} {u : Tl} (ha : SayAt Y C H u a) (nx : H x = none) (ndx : H dx = none) (q : ∀ H', Same H H' → SayAt Y C H' (.knows m u) x → R H') : spKno K Y C CE [.ref x, .str (kindS m), .ref a] (upd (upd H dx (.own x)) x (.ins Y.kno dx [])) (fun v H2 => v = .non ∧ R H2) E :=
  ⟨x, dx, _, _, _, rfl, upd_same, dv_kind m, fun h => (by rw [isKind_kind] at h; cases h), fun m' e1 => by
    have e1 := PyData.str.inj e1
    have : m = m' := by cases m <;> cases m' <;> first | rfl | (exact absurd e1 (by decide))
    subst this
    exact .inl ⟨a, u, rfl, ha.same (made_up nx ndx), made1_of nx ndx q⟩⟩
theorem mk_com {a : Addr} {u : Tl} (ha : SayAt Y C H u a) (nx : H x = none) (ndx : H dx = none) (q : ∀ H', Same H H' → SayAt Y C H' (.common u) x → R H') : spCom K Y C CE [.ref x, .ref a] (upd (upd H dx (.own x)) x (.ins Y.com dx [])) (fun v H2 => v = .non ∧ R H2) E :=
  ⟨x, dx, _, rfl, upd_same, .inl ⟨a, u, rfl, ha.same (made_up nx ndx), made1_of nx ndx q⟩⟩
theorem mk_non {a : Addr} {u : Tl} (ha : SayAt Y C H u a) (nx : H x = none) (ndx : H dx = none) (q : ∀ H', Same H H' → SayAt Y C H' (.no u) x → R H') : spNon Y C [.ref x, .ref a] (upd (upd H dx (.own x)) x (.ins Y.non dx [])) (fun v H2 => v = .non ∧ R H2) E :=
  ⟨x, dx, a, u, rfl, upd_same, ha.same (made_up nx ndx), made1_of nx ndx q⟩
theorem mk_bth {a b : Addr} {s : Sgn} {u v : Tl} (nx : H x = none) (ndx : H dx = none) (ha : SayAt Y C H u a) (hb : SayAt Y C H v b) (q : ∀ H', Same H H' → SayAt Y C H' (.both s u v) x → R H') : spBth Y C [.ref x, .str s.str, .ref a, .ref b] (upd (upd H dx (.own x)) x (.ins Y.bth dx [])) (fun v H2 => v = .non ∧ R H2) E :=
  ⟨x, dx, a, b, s, u, v, rfl, upd_same, ha.same (made_up nx ndx), hb.same (made_up nx ndx), made1_of nx ndx q⟩
end
/-! ### methods of sayings -/
def spSStr (Y : Sy) (C : Addr) (d : Nat) : Sp := fun vs H Q _ => ∃ (a : Addr) (u : Tl), vs = [.ref a] ∧ SayAt Y C H u a ∧ u.Ok ∧ u.wt ≤ 1000 ∧ u.ht ≤ d ∧ ∀ H', Same H H' → Q (.str u.txt) H'
def spSEq (K : PySem.W.Frag) (Y : Sy) (C : Addr) (d : Nat) : Sp := fun vs H Q _ => ∃ (a : Addr) (u : Tl) (v : V), vs = [.ref a, v] ∧ SayAt Y C H u a ∧
  ((∃ (b : Addr) (z : Tl), v = .ref b ∧ SayAt Y C H z b ∧ u.Ok ∧ u.wt ≤ 1000 ∧ u.ht ≤ d ∧ z.Ok ∧ z.wt ≤ 1000 ∧ z.ht ≤ d ∧ ∀ H', Same H H' → Q (.bl (decide (u.txt = z.txt))) H') ∨ ∃ t, TyX K H v t ∧ PySem.W.kitOne K t (.ref Y.say) = some false ∧ Q (.bl false) H)
def spSInv (Y : Sy) (C : Addr) : Sp := fun vs H Q _ => ∃ (a : Addr) (u : Tl), vs = [.ref a] ∧ SayAt Y C H u a ∧ ∀ (x : Addr) (H' : Hp), Same H H' → SayAt Y C H' (.no u) x → Q (.ref x) H'
def spSBin (Y : Sy) (C : Addr) (s : Sgn) : Sp := fun vs H Q _ => ∃ (a b : Addr) (u v : Tl), vs = [.ref a, .ref b] ∧ SayAt Y C H u a ∧ SayAt Y C H v b ∧ ∀ (x : Addr) (H' : Hp), Same H H' → SayAt Y C H' (.both s u v) x → Q (.ref x) H'
section
variable {P : Program} {w : World} {K : PySem.W.Frag} {mg : Str → Option Value} {base : Heap} {C CE fE : Addr} {Y : Sy}
theorem ok_text {f fC : Addr} {fd fdC : FuncData} (F : Fun K "text_of" "text_of" (topS 54) f fd) (T : Bt mg) (bR : Binds K fd ["told"] []) (gR : mg "text_of" = some (.ref f))
    (GC : ∀ k, FnOk P w K mg base CX0 (k + 1) fC fdC ["self"] (spStr C)) (bC : Binds K fdC ["self"] []) (fC' : PySem.W.findIn K (.ref C) "__str__" = some (some (.ref fC))) (fC : PySem.W.isFn K (.ref fC) = true) :
    ∀ d k, FnOk P w K mg base CX0 (k + d + 4) f fd ["told"] (spText C d)
  | 0, k => text_step F T bR gR (GC k) bC fC' fC vacY
  | d + 1, k => text_step (k := k + d + 1) F T bR gR (GC _) bC fC' fC (ok_text F T bR gR GC bC fC' fC d k)
theorem sc_Saying___str__ : FnScope ["self"] ["self"] (defScope (inClass (topS 55) 9)) := ⟨rfl, rfl, rfl, by decide +kernel, rfl, by decide +kernel, by decide +kernel⟩
theorem ok_sstr {f fX : Addr} {fd fdX : FuncData} {k d : Nat} (F : Fun K "__str__" "Saying.__str__" (inClass (topS 55) 9) f fd) (T : Bt mg) (L : SyC K mg Y C) (FX : Fun K "text_of" "text_of" (topS 54) fX fdX) (bX : Binds K fdX ["told"] []) (gX : mg "text_of" = some (.ref fX))
    (GX : FnOk P w K mg base CX0 (k + 4) fX fdX ["told"] (spText C d)) : FnOk P w K mg base CX0 (k + 5) f fd ["self"] (spSStr Y C d) := by
  refine F.ok sc_Saying___str__ (fun vs H Q E h => ?_) (fun cdv A outer s H vs Q E hr h => ?_)
  · obtain ⟨a, u, rfl, _⟩ := h
    rfl
  · obtain ⟨a, u, rfl, ha, ok, hw, hd, q⟩ := h
    refine ⟨_, (pss_one (ps_ret (pe_callTy SkE.call_str_str (by rfl) T.m_str (by decide +kernel) (pa_cons (pe_call GX hr (by rfl) gX FX.kp bX .nil pass0 (pa_cons (fldK (K := K) rfl (pv 0)) pa_nil)) pa_nil)))), ?_⟩
    obtain ⟨dx, fs, t, h1, h2, h3⟩ := ha.ins
    have D := L.of u
    exact ⟨_, rfl, a, _, dx, fs, .ref t, rfl, h1, D.cl, D.nT, h2, t, u, rfl, h3, ok, hw, hd, fun H' s' => ⟨_, rfl, q H' s'⟩⟩
theorem sc_Saying___eq__ : FnScope ["self", "other"] ["self", "other"] (defScope (inClass (topS 55) 8)) := ⟨rfl, rfl, rfl, by decide +kernel, rfl, by decide +kernel, by decide +kernel⟩
theorem ok_seq {f fX : Addr} {fd fdX : FuncData} {k d : Nat} (F : Fun K "__eq__" "Saying.__eq__" (inClass (topS 55) 8) f fd) (T : Bt mg) (L : SyC K mg Y C) (FX : Fun K "text_of" "text_of" (topS 54) fX fdX) (bX : Binds K fdX ["told"] []) (gX : mg "text_of" = some (.ref fX))
    (GX : FnOk P w K mg base CX0 (k + 4) fX fdX ["told"] (spText C d)) : FnOk P w K mg base CX0 (k + 5) f fd ["self", "other"] (spSEq K Y C d) := by
  refine F.ok sc_Saying___eq__ (fun vs H Q E h => ?_) (fun cdv A outer s H vs Q E hr h => ?_)
  · obtain ⟨a, u, v, rfl, _⟩ := h
    rfl
  · obtain ⟨a, u, v, rfl, ha, h⟩ := h
    refine ⟨_, (pss_one (ps_ret (pe_and (pe_callB (isiK (K := K) rfl) (by rfl) T.m_isinstance (by decide +kernel) (pa_cons (pv 1) (pa_cons (pe_glob (v := .ref Y.say) (by rfl) L.mgS rfl) pa_nil))) (pe_one (pe_cmpR op_eq (pe_call GX hr (by rfl) gX FX.kp bX .nil pass0 (pa_cons (fldK (K := K) rfl (pv 0)) pa_nil)) (pe_call GX hr (by rfl) gX FX.kp bX .nil pass0 (pa_cons (fldK (K := K) rfl (pv 1)) pa_nil)) (nomark _)))))), ?_⟩
    rcases h with ⟨b, z, rfl, hb, ok, hw, hd, ok2, hw2, hd2, q⟩ | ⟨t, ty, kt, q⟩
    · obtain ⟨dx, fs, t, h1, h2, h3⟩ := ha.ins
      obtain ⟨dy, gs, t2, g1, g2, g3⟩ := hb.ins
      have D := L.of u
      have G := L.of z
      refine ⟨_, rfl, _, _, _, _, _, rfl, .own _, hb.tyx L, G.kS, _, rfl, iteT ?_⟩
      refine ⟨_, rfl, a, _, dx, fs, .ref t, rfl, h1, D.cl, D.nT, h2, t, u, rfl, h3, ok, hw, hd, fun H1 s1 => ?_⟩
      refine ⟨_, rfl, b, _, dy, gs, .ref t2, rfl, s1 _ _ g1, G.cl, G.nT, g2, t2, z, rfl, g3.same s1, ok2, hw2, hd2, fun H2 s2 => ⟨rfl, ?_⟩⟩
      rw [dStr]
      exact q H2 (s1.trans s2)
    · exact ⟨_, rfl, _, _, _, _, _, rfl, .own _, ty, kt, _, rfl, iteF q⟩
theorem sc_Saying___invert__ : FnScope ["self"] ["self"] (defScope (inClass (topS 55) 7)) := ⟨rfl, rfl, rfl, by decide +kernel, rfl, by decide +kernel, by decide +kernel⟩
theorem ok_sinv {f fN : Addr} {fd fdN : FuncData} {k : Nat} (F : Fun K "__invert__" "Saying.__invert__" (inClass (topS 55) 7) f fd) (gN : mg "Contrary" = some (.ref Y.non)) (MN : Mk K Y.non fN) (bN : Binds K fdN ["self", "saying"] [])
    (GN : FnOk P w K mg base CX0 (k + 3) fN fdN ["self", "saying"] (spNon Y C)) : FnOk P w K mg base CX0 (k + 5) f fd ["self"] (spSInv Y C) := by
  refine F.ok sc_Saying___invert__ (fun vs H Q E h => ?_) (fun cdv A outer s H vs Q E hr h => ?_)
  · obtain ⟨a, u, rfl, _⟩ := h
    rfl
  · obtain ⟨a, u, rfl, ha, q⟩ := h
    refine ⟨_, (pss_one (ps_ret (pe_make MN GN hr (by rfl) gN bN .nil pass0 (pa_cons (pv 0) pa_nil)))), ?_⟩
    exact ⟨_, rfl, fun x dx nx ndx nex => mk_non ha nx ndx fun H' s' h => q x H' s' h⟩
theorem sc_Saying___and__ : FnScope ["self", "other"] ["self", "other"] (defScope (inClass (topS 55) 3)) := ⟨rfl, rfl, rfl, by decide +kernel, rfl, by decide +kernel, by decide +kernel⟩
theorem ok_sand {f fB : Addr} {fd fdB : FuncData} {k : Nat} (F : Fun K "__and__" "Saying.__and__" (inClass (topS 55) 3) f fd) (T : Bt mg) (L : SyC K mg Y C) (gB : mg "Both" = some (.ref Y.bth)) (MB : Mk K Y.bth fB) (bB : Binds K fdB ["self", "sign", "one", "other"] [])
    (GB : FnOk P w K mg base CX0 (k + 3) fB fdB ["self", "sign", "one", "other"] (spBth Y C)) : FnOk P w K mg base CX0 (k + 5) f fd ["self", "other"] (spSBin Y C .and) := by
  refine F.ok sc_Saying___and__ (fun vs H Q E h => ?_) (fun cdv A outer s H vs Q E hr h => ?_)
  · obtain ⟨a, b, u, v, rfl, _⟩ := h
    rfl
  · obtain ⟨a, b, u, v, rfl, ha, hb, q⟩ := h
    refine ⟨_, (pss_cons (ps_if (pt_not (pt_val (pe_callB (isiK (K := K) rfl) (by rfl) T.m_isinstance (by decide +kernel) (pa_cons (pv 1) (pa_cons (pe_glob (v := .ref Y.say) (by rfl) L.mgS rfl) pa_nil))))) (pss_one ps_never) pss_nil)
  (pss_one (ps_ret (pe_make MB GB hr (by rfl) gB bB .nil pass0 (pa_cons pe_str (pa_cons (pv 0) (pa_cons (pv 1) pa_nil))))))), ?_⟩
    refine ⟨_, rfl, _, _, _, _, _, rfl, .own _, hb.tyx L, (L.of v).kS, _, rfl, iteF ⟨_, rfl, _, rfl, fun x dx nx ndx nex => ?_⟩⟩
    exact mk_bth (s := .and) nx ndx ha hb fun H' s' h => q x H' s' h
theorem sc_Saying___or__ : FnScope ["self", "other"] ["self", "other"] (defScope (inClass (topS 55) 4)) := ⟨rfl, rfl, rfl, by decide +kernel, rfl, by decide +kernel, by decide +kernel⟩
theorem ok_sor {f fB : Addr} {fd fdB : FuncData} {k : Nat} (F : Fun K "__or__" "Saying.__or__" (inClass (topS 55) 4) f fd) (T : Bt mg) (L : SyC K mg Y C) (gB : mg "Both" = some (.ref Y.bth)) (MB : Mk K Y.bth fB) (bB : Binds K fdB ["self", "sign", "one", "other"] [])
    (GB : FnOk P w K mg base CX0 (k + 3) fB fdB ["self", "sign", "one", "other"] (spBth Y C)) : FnOk P w K mg base CX0 (k + 5) f fd ["self", "other"] (spSBin Y C .or) := by
  refine F.ok sc_Saying___or__ (fun vs H Q E h => ?_) (fun cdv A outer s H vs Q E hr h => ?_)
  · obtain ⟨a, b, u, v, rfl, _⟩ := h
    rfl
  · obtain ⟨a, b, u, v, rfl, ha, hb, q⟩ := h
    refine ⟨_, (pss_cons (ps_if (pt_not (pt_val (pe_callB (isiK (K := K) rfl) (by rfl) T.m_isinstance (by decide +kernel) (pa_cons (pv 1) (pa_cons (pe_glob (v := .ref Y.say) (by rfl) L.mgS rfl) pa_nil))))) (pss_one ps_never) pss_nil)
  (pss_one (ps_ret (pe_make MB GB hr (by rfl) gB bB .nil pass0 (pa_cons pe_str (pa_cons (pv 0) (pa_cons (pv 1) pa_nil))))))), ?_⟩
    refine ⟨_, rfl, _, _, _, _, _, rfl, .own _, hb.tyx L, (L.of v).kS, _, rfl, iteF ⟨_, rfl, _, rfl, fun x dx nx ndx nex => ?_⟩⟩
    exact mk_bth (s := .or) nx ndx ha hb fun H' s' h => q x H' s' h
theorem sc_Saying___xor__ : FnScope ["self", "other"] ["self", "other"] (defScope (inClass (topS 55) 5)) := ⟨rfl, rfl, rfl, by decide +kernel, rfl, by decide +kernel, by decide +kernel⟩
theorem ok_sxor {f fB : Addr} {fd fdB : FuncData} {k : Nat} (F : Fun K "__xor__" "Saying.__xor__" (inClass (topS 55) 5) f fd) (T : Bt mg) (L : SyC K mg Y C) (gB : mg "Both" = some (.ref Y.bth)) (MB : Mk K Y.bth fB) (bB : Binds K fdB ["self", "sign", "one", "other"] [])
    (GB : FnOk P w K mg base CX0 (k + 3) fB fdB ["self", "sign", "one", "other"] (spBth Y C)) : FnOk P w K mg base CX0 (k + 5) f fd ["self", "other"] (spSBin Y C .xor) := by
  refine F.ok sc_Saying___xor__ (fun vs H Q E h => ?_) (fun cdv A outer s H vs Q E hr h => ?_)
  · obtain ⟨a, b, u, v, rfl, _⟩ := h
    rfl
  · obtain ⟨a, b, u, v, rfl, ha, hb, q⟩ := h
    refine ⟨_, (pss_cons (ps_if (pt_not (pt_val (pe_callB (isiK (K := K) rfl) (by rfl) T.m_isinstance (by decide +kernel) (pa_cons (pv 1) (pa_cons (pe_glob (v := .ref Y.say) (by rfl) L.mgS rfl) pa_nil))))) (pss_one ps_never) pss_nil)
  (pss_one (ps_ret (pe_make MB GB hr (by rfl) gB bB .nil pass0 (pa_cons pe_str (pa_cons (pv 0) (pa_cons (pv 1) pa_nil))))))), ?_⟩
    refine ⟨_, rfl, _, _, _, _, _, rfl, .own _, hb.tyx L, (L.of v).kS, _, rfl, iteF ⟨_, rfl, _, rfl, fun x dx nx ndx nex => ?_⟩⟩
    exact mk_bth (s := .xor) nx ndx ha hb fun H' s' h => q x H' s' h
theorem sc_Saying___sub__ : FnScope ["self", "other"] ["self", "other"] (defScope (inClass (topS 55) 6)) := ⟨rfl, rfl, rfl, by decide +kernel, rfl, by decide +kernel, by decide +kernel⟩
theorem ok_ssub {f fB : Addr} {fd fdB : FuncData} {k : Nat} (F : Fun K "__sub__" "Saying.__sub__" (inClass (topS 55) 6) f fd) (T : Bt mg) (L : SyC K mg Y C) (gB : mg "Both" = some (.ref Y.bth)) (MB : Mk K Y.bth fB) (bB : Binds K fdB ["self", "sign", "one", "other"] [])
    (GB : FnOk P w K mg base CX0 (k + 3) fB fdB ["self", "sign", "one", "other"] (spBth Y C)) : FnOk P w K mg base CX0 (k + 5) f fd ["self", "other"] (spSBin Y C .sub) := by
  refine F.ok sc_Saying___sub__ (fun vs H Q E h => ?_) (fun cdv A outer s H vs Q E hr h => ?_)
  · obtain ⟨a, b, u, v, rfl, _⟩ := h
    rfl
  · obtain ⟨a, b, u, v, rfl, ha, hb, q⟩ := h
    refine ⟨_, (pss_cons (ps_if (pt_not (pt_val (pe_callB (isiK (K := K) rfl) (by rfl) T.m_isinstance (by decide +kernel) (pa_cons (pv 1) (pa_cons (pe_glob (v := .ref Y.say) (by rfl) L.mgS rfl) pa_nil))))) (pss_one ps_never) pss_nil)
  (pss_one (ps_ret (pe_make MB GB hr (by rfl) gB bB .nil pass0 (pa_cons pe_str (pa_cons (pv 0) (pa_cons (pv 1) pa_nil))))))), ?_⟩
    refine ⟨_, rfl, _, _, _, _, _, rfl, .own _, hb.tyx L, (L.of v).kS, _, rfl, iteF ⟨_, rfl, _, rfl, fun x dx nx ndx nex => ?_⟩⟩
    exact mk_bth (s := .sub) nx ndx ha hb fun H' s' h => q x H' s' h

end
end FH

set_option Elab.async false
set_option linter.all false
set_option maxRecDepth 100000
set_option maxHeartbeats 1000000
namespace L2
open PySem PySem.Spec PyProof.Rows PySem.SeqAt
/-! t != (), t == () of a tuple of anything -/
section
variable {X : Cx}
def rNeT0 (K : PySem.W.Frag) (g : Bool → Bool) : R2 := fun x y H Q => ∃ a b xs, x = .ref a ∧ y = .ref b ∧ SqT K H a xs ∧ SqT K H b [] ∧ Q (.bl (g (decide (xs = [])))) H
theorem size0 {α : Type} {β : Type} {xs : List α} {ys : List β} (h : xs.length = ys.length) : ((List.range (min ys.toArray.size ([] : List Value).toArray.size)).all (fun _ => true) && ys.toArray.size == ([] : List Value).toArray.size) = decide (xs = []) := by
  cases xs with
  | nil =>
    cases ys with
    | nil => rfl
    | cons y r => cases h
  | cons x r =>
    cases ys with
    | nil => cases h
    | cons y r => simp
theorem op_neT0 (hu : X.A.units + 64 < cLine) : OpR X (compareOp .NotEq) (rNeT0 X.K not) := by
  intro pins s σ H x y v u Q I rx ry h
  obtain ⟨a, b, xs, rfl, rfl, ha, hb, q⟩ := h
  cases rx
  cases ry
  obtain ⟨its, r1, p1, _⟩ := I.tuple ha
  obtain ⟨its2, r2, p2, _⟩ := I.tuple hb
  cases r2
  refine RcNeAt.tuples (e := fun _ => true) p1 p2 (by omega) (fun j h1 h2 => absurd h2 (Nat.not_lt_zero _)) _ _ _ _ ?_
  rw [size0 r1.length]
  exact ⟨.bl _, H, I, rfl, q⟩
theorem op_eqT0 (hu : X.A.units + 64 < cLine) : OpR X (compareOp .Eq) (rNeT0 X.K id) := by
  intro pins s σ H x y v u Q I rx ry h
  obtain ⟨a, b, xs, rfl, rfl, ha, hb, q⟩ := h
  cases rx
  cases ry
  obtain ⟨its, r1, p1, _⟩ := I.tuple ha
  obtain ⟨its2, r2, p2, _⟩ := I.tuple hb
  cases r2
  refine RcAt.tuples (e := fun _ => true) p1 p2 (by omega) (fun j h1 h2 => absurd h2 (Nat.not_lt_zero _)) _ _ _ _ ?_
  rw [size0 r1.length]
  exact ⟨.bl _, H, I, rfl, q⟩
theorem neT0K {K : PySem.W.Frag} (h : X.K = K) (hu : X.A.units + 64 < cLine) : OpR X (compareOp .NotEq) (rNeT0 K not) := by subst h; exact op_neT0 hu
theorem eqT0K {K : PySem.W.Frag} (h : X.K = K) (hu : X.A.units + 64 < cLine) : OpR X (compareOp .Eq) (rNeT0 K id) := by subst h; exact op_eqT0 hu
end
end L2

set_option Elab.async false
set_option linter.all false
set_option maxRecDepth 100000
set_option maxHeartbeats 2000000
/-! a != b of lists and tuples whose things may have an own == -/
namespace GN
open PySem PySem.SeqAt GQ
open AutoSeq1 (wpAny_loadPart')
open MeetsSeq MeetsSeq2 MeetsSeq3 SeqRoads2
section
variable {prog : Program} {w : World} {A : Around} {R : Result → Shared → Prop}
theorem ne_loopE (l b : Addr) (its its2 : Array Value) (n n2 : Nat) (s : Shared) (h1 : s.heap.get? l = some { cls := .type "list", data := .seq its n }) (h2 : s.heap.get? b = some { cls := .type "list", data := .seq its2 n2 }) (z1 : its.size = 1) (z2 : its2.size = 1)
    (h : R (.ok (.ret (.bool false))) s) :
    wpAny (model prog w) A.in1 (Builtin.«list.__eq__.loop» ⟨[.ref l, .ref b, rawInt ((1 : Nat) : Int), rawInt 3], []⟩) (FinOf prog w A R) (fun e s' => R (.error e) s') s := by
  obtain ⟨hp, g, d, tk, os⟩ := s
  wp_walk using wpAny_loadPart' h1, wpAny_loadPart' h2
  have hi1 : its[((1 : Nat) : Int).toNat]? = none := by simp; omega
  have hi2 : its2[((1 : Nat) : Int).toNat]? = none := by simp; omega
  rw [hi1, hi2]
  wp_walk using wpAny_loadPart' h1, wpAny_loadPart' h2
  show R (.ok (.ret (.bool (its.size != its2.size)))) _
  rw [z1, z2]
  simpa using h
/-- the two lists of one thing each -/
def Two (l b : Addr) (x y : Value) (s : Shared) : Prop := ∃ (its its2 : Array Value) (n n2 : Nat), s.heap.get? l = some { cls := .type "list", data := .seq its n } ∧ s.heap.get? b = some { cls := .type "list", data := .seq its2 n2 } ∧ its.size = 1 ∧ its2.size = 1 ∧ its[0]? = some x ∧ its2[0]? = some y
theorem ne_loop1 (l b : Addr) (x y : Value) (s : Shared) (h0 : Two l b x y s)
    (he : wpAny (model prog w) A.in1 (eqBool x y) (fun r s' => Two l b x y s' ∧ R (.ok (.ret (.bool (!r)))) s') (fun e s' => R (.error e) s') s) :
    wpAny (model prog w) A.in1 (Builtin.«list.__eq__.loop» ⟨[.ref l, .ref b, rawInt ((0 : Nat) : Int), rawInt 3], []⟩) (FinOf prog w A R) (fun e s' => R (.error e) s') s := by
  obtain ⟨its, its2, n, n2, h1, h2, z1, z2, g1, g2⟩ := h0
  obtain ⟨hp, g, d, tk, os⟩ := s
  wp_walk using wpAny_loadPart' h1, wpAny_loadPart' h2
  have hi1 : its[((0 : Nat) : Int).toNat]? = some x := g1
  have hi2 : its2[((0 : Nat) : Int).toNat]? = some y := g2
  have hc : (((0 : Nat) : Int) + 1) = ((1 : Nat) : Int) := by omega
  rw [hi1, hi2]
  refine wpAny_bind (wpAny_mono he (fun r s2 q2 => ?_) fun _ _ x => x)
  obtain ⟨⟨jt, jt2, m, m2, k1, k2, y1, y2, f1, f2⟩, q⟩ := q2
  cases r with
  | true =>
    have hrec := ne_loopE (A := A) (R := R) (prog := prog) (w := w) l b jt jt2 m m2 s2 k1 k2 y1 y2 q
    obtain ⟨hp2, g2, d2, tk2, os2⟩ := s2
    wp_walk
    rw [hc]
    exact ⟨plainId_quiet plain_eq_loop _, codeAny_builtin entry_eq_loop (by
      rw [Around.under_plainId plain_eq_loop _]
      exact hrec)⟩
  | false =>
    obtain ⟨hp2, g2, d2, tk2, os2⟩ := s2
    have hj1 : jt[((0 : Nat) : Int).toNat]? = some x := f1
    have hj2 : jt2[((0 : Nat) : Int).toNat]? = some y := f2
    wp_walk using wpAny_loadPart' k1, wpAny_loadPart' k2
    rw [hj1, hj2]
    wp_walk
    simpa using q
theorem list_ne1 (l b : Addr) (x y : Value) (s : Shared) (h0 : Two l b x y s)
    (he : wpAny (model prog w) A.in1 (eqBool x y) (fun r s' => Two l b x y s' ∧ R (.ok (.ret (.bool (!r)))) s') (fun e s' => R (.error e) s') s) :
    wpAny (model prog w) A.in1 (Builtin.«list.__ne__» ⟨[.ref l, .ref b], []⟩) (FinOf prog w A R) (fun e s' => R (.error e) s') s := by
  have hrec := ne_loop1 (A := A) (R := R) (prog := prog) (w := w) l b x y s h0 he
  obtain ⟨its, its2, n, n2, h1, h2, z1, z2, g1, g2⟩ := h0
  obtain ⟨hp, g, d, tk, os⟩ := s
  have f3 := AutoSeq1.sub_list_list
  have hne : ¬ (its.size != its2.size) = true := by simp [z1, z2]
  wp_walk using wpAny_loadPart' h1, wpAny_loadPart' h2
  exact ⟨plainId_quiet plain_eq_loop _, codeAny_builtin entry_eq_loop (by
    rw [Around.under_plainId plain_eq_loop _]
    exact hrec)⟩
end
theorem rc_ne1 {prog : Program} {w : World} {A : Around} {E : Value → Shared → Prop} {s : Shared} {l b : Addr} {x y : Value} {Q : Value → Shared → Prop} (hu : A.units < cLine) (h0 : Two l b x y s)
    (he : wpAny (model prog w) A.in1 (eqBool x y) (fun r s' => Two l b x y s' ∧ Q (.bool (!r)) s') E s) :
    wpAny (model prog w) A (richCompare .NotEq (.ref l) (.ref b)) Q E s := by
  obtain ⟨its, its2, n, n2, h1, h2, _⟩ := id h0
  refine wpAny_richCompare_same_room (op := .NotEq) ⟨_, h1, rfl⟩ ⟨_, h2, rfl⟩ F.slot_list_ne (call_here F.slot_list_ne ⟨_, h1, rfl⟩ F.entry_list_ne (F.args_list_ne_2 _ _) ?_) hu
  exact list_ne1 (R := wants (fun v s' => v ≠ .notImplemented ∧ Q v s') E) l b x y s h0 (wpAny_mono he (fun r s' q => ⟨q.1, (fun x => nomatch x), q.2⟩) fun _ _ e => e)
end GN
namespace L2
open PySem PySem.Spec PyProof.Rows PySem.SeqAt
section
variable {X : Cx} {C f : Addr} {fd : FuncData} {ps : List Str} {n : Nat}
/-- a != b: what comes of it is said for each way; D is the class of the first one's only thing -/
def rNeS (K : PySem.W.Frag) (f : Addr) (sp : Sp) : R2 := fun x y H Q => ∃ a b, x = .ref a ∧ y = .ref b ∧
  ((∃ xs ys, SqL K H a xs ∧ SqL K H b ys ∧ xs.length ≠ ys.length ∧ Q (.bl true) H) ∨
   (∃ xs ys, SqT K H a xs ∧ SqT K H b ys ∧ xs = [] ∧ ys ≠ [] ∧ Q (.bl true) H) ∨
   (∃ xs ys, ((SqL K H a xs ∧ SqT K H b ys) ∨ (SqT K H a xs ∧ SqL K H b ys)) ∧ Q (.bl true) H) ∨
   (∃ xs, a = b ∧ (SqL K H a xs ∨ SqT K H a xs) ∧ Q (.bl false) H) ∨
   (∃ p q dx fs t D, p ≠ q ∧ H a = some (.lst [.ref p]) ∧ H b = some (.lst [.ref q]) ∧ H p = some (.ins D dx fs) ∧ TyX K H (.ref q) t ∧ PySem.W.notFirst K D t = true ∧ PySem.W.findIn K (.ref D) "__eq__" = some (some (.ref f)) ∧
      sp [.ref p, .ref q] H (fun z H' => ∃ r, z = .bl r ∧ H' a = some (.lst [.ref p]) ∧ H' b = some (.lst [.ref q]) ∧ Q (.bl (!r)) H') fun _ _ _ => False))
theorem op_neS {sp : Sp} {CX : CXT} (F : FnOk X.prog X.w X.K X.mg X.base CX n f fd ps sp) (hr : Room (n + 1) X.A) (hb : Binds X.K fd ps []) (hx : Passes CX X (fun _ _ _ => False)) (hf : PySem.W.isFn X.K (.ref f) = true) : OpR X (compareOp .NotEq) (rNeS X.K f sp) := by
  intro pins s σ H x y u v Q I rx ry h
  have hu : X.A.units < cLine := hr.units0
  obtain ⟨a, b, rfl, rfl, h⟩ := h
  cases rx
  cases ry
  rcases h with ⟨xs, ys, ha, hb', hne, q⟩ | ⟨xs, ys, ha, hb', rfl, hne, q⟩ | ⟨xs, ys, hk, q⟩ | ⟨xs, rfl, hk, q⟩ | ⟨p, q, dx, fs, t, D, hpq, ha, hb', hp, ty, nf, hs, hq⟩
  · obtain ⟨its, r1, p1, _⟩ := I.list ha
    obtain ⟨its2, r2, p2, _⟩ := I.list hb'
    have e1 := r1.length
    have e2 := r2.length
    refine RcNeAt.lists_lengths p1.isList p2.isList ?_ hu _ _ _ _ ⟨.bl true, H, I, rfl, q⟩
    simp [← e1, ← e2, hne]
  · obtain ⟨its, r1, p1, _⟩ := I.tuple ha
    obtain ⟨its2, r2, p2, _⟩ := I.tuple hb'
    cases r1
    refine RcNeAt.tuples (e := fun _ => true) p1 p2 hu (fun j h1 h2 => absurd h1 (Nat.not_lt_zero _)) _ _ _ _ ?_
    have : its2 ≠ [] := fun z => hne (by
      have := r2.length
      rw [z] at this
      exact List.eq_nil_of_length_eq_zero this)
    have e : (!((List.range (min ([] : List Value).toArray.size its2.toArray.size)).all (fun _ => true) && ([] : List Value).toArray.size == its2.toArray.size)) = true := by
      cases its2 with
      | nil => exact absurd rfl this
      | cons z r => simp
    rw [e]
    exact ⟨.bl true, H, I, rfl, q⟩
  · rcases hk with ⟨ha, hb'⟩ | ⟨ha, hb'⟩
    · obtain ⟨its, r1, p1, _⟩ := I.list ha
      obtain ⟨its2, r2, p2, _⟩ := I.tuple hb'
      exact RcNeAt.list_tuple p1.isList p2 hu _ _ _ _ ⟨.bl true, H, I, rfl, q⟩
    · obtain ⟨its, r1, p1, _⟩ := I.tuple ha
      obtain ⟨its2, r2, p2, _⟩ := I.list hb'
      exact RcNeAt.tuple_list p1 p2.isList hu _ _ _ _ ⟨.bl true, H, I, rfl, q⟩
  · rcases hk with ha | ha
    · obtain ⟨its, r1, p1, _⟩ := I.list ha
      refine RcNeAt.lists (e := fun _ => true) p1.isList p1.isList rfl hu (fun j h1 h2 => EqAt.same _) _ _ _ _ ?_
      have e : (!(List.range its.toArray.size).all (fun _ => true)) = false := by simp
      rw [e]
      exact ⟨.bl false, H, I, rfl, q⟩
    · obtain ⟨its, r1, p1, _⟩ := I.tuple ha
      refine RcNeAt.tuples (e := fun _ => true) p1 p1 hu (fun j h1 h2 => EqAt.same _) _ _ _ _ ?_
      have e : (!((List.range (min its.toArray.size its.toArray.size)).all (fun _ => true) && its.toArray.size == its.toArray.size)) = false := by simp
      rw [e]
      exact ⟨.bl false, H, I, rfl, q⟩
  · obtain ⟨z1, its, k, r, e⟩ := I.hok a _ ha
    obtain ⟨z2, its2, k2, r2, e2⟩ := I.hok b _ hb'
    cases r with
    | cons rp rn =>
    cases rn
    cases rp
    cases r2 with
    | cons rq rn =>
    cases rn
    cases rq
    have rq : RelV (V.ref q) (Value.ref q) := rfl
    refine GN.rc_ne1 hu ⟨_, _, k, k2, e, e2, rfl, rfl, rfl, rfl⟩ (GQ.eqBool_refG hpq ?_)
    obtain ⟨mA, J, _⟩ := ins_get I.hok hp
    obtain ⟨od, J, _⟩ := J.look
    obtain ⟨m, hF⟩ := I.fr
    refine PySem.W.cmp_K (op := .Eq) hr.in1.units0 hF I.ok.mod.kin J (TyX.look I rq ty) nf hs hf ?_
    refine wpAny_mono (run_own (A := X.A.in1) F hr.in1 rfl hb hx I rq hq) (fun z s' hz => ?_) fun _ _ e => e
    obtain ⟨z', H', I', rz, bb, rfl, ha', hb2, q'⟩ := hz
    cases rz
    obtain ⟨_, itsA, kA, rA, eA⟩ := I'.hok a _ ha'
    obtain ⟨_, itsB, kB, rB, eB⟩ := I'.hok b _ hb2
    cases rA with
    | cons rp rn =>
    cases rn
    cases rp
    cases rB with
    | cons rq rn =>
    cases rn
    cases rq
    exact ⟨bb, rfl, ⟨_, _, kA, kB, eA, eB, rfl, rfl, rfl, rfl⟩, .bl (!bb), H', I', rfl, q'⟩
theorem neSK {K : PySem.W.Frag} {sp : Sp} {CX : CXT} (h : X.K = K) (F : FnOk X.prog X.w X.K X.mg X.base CX n f fd ps sp) (hr : Room (n + 1) X.A) (hb : Binds X.K fd ps []) (hx : Passes CX X (fun _ _ _ => False)) (hf : PySem.W.isFn X.K (.ref f) = true) : OpR X (compareOp .NotEq) (rNeS K f sp) := by
  subst h
  exact op_neS F hr hb hx hf
end
end L2

set_option Elab.async false
set_option linter.all false
set_option maxRecDepth 100000
set_option maxHeartbeats 2000000
/-! C.f(x, ..): a def of a class, read off the class -/
namespace L2
open PySem PySem.Spec PyProof.Rows ClX
/-- C.m is a plain def of the class, at f -/
structure CFun (K : PySem.W.Frag) (C : Addr) (mc : Value) (m : Str) (f : Addr) : Prop where
  at_ : PySem.W.findCls K (.ref C) mc m = some (.val (.ref f))
  kp : PySem.W.keepIn K (.ref f) = true
def tCFun (C : Addr) (sp : Sp) (dvs : List V) (E : XK) (ta : TE) (t : TA) : TE := fun σ H Q => ta σ H fun x H1 => x = .ref C ∧ t σ H1 fun vs H2 => sp (vs ++ dvs) H2 Q E
section
variable {X : Cx} {CX : CXT} {k : Nat} {C f : Addr} {fd : FuncData} {ps : List Str} {ds : List Value} {dvs : List V} {mc : Value} {sp : Sp} {E : XK} {o e : Expr} {es : List Expr} {m : Str} {pos apos : Pos} {ta : TE} {t : TA} {pl : Sem Bool}
theorem pe_cfun (he : PE X o ta) (r : CRead X.K C mc) (c : CFun X.K C mc m f) (F : FnOk X.prog X.w X.K X.mg X.base CX k f fd ps sp) (hr : Room k X.A) (hb : Binds X.K fd ps ds) (hd : Vals dvs ds) (hx : Passes CX X E) (ha : PA X (e :: es) t)
    (hst : starEach (e :: es) X.env = (false, eval e X.env) :: starEach es X.env := by rfl) (hpl : (backTo pos (starEach es X.env)).any (·.1) = false := by rfl)
    (ht : eval (.Call (.Attribute o m apos) (e :: es) [] pos) X.env = (do
      let ov ← eval o X.env
      standAt apos.atName
      let (f, first) ← holding [ov] (getMethod ov m pl)
      callWith pos f first (backTo pos (starEach (e :: es) X.env)) (backToKw pos (keywordEach [] X.env))) := by rfl) :
    PE X (.Call (.Attribute o m apos) (e :: es) [] pos) (tCFun C sp dvs E ta t) := by
  refine ⟨fun pins s σ H Q I h => ?_⟩
  refine PySem.W.methodCall_KW (pl := pl) (thn (he.run pins s σ H _ I h) fun u s1 ⟨x, H1, I1, rx, ex, q⟩ => ?_) ht
  subst ex
  obtain rfl : u = Value.ref C := rx
  refine PySem.W.method_cls I1.kIn r.ga (getcval_ok (v := .ref f) (u := .ref f) I1 r ⟨c.at_, rfl⟩ fun s2 I2 => ?_)
  refine PySem.W.callWith_K (first := []) (h₀ := X.base) I.ok.mod.kin c.kp (thn (ha.run pos pins s2 σ H1 _ I2 q) fun us s3 ⟨vs, H2, I3, r3, q2⟩ => ⟨I3.kIn, ?_⟩) hst hpl
  exact run_fn F hr hb hd hx I3 r3 q2
end
end L2

set_option Elab.async false
set_option linter.all false
set_option maxRecDepth 100000
set_option maxHeartbeats 1000000
namespace FH
open PySem L2
/-! ### sayings as the law's own tuples tell them: a fact by any table -/
/-- the least tables in it -/
def Tl.lst : Tl → Tl
  | .fact t => .fact t.least
  | .knows m u => .knows m u.lst
  | .common u => .common u.lst
  | .no u => .no u.lst
  | .both s u v => .both s u.lst v.lst
  | u => u
/-- how often common knowledge is spoken of; how deep knowing stands -/
def Tl.cms : Tl → Nat
  | .knows _ u => u.cms
  | .common u => u.cms + 1
  | .no u => u.cms
  | .both _ u v => u.cms + v.cms
  | _ => 0
def Tl.dep : Tl → Nat
  | .sure _ => 1
  | .silent => 1
  | .knows _ u => u.dep + 1
  | .common u => u.dep + 1
  | .no u => u.dep
  | .both _ u v => max u.dep v.dep
  | _ => 0
/-- of the size that is drawn -/
def Tl.Wk : Tl → Prop
  | .least _ n => n ≤ 1000
  | .rest _ r p => r < p ∧ p ≤ 6
  | .fact t => t.Ok ∧ t.s0 ≤ 10 ∧ t.s1 ≤ 10 ∧ t.p0 ≤ 6 ∧ t.p1 ≤ 6
  | .sure _ => True
  | .silent => True
  | .knows _ u => u.Wk
  | .common u => u.Wk
  | .no u => u.Wk
  | .both _ u v => u.Wk ∧ v.Wk
theorem Tl.lst_ok : ∀ {u : Tl}, u.Wk → u.lst.Ok
  | .least _ n, h => show n < 1000000 from by have : n ≤ 1000 := h; omega
  | .rest _ r p, h => show r < 1000000 ∧ p < 1000000 ∧ 0 < p ∧ r < p from by have : r < p ∧ p ≤ 6 := h; omega
  | .fact t, h => by
    obtain ⟨O, a, b, c, d⟩ : t.Ok ∧ t.s0 ≤ 10 ∧ t.s1 ≤ 10 ∧ t.p0 ≤ 6 ∧ t.p1 ≤ 6 := h
    have h1 := O.f0_le
    have h2 := O.f1_le
    have h3 := O.b0_le
    have h4 := O.b1_le
    exact ⟨O.least, by show t.f0 ≤ 100; omega, by show t.f1 ≤ 100; omega, by show t.b0 ≤ 20; omega, by show t.b1 ≤ 20; omega⟩
  | .sure _, _ => trivial
  | .silent, _ => trivial
  | .knows _ u, h => Tl.lst_ok (u := u) h
  | .common u, h => Tl.lst_ok (u := u) h
  | .no u, h => Tl.lst_ok (u := u) h
  | .both _ u v, h => ⟨Tl.lst_ok (u := u) h.1, Tl.lst_ok (u := v) h.2⟩
theorem Tl.lst_ht : ∀ u : Tl, u.lst.ht = u.ht
  | .least _ _ => rfl | .rest _ _ _ => rfl | .fact _ => rfl | .sure _ => rfl | .silent => rfl
  | .knows _ u => by show u.lst.ht + 1 = u.ht + 1; rw [Tl.lst_ht u]
  | .common u => by show u.lst.ht + 1 = u.ht + 1; rw [Tl.lst_ht u]
  | .no u => by show u.lst.ht + 1 = u.ht + 1; rw [Tl.lst_ht u]
  | .both _ u v => by show max u.lst.ht v.lst.ht + 1 = max u.ht v.ht + 1; rw [Tl.lst_ht u, Tl.lst_ht v]
theorem Tl.lst_wt : ∀ u : Tl, u.lst.wt = u.wt
  | .least _ _ => rfl | .rest _ _ _ => rfl | .fact _ => rfl | .sure _ => rfl | .silent => rfl
  | .knows _ u => by show u.lst.wt + 1 = u.wt + 1; rw [Tl.lst_wt u]
  | .common u => by show u.lst.wt + 1 = u.wt + 1; rw [Tl.lst_wt u]
  | .no u => by show u.lst.wt + 1 = u.wt + 1; rw [Tl.lst_wt u]
  | .both _ u v => by show u.lst.wt + v.lst.wt + 1 = u.wt + v.wt + 1; rw [Tl.lst_wt u, Tl.lst_wt v]
theorem Tl.lst_cms : ∀ u : Tl, u.lst.cms = u.cms
  | .least _ _ => rfl | .rest _ _ _ => rfl | .fact _ => rfl | .sure _ => rfl | .silent => rfl
  | .knows _ u => Tl.lst_cms u
  | .common u => by show u.lst.cms + 1 = u.cms + 1; rw [Tl.lst_cms u]
  | .no u => Tl.lst_cms u
  | .both _ u v => by show u.lst.cms + v.lst.cms = u.cms + v.cms; rw [Tl.lst_cms u, Tl.lst_cms v]
theorem Tl.lst_dep : ∀ u : Tl, u.lst.dep = u.dep
  | .least _ _ => rfl | .rest _ _ _ => rfl | .fact _ => rfl | .sure _ => rfl | .silent => rfl
  | .knows _ u => by show u.lst.dep + 1 = u.dep + 1; rw [Tl.lst_dep u]
  | .common u => by show u.lst.dep + 1 = u.dep + 1; rw [Tl.lst_dep u]
  | .no u => Tl.lst_dep u
  | .both _ u v => by show max u.lst.dep v.lst.dep = max u.dep v.dep; rw [Tl.lst_dep u, Tl.lst_dep v]
/-- a table as three tuples -/
def TtAt (H : Hp) (t : Tb) (ts tp tr : Addr) : Prop := H ts = some (.tup [.int t.s0, .int t.s1]) ∧ H tp = some (.tup [.int t.p0, .int t.p1]) ∧ H tr = some (.tup (t.rows.map V.str))
/-- the law's own tuple stands at a -/
def WhAt (H : Hp) : Tl → Addr → Prop
  | .least m n, a => H a = some (.tup [.str "least", .str (kindS m), .int n])
  | .rest m r p, a => H a = some (.tup [.str "rest", .str (kindS m), .int r, .int p])
  | .fact t, a => ∃ ts tp tr, H a = some (.tup [.str "fact", .ref ts, .ref tp, .ref tr]) ∧ TtAt H t ts tp tr
  | .sure m, a => H a = some (.tup [.str "sure", .str (kindS m)])
  | .silent, a => H a = some (.tup [.str "silent"])
  | .knows m u, a => ∃ b, H a = some (.tup [.str "knows", .str (kindS m), .ref b]) ∧ WhAt H u b
  | .common u, a => ∃ b, H a = some (.tup [.str "common", .ref b]) ∧ WhAt H u b
  | .no u, a => ∃ b, H a = some (.tup [.str "not", .ref b]) ∧ WhAt H u b
  | .both s u v, a => ∃ b c, H a = some (.tup [.str s.str, .ref b, .ref c]) ∧ WhAt H u b ∧ WhAt H v c
theorem TtAt.kp {H H' : Hp} (e : Kp H H') {t : Tb} {ts tp tr : Addr} (h : TtAt H t ts tp tr) : TtAt H' t ts tp tr := ⟨e.tup h.1, e.tup h.2.1, e.tup h.2.2⟩
theorem WhAt.kp {H H' : Hp} (e : Kp H H') : ∀ {u : Tl} {a : Addr}, WhAt H u a → WhAt H' u a
  | .least _ _, _, h => e.tup h
  | .rest _ _ _, _, h => e.tup h
  | .fact _, _, ⟨ts, tp, tr, h, c⟩ => ⟨ts, tp, tr, e.tup h, c.kp e⟩
  | .sure _, _, h => e.tup h
  | .silent, _, h => e.tup h
  | .knows _ u, _, ⟨b, h, c⟩ => ⟨b, e.tup h, WhAt.kp e (u := u) c⟩
  | .common u, _, ⟨b, h, c⟩ => ⟨b, e.tup h, WhAt.kp e (u := u) c⟩
  | .no u, _, ⟨b, h, c⟩ => ⟨b, e.tup h, WhAt.kp e (u := u) c⟩
  | .both _ u v, _, ⟨b, c, h, d, f⟩ => ⟨b, c, e.tup h, WhAt.kp e (u := u) d, WhAt.kp e (u := v) f⟩
theorem WhAt.same {H H' : Hp} {u : Tl} {a : Addr} (s : Same H H') (h : WhAt H u a) : WhAt H' u a := h.kp (Kp.of s)
theorem Kp.xb {b : Addr} {H H' : Hp} (hb : BxAt H b) (x : Xb b H H') : Kp H H' := fun c o e n1 _ _ => x c o (fun z => by
  obtain ⟨_, z1⟩ := hb.list
  rw [z, z1] at e
  exact n1 _ (Option.some.inj e).symm) e
theorem Kp.xt {b l : Addr} {H H' : Hp} {xs ys : List V} (hb : H b = some (.lst xs)) (hl : H l = some (.lst ys)) (x : Xt b l H H') : Kp H H' := fun c o e n1 _ _ => x c o (fun z => by
  rw [z, hb] at e
  exact n1 _ (Option.some.inj e).symm) (fun z => by
  rw [z, hl] at e
  exact n1 _ (Option.some.inj e).symm) e
end FH

set_option Elab.async false
set_option linter.all false
set_option maxRecDepth 100000
set_option maxHeartbeats 1000000
namespace FH
open PySem L2
/-! ### rows of talks -/
inductive Rw where
  | say (u : Tl)
  | ask (u : Tl)
  | hands (u : Tl)
  | step
  | iff (u : Tl) (rs os : List Rw)
  | times (n : Nat) (rs : List Rw)
mutual
/-- the lines of a row, of rows -/
def Rw.lines : Rw → List Str
  | .say u => [Str.ofString "say " ++ u.txt]
  | .ask u => [Str.ofString "ask " ++ u.txt]
  | .hands u => [Str.ofString "hands " ++ u.txt]
  | .step => [Str.ofString "step"]
  | .iff u rs os => (Str.ofString "if " ++ u.txt) :: (linesR rs ++ ((if os.isEmpty = true then [] else Str.ofString "else" :: linesR os) ++ [Str.ofString "end"]))
  | .times n rs => (Str.ofString "times " ++ numS n) :: (linesR rs ++ [Str.ofString "end"])
def linesR : List Rw → List Str
  | [] => []
  | r :: rs => r.lines ++ linesR rs
end
mutual
/-- how many rows, with those within -/
def Rw.cnt : Rw → Nat
  | .iff _ rs os => cntR rs + cntR os + 1
  | .times _ rs => cntR rs + 1
  | _ => 1
def cntR : List Rw → Nat
  | [] => 0
  | r :: rs => r.cnt + cntR rs
end
mutual
/-- how deep blocks stand within blocks -/
def Rw.ht : Rw → Nat
  | .iff _ rs os => max (htR rs) (htR os) + 1
  | .times _ rs => htR rs + 1
  | _ => 0
def htR : List Rw → Nat
  | [] => 0
  | r :: rs => max r.ht (htR rs)
end
mutual
/-- sayings of some size, numbers that are written -/
def Rw.Ok : Rw → Prop
  | .say u => u.Ok ∧ u.wt ≤ 100 ∧ u.ht ≤ 5
  | .ask u => u.Ok ∧ u.wt ≤ 100 ∧ u.ht ≤ 5
  | .hands u => u.Ok ∧ u.wt ≤ 100 ∧ u.ht ≤ 5
  | .step => True
  | .iff u rs os => (u.Ok ∧ u.wt ≤ 100 ∧ u.ht ≤ 5) ∧ OkR rs ∧ OkR os
  | .times n rs => (1 ≤ n ∧ n ≤ 9) ∧ OkR rs
def OkR : List Rw → Prop
  | [] => True
  | r :: rs => r.Ok ∧ OkR rs
end
/-- the classes of rows -/
structure Rc where
  row : Addr
  say : Addr
  ask : Addr
  hnd : Addr
  stp : Addr
  iff : Addr
  tim : Addr
def Rc.all (R : Rc) : List Addr := [R.say, R.ask, R.hnd, R.stp, R.iff, R.tim]
theorem Rc.all6 {R : Rc} {p : Addr → Prop} (h1 : p R.say) (h2 : p R.ask) (h3 : p R.hnd) (h4 : p R.stp) (h5 : p R.iff) (h6 : p R.tim) : ∀ D ∈ R.all, p D := fun D hD => by
  simp only [Rc.all, List.mem_cons, List.not_mem_nil, or_false] at hD
  rcases hD with rfl | rfl | rfl | rfl | rfl | rfl <;> assumption
def Rw.cls (R : Rc) : Rw → Addr
  | .say _ => R.say | .ask _ => R.ask | .hands _ => R.hnd | .step => R.stp | .iff _ _ _ => R.iff | .times _ _ => R.tim
theorem Rw.cls_mem (R : Rc) (r : Rw) : r.cls R ∈ R.all := by cases r <;> simp [Rw.cls, Rc.all]
mutual
/-- a row stands at a -/
def RwAt (K : PySem.W.Frag) (Y : Sy) (C : Addr) (R : Rc) (H : Hp) : Rw → Addr → Prop
  | .say u, a => ∃ dx z ts, H a = some (.ins R.say dx [("saying", .ref z), ("word", .str "say"), ("script", .ref ts)]) ∧ SayAt Y C H u z ∧ H ts = some (.tup ((Rw.say u).lines.map V.str))
  | .ask u, a => ∃ dx z ts, H a = some (.ins R.ask dx [("saying", .ref z), ("word", .str "ask"), ("script", .ref ts)]) ∧ SayAt Y C H u z ∧ H ts = some (.tup ((Rw.ask u).lines.map V.str))
  | .hands u, a => ∃ dx z ts, H a = some (.ins R.hnd dx [("saying", .ref z), ("word", .str "hands"), ("script", .ref ts)]) ∧ SayAt Y C H u z ∧ H ts = some (.tup ((Rw.hands u).lines.map V.str))
  | .step, a => ∃ dx ts, H a = some (.ins R.stp dx [("word", .str "step"), ("script", .ref ts)]) ∧ H ts = some (.tup (Rw.step.lines.map V.str))
  | .iff u rs os, a => ∃ dx z tr to' ts as bs, H a = some (.ins R.iff dx [("saying", .ref z), ("rows", .ref tr), ("others", .ref to'), ("word", .str "if"), ("script", .ref ts)]) ∧ SayAt Y C H u z ∧ SqT K H tr (as.map V.ref) ∧ SqT K H to' (bs.map V.ref) ∧
      RwsAt K Y C R H rs as ∧ RwsAt K Y C R H os bs ∧ H ts = some (.tup ((Rw.iff u rs os).lines.map V.str))
  | .times n rs, a => ∃ dx tr ts as, H a = some (.ins R.tim dx [("many", .int n), ("rows", .ref tr), ("word", .str "times"), ("script", .ref ts)]) ∧ SqT K H tr (as.map V.ref) ∧ RwsAt K Y C R H rs as ∧ H ts = some (.tup ((Rw.times n rs).lines.map V.str))
def RwsAt (K : PySem.W.Frag) (Y : Sy) (C : Addr) (R : Rc) (H : Hp) : List Rw → List Addr → Prop
  | [], as => as = []
  | r :: rs, as => ∃ a as', as = a :: as' ∧ RwAt K Y C R H r a ∧ RwsAt K Y C R H rs as'
end
theorem SqT.kp {K : PySem.W.Frag} {H H' : Hp} {a : Addr} {xs : List V} (e : Kp H H') (h : SqT K H a xs) : SqT K H' a xs := by
  rcases h with (h | ⟨o, h⟩) | h
  · exact .inl (.inl (e.tup h))
  · exact .inl (.inr ⟨o, e _ _ h (fun _ z => by cases z) (fun _ z => by cases z) (fun _ z => by cases z)⟩)
  · exact .inr h
mutual
theorem RwAt.kp {K : PySem.W.Frag} {Y : Sy} {C : Addr} {R : Rc} {H H' : Hp} (e : Kp H H') : ∀ {r : Rw} {a : Addr}, RwAt K Y C R H r a → RwAt K Y C R H' r a
  | .say _, _, h => by
    unfold RwAt at h ⊢
    obtain ⟨dx, z, ts, h1, h2, h3⟩ := h
    exact ⟨dx, z, ts, e.ins h1, h2.kp e, e.tup h3⟩
  | .ask _, _, h => by
    unfold RwAt at h ⊢
    obtain ⟨dx, z, ts, h1, h2, h3⟩ := h
    exact ⟨dx, z, ts, e.ins h1, h2.kp e, e.tup h3⟩
  | .hands _, _, h => by
    unfold RwAt at h ⊢
    obtain ⟨dx, z, ts, h1, h2, h3⟩ := h
    exact ⟨dx, z, ts, e.ins h1, h2.kp e, e.tup h3⟩
  | .step, _, h => by
    unfold RwAt at h ⊢
    obtain ⟨dx, ts, h1, h3⟩ := h
    exact ⟨dx, ts, e.ins h1, e.tup h3⟩
  | .iff _ rs os, _, h => by
    unfold RwAt at h ⊢
    obtain ⟨dx, z, tr, to', ts, as, bs, h1, h2, h3, h4, h5, h6, h7⟩ := h
    exact ⟨dx, z, tr, to', ts, as, bs, e.ins h1, h2.kp e, SqT.kp e h3, SqT.kp e h4, RwsAt.kp e (rs := rs) h5, RwsAt.kp e (rs := os) h6, e.tup h7⟩
  | .times _ rs, _, h => by
    unfold RwAt at h ⊢
    obtain ⟨dx, tr, ts, as, h1, h3, h5, h7⟩ := h
    exact ⟨dx, tr, ts, as, e.ins h1, SqT.kp e h3, RwsAt.kp e (rs := rs) h5, e.tup h7⟩
theorem RwsAt.kp {K : PySem.W.Frag} {Y : Sy} {C : Addr} {R : Rc} {H H' : Hp} (e : Kp H H') : ∀ {rs : List Rw} {as : List Addr}, RwsAt K Y C R H rs as → RwsAt K Y C R H' rs as
  | [], _, h => by
    unfold RwsAt at h ⊢
    exact h
  | r :: rs, _, h => by
    unfold RwsAt at h ⊢
    obtain ⟨a, as', h1, h2, h3⟩ := h
    exact ⟨a, as', h1, RwAt.kp e (r := r) h2, RwsAt.kp e (rs := rs) h3⟩
end
section
variable {K : PySem.W.Frag} {mg : Str → Option Value} {Y : Sy} {C : Addr} {R : Rc} {H H' : Hp}
theorem RwAt.same {r : Rw} {a : Addr} (s : Same H H') (h : RwAt K Y C R H r a) : RwAt K Y C R H' r a := h.kp (Kp.of s)
theorem RwsAt.same {rs : List Rw} {as : List Addr} (s : Same H H') (h : RwsAt K Y C R H rs as) : RwsAt K Y C R H' rs as := h.kp (Kp.of s)
theorem RwsAt.len : ∀ {rs : List Rw} {as : List Addr}, RwsAt K Y C R H rs as → as.length = rs.length
  | [], as, h => by unfold RwsAt at h; rw [h]; rfl
  | r :: rs, as, h => by
    unfold RwsAt at h
    obtain ⟨a, as', rfl, _, h3⟩ := h
    show as'.length + 1 = rs.length + 1
    rw [RwsAt.len h3]
theorem RwsAt.get : ∀ {rs : List Rw} {as : List Addr}, RwsAt K Y C R H rs as → ∀ {i : Nat} {a : Addr}, as[i]? = some a → ∃ r, rs[i]? = some r ∧ RwAt K Y C R H r a
  | [], as, h, i, a, hi => by unfold RwsAt at h; rw [h] at hi; simp at hi
  | r :: rs, as, h, i, a, hi => by
    unfold RwsAt at h
    obtain ⟨a0, as', rfl, h2, h3⟩ := h
    cases i with
    | zero => cases hi; exact ⟨r, rfl, h2⟩
    | succ i => exact RwsAt.get h3 hi
theorem RwsAt.app : ∀ {rs : List Rw} {as : List Addr} {os : List Rw} {bs : List Addr}, RwsAt K Y C R H rs as → RwsAt K Y C R H os bs → RwsAt K Y C R H (rs ++ os) (as ++ bs)
  | [], as, os, bs, h, g => by unfold RwsAt at h; rw [h]; exact g
  | r :: rs, as, os, bs, h, g => by
    unfold RwsAt at h
    obtain ⟨a0, as', rfl, h2, h3⟩ := h
    show RwsAt K Y C R H (r :: (rs ++ os)) (a0 :: (as' ++ bs))
    unfold RwsAt
    exact ⟨a0, _, rfl, h2, RwsAt.app h3 g⟩
theorem RwsAt.one {r : Rw} {a : Addr} (h : RwAt K Y C R H r a) : RwsAt K Y C R H [r] [a] := by
  unfold RwsAt
  refine ⟨a, [], rfl, h, ?_⟩
  unfold RwsAt
  rfl
theorem RwsAt.nil : RwsAt K Y C R H [] [] := by unfold RwsAt; rfl
/-- its class and its script -/
theorem RwAt.ins {r : Rw} {a : Addr} (h : RwAt K Y C R H r a) : ∃ dx fs ts, H a = some (.ins (r.cls R) dx fs) ∧ fs.lookup (Str.ofString "script") = some (V.ref ts) ∧ H ts = some (.tup (r.lines.map V.str)) := by
  cases r with
  | say u => unfold RwAt at h; obtain ⟨dx, z, ts, h1, _, h3⟩ := h; exact ⟨dx, _, ts, h1, rfl, h3⟩
  | ask u => unfold RwAt at h; obtain ⟨dx, z, ts, h1, _, h3⟩ := h; exact ⟨dx, _, ts, h1, rfl, h3⟩
  | hands u => unfold RwAt at h; obtain ⟨dx, z, ts, h1, _, h3⟩ := h; exact ⟨dx, _, ts, h1, rfl, h3⟩
  | step => unfold RwAt at h; obtain ⟨dx, ts, h1, h3⟩ := h; exact ⟨dx, _, ts, h1, rfl, h3⟩
  | iff u rs os => unfold RwAt at h; obtain ⟨dx, z, tr, to', ts, as, bs, h1, _, _, _, _, _, h7⟩ := h; exact ⟨dx, _, ts, h1, rfl, h7⟩
  | times n rs => unfold RwAt at h; obtain ⟨dx, tr, ts, as, h1, _, _, h7⟩ := h; exact ⟨dx, _, ts, h1, rfl, h7⟩
/-- what each class of rows says; the methods stand in Row -/
structure RwD (K : PySem.W.Frag) (S D : Addr) : Prop where
  cl : Cls K D
  nS : NoAttr K D "saying"
  nW : NoAttr K D "word"
  nC : NoAttr K D "script"
  nR : NoAttr K D "rows"
  nO : NoAttr K D "others"
  nM : NoAttr K D "many"
  ha : PySem.W.findIn K (.ref D) "__class__" = some (some (.builtin "object.__class__"))
  hm : PySem.W.mroIn K D (.type "object") = some true
  kS : PySem.W.kitOne K (.ref D) (.ref S) = some true
structure RwC (K : PySem.W.Frag) (mg : Str → Option Value) (R : Rc) : Prop where
  d : ∀ D ∈ R.all, RwD K R.row D
  hn : PySem.W.specialIn K (.builtin "object.__class__") "__get__" = some (some (.builtin "getset_descriptor.__get__"))
  ht : PySem.W.takesIn K (.builtin "object.__class__") = some true
  mgR : mg "Row" = some (.ref R.row)
theorem RwC.of (L : RwC K mg R) (r : Rw) : RwD K R.row (r.cls R) := L.d _ (r.cls_mem R)
theorem RwC.tyD (L : RwC K mg R) {D a dx : Addr} {fs : List (Str × V)} {H : Hp} (hD : D ∈ R.all) (h : H a = some (.ins D dx fs)) : TyX K H (.ref a) (.ref D) := .base (.ins h (L.d D hD).cl (L.d D hD).ha L.hn L.ht (L.d D hD).hm)
theorem RwAt.tyx (L : RwC K mg R) {H : Hp} {r : Rw} {a : Addr} (h : RwAt K Y C R H r a) : TyX K H (.ref a) (.ref (r.cls R)) := by
  obtain ⟨dx, fs, ts, h1, _⟩ := h.ins
  exact L.tyD (r.cls_mem R) h1
end
end FH

set_option Elab.async false
set_option linter.all false
set_option maxRecDepth 100000
set_option maxHeartbeats 1000000
namespace L2
open PySem PySem.Spec PyProof.Rows
section
variable {X : Cx} {K : PySem.W.Frag} {CX : CXT} {k : Nat} {p g : Addr} {f : Str} {fd : FuncData} {ps : List Str} {sp : Sp} {e : Expr} {pos : Pos} {ta : TE}
theorem slTK (h : X.K = K) : SlR X (rSlT K) := by subst h; exact sl_tup
/-- e.f, a property, the class one of several -/
def tPropO (K : PySem.W.Frag) (f : Str) (p g : Addr) (sp : Sp) (ta : TE) : TE := fun σ H Q => ta σ H fun x H1 => ∃ a D dx fs, x = .ref a ∧ H1 a = some (.ins D dx fs) ∧ Cls K D ∧ PropOf K D f p g ∧ sp [.ref a] H1 Q E0
theorem pe_propO (h : X.K = K) (he : PE X e ta) (F : FnOk X.prog X.w X.K X.mg X.base CX0 k g fd ps sp) (hr : Room (k + 1) X.A) (hb : Binds X.K fd ps [])
    (hab : attributeBase e f X.env (eval e X.env) = eval e X.env := by rfl) : PE X (.Attribute e f pos) (tPropO K f p g sp ta) := by
  subst h
  refine ⟨fun pins s σ H Q I h => ?_⟩
  refine attr_of hab (thn (he.run pins s σ H _ I h) fun u s1 ⟨x, H1, I1, rx, a, D, dx, fs, ex, ea, c, hp, q⟩ => ?_)
  subst ex
  obtain rfl : u = Value.ref a := rx
  exact getprop_ok (dvs := []) (ds := []) I1 ea c hp F hr hb .nil pass0 q
end
theorem kit_self (K : PySem.W.Frag) (D : Addr) : PySem.W.kitOne K (.ref D) (.ref D) = some true := by
  unfold PySem.W.kitOne
  rw [if_pos (by simp)]
theorem nf_non (K : PySem.W.Frag) (D : Addr) : PySem.W.notFirst K D (.type "NoneType") = true := by
  have e : PySem.W.subIn K (.type "NoneType") (.ref D) = some false := by
    show (PySem.fastBuiltinMro "NoneType").map (·.contains (.ref D)) = some false
    rw [show PySem.fastBuiltinMro "NoneType" = some [.type "NoneType", .type "object"] by decide +kernel]
    rfl
  unfold PySem.W.notFirst
  rw [e]
  simp
theorem nf_int (K : PySem.W.Frag) (D : Addr) : PySem.W.notFirst K D (.type "int") = true := by
  have e : PySem.W.subIn K (.type "int") (.ref D) = some false := by
    show (PySem.fastBuiltinMro "int").map (·.contains (.ref D)) = some false
    rw [show PySem.fastBuiltinMro "int" = some [.type "int", .type "object"] by decide +kernel]
    rfl
  unfold PySem.W.notFirst
  rw [e]
  simp
theorem nf_str (K : PySem.W.Frag) (D : Addr) : PySem.W.notFirst K D (.type "str") = true := by
  have e : PySem.W.subIn K (.type "str") (.ref D) = some false := by
    show (PySem.fastBuiltinMro "str").map (·.contains (.ref D)) = some false
    rw [show PySem.fastBuiltinMro "str" = some [.type "str", .type "object"] by decide +kernel]
    rfl
  unfold PySem.W.notFirst
  rw [e]
  simp
theorem nf_tup (K : PySem.W.Frag) (D : Addr) : PySem.W.notFirst K D (.type "tuple") = true := by
  have e : PySem.W.subIn K (.type "tuple") (.ref D) = some false := by
    show (PySem.fastBuiltinMro "tuple").map (·.contains (.ref D)) = some false
    rw [show PySem.fastBuiltinMro "tuple" = some [.type "tuple", .type "object"] by decide +kernel]
    rfl
  unfold PySem.W.notFirst
  rw [e]
  simp
theorem nf_lst (K : PySem.W.Frag) (D : Addr) : PySem.W.notFirst K D (.type "list") = true := by
  have e : PySem.W.subIn K (.type "list") (.ref D) = some false := by
    show (PySem.fastBuiltinMro "list").map (·.contains (.ref D)) = some false
    rw [show PySem.fastBuiltinMro "list" = some [.type "list", .type "object"] by decide +kernel]
    rfl
  unfold PySem.W.notFirst
  rw [e]
  simp
theorem nf_bool (K : PySem.W.Frag) (D : Addr) : PySem.W.notFirst K D (.type "bool") = true := by
  have e : PySem.W.subIn K (.type "bool") (.ref D) = some false := by
    show (PySem.fastBuiltinMro "bool").map (·.contains (.ref D)) = some false
    rw [show PySem.fastBuiltinMro "bool" = some [.type "bool", .type "int", .type "object"] by decide +kernel]
    rfl
  unfold PySem.W.notFirst
  rw [e]
  simp
end L2

set_option Elab.async false
set_option linter.all false
set_option maxRecDepth 100000
set_option maxHeartbeats 2000000
/-! {x} in an f-string, x of an own class with a __str__ and no __format__ -/
namespace PySem.F
open PySem Builtin
theorem fmoEntry : entryFor table "object.__format__" = some Builtin.«object.__format__» := entryFor_of_tree (by kernel_rfl)
theorem fmoKind : builtinKind "object.__format__" = some .method := by decide +kernel
theorem fmoSplit : splitId "object.__format__" = some ("object", "__format__") := by decide +kernel
theorem fmoArgs (a b : Value) : argsOk "object.__format__" ⟨[a, b], []⟩ := by unfold argsOk; kernel_rfl
theorem fmoSlot : Slot "object" "__format__" "object.__format__" := .of (owner := "object") (n := "__format__") (by rw [typeLookup_type, builtinLookup_eq_fast]; kernel_rfl) (by decide +kernel) (by decide +kernel) (by decide +kernel)
    (by first | exact .inl (by decide +kernel) | exact .inr (by decide +kernel)) (by rw [isSubtype_type]; kernel_rfl)
end PySem.F
namespace PySem.W
open PySem PySem.Calls PyProof.Rows
theorem check_meth {M : Model} {A : Around} {E : Value → Shared → Prop} {s : Shared} {i owner n : String} {self : Value} {rest : List Value} {kw : List (Str × Value)} {Q : Unit → Shared → Prop}
    (hk : builtinKind i = some .method) (hs : splitId i = some (owner, n)) (hi : Looks M s.heap (isInstance self (.type owner)) true) (ha : argsOk i ⟨self :: rest, kw⟩) (q : Q () s) :
    wpAny M A (checkBuiltinCall i ⟨self :: rest, kw⟩) Q E s := by
  simp only [checkBuiltinCall, hk, hs]
  refine wpAny_bind (hi.here ?_)
  simp only [Bool.not_true, Bool.false_eq_true, if_false]
  cases hsig : Manifest.signature? i with
  | none => exact wpAny_pure q
  | some sig =>
    simp only [argsOk, hsig] at ha
    have h2 : Bind.checkArgs i sig ⟨self :: rest, kw⟩ = pure () := ha
    show wpAny M A (Bind.checkArgs i sig ⟨self :: rest, kw⟩) Q E s
    rw [h2]; exact wpAny_pure q
section
variable {prog : Program} {w : World} {A : Around} {E : Value → Shared → Prop} {s : Shared} {K : Frag} {x C f : Addr} {ox : Obj} {od : Option Obj}
theorem fo_strObj {Q : Value → Shared → Prop} (hu : A.units < cLine) (X : K.In s.heap) (I : InstAt s.heap x ox C od) (hs : findIn K (.ref C) "__str__" = some (some (.ref f))) (hf : isFn K (.ref f) = true)
    (h : wpAny (model prog w) A (call (.ref f) [.ref x]) (StrBack Q) E s) : wpAny (model prog w) A (pyStrObj (.ref x)) Q E s := by
  unfold pyStrObj
  dsimp only
  refine wpAny_bind (m := cRoomFor _ _) (wpAny_cRoomFor hu ?_)
  refine wpAny_bind (m := callSpecial? (.ref x) (Str.ofString "__str__")) (special_fn X I hs (beq_iff_eq.mp hf) (wpAny_mono h (fun r s' hr => ?_) fun _ _ y => y))
  cases r with
  | str y u =>
    exact wpAny_bind (wpAny_isInstance (typeIs_str _ _ _) isSubtype_str_str (wpAny_pure hr))
  | _ => exact hr.elim
theorem fo_fmt {Q : Value → Shared → Prop} (hu : A.units + 2 < cLine) (X : K.In s.heap) (I : InstAt s.heap x ox C od) (hm : findIn K (.ref C) "__format__" = some (some (.builtin "object.__format__"))) (hob : mroIn K C (.type "object") = some true)
    (hs : findIn K (.ref C) "__str__" = some (some (.ref f))) (hf : isFn K (.ref f) = true)
    (h : ∀ tk, wpAny (model prog w) A.in1 (call (.ref f) [.ref x]) (StrBack Q) E { s with toks := tk }) : wpAny (model prog w) A (formatField (.ref x) Str.empty) Q E s := by
  show wpAny _ _ (holding [.ref x] (pyFormat (.ref x) Str.empty)) Q E s
  refine wpAny_holding ?_
  unfold pyFormat
  refine wpAny_bind (wpAny_mkStr ?_ (by decide))
  obtain ⟨hp, g, d, tt, os⟩ := s
  have L0 : Looks (model prog w) hp (typeOf (.ref x)) (.ref C) := I.type
  have L1 : Looks (model prog w) hp (typeLookup (.ref C) "__format__") (some (.builtin "object.__format__")) := looks_findIn X hm
  have sub : Looks (model prog w) hp (isInstance (.ref x) (.type "object")) true := I.type.andThen (looks_mroIn X hob)
  refine wpAny_bind (m := callSpecial? (.ref x) (Str.ofString "__format__") [.str Str.empty tt]) (wpAny_bind (wpAny_bind (L0.at (L1.at (wpAny_holding (wpAny_bind (wpAny_of_eq (PySem.F.fmoSlot.bind (.ref x)) ?_)))))))
  refine wpAny_bind (wpAny_mono (Q := fun r s' => ∃ y u, r = .str y u ∧ Q r s') ?_ (fun r s' hr => ?_) fun _ _ y => y)
  · show wpAny _ _ (call (.builtin "object.__format__") [.ref x, .str Str.empty tt]) _ _ _
    refine wpAny_call (codeAny_call_builtin PySem.F.fmoSlot.plain PySem.F.fmoEntry ?_)
    refine @check_meth (model prog w) _ _ ⟨hp, g, d, tt + 1, os⟩ "object.__format__" "object" "__format__" (.ref x) [.str Str.empty tt] [] _ PySem.F.fmoKind PySem.F.fmoSplit sub (PySem.F.fmoArgs _ _) ?_
    unfold Builtin.«object.__format__»
    refine wpAny_bind (wpAny_of_eq (a := ((Value.ref x : Value), (Value.str Str.empty tt : Value))) (by first | rfl | kernel_rfl) ?_)
    dsimp only
    rw [show (Value.str Str.empty tt == Value.none) = false from rfl]
    simp only [Bool.false_eq_true, if_false]
    refine wpAny_bind (wpAny_typeNameOf (typeIs_str _ _ _) (h := fun n => ?_))
    refine wpAny_bind (m := asStr? (.str Str.empty tt)) (wpAny_pure ?_)
    dsimp only
    rw [if_neg (by decide)]
    refine wpAny_bind (wpAny_mono (fo_strObj (A := A.in1) (s := ⟨hp, g, d, tt + 1, os⟩) (Q := fun r s' => ∃ y u, r = .str y u ∧ Q r s') (by show A.units + 1 < cLine; omega) X I hs hf (wpAny_mono (h (tt + 1)) (fun r s' hr => ?_) fun _ _ y => y)) (fun r s' hr => wpAny_pure hr) fun _ _ y => y)
    cases r <;> first | exact hr.elim | exact ⟨_, _, rfl, hr⟩
  · obtain ⟨y, u, rfl, q⟩ := hr
    refine wpAny_pure ?_
    show wpAny _ _ (do if ← isInstance (.str y u) (.type "str") then return (.str y u) else _) Q E _
    exact wpAny_bind (wpAny_isInstance (typeIs_str _ _ _) isSubtype_str_str (wpAny_pure q))
end
end PySem.W
namespace L2
open PySem PySem.Spec PyProof.Rows
section
variable {X : Cx} {K : PySem.W.Frag} {f : Addr} {fd : FuncData} {ps : List Str} {n : Nat} {sp : Sp} {CX : CXT}
/-- {x} of an own object, by its class's __str__ at f -/
def tFmtO (K : PySem.W.Frag) (f : Addr) (sp : Sp) (te : TE) : TE := fun σ H Q => te σ H fun x H1 => ∃ (a D dx : Addr) (fs : List (Str × V)), x = .ref a ∧ H1 a = some (.ins D dx fs) ∧ PySem.W.findIn K (.ref D) "__str__" = some (some (.ref f)) ∧
  PySem.W.findIn K (.ref D) "__format__" = some (some (.builtin "object.__format__")) ∧ PySem.W.mroIn K D (.type "object") = some true ∧ sp [.ref a] H1 (fun z H' => ∃ x, z = .str x ∧ Q (.str x) H') fun _ _ _ => False
theorem pe_fmtO {e : Expr} {te : TE} {pos : Pos} (h : X.K = K) (he : PE X e te) (F : FnOk X.prog X.w X.K X.mg X.base CX n f fd ps sp) (hr : Room (n + 1) X.A) (hb : Binds X.K fd ps []) (hx : Passes CX X (fun _ _ _ => False)) (hf : PySem.W.isFn X.K (.ref f) = true) :
    PE X (.FormattedValue e (-1) none pos) (tFmtO K f sp te) := by
  subst h
  refine ⟨fun pins s σ H Q I h => ?_⟩
  refine wpAny_FormattedValue_plain (thn (he.run pins s σ H _ I h) fun v s1 hv => ?_)
  obtain ⟨x, H1, I1, r1, a, D, dx, fs, rfl, ha, hs, hm, hob, q⟩ := hv
  cases r1
  obtain ⟨mA, J, _⟩ := ins_get I1.hok ha
  obtain ⟨od, J, _⟩ := J.look
  have hun := hr.un
  refine PySem.W.fo_fmt (by omega) I1.kIn J hm hob hs hf fun tk => ?_
  refine wpAny_mono (run_ownL (A := X.A.in1) F hr.in1 rfl hb hx (I1.tok tk) (.cons (rref _) .nil) q) (fun z s' hz => ?_) fun _ _ e => e
  obtain ⟨z', H', I', rz, x, rfl, q'⟩ := hz
  obtain ⟨t, rfl⟩ := rz
  exact ⟨.str x, H', I', ⟨t, rfl⟩, q'⟩
end
end L2

set_option Elab.async false
set_option linter.all false
set_option maxRecDepth 100000
set_option maxHeartbeats 1000000
namespace FH
open PySem L2
local macro_rules | `(tactic| walk_at "seq") => `(tactic| first | assumption | exact SqL.of (by assumption) | exact SqT.of (by assumption) | exact SqL.of upd_same | exact SqT.of upd_same)
local macro_rules | `(tactic| walk_at "at") => `(tactic| first | exact atI_nat (j := 0) rfl | exact atI_nat (j := 1) rfl | exact atI_nat (j := 2) rfl | exact atI_nat (by assumption) | assumption)
local macro_rules | `(tactic| walk_at "ar") => `(tactic| first | omega | exact ⟨by omega, by omega⟩ | exact Or.inl ⟨by omega, by omega⟩ | exact Or.inr ⟨by omega, by omega⟩ | exact ⟨by decide, by decide⟩ | exact Or.inr ⟨by decide, by decide⟩ | exact Or.inl ⟨by decide, by decide⟩ | exact ⟨by decide, by decide, by omega⟩ | exact ⟨by decide, by decide, by decide⟩)
local macro_rules | `(tactic| walk_at "r") => `(tactic| repeat (first
  | refine ⟨_, rfl, ?_⟩
  | refine ⟨_, _, rfl, rfl, ?_⟩
  | refine ⟨_, _, _, _, rfl, rfl, by walk_at "seq", by walk_at "at", ?_⟩
  | refine ⟨_, _, _, _, rfl, rfl, by assumption, rfl, ?_⟩
  | refine ⟨_, _, rfl, Or.inl (by walk_at "seq"), ?_⟩
  | refine Or.inl ⟨_, rfl, ?_⟩
  | refine Or.inr ⟨_, rfl, ?_⟩
  | refine And.intro (by walk_at "ar") ?_))
/-! ### rows are made -/
theorem sq_tyx {K : PySem.W.Frag} {H : Hp} {p : Addr} {xs : List V} (h : SqL K H p xs ∨ SqT K H p xs) : ∃ t, TyX K H (.ref p) t ∧ PySem.W.kitAny K t [.type "list", .type "tuple"] = some true := by
  have kl : PySem.W.kitAny K (.type "list") [.type "list", .type "tuple"] = some true := by
    have h1 : PySem.W.kitOne K (.type "list") (.type "list") = some true := kit_ty (a := "list") (b := "list") (r := true) (by decide +kernel)
    show (match PySem.W.kitOne K (.type "list") (.type "list") with | some true => some true | some false => (match PySem.W.kitOne K (.type "list") (.type "tuple") with | some true => some true | some false => some false | none => none) | none => none) = _
    rw [h1]
  have kt : PySem.W.kitAny K (.type "tuple") [.type "list", .type "tuple"] = some true := by
    have h1 : PySem.W.kitOne K (.type "tuple") (.type "list") = some false := kit_ty (a := "tuple") (b := "list") (r := false) (by decide +kernel)
    have h2 : PySem.W.kitOne K (.type "tuple") (.type "tuple") = some true := kit_ty (a := "tuple") (b := "tuple") (r := true) (by decide +kernel)
    show (match PySem.W.kitOne K (.type "tuple") (.type "list") with | some true => some true | some false => (match PySem.W.kitOne K (.type "tuple") (.type "tuple") with | some true => some true | some false => some false | none => none) | none => none) = _
    rw [h1, h2]
  rcases h with ((h | ⟨o, h⟩) | h) | ((h | ⟨o, h⟩) | h)
  · exact ⟨_, .base (.lst h), kl⟩
  · exact ⟨_, .base (.frz h), kl⟩
  · obtain ⟨o, _, _, h1, h2, _⟩ := h
    exact ⟨_, .kList h1 h2, kl⟩
  · exact ⟨_, .base (.tup h), kt⟩
  · exact ⟨_, .fTuple h, kt⟩
  · obtain ⟨o, _, _, h1, h2, _⟩ := h
    exact ⟨_, .kTuple h1 h2, kt⟩
theorem take_bl {bs : List Bool} {i : Nat} {b : Bool} (h : bs[i]? = some b) : (bs.take (i + 1)).map V.bl = (bs.take i).map V.bl ++ [V.bl b] := by
  obtain ⟨h1, h2⟩ := List.getElem?_eq_some_iff.mp h
  rw [List.take_succ_eq_append_getElem h1, List.map_append, h2]; rfl
theorem linesR_app : ∀ rs os : List Rw, linesR (rs ++ os) = linesR rs ++ linesR os
  | [], os => by unfold linesR; rfl
  | r :: rs, os => by
    show r.lines ++ linesR (rs ++ os) = (r.lines ++ linesR rs) ++ linesR os
    rw [linesR_app rs os, List.append_assoc]
theorem linesR_one (r : Rw) : linesR [r] = r.lines := by
  show r.lines ++ linesR [] = r.lines
  have : linesR [] = [] := by unfold linesR; rfl
  rw [this, List.append_nil]
theorem linesR_take {rs : List Rw} {i : Nat} {r : Rw} (h : rs[i]? = some r) : linesR (rs.take (i + 1)) = linesR (rs.take i) ++ r.lines := by
  obtain ⟨h1, h2⟩ := List.getElem?_eq_some_iff.mp h
  rw [List.take_succ_eq_append_getElem h1, linesR_app, h2, linesR_one]
def spNeedS (K : PySem.W.Frag) (Y : Sy) (C CT : Addr) : Sp := fun vs H Q E => ∃ v, vs = [v] ∧ ((∃ (a : Addr) (u : Tl), v = .ref a ∧ SayAt Y C H u a ∧ Q .non H) ∨ ∃ t, TyX K H v t ∧ PySem.W.kitOne K t (.ref Y.say) = some false ∧ Ref1 CT "saying" H E)
/-- what is asked of rows: a list or a tuple, of rows or not -/
def spNeedR (K : PySem.W.Frag) (R : Rc) (CT : Addr) : Sp := fun vs H Q E => ∃ v, vs = [v] ∧
  ((∃ (p : Addr) (xs : List V) (bs : List Bool), v = .ref p ∧ (SqL K H p xs ∨ SqT K H p xs) ∧ xs.length ≤ 1000 ∧ bs.length = xs.length ∧ (∀ (i : Nat) (x : V) (b : Bool), xs[i]? = some x → bs[i]? = some b → ∃ t, (∀ H', Same H H' → TyX K H' x t) ∧ PySem.W.kitOne K t (.ref R.row) = some b) ∧
    (bs.all id = true → ∀ q H', Same H H' → SqT K H' q xs → Q (.ref q) H') ∧ (bs.all id = false → Ref1 CT "rows" H E)) ∨
  (∃ t, (∀ H', Same H H' → TyX K H' v t) ∧ PySem.W.kitAny K t [.type "list", .type "tuple"] = some false ∧ Ref1 CT "rows" H E))
def spLinesOf (K : PySem.W.Frag) (Y : Sy) (C : Addr) (R : Rc) : Sp := fun vs H Q _ => ∃ (t : Addr) (as : List Addr) (rs : List Rw), vs = [.ref t] ∧ SqT K H t (as.map V.ref) ∧ RwsAt K Y C R H rs as ∧ (linesR rs).length ≤ 100000 ∧
  ∀ l H', Same H H' → H' l = some (.lst ((linesR rs).map V.str)) → Q (.ref l) H'
def spRowI (K : PySem.W.Frag) : Sp := fun vs H Q _ => ∃ (x dx D l : Addr) (fs : List (Str × V)) (wd : Str) (ls : List Str), vs = [.ref x, .str wd, .ref l] ∧ H x = some (.ins D dx fs) ∧ Cls K D ∧ NoAttr K D "word" ∧ NoAttr K D "script" ∧ fs.length ≤ 10 ∧ H l = some (.lst (ls.map V.str)) ∧
  ∀ (ts : Addr) (H' : Hp), (∀ b o, b ≠ x → H b = some o → H' b = some o) → H' x = some (.ins D dx (putF "script" (.ref ts) (putF "word" (.str wd) fs))) → H' ts = some (.tup (ls.map V.str)) → Q .non H'
theorem putF_len (f : Str) (v : V) : ∀ fs : List (Str × V), (putF f v fs).length ≤ fs.length + 1
  | [] => Nat.le_refl _
  | (g, x) :: r => by
    unfold putF
    split
    · exact Nat.le_succ _
    · have := putF_len f v r
      show (putF f v r).length + 1 ≤ r.length + 1 + 1
      omega
section
variable {P : Program} {w : World} {K : PySem.W.Frag} {mg : Str → Option Value} {base : Heap} {C CT fE : Addr} {Y : Sy} {R : Rc} {mc : Value}
theorem sc_need_saying : FnScope ["value"] ["value"] (defScope (topS 91)) := ⟨rfl, rfl, rfl, by decide +kernel, rfl, by decide +kernel, by decide +kernel⟩
theorem ok_needS {f : Addr} {fd : FuncData} {k : Nat} (F : Fun K "need_saying" "need_saying" (topS 91) f fd) (T : Bt mg) (L : SyC K mg Y C) (XE : PySem.ErrX.ErrTxt P K mg "InvalidTalk" CT fE) : FnOk P w K mg base (L2.CX P w) (k + 1) f fd ["value"] (spNeedS K Y C CT) := by
  refine F.okX sc_need_saying (fun vs H Q E h => ?_) (fun cdv A outer s H vs Q E hr h => ?_)
  · obtain ⟨v, rfl, _⟩ := h
    rfl
  · obtain ⟨v, rfl, h⟩ := h
    refine ⟨_, (pss_one (ps_if (PT.nox (pt_not (pt_val (pe_callB (isiK (K := K) rfl) (by rfl) T.m_isinstance (by decide +kernel) (pa_cons (pv 0) (pa_cons (pe_glob (v := .ref Y.say) (by rfl) L.mgS rfl) pa_nil)))))) (pss_one (ps_raiseErr rfl XE hr (takes_of rfl rfl rfl rfl) (pa_cons pe_str pa_nil) (by rfl))) pss_nil)), ?_⟩
    rcases h with ⟨a, u, rfl, hs, q⟩ | ⟨t, ty, kt, no⟩
    · exact ⟨_, rfl, _, _, _, _, _, rfl, .own _, hs.tyx L, (L.of u).kS, _, rfl, iteF q⟩
    · exact ⟨_, rfl, _, _, _, _, _, rfl, .own _, ty, kt, _, rfl, iteT ⟨_, rfl, no.now⟩⟩
theorem sc_need_rows : FnScope ["value", "row"] ["value"] (defScope (topS 92)) := ⟨rfl, rfl, rfl, by decide +kernel, rfl, by decide +kernel, by decide +kernel⟩
theorem ok_needR {f : Addr} {fd : FuncData} {k : Nat} (F : Fun K "need_rows" "need_rows" (topS 92) f fd) (T : Bt mg) (LR : RwC K mg R) (XE : PySem.ErrX.ErrTxt P K mg "InvalidTalk" CT fE) : FnOk P w K mg base (L2.CX P w) (k + 1) f fd ["value"] (spNeedR K R CT) := by
  refine F.okX sc_need_rows (fun vs H Q E h => ?_) (fun cdv A outer s H vs Q E hr h => ?_)
  · obtain ⟨v, rfl, _⟩ := h
    rfl
  · obtain ⟨v, rfl, h⟩ := h
    refine ⟨_, (pss_cons (ps_if (PT.nox (PW.pt (pw_or (pt_not (pt_val (pe_callB (isiTK (K := K) rfl) (by rfl) T.m_isinstance (by decide +kernel) (pa_cons (pv 0) (pa_cons (pe_tup (pa_cons (pe_bltn (v := .ty "list") (by rfl) T.m_list (by decide +kernel) rfl) (pa_cons (pe_bltn (v := .ty "tuple") (by rfl) T.m_tuple (by decide +kernel) rfl) pa_nil))) pa_nil))))) (pw_or1 (pt_not (pt_val (pe_callB (allK (K := K) rfl rfl) (by rfl) T.m_all (by decide +kernel) (pa_cons (pe_lc (own := [("row", 1)]) (g := (gName 1)) (tt := tYes) rfl sc_need_rows.nd (piSK (K := K) rfl (pv 0)) (blkOk_by (own := [("row", 1)]) (N := ["value", "row"]) (sc := defScope (topS 92)) (by decide +kernel)) (fun _ _ _ _ _ => (pg_name (i := 1) sc_need_rows.nd rfl (by first | exact Or.inl rfl | exact Or.inr rfl))) (fun _ _ _ _ _ => pts_nil) (fun _ _ _ _ _ => (pe_callB (isiK (K := K) rfl) (by rfl) T.m_isinstance (by decide +kernel) (pa_cons (pv 1) (pa_cons (pe_glob (v := .ref R.row) (by rfl) LR.mgR rfl) pa_nil))))) pa_nil)))))))) (pss_one (ps_raiseErr rfl XE hr (takes_of rfl rfl rfl rfl) (pa_cons pe_str pa_nil) (by rfl))) pss_nil)
  (pss_one (ps_ret (PE.nox (pe_callTy (tupK (K := K) rfl) (by rfl) T.m_tuple (by decide +kernel) (pa_cons (pv 0) pa_nil)))))), ?_⟩
    have zz : sizeLine = 16777216 := rfl
    rcases h with ⟨p, xs, bs, rfl, hpq, hxs, hbl, hcl, yes, no⟩ | ⟨t, ty, kt, no⟩
    · obtain ⟨t0, ty0, kt0⟩ := sq_tyx hpq
      refine ⟨_, rfl, by show 2 ≤ sizeLine; decide, fun p1 n1 => ?_⟩
      obtain ⟨H1, e1, sp, g1⟩ := new_ex n1 (.tup [.ty "list", .ty "tuple"])
      rw [e1]
      have ty1 : ∃ t, TyX K H1 (.ref p) t ∧ PySem.W.kitAny K t [.type "list", .type "tuple"] = some true := sq_tyx (hpq.imp (fun h => sp.seq h) fun h => sp.seqT h)
      obtain ⟨t1, ty1, kt1⟩ := ty1
      refine ⟨.ref p, p1, _, _, _, _, rfl, g1, .cons (.ty _) (.cons (.ty _) .nil), ty1, kt1, _, rfl, iteF ?_⟩
      have hpq2 := hpq
      rcases hpq2 with hq | hq
      · refine ⟨_, rfl, p, xs, rfl, .inl ⟨sp.seq hq, fun D nD => lc_list (Pv := fun i Hc => Same H1 Hc ∧ Hc D = some (.lst ((bs.take i).map V.bl))) ⟨same_new nD, upd_same⟩ (fun i Hc _ h => (sp.trans h.1).seq hq) (fun i x Hc hx h => ?_) (fun Hc h => ?_)⟩⟩
        · obtain ⟨s5, hD⟩ := h
          have hi : i < bs.length := by rw [hbl]; exact (List.getElem?_eq_some_iff.mp hx).1
          have hb : bs[i]? = some bs[i] := List.getElem?_eq_getElem hi
          obtain ⟨t, ty, kt⟩ := hcl i x _ hx hb
          refine ⟨rfl, _, rfl, _, _, _, _, _, rfl, .own _, ty _ (sp.trans s5), kt, _, hD, by rw [List.length_map, List.length_take]; omega, fun c o e => ?_, ?_⟩
          · rw [upd_ne (ne_of_none e nD)]; exact s5 _ _ e
          · rw [upd_same, take_bl hb]
        · obtain ⟨s5, hD⟩ := h
          rw [← hbl, List.take_length] at hD
          refine ⟨D, bs, rfl, SqL.of hD, _, rfl, ?_⟩
          cases hall : bs.all id with
          | true =>
            refine iteF ⟨_, rfl, p, xs, rfl, ?_⟩
            have S5 := sp.trans s5
            rcases hpq with hp | hp
            · exact .inl ⟨S5.seq hp, fun l nl => yes hall l _ (S5.trans (same_new nl)) (SqT.of upd_same)⟩
            · exact .inr ⟨S5.seqT hp, yes hall p _ S5 (S5.seqT hp)⟩
          | false => exact iteT ⟨_, rfl, ((no hall).after (sp.trans s5)).now⟩
      · refine ⟨_, rfl, p, xs, rfl, .inr ⟨sp.seqT hq, fun D nD => lc_tup (Pv := fun i Hc => Same H1 Hc ∧ Hc D = some (.lst ((bs.take i).map V.bl))) ⟨same_new nD, upd_same⟩ (fun i Hc _ h => (sp.trans h.1).seqT hq) (fun i x Hc hx h => ?_) (fun Hc h => ?_)⟩⟩
        · obtain ⟨s5, hD⟩ := h
          have hi : i < bs.length := by rw [hbl]; exact (List.getElem?_eq_some_iff.mp hx).1
          have hb : bs[i]? = some bs[i] := List.getElem?_eq_getElem hi
          obtain ⟨t, ty, kt⟩ := hcl i x _ hx hb
          refine ⟨rfl, _, rfl, _, _, _, _, _, rfl, .own _, ty _ (sp.trans s5), kt, _, hD, by rw [List.length_map, List.length_take]; omega, fun c o e => ?_, ?_⟩
          · rw [upd_ne (ne_of_none e nD)]; exact s5 _ _ e
          · rw [upd_same, take_bl hb]
        · obtain ⟨s5, hD⟩ := h
          rw [← hbl, List.take_length] at hD
          refine ⟨D, bs, rfl, SqL.of hD, _, rfl, ?_⟩
          cases hall : bs.all id with
          | true =>
            refine iteF ⟨_, rfl, p, xs, rfl, ?_⟩
            have S5 := sp.trans s5
            rcases hpq with hp | hp
            · exact .inl ⟨S5.seq hp, fun l nl => yes hall l _ (S5.trans (same_new nl)) (SqT.of upd_same)⟩
            · exact .inr ⟨S5.seqT hp, yes hall p _ S5 (S5.seqT hp)⟩
          | false => exact iteT ⟨_, rfl, ((no hall).after (sp.trans s5)).now⟩
    · refine ⟨_, rfl, by show 2 ≤ sizeLine; decide, fun p1 n1 => ?_⟩
      obtain ⟨H1, e1, sp, g1⟩ := new_ex n1 (.tup [.ty "list", .ty "tuple"])
      rw [e1]
      exact ⟨v, p1, _, _, _, _, rfl, g1, .cons (.ty _) (.cons (.ty _) .nil), ty _ sp, kt, _, rfl, iteT (iteT ⟨_, rfl, (no.after sp).now⟩)⟩
theorem sc_lines_of : FnScope ["rows", "row", "line"] ["rows"] (defScope (topS 93)) := ⟨rfl, rfl, rfl, by decide +kernel, rfl, by decide +kernel, by decide +kernel⟩
theorem ok_linesOf {f : Addr} {fd : FuncData} {k : Nat} (F : Fun K "lines_of" "lines_of" (topS 93) f fd) (T : Bt mg) (LR : RwC K mg R) : FnOk P w K mg base CX0 (k + 1) f fd ["rows"] (spLinesOf K Y C R) := by
  refine F.ok sc_lines_of (fun vs H Q E h => ?_) (fun cdv A outer s H vs Q E hr h => ?_)
  · obtain ⟨t, as, rs, rfl, _⟩ := h
    rfl
  · obtain ⟨t, as, rs, rfl, ht, hrs, hl, q⟩ := h
    refine ⟨_, (pss_one (ps_ret (pe_lc2 (own := [("row", 1), ("line", 2)]) (vs1 := [2]) (g := (gName 1)) (g1 := (gName 2)) (tt := tYes) (tt1 := tYes) rfl sc_lines_of.nd (piSK (K := K) rfl (pv 0)) (blkOk_by (own := [("row", 1), ("line", 2)]) (N := ["rows", "row", "line"]) (sc := defScope (topS 93)) (by decide +kernel)) (by decide) (fun _ _ _ _ _ => (pg_name (i := 1) sc_lines_of.nd rfl (by first | exact Or.inl rfl | exact Or.inr rfl))) (fun _ _ _ _ _ => pts_nil) (fun _ _ _ _ _ => (piSK (K := K) rfl (fldK (K := K) rfl (pv 1)))) (fun _ _ _ _ _ => (pg_name (i := 2) sc_lines_of.nd rfl (by first | exact Or.inl rfl | exact Or.inr rfl))) (fun _ _ _ _ _ => pts_nil) (fun _ _ _ _ _ => (pv 2))))), ?_⟩
    have zz : sizeLine = 16777216 := rfl
    have hlen := hrs.len
    refine ⟨_, rfl, t, _, rfl, .inr ⟨ht, fun D nD => ?_⟩⟩
    refine ⟨fun i m Hc => m = as.length - i ∧ i ≤ as.length ∧ Same H Hc ∧ Hc D = some (.lst ((linesR (rs.take i)).map V.str)), ⟨as.length, rfl, Nat.zero_le _, same_new nD, (by rw [upd_same]; have : linesR [] = [] := (by unfold linesR; rfl); rw [List.take_zero, this]; rfl)⟩, fun i m Hc hW => ?_⟩
    obtain ⟨rfl, hi, sc, hD⟩ := hW
    by_cases hlt : i < as.length
    · have ha : as[i]? = some as[i] := List.getElem?_eq_getElem hlt
      obtain ⟨r, hr', hat⟩ := hrs.get ha
      have hx : (as.map V.ref)[i]? = some (.ref as[i]) := by rw [List.getElem?_map, ha]; rfl
      refine .inr ⟨⟨_, _, sc.seqT ht, hx⟩, fun H' => (as.length - (i + 1) = as.length - (i + 1)) ∧ i + 1 ≤ as.length ∧ Same H H' ∧ H' D = some (.lst ((linesR (rs.take (i + 1))).map V.str)), fun H' h => ⟨as.length - (i + 1), by omega, h.1, h.2.1, h.2.2.1, h.2.2.2⟩, fun xv H' hy => ?_⟩
      obtain ⟨rfl, hy⟩ := hy
      have := hy _ (sc.seqT ht)
      rw [hx] at this
      cases this
      have hac := hat.same sc
      obtain ⟨dx, fs, ts, h1, h2, h3⟩ := hac.ins
      have hll : (linesR (rs.take i)).length + r.lines.length ≤ (linesR rs).length := by
        have e := linesR_app (rs.take (i + 1)) (rs.drop (i + 1))
        rw [List.take_append_drop, linesR_take hr'] at e
        rw [e, List.length_append, List.length_append]
        omega
      refine ⟨rfl, ?_⟩
      refine ⟨_, rfl, as[i], _, dx, fs, .ref ts, rfl, h1, (LR.of r).cl, (LR.of r).nC, h2, ts, _, rfl, .inr ⟨SqT.of h3, ?_⟩⟩
      refine ⟨fun j m Hc2 => m = r.lines.length - j ∧ j ≤ r.lines.length ∧ Same H Hc2 ∧ Hc2 ts = some (.tup (r.lines.map V.str)) ∧ Hc2 D = some (.lst ((linesR (rs.take i) ++ r.lines.take j).map V.str)), ⟨r.lines.length, rfl, Nat.zero_le _, sc, h3, by rw [List.take_zero, List.append_nil]; exact hD⟩, fun j m Hc2 hW2 => ?_⟩
      obtain ⟨rfl, hj, sc2, ht2, hD2⟩ := hW2
      by_cases hlt2 : j < r.lines.length
      · have hb : r.lines[j]? = some r.lines[j] := List.getElem?_eq_getElem hlt2
        have hx2 : (r.lines.map V.str)[j]? = some (.str r.lines[j]) := by rw [List.getElem?_map, hb]; rfl
        refine .inr ⟨⟨_, _, SqT.of ht2, hx2⟩, fun H' => (r.lines.length - (j + 1) = r.lines.length - (j + 1)) ∧ j + 1 ≤ r.lines.length ∧ Same H H' ∧ H' ts = some (.tup (r.lines.map V.str)) ∧ H' D = some (.lst ((linesR (rs.take i) ++ r.lines.take (j + 1)).map V.str)), fun H' h => ⟨r.lines.length - (j + 1), by omega, h.1, h.2.1, h.2.2.1, h.2.2.2.1, h.2.2.2.2⟩, fun xv2 H2 hy2 => ?_⟩
        obtain ⟨rfl, hy2⟩ := hy2
        have := hy2 _ (SqT.of ht2)
        rw [hx2] at this
        cases this
        have ntD : ts ≠ D := fun z => by rw [z, hD2] at ht2; cases ht2
        refine ⟨rfl, _, rfl, _, hD2, by rw [List.length_map, List.length_append, List.length_take]; omega, rfl, hlt2, fun c o e => ?_, ?_, ?_⟩
        · rw [upd_ne (ne_of_none e nD)]; exact sc2 _ _ e
        · rw [upd_ne ntD]; exact ht2
        · rw [upd_same, List.take_succ_eq_append_getElem hlt2, ← List.append_assoc, List.map_append (l₂ := [r.lines[j]])]
          rfl
      · refine .inl ⟨⟨_, SqT.of ht2, by rw [List.length_map]; omega⟩, rfl, hlt, sc2, ?_⟩
        rw [hD2, linesR_take hr', List.take_of_length_le (l := r.lines) (by omega)]
    · refine .inl ⟨⟨_, sc.seqT ht, by rw [List.length_map]; omega⟩, q D _ sc ?_⟩
      rw [hD, List.take_of_length_le (by omega)]
theorem sc_Row___init__ : FnScope ["self", "word", "script"] ["self", "word", "script"] (defScope (inClass (topS 95) 0)) := ⟨rfl, rfl, rfl, by decide +kernel, rfl, by decide +kernel, by decide +kernel⟩
theorem ok_rowI {f : Addr} {fd : FuncData} {k : Nat} (F : Fun K "__init__" "Row.__init__" (inClass (topS 95) 0) f fd) (T : Bt mg) : FnOk P w K mg base CX0 (k + 1) f fd ["self", "word", "script"] (spRowI K) := by
  refine F.ok sc_Row___init__ (fun vs H Q E h => ?_) (fun cdv A outer s H vs Q E hr h => ?_)
  · obtain ⟨x, dx, D, l, fs, wd, ls, rfl, _⟩ := h
    rfl
  · obtain ⟨x, dx, D, l, fs, wd, ls, rfl, hx, cl, nW, nS, hf, hl, q⟩ := h
    refine ⟨_, (pss_cons (ps_fld (pv 0) (pv 1) rfl)
  (pss_one (ps_fld (pv 0) (pe_callTy (tupK (K := K) rfl) (by rfl) T.m_tuple (by decide +kernel) (pa_cons (pv 2) pa_nil)) rfl))), ?_⟩
    have nlx : l ≠ x := fun z => by rw [z, hx] at hl; cases hl
    refine ⟨_, rfl, _, rfl, x, D, dx, fs, rfl, hx, cl, nW, by omega, ?_⟩
    obtain ⟨H1, e1⟩ : ∃ H1, upd H x (.ins D dx (putF "word" (.str wd) fs)) = H1 := ⟨_, rfl⟩
    rw [e1]
    have hx1 : H1 x = some (.ins D dx (putF "word" (.str wd) fs)) := by rw [← e1, upd_same]
    have hl1 : H1 l = some (.lst (ls.map V.str)) := by rw [← e1, upd_ne nlx]; exact hl
    have k1 : ∀ b o, b ≠ x → H b = some o → H1 b = some o := fun b o n e => by rw [← e1, upd_ne n]; exact e
    refine ⟨_, rfl, l, _, rfl, .inl ⟨SqL.of hl1, fun ts nts => ?_⟩⟩
    obtain ⟨H2, e2, s2, g2⟩ := new_ex nts (.tup (ls.map V.str))
    rw [e2]
    have ntx : ts ≠ x := fun z => by rw [z, hx1] at nts; cases nts
    have hln := putF_len "word" (.str wd) fs
    refine ⟨_, rfl, x, D, dx, _, rfl, s2 _ _ hx1, cl, nS, by omega, ?_⟩
    exact q ts _ (fun b o n e => by rw [upd_ne n]; exact s2 _ _ (k1 b o n e)) upd_same (by rw [upd_ne ntx]; exact g2)
end
end FH

set_option Elab.async false
set_option linter.all false
set_option maxRecDepth 100000
set_option maxHeartbeats 1000000
namespace FH
open PySem L2
local macro_rules | `(tactic| walk_at "seq") => `(tactic| first | assumption | exact SqL.of (by assumption) | exact SqT.of (by assumption) | exact SqL.of upd_same | exact SqT.of upd_same)
local macro_rules | `(tactic| walk_at "at") => `(tactic| first | exact atI_nat (j := 0) rfl | exact atI_nat (j := 1) rfl | exact atI_nat (j := 2) rfl | exact atI_nat (by assumption) | assumption)
local macro_rules | `(tactic| walk_at "ar") => `(tactic| first | omega | exact ⟨by omega, by omega⟩ | exact Or.inl ⟨by omega, by omega⟩ | exact Or.inr ⟨by omega, by omega⟩ | exact ⟨by decide, by decide⟩ | exact Or.inr ⟨by decide, by decide⟩ | exact Or.inl ⟨by decide, by decide⟩ | exact ⟨by decide, by decide, by omega⟩ | exact ⟨by decide, by decide, by decide⟩)
local macro_rules | `(tactic| walk_at "r") => `(tactic| repeat (first
  | refine ⟨_, rfl, ?_⟩
  | refine ⟨_, _, rfl, rfl, ?_⟩
  | refine ⟨_, _, _, _, rfl, rfl, by walk_at "seq", by walk_at "at", ?_⟩
  | refine ⟨_, _, _, _, rfl, rfl, by assumption, rfl, ?_⟩
  | refine ⟨_, _, rfl, Or.inl (by walk_at "seq"), ?_⟩
  | refine Or.inl ⟨_, rfl, ?_⟩
  | refine Or.inr ⟨_, rfl, ?_⟩
  | refine And.intro (by walk_at "ar") ?_))
/-! ### the makers of rows -/
/-- the classes of sayings answer str() by Saying's -/
structure SaF (K : PySem.W.Frag) (Y : Sy) (fS : Addr) : Prop where
  s : ∀ D ∈ Y.all, PySem.W.findIn K (.ref D) "__str__" = some (some (.ref fS))
  f : ∀ D ∈ Y.all, PySem.W.findIn K (.ref D) "__format__" = some (some (.builtin "object.__format__"))
  n : PySem.W.isFn K (.ref fS) = true
def SmT (u : Tl) : Prop := u.Ok ∧ u.wt ≤ 100 ∧ u.ht ≤ 5
/-- a maker of a saying: of a saying, or refused; x is new behind H0 -/
def spSay1 (K : PySem.W.Frag) (Y : Sy) (C CT : Addr) (R : Rc) (D : Addr) (mk : Tl → Rw) : Sp := fun vs H Q E => ∃ (H0 : Hp) (x dx : Addr) (v : V), vs = [.ref x, v] ∧ H0 x = none ∧ Same H0 H ∧ H x = some (.ins D dx []) ∧
  ((∃ (a : Addr) (u : Tl), v = .ref a ∧ SayAt Y C H0 u a ∧ SmT u ∧ ∀ H', Same H0 H' → RwAt K Y C R H' (mk u) x → Q .non H') ∨ ∃ t, TyX K H v t ∧ PySem.W.kitOne K t (.ref Y.say) = some false ∧ Ref1 CT "saying" H E)
def spStp (K : PySem.W.Frag) (Y : Sy) (C : Addr) (R : Rc) : Sp := fun vs H Q _ => ∃ (H0 : Hp) (x dx : Addr), vs = [.ref x] ∧ H0 x = none ∧ Same H0 H ∧ H x = some (.ins R.stp dx []) ∧ ∀ H', Same H0 H' → RwAt K Y C R H' .step x → Q .non H'
/-- rows passed: they stand at p, or what is passed is refused -/
def GoodR (K : PySem.W.Frag) (Y : Sy) (C : Addr) (R : Rc) (H : Hp) (r : V) (rs : List Rw) : Prop := ∃ (p : Addr) (as : List Addr), r = .ref p ∧ (SqL K H p (as.map V.ref) ∨ SqT K H p (as.map V.ref)) ∧ as.length ≤ 1000 ∧ RwsAt K Y C R H rs as ∧ (linesR rs).length ≤ 40000
def BadR (K : PySem.W.Frag) (R : Rc) (H : Hp) (r : V) : Prop :=
  (∃ (p : Addr) (xs : List V) (bs : List Bool), r = .ref p ∧ (SqL K H p xs ∨ SqT K H p xs) ∧ xs.length ≤ 1000 ∧ bs.length = xs.length ∧ (∀ (i : Nat) (x : V) (b : Bool), xs[i]? = some x → bs[i]? = some b → ∃ t, (∀ H', Same H H' → TyX K H' x t) ∧ PySem.W.kitOne K t (.ref R.row) = some b) ∧ bs.all id = false) ∨
  (∃ t, (∀ H', Same H H' → TyX K H' r t) ∧ PySem.W.kitAny K t [.type "list", .type "tuple"] = some false)
theorem BadR.need {K : PySem.W.Frag} {R : Rc} {CT : Addr} {H0 H : Hp} {r : V} {Q : VK} {E : XK} (h : BadR K R H0 r) (s : Same H0 H) (no : Ref1 CT "rows" H E) : spNeedR K R CT [r] H Q E := by
  rcases h with ⟨p, xs, bs, e, hp, hl, hb, hc, ha⟩ | ⟨t, ty, kt⟩
  · exact ⟨r, rfl, .inl ⟨p, xs, bs, e, hp.imp (fun h => s.seq h) (fun h => s.seqT h), hl, hb, fun i x b hx hi => by
      obtain ⟨t, ty, kt⟩ := hc i x b hx hi
      exact ⟨t, fun H' s' => ty H' (s.trans s'), kt⟩, fun y => (by rw [ha] at y; cases y), fun _ => no⟩⟩
  · exact ⟨r, rfl, .inr ⟨t, fun H' s' => ty H' (s.trans s'), kt, no⟩⟩
theorem GoodR.need {K : PySem.W.Frag} {mg : Str → Option Value} {Y : Sy} {C CT : Addr} {R : Rc} {H0 H : Hp} {r : V} {rs : List Rw} {Q : VK} {E : XK} (LR : RwC K mg R) (h : GoodR K Y C R H0 r rs) (s : Same H0 H)
    (q : ∀ (q : Addr) (as : List Addr) (H' : Hp), Same H H' → SqT K H' q (as.map V.ref) → (∀ Hx, Same H0 Hx → RwsAt K Y C R Hx rs as) → Q (.ref q) H') : spNeedR K R CT [r] H Q E := by
  obtain ⟨p, as, e, hp, hl, hr, _⟩ := h
  refine ⟨r, rfl, .inl ⟨p, as.map V.ref, List.replicate as.length true, e, hp.imp (fun h => s.seq h) (fun h => s.seqT h), (by rw [List.length_map]; exact hl), (by rw [List.length_map, List.length_replicate]), fun i x b hx hi => ?_, fun _ q' H' s' hq => q q' as H' s' hq (fun _ sx => hr.same sx), fun y => ?_⟩⟩
  · rw [List.getElem?_map] at hx
    obtain ⟨a, ha, rfl⟩ : ∃ a, as[i]? = some a ∧ V.ref a = x := by
      cases e : as[i]? with
      | none => rw [e] at hx; cases hx
      | some a => rw [e] at hx; exact ⟨a, rfl, Option.some.inj hx⟩
    obtain ⟨rw', hrw, hat⟩ := hr.get ha
    have hb : b = true := List.eq_of_mem_replicate (List.mem_of_getElem? hi)
    exact ⟨.ref (rw'.cls R), fun H' s' => (hat.same (s.trans s')).tyx LR, by rw [hb]; exact (LR.of rw').kS⟩
  · rw [List.all_eq_false] at y
    obtain ⟨b, hb, hn⟩ := y
    exact absurd (List.eq_of_mem_replicate hb) hn
theorem GoodR.same {K : PySem.W.Frag} {Y : Sy} {C : Addr} {R : Rc} {H H' : Hp} {r : V} {rs : List Rw} (s : Same H H') (h : GoodR K Y C R H r rs) : GoodR K Y C R H' r rs := by
  obtain ⟨p, as, e, hp, hl, hr, hn⟩ := h
  exact ⟨p, as, e, hp.imp (fun h => s.seq h) (fun h => s.seqT h), hl, hr.same s, hn⟩
/-- what is no number from one to nine -/
def BadM (K : PySem.W.Frag) (H : Hp) (v : V) : Prop := (∃ t, (∀ H', Same H H' → TyX K H' v t) ∧ PySem.W.kitOne K t (.type "int") = some false) ∨ (∃ b, v = .bl b) ∨ ∃ i : Int, v = .int i ∧ ¬ (1 ≤ i ∧ i ≤ 9)
def spTim (K : PySem.W.Frag) (Y : Sy) (C CT : Addr) (R : Rc) : Sp := fun vs H Q E => ∃ (H0 : Hp) (x dx : Addr) (v r : V), vs = [.ref x, v, r] ∧ H0 x = none ∧ Same H0 H ∧ H x = some (.ins R.tim dx []) ∧
  ((∃ n : Nat, v = .int n ∧ 1 ≤ n ∧ n ≤ 9 ∧ ((∃ rs, GoodR K Y C R H0 r rs ∧ ∀ H', Same H0 H' → RwAt K Y C R H' (.times n rs) x → Q .non H') ∨ (BadR K R H0 r ∧ ∀ (d : Addr) (H' : Hp), Same H0 H' → H' d = some (.xd [(("word" : Str), .str "rows")]) → E (.ref CT) (some d) H'))) ∨
  (BadM K H0 v ∧ Ref1 CT "many" H E))
def spIff (K : PySem.W.Frag) (Y : Sy) (C CT : Addr) (R : Rc) : Sp := fun vs H Q E => ∃ (H0 : Hp) (x dx : Addr) (v r o : V), vs = [.ref x, v, r, o] ∧ H0 x = none ∧ Same H0 H ∧ H x = some (.ins R.iff dx []) ∧
  ((∃ (a : Addr) (u : Tl), v = .ref a ∧ SayAt Y C H0 u a ∧ SmT u ∧ ((∃ rs, GoodR K Y C R H0 r rs ∧ ((∃ os, GoodR K Y C R H0 o os ∧ ∀ H', Same H0 H' → RwAt K Y C R H' (.iff u rs os) x → Q .non H') ∨ (BadR K R H0 o ∧ ∀ (d : Addr) (H' : Hp), Same H0 H' → H' d = some (.xd [(("word" : Str), .str "rows")]) → E (.ref CT) (some d) H'))) ∨
    (BadR K R H0 r ∧ ∀ (d : Addr) (H' : Hp), Same H0 H' → H' d = some (.xd [(("word" : Str), .str "rows")]) → E (.ref CT) (some d) H'))) ∨
  ∃ t, TyX K H v t ∧ PySem.W.kitOne K t (.ref Y.say) = some false ∧ Ref1 CT "saying" H E)
theorem SqT.put {K : PySem.W.Frag} {H : Hp} {x D dx p : Addr} {fs : List (Str × V)} {o : HO} {xs : List V} (hx : H x = some (.ins D dx fs)) (h : SqT K H p xs) : SqT K (upd H x o) p xs := by
  rcases h with (h | ⟨q, h⟩) | h
  · exact .inl (.inl (by rw [upd_ne (fun z => by rw [z, hx] at h; cases h)]; exact h))
  · exact .inl (.inr ⟨q, by rw [upd_ne (fun z => by rw [z, hx] at h; cases h)]; exact h⟩)
  · exact .inr h
theorem SqT.xo {K : PySem.W.Frag} {H H' : Hp} {x D dx p : Addr} {fs : List (Str × V)} {xs : List V} (k : ∀ b o, b ≠ x → H b = some o → H' b = some o) (hx : H x = some (.ins D dx fs)) (h : SqT K H p xs) : SqT K H' p xs := by
  rcases h with (h | ⟨q, h⟩) | h
  · exact .inl (.inl (k _ _ (fun z => by rw [z, hx] at h; cases h) h))
  · exact .inl (.inr ⟨q, k _ _ (fun z => by rw [z, hx] at h; cases h) h⟩)
  · exact .inr h
theorem pre_put {H0 H : Hp} {x : Addr} {o : HO} (n : H0 x = none) (s : Same H0 H) : Same H0 (upd H x o) := fun b p e => by rw [upd_ne (ne_of_none e n)]; exact s _ _ e
theorem pre_xo {H0 H H' : Hp} {x : Addr} (n : H0 x = none) (s : Same H0 H) (h : ∀ b o, b ≠ x → H b = some o → H' b = some o) : Same H0 H' := fun b p e => h b p (ne_of_none e n) (s _ _ e)
section
variable {P : Program} {w : World} {K : PySem.W.Frag} {mg : Str → Option Value} {base : Heap} {C CT fE : Addr} {Y : Sy} {R : Rc} {mc : Value}
theorem sc_Say___init__ : FnScope ["self", "saying"] ["self", "saying"] (defScope (inClass (topS 96) 0)) := ⟨rfl, rfl, rfl, by decide +kernel, rfl, by decide +kernel, by decide +kernel⟩
theorem ok_iSay {f fS fI fSs : Addr} {fd fdS fdI fdSs : FuncData} {k : Nat} (F : Fun K "__init__" "Say.__init__" (inClass (topS 96) 0) f fd) (T : Bt mg) (L : SyC K mg Y C) (LR : RwC K mg R) (SF : SaF K Y fSs)
    (FS : Fun K "need_saying" "need_saying" (topS 91) fS fdS) (bS : Binds K fdS ["value"] []) (gS : mg "need_saying" = some (.ref fS)) (GS : FnOk P w K mg base (L2.CX P w) (k + 11) fS fdS ["value"] (spNeedS K Y C CT))
    (CRR : ClX.CRead K R.row mc) (CFR : CFun K R.row mc "__init__" fI) (bI : Binds K fdI ["self", "word", "script"] []) (GI : FnOk P w K mg base CX0 (k + 11) fI fdI ["self", "word", "script"] (spRowI K))
    (bSs : Binds K fdSs ["self"] []) (GSs : FnOk P w K mg base CX0 (k + 10) fSs fdSs ["self"] (spSStr Y C 5)) :
    FnOk P w K mg base (L2.CX P w) (k + 12) f fd ["self", "saying"] (spSay1 K Y C CT R R.say Rw.say) := by
  have fnSs := SF.n
  refine F.okX sc_Say___init__ (fun vs H Q E h => ?_) (fun cdv A outer s H vs Q E hr h => ?_)
  · obtain ⟨H0, x, dx, v, rfl, _⟩ := h
    rfl
  · obtain ⟨H0, x, dx, v, rfl, n0, s0, hx, h⟩ := h
    refine ⟨_, (pss_cons (ps_expr (pe_call GS hr (by rfl) gS FS.kp bS .nil (passes_call (takes_of rfl rfl rfl rfl) (W := fun cls d _ H => E cls d H) (fun _ _ _ _ h => h)) (pa_cons (pv 1) pa_nil)))
  (pss_cons (ps_fld (pv 0) (PE.nox (pv 1)) rfl)
  (pss_one (ps_expr (PE.nox (pe_cfun (pe_glob (v := .ref R.row) (by rfl) LR.mgR rfl) CRR CFR GI hr bI .nil pass0 (pa_cons (pv 0) (pa_cons pe_str (pa_cons (pe_lst (pa_cons (pe_joined (PJ.cons pe_str (PJ.cons (pe_fmtO (K := K) rfl (pv 1) GSs hr bSs pass0 fnSs) PJ.nil))) pa_nil)) pa_nil))))))))), ?_⟩
    have DD := LR.d R.say (by simp [Rc.all])
    rcases h with ⟨a, u, rfl, hs, sm, q⟩ | ⟨t, ty, kt, no⟩
    · refine ⟨_, rfl, _, rfl, .inl ⟨a, u, rfl, hs.same s0, ?_⟩⟩
      refine ⟨_, rfl, _, rfl, x, R.say, dx, [], rfl, hx, DD.cl, DD.nS, (by decide), ?_⟩
      refine ⟨rfl, _, rfl, ?_⟩
      obtain ⟨H1, e1⟩ : ∃ H1, upd H x (.ins R.say dx (putF "saying" (.ref a) [])) = H1 := ⟨_, rfl⟩
      rw [e1]
      have s1 : Same H0 H1 := by rw [← e1]; exact pre_put n0 s0
      have hx1 : H1 x = some (.ins R.say dx [("saying", .ref a)]) := by rw [← e1, upd_same]; rfl
      have hs1 := hs.same s1
      obtain ⟨du, fu, tu, u1, _, _⟩ := hs1.ins
      have hlt := Nat.le_trans (Tl.len sm.1) (Nat.mul_le_mul_left 16000 sm.2.1)
      have hsm := sm.2.1
      refine ⟨_, rfl, (by decide), ?_⟩
      refine ⟨_, rfl, a, _, du, fu, rfl, u1, SF.s _ (u.cls_mem Y), SF.f _ (u.cls_mem Y), (L.of u).hm, a, u, rfl, hs1, sm.1, (by omega), sm.2.2, fun H2 s2 => ⟨_, rfl, _, rfl, ?_, ?_⟩⟩
      · rw [emp_app, len_app]
        show _ ≤ 16777216
        have : (Str.ofString "say ").length ≤ 10 := by decide
        omega
      rw [emp_app]
      refine ⟨(show 1 ≤ sizeLine by decide), fun l nl => ?_⟩
      obtain ⟨H3, e3, s3, g3⟩ := new_ex nl (.lst [V.str (Str.ofString "say " ++ u.txt)])
      rw [e3]
      refine ⟨x, dx, R.say, l, [("saying", .ref a)], Str.ofString "say", [Str.ofString "say " ++ u.txt], rfl, s3 _ _ (s2 _ _ hx1), DD.cl, DD.nW, DD.nC, (show 1 ≤ 10 by decide), g3, fun ts H4 k4 hx4 ht4 => ?_⟩
      have s4 : Same H0 H4 := pre_xo n0 ((s1.trans s2).trans s3) k4
      refine q H4 s4 ?_
      unfold RwAt
      exact ⟨dx, a, ts, hx4, hs.same s4, ht4⟩
    · exact ⟨_, rfl, _, rfl, .inr ⟨t, ty, kt, no⟩⟩
theorem sc_Ask___init__ : FnScope ["self", "saying"] ["self", "saying"] (defScope (inClass (topS 97) 0)) := ⟨rfl, rfl, rfl, by decide +kernel, rfl, by decide +kernel, by decide +kernel⟩
theorem ok_iAsk {f fS fI fSs : Addr} {fd fdS fdI fdSs : FuncData} {k : Nat} (F : Fun K "__init__" "Ask.__init__" (inClass (topS 97) 0) f fd) (T : Bt mg) (L : SyC K mg Y C) (LR : RwC K mg R) (SF : SaF K Y fSs)
    (FS : Fun K "need_saying" "need_saying" (topS 91) fS fdS) (bS : Binds K fdS ["value"] []) (gS : mg "need_saying" = some (.ref fS)) (GS : FnOk P w K mg base (L2.CX P w) (k + 11) fS fdS ["value"] (spNeedS K Y C CT))
    (CRR : ClX.CRead K R.row mc) (CFR : CFun K R.row mc "__init__" fI) (bI : Binds K fdI ["self", "word", "script"] []) (GI : FnOk P w K mg base CX0 (k + 11) fI fdI ["self", "word", "script"] (spRowI K))
    (bSs : Binds K fdSs ["self"] []) (GSs : FnOk P w K mg base CX0 (k + 10) fSs fdSs ["self"] (spSStr Y C 5)) :
    FnOk P w K mg base (L2.CX P w) (k + 12) f fd ["self", "saying"] (spSay1 K Y C CT R R.ask Rw.ask) := by
  have fnSs := SF.n
  refine F.okX sc_Ask___init__ (fun vs H Q E h => ?_) (fun cdv A outer s H vs Q E hr h => ?_)
  · obtain ⟨H0, x, dx, v, rfl, _⟩ := h
    rfl
  · obtain ⟨H0, x, dx, v, rfl, n0, s0, hx, h⟩ := h
    refine ⟨_, (pss_cons (ps_expr (pe_call GS hr (by rfl) gS FS.kp bS .nil (passes_call (takes_of rfl rfl rfl rfl) (W := fun cls d _ H => E cls d H) (fun _ _ _ _ h => h)) (pa_cons (pv 1) pa_nil)))
  (pss_cons (ps_fld (pv 0) (PE.nox (pv 1)) rfl)
  (pss_one (ps_expr (PE.nox (pe_cfun (pe_glob (v := .ref R.row) (by rfl) LR.mgR rfl) CRR CFR GI hr bI .nil pass0 (pa_cons (pv 0) (pa_cons pe_str (pa_cons (pe_lst (pa_cons (pe_joined (PJ.cons pe_str (PJ.cons (pe_fmtO (K := K) rfl (pv 1) GSs hr bSs pass0 fnSs) PJ.nil))) pa_nil)) pa_nil))))))))), ?_⟩
    have DD := LR.d R.ask (by simp [Rc.all])
    rcases h with ⟨a, u, rfl, hs, sm, q⟩ | ⟨t, ty, kt, no⟩
    · refine ⟨_, rfl, _, rfl, .inl ⟨a, u, rfl, hs.same s0, ?_⟩⟩
      refine ⟨_, rfl, _, rfl, x, R.ask, dx, [], rfl, hx, DD.cl, DD.nS, (by decide), ?_⟩
      refine ⟨rfl, _, rfl, ?_⟩
      obtain ⟨H1, e1⟩ : ∃ H1, upd H x (.ins R.ask dx (putF "saying" (.ref a) [])) = H1 := ⟨_, rfl⟩
      rw [e1]
      have s1 : Same H0 H1 := by rw [← e1]; exact pre_put n0 s0
      have hx1 : H1 x = some (.ins R.ask dx [("saying", .ref a)]) := by rw [← e1, upd_same]; rfl
      have hs1 := hs.same s1
      obtain ⟨du, fu, tu, u1, _, _⟩ := hs1.ins
      have hlt := Nat.le_trans (Tl.len sm.1) (Nat.mul_le_mul_left 16000 sm.2.1)
      have hsm := sm.2.1
      refine ⟨_, rfl, (by decide), ?_⟩
      refine ⟨_, rfl, a, _, du, fu, rfl, u1, SF.s _ (u.cls_mem Y), SF.f _ (u.cls_mem Y), (L.of u).hm, a, u, rfl, hs1, sm.1, (by omega), sm.2.2, fun H2 s2 => ⟨_, rfl, _, rfl, ?_, ?_⟩⟩
      · rw [emp_app, len_app]
        show _ ≤ 16777216
        have : (Str.ofString "ask ").length ≤ 10 := by decide
        omega
      rw [emp_app]
      refine ⟨(show 1 ≤ sizeLine by decide), fun l nl => ?_⟩
      obtain ⟨H3, e3, s3, g3⟩ := new_ex nl (.lst [V.str (Str.ofString "ask " ++ u.txt)])
      rw [e3]
      refine ⟨x, dx, R.ask, l, [("saying", .ref a)], Str.ofString "ask", [Str.ofString "ask " ++ u.txt], rfl, s3 _ _ (s2 _ _ hx1), DD.cl, DD.nW, DD.nC, (show 1 ≤ 10 by decide), g3, fun ts H4 k4 hx4 ht4 => ?_⟩
      have s4 : Same H0 H4 := pre_xo n0 ((s1.trans s2).trans s3) k4
      refine q H4 s4 ?_
      unfold RwAt
      exact ⟨dx, a, ts, hx4, hs.same s4, ht4⟩
    · exact ⟨_, rfl, _, rfl, .inr ⟨t, ty, kt, no⟩⟩
theorem sc_Hands___init__ : FnScope ["self", "saying"] ["self", "saying"] (defScope (inClass (topS 98) 0)) := ⟨rfl, rfl, rfl, by decide +kernel, rfl, by decide +kernel, by decide +kernel⟩
theorem ok_iHands {f fS fI fSs : Addr} {fd fdS fdI fdSs : FuncData} {k : Nat} (F : Fun K "__init__" "Hands.__init__" (inClass (topS 98) 0) f fd) (T : Bt mg) (L : SyC K mg Y C) (LR : RwC K mg R) (SF : SaF K Y fSs)
    (FS : Fun K "need_saying" "need_saying" (topS 91) fS fdS) (bS : Binds K fdS ["value"] []) (gS : mg "need_saying" = some (.ref fS)) (GS : FnOk P w K mg base (L2.CX P w) (k + 11) fS fdS ["value"] (spNeedS K Y C CT))
    (CRR : ClX.CRead K R.row mc) (CFR : CFun K R.row mc "__init__" fI) (bI : Binds K fdI ["self", "word", "script"] []) (GI : FnOk P w K mg base CX0 (k + 11) fI fdI ["self", "word", "script"] (spRowI K))
    (bSs : Binds K fdSs ["self"] []) (GSs : FnOk P w K mg base CX0 (k + 10) fSs fdSs ["self"] (spSStr Y C 5)) :
    FnOk P w K mg base (L2.CX P w) (k + 12) f fd ["self", "saying"] (spSay1 K Y C CT R R.hnd Rw.hands) := by
  have fnSs := SF.n
  refine F.okX sc_Hands___init__ (fun vs H Q E h => ?_) (fun cdv A outer s H vs Q E hr h => ?_)
  · obtain ⟨H0, x, dx, v, rfl, _⟩ := h
    rfl
  · obtain ⟨H0, x, dx, v, rfl, n0, s0, hx, h⟩ := h
    refine ⟨_, (pss_cons (ps_expr (pe_call GS hr (by rfl) gS FS.kp bS .nil (passes_call (takes_of rfl rfl rfl rfl) (W := fun cls d _ H => E cls d H) (fun _ _ _ _ h => h)) (pa_cons (pv 1) pa_nil)))
  (pss_cons (ps_fld (pv 0) (PE.nox (pv 1)) rfl)
  (pss_one (ps_expr (PE.nox (pe_cfun (pe_glob (v := .ref R.row) (by rfl) LR.mgR rfl) CRR CFR GI hr bI .nil pass0 (pa_cons (pv 0) (pa_cons pe_str (pa_cons (pe_lst (pa_cons (pe_joined (PJ.cons pe_str (PJ.cons (pe_fmtO (K := K) rfl (pv 1) GSs hr bSs pass0 fnSs) PJ.nil))) pa_nil)) pa_nil))))))))), ?_⟩
    have DD := LR.d R.hnd (by simp [Rc.all])
    rcases h with ⟨a, u, rfl, hs, sm, q⟩ | ⟨t, ty, kt, no⟩
    · refine ⟨_, rfl, _, rfl, .inl ⟨a, u, rfl, hs.same s0, ?_⟩⟩
      refine ⟨_, rfl, _, rfl, x, R.hnd, dx, [], rfl, hx, DD.cl, DD.nS, (by decide), ?_⟩
      refine ⟨rfl, _, rfl, ?_⟩
      obtain ⟨H1, e1⟩ : ∃ H1, upd H x (.ins R.hnd dx (putF "saying" (.ref a) [])) = H1 := ⟨_, rfl⟩
      rw [e1]
      have s1 : Same H0 H1 := by rw [← e1]; exact pre_put n0 s0
      have hx1 : H1 x = some (.ins R.hnd dx [("saying", .ref a)]) := by rw [← e1, upd_same]; rfl
      have hs1 := hs.same s1
      obtain ⟨du, fu, tu, u1, _, _⟩ := hs1.ins
      have hlt := Nat.le_trans (Tl.len sm.1) (Nat.mul_le_mul_left 16000 sm.2.1)
      have hsm := sm.2.1
      refine ⟨_, rfl, (by decide), ?_⟩
      refine ⟨_, rfl, a, _, du, fu, rfl, u1, SF.s _ (u.cls_mem Y), SF.f _ (u.cls_mem Y), (L.of u).hm, a, u, rfl, hs1, sm.1, (by omega), sm.2.2, fun H2 s2 => ⟨_, rfl, _, rfl, ?_, ?_⟩⟩
      · rw [emp_app, len_app]
        show _ ≤ 16777216
        have : (Str.ofString "hands ").length ≤ 10 := by decide
        omega
      rw [emp_app]
      refine ⟨(show 1 ≤ sizeLine by decide), fun l nl => ?_⟩
      obtain ⟨H3, e3, s3, g3⟩ := new_ex nl (.lst [V.str (Str.ofString "hands " ++ u.txt)])
      rw [e3]
      refine ⟨x, dx, R.hnd, l, [("saying", .ref a)], Str.ofString "hands", [Str.ofString "hands " ++ u.txt], rfl, s3 _ _ (s2 _ _ hx1), DD.cl, DD.nW, DD.nC, (show 1 ≤ 10 by decide), g3, fun ts H4 k4 hx4 ht4 => ?_⟩
      have s4 : Same H0 H4 := pre_xo n0 ((s1.trans s2).trans s3) k4
      refine q H4 s4 ?_
      unfold RwAt
      exact ⟨dx, a, ts, hx4, hs.same s4, ht4⟩
    · exact ⟨_, rfl, _, rfl, .inr ⟨t, ty, kt, no⟩⟩
theorem sc_Step___init__ : FnScope ["self"] ["self"] (defScope (inClass (topS 99) 0)) := ⟨rfl, rfl, rfl, by decide +kernel, rfl, by decide +kernel, by decide +kernel⟩
theorem ok_iStep {f fI : Addr} {fd fdI : FuncData} {k : Nat} (F : Fun K "__init__" "Step.__init__" (inClass (topS 99) 0) f fd) (T : Bt mg) (LR : RwC K mg R)
    (CRR : ClX.CRead K R.row mc) (CFR : CFun K R.row mc "__init__" fI) (bI : Binds K fdI ["self", "word", "script"] []) (GI : FnOk P w K mg base CX0 (k + 11) fI fdI ["self", "word", "script"] (spRowI K)) :
    FnOk P w K mg base CX0 (k + 12) f fd ["self"] (spStp K Y C R) := by
  refine F.ok sc_Step___init__ (fun vs H Q E h => ?_) (fun cdv A outer s H vs Q E hr h => ?_)
  · obtain ⟨H0, x, dx, rfl, _⟩ := h
    rfl
  · obtain ⟨H0, x, dx, rfl, n0, s0, hx, q⟩ := h
    refine ⟨_, (pss_one (ps_expr (pe_cfun (pe_glob (v := .ref R.row) (by rfl) LR.mgR rfl) CRR CFR GI hr bI .nil pass0 (pa_cons (pv 0) (pa_cons pe_str (pa_cons (pe_lst (pa_cons pe_str pa_nil)) pa_nil)))))), ?_⟩
    have DD := LR.d R.stp (by simp [Rc.all])
    refine ⟨rfl, _, rfl, (show 1 ≤ sizeLine by decide), fun l nl => ?_⟩
    obtain ⟨H3, e3, s3, g3⟩ := new_ex nl (.lst [V.str "step"])
    rw [e3]
    refine ⟨x, dx, R.stp, l, [], Str.ofString "step", [Str.ofString "step"], rfl, s3 _ _ hx, DD.cl, DD.nW, DD.nC, (show 0 ≤ 10 by decide), g3, fun ts H4 k4 hx4 ht4 => ?_⟩
    have s4 : Same H0 H4 := pre_xo n0 (s0.trans s3) k4
    refine q H4 s4 ?_
    unfold RwAt
    exact ⟨dx, ts, hx4, ht4⟩
theorem sc_Times___init__ : FnScope ["self", "many", "rows"] ["self", "many", "rows"] (defScope (inClass (topS 101) 0)) := ⟨rfl, rfl, rfl, by decide +kernel, rfl, by decide +kernel, by decide +kernel⟩
theorem ok_iTimes {f fR fI fL : Addr} {fd fdR fdI fdL : FuncData} {k : Nat} {tm : Tok} (F : Fun K "__init__" "Times.__init__" (inClass (topS 101) 0) f fd) (T : Bt mg) (LR : RwC K mg R)  (XE : PySem.ErrX.ErrTxt P K mg "InvalidTalk" CT fE) (gMO : mg "MOST" = some (.int 9 tm))
    (FR : Fun K "need_rows" "need_rows" (topS 92) fR fdR) (bR : Binds K fdR ["value"] []) (gR : mg "need_rows" = some (.ref fR)) (GR : FnOk P w K mg base (L2.CX P w) (k + 11) fR fdR ["value"] (spNeedR K R CT))
    (FL : Fun K "lines_of" "lines_of" (topS 93) fL fdL) (bL : Binds K fdL ["rows"] []) (gL : mg "lines_of" = some (.ref fL)) (GL : FnOk P w K mg base CX0 (k + 11) fL fdL ["rows"] (spLinesOf K Y C R))
    (CRR : ClX.CRead K R.row mc) (CFR : CFun K R.row mc "__init__" fI) (bI : Binds K fdI ["self", "word", "script"] []) (GI : FnOk P w K mg base CX0 (k + 11) fI fdI ["self", "word", "script"] (spRowI K)) :
    FnOk P w K mg base (L2.CX P w) (k + 12) f fd ["self", "many", "rows"] (spTim K Y C CT R) := by
  refine F.okX sc_Times___init__ (fun vs H Q E h => ?_) (fun cdv A outer s H vs Q E hr h => ?_)
  · obtain ⟨H0, x, dx, v, r, rfl, _⟩ := h
    rfl
  · obtain ⟨H0, x, dx, v, r, rfl, n0, s0, hx, h⟩ := h
    refine ⟨_, (pss_cons (ps_if (PT.nox (PW.pt (pw_or (pt_not (pt_val (pe_callB (isiK (K := K) rfl) (by rfl) T.m_isinstance (by decide +kernel) (pa_cons (pv 1) (pa_cons (pe_bltn (v := .ty "int") (by rfl) T.m_int (by decide +kernel) rfl) pa_nil))))) (pw_or (pt_val (pe_callB (isiK (K := K) rfl) (by rfl) T.m_isinstance (by decide +kernel) (pa_cons (pv 1) (pa_cons (pe_bltn (v := .ty "bool") (by rfl) T.m_bool (by decide +kernel) rfl) pa_nil)))) (pw_or1 (pt_not (pt_chain op_le op_le pe_int (pv 1) (pe_glob (v := .int 9) (by rfl) gMO ⟨_, rfl⟩)))))))) (pss_one (ps_raiseErr rfl XE hr (takes_of rfl rfl rfl rfl) (pa_cons pe_str pa_nil) (by rfl))) pss_nil)
  (pss_cons (ps_fld (pv 0) (PE.nox (pv 1)) rfl)
  (pss_cons (ps_fld (pv 0) (pe_call GR hr (by rfl) gR FR.kp bR .nil (passes_call (takes_of rfl rfl rfl rfl) (W := fun cls d _ H => E cls d H) (fun _ _ _ _ h => h)) (pa_cons (pv 2) pa_nil)) rfl)
  (pss_one (ps_expr (PE.nox (pe_cfun (pe_glob (v := .ref R.row) (by rfl) LR.mgR rfl) CRR CFR GI hr bI .nil pass0 (pa_cons (pv 0) (pa_cons pe_str (pa_cons (pe_lst (pa_cons (pe_joined (PJ.cons pe_str (PJ.cons (pe_fmt (pv 1)) PJ.nil))) (pa_starK (K := K) rfl (pe_call GL hr (by rfl) gL FL.kp bL .nil pass0 (pa_cons (fldK (K := K) rfl (pv 0)) pa_nil)) (pa_cons pe_str pa_nil)))) pa_nil)))))))))), ?_⟩
    have DD := LR.d R.tim (by simp [Rc.all])
    have ki : PySem.W.kitOne K (.type "int") (.type "int") = some true := kit_ty (a := "int") (b := "int") (r := true) (by decide +kernel)
    have kb : PySem.W.kitOne K (.type "int") (.type "bool") = some false := kit_ty (a := "int") (b := "bool") (r := false) (by decide +kernel)
    rcases h with ⟨n, rfl, l1, l9, h⟩ | ⟨bm, no⟩
    · refine ⟨_, rfl, _, _, _, _, _, rfl, .ty _, .base (.int _), ki, _, rfl, iteF ⟨_, rfl, _, _, _, _, _, rfl, .ty _, .base (.int _), kb, _, rfl, iteF ?_⟩⟩
      refine ⟨_, rfl, _, _, rfl, rfl, _, rfl, ?_⟩
      rw [if_pos (decide_eq_true (show (1 : Int) ≤ n by omega))]
      refine ⟨_, _, rfl, rfl, _, rfl, ?_⟩
      rw [decide_eq_true (show (n : Int) ≤ 9 by omega)]
      refine iteF ⟨_, rfl, _, rfl, x, R.tim, dx, [], rfl, hx, DD.cl, DD.nM, (by decide), ?_⟩
      obtain ⟨H1, e1⟩ : ∃ H1, upd H x (.ins R.tim dx (putF "many" (.int n) [])) = H1 := ⟨_, rfl⟩
      rw [e1]
      have s1 : Same H0 H1 := by rw [← e1]; exact pre_put n0 s0
      have hx1 : H1 x = some (.ins R.tim dx [("many", .int n)]) := by rw [← e1, upd_same]; rfl
      rcases h with ⟨rs, good, q⟩ | ⟨bad, no⟩
      · refine ⟨_, rfl, ?_⟩
        dsimp only [tNil, List.cons_append, List.nil_append]
        obtain ⟨_, _, _, _, _, _, hrl⟩ := id good
        refine good.need LR s1 fun qq as H2 s2 hq hr => ?_
        refine ⟨_, rfl, x, R.tim, dx, _, rfl, s2 _ _ hx1, DD.cl, DD.nR, (show 1 < 1000 by decide), ?_⟩
        obtain ⟨H3, e3⟩ : ∃ H3, upd H2 x (.ins R.tim dx (putF "rows" (.ref qq) [("many", .int n)])) = H3 := ⟨_, rfl⟩
        rw [e3]
        have s3 : Same H0 H3 := by rw [← e3]; exact pre_put n0 (s1.trans s2)
        have hx3 : H3 x = some (.ins R.tim dx [("many", .int n), ("rows", .ref qq)]) := by rw [← e3, upd_same]; rfl
        have hq3 : SqT K H3 qq (as.map V.ref) := by rw [← e3]; exact SqT.put (s2 _ _ hx1) hq
        have hn6 := numS_len (n := n) (by omega)
        refine ⟨rfl, _, rfl, _, rfl, (by decide), _, rfl, .inr ⟨n, rfl, (by
          rw [Int.natAbs_natCast]
          have : n.log2 ≤ n := Nat.log2_le_self n
          omega), _, rfl, ?_, ?_⟩⟩
        · rw [emp_app, len_app]
          show _ ≤ 16777216
          have : (Str.ofString "times ").length ≤ 10 := by decide
          have : (toString (n : Int) : Str).length ≤ 21 := hn6
          omega
        rw [emp_app]
        refine ⟨_, rfl, x, R.tim, dx, _, .ref qq, rfl, hx3, DD.cl, DD.nR, rfl, qq, as, rs, rfl, hq3, hr _ s3, (by omega), fun l H4 s4 hl => ?_⟩
        refine ⟨l, _, rfl, .inr (SqL.of hl), ?_, fun l2 nl2 => ?_⟩
        · rw [List.length_cons, List.length_append, List.length_map]
          show (linesR rs).length + 1 + 1 ≤ 16777216
          omega
        have el : V.str (Str.ofString "times " ++ Str.ofString (toString (n : Int))) :: ((linesR rs).map V.str ++ [V.str (Str.ofString "end")]) = (Rw.times n rs).lines.map V.str := by
          unfold Rw.lines
          rw [List.map_cons, List.map_append]
          rfl
        obtain ⟨H5, e5, s5, g5⟩ := new_ex nl2 (.lst ((Rw.times n rs).lines.map V.str))
        have e5' : upd H4 l2 (.lst (V.str (Str.ofString "times " ++ Str.ofString (toString (n : Int))) :: ((linesR rs).map V.str ++ [V.str (Str.ofString "end")]))) = H5 := by rw [el]; exact e5
        dsimp only [tNil, List.cons_append, List.nil_append]
        rw [e5']
        refine ⟨x, dx, R.tim, l2, [("many", .int n), ("rows", .ref qq)], Str.ofString "times", (Rw.times n rs).lines, rfl, s5 _ _ (s4 _ _ hx3), DD.cl, DD.nW, DD.nC, (show 2 ≤ 10 by decide), g5, fun ts H6 k6 hx6 ht6 => ?_⟩
        have s6 : Same H0 H6 := pre_xo n0 ((s3.trans s4).trans s5) k6
        refine q H6 s6 ?_
        unfold RwAt
        exact ⟨dx, qq, ts, as, hx6, SqT.xo (fun b o nb e => k6 b o nb (s5 _ _ (s4 _ _ e))) hx3 hq3, hr _ s6, ht6⟩
      · refine ⟨_, rfl, ?_⟩
        dsimp only [tNil, List.cons_append, List.nil_append]
        exact bad.need s1 fun d H' s' _ e => no d H' (s1.trans s') e
    · have kbi : PySem.W.kitOne K (.type "bool") (.type "int") = some true := kit_ty (a := "bool") (b := "int") (r := true) (by decide +kernel)
      have kbb : PySem.W.kitOne K (.type "bool") (.type "bool") = some true := kit_ty (a := "bool") (b := "bool") (r := true) (by decide +kernel)
      rcases bm with ⟨t, ty, kt⟩ | ⟨b, rfl⟩ | ⟨i, rfl, hi⟩
      · exact ⟨_, rfl, _, _, _, _, _, rfl, .ty _, ty _ s0, kt, _, rfl, iteT (iteT ⟨_, rfl, no.now⟩)⟩
      · exact ⟨_, rfl, _, _, _, _, _, rfl, .ty _, .base (.bl _), kbi, _, rfl, iteF ⟨_, rfl, _, _, _, _, _, rfl, .ty _, .base (.bl _), kbb, _, rfl, iteT (iteT ⟨_, rfl, no.now⟩)⟩⟩
      · refine ⟨_, rfl, _, _, _, _, _, rfl, .ty _, .base (.int _), ki, _, rfl, iteF ⟨_, rfl, _, _, _, _, _, rfl, .ty _, .base (.int _), kb, _, rfl, iteF ⟨_, rfl, _, _, rfl, rfl, _, rfl, ?_⟩⟩⟩
        by_cases h1 : (1 : Int) ≤ i
        · rw [if_pos (decide_eq_true h1)]
          refine ⟨_, _, rfl, rfl, _, rfl, ?_⟩
          rw [decide_eq_false (show ¬ i ≤ 9 from fun z => hi ⟨h1, z⟩)]
          exact iteT ⟨_, rfl, no.now⟩
        · rw [if_neg (by rw [decide_eq_false h1]; decide)]
          exact ⟨_, rfl, iteT ⟨_, rfl, no.now⟩⟩
end
end FH

set_option Elab.async false
set_option linter.all false
set_option maxRecDepth 100000
set_option maxHeartbeats 2000000
/-! data beside data that goes not deep -/
namespace L2
open PySem PySem.Spec PyProof.Rows
def rNeL (K : PySem.W.Frag) : R2 := fun x y H Q => ∃ d e, Dp K H x d ∧ Dp K H y e ∧ d.canLay0 = true ∧ e.canLay0 = true ∧ e.depth ≤ 64 ∧ Q (.bl (!PyData.eqv d e)) H
def rEqL (K : PySem.W.Frag) : R2 := fun x y H Q => ∃ d e, Dp K H x d ∧ Dp K H y e ∧ d.canLay0 = true ∧ e.canLay0 = true ∧ e.depth ≤ 64 ∧ Q (.bl (PyData.eqv d e)) H
theorem neLK {X : Cx} {K : PySem.W.Frag} (h : X.K = K) (hu : X.A.units + 64 < cLine) : OpR X (compareOp .NotEq) (rNeL K) := by
  subst h
  intro pins s σ H x y v u Q I rx ry h
  obtain ⟨d, e, hd, he, sd, se, dp, q⟩ := h
  obtain ⟨as, r1⟩ := Dp.reads I d x v hd rx
  obtain ⟨bs, r2⟩ := Dp.reads I e y u he ry
  have : min d.depth e.depth ≤ e.depth := Nat.min_le_right _ _
  exact SeqAt.compareNe_reads r1 r2 sd se (by omega) ⟨.bl _, H, I, rfl, q⟩
theorem eqLK {X : Cx} {K : PySem.W.Frag} (h : X.K = K) (hu : X.A.units + 64 < cLine) : OpR X (compareOp .Eq) (rEqL K) := by
  subst h
  intro pins s σ H x y v u Q I rx ry h
  obtain ⟨d, e, hd, he, sd, se, dp, q⟩ := h
  obtain ⟨as, r1⟩ := Dp.reads I d x v hd rx
  obtain ⟨bs, r2⟩ := Dp.reads I e y u he ry
  have : min d.depth e.depth ≤ e.depth := Nat.min_le_right _ _
  exact SeqAt.compareEq_reads r1 r2 sd se (by omega) ⟨.bl _, H, I, rfl, q⟩
theorem maxLK {X : Cx} {K : PySem.W.Frag} (h : X.K = K) (hc : X.calm = true) : CallR X (.builtin "max") (rMax K) := by subst h; exact cr_max hc
theorem via {t : TE} {σ : L2.St} {H : Hp} {Q : VK} (Post : V → Hp → Prop) (a : ∀ v H2, Post v H2 → Q v H2) (b : ∀ Q' : VK, (∀ v H2, Post v H2 → Q' v H2) → t σ H Q') : t σ H Q := b Q a
end L2

set_option Elab.async false
set_option linter.all false
set_option maxRecDepth 100000
set_option maxHeartbeats 1000000
namespace FH
open PySem L2
local macro_rules | `(tactic| walk_at "seq") => `(tactic| first | assumption | exact SqL.of (by assumption) | exact SqT.of (by assumption) | exact SqL.of upd_same | exact SqT.of upd_same)
local macro_rules | `(tactic| walk_at "at") => `(tactic| first | exact atI_nat (j := 0) rfl | exact atI_nat (j := 1) rfl | exact atI_nat (j := 2) rfl | exact atI_nat (by assumption) | assumption)
local macro_rules | `(tactic| walk_at "ar") => `(tactic| first | omega | exact ⟨by omega, by omega⟩ | exact Or.inl ⟨by omega, by omega⟩ | exact Or.inr ⟨by omega, by omega⟩ | exact ⟨by decide, by decide⟩ | exact Or.inr ⟨by decide, by decide⟩ | exact Or.inl ⟨by decide, by decide⟩ | exact ⟨by decide, by decide, by omega⟩ | exact ⟨by decide, by decide, by decide⟩)
local macro_rules | `(tactic| walk_at "r") => `(tactic| repeat (first
  | refine ⟨_, rfl, ?_⟩
  | refine ⟨_, _, rfl, rfl, ?_⟩
  | refine ⟨_, _, _, _, rfl, rfl, by walk_at "seq", by walk_at "at", ?_⟩
  | refine ⟨_, _, _, _, rfl, rfl, by assumption, rfl, ?_⟩
  | refine ⟨_, _, rfl, Or.inl (by walk_at "seq"), ?_⟩
  | refine Or.inl ⟨_, rfl, ?_⟩
  | refine Or.inr ⟨_, rfl, ?_⟩
  | refine And.intro (by walk_at "ar") ?_))
/-- what stands behind the rows of an if, ahead of its end -/
def elseOf (os : List Rw) : List Str := if os.isEmpty = true then [] else Str.ofString "else" :: linesR os
theorem elseOf_ne {os : List Rw} (h : os ≠ []) : elseOf os = Str.ofString "else" :: linesR os := by
  cases os with
  | nil => exact absurd rfl h
  | cons r rs => rfl
theorem elseOf_len (os : List Rw) : (elseOf os).length ≤ (linesR os).length + 1 := by
  cases os with
  | nil => exact Nat.zero_le _
  | cons r rs => exact Nat.le_refl _
theorem if_lines (u : Tl) (rs os : List Rw) : (Rw.iff u rs os).lines = (Str.ofString "if " ++ u.txt) :: (linesR rs ++ (elseOf os ++ [Str.ofString "end"])) := by
  unfold Rw.lines elseOf
  rfl
section
variable {P : Program} {w : World} {K : PySem.W.Frag} {mg : Str → Option Value} {base : Heap} {C CT fE : Addr} {Y : Sy} {R : Rc} {mc : Value}
theorem sc_If___init__ : FnScope ["self", "saying", "rows", "others", "behind"] ["self", "saying", "rows", "others"] (defScope (inClass (topS 100) 0)) := ⟨rfl, rfl, rfl, by decide +kernel, rfl, by decide +kernel, by decide +kernel⟩
theorem ok_iIf {f fS fSs fR fI fL e0 : Addr} {fd fdS fdSs fdR fdI fdL : FuncData} {k : Nat} (F : FunD K "__init__" "If.__init__" (defArgs (inClass (topS 100) 0)) (defBody (inClass (topS 100) 0)) (defScope (inClass (topS 100) 0)) [.ref e0] [] f fd) (T : Bt mg) (L : SyC K mg Y C) (LR : RwC K mg R) (SF : SaF K Y fSs)
    (FS : Fun K "need_saying" "need_saying" (topS 91) fS fdS) (bS : Binds K fdS ["value"] []) (gS : mg "need_saying" = some (.ref fS)) (GS : FnOk P w K mg base (L2.CX P w) (k + 11) fS fdS ["value"] (spNeedS K Y C CT))
    (FR : Fun K "need_rows" "need_rows" (topS 92) fR fdR) (bR : Binds K fdR ["value"] []) (gR : mg "need_rows" = some (.ref fR)) (GR : FnOk P w K mg base (L2.CX P w) (k + 11) fR fdR ["value"] (spNeedR K R CT))
    (FL : Fun K "lines_of" "lines_of" (topS 93) fL fdL) (bL : Binds K fdL ["rows"] []) (gL : mg "lines_of" = some (.ref fL)) (GL : FnOk P w K mg base CX0 (k + 11) fL fdL ["rows"] (spLinesOf K Y C R))
    (CRR : ClX.CRead K R.row mc) (CFR : CFun K R.row mc "__init__" fI) (bI : Binds K fdI ["self", "word", "script"] []) (GI : FnOk P w K mg base CX0 (k + 11) fI fdI ["self", "word", "script"] (spRowI K))
    (bSs : Binds K fdSs ["self"] []) (GSs : FnOk P w K mg base CX0 (k + 10) fSs fdSs ["self"] (spSStr Y C 5)) :
    FnOk P w K mg base (L2.CX P w) (k + 12) f fd ["self", "saying", "rows", "others"] (spIff K Y C CT R) := by
  have fnSs := SF.n
  refine F.ok sc_If___init__ (fun vs H Q E h => ?_) (fun cdv A outer s H vs Q E hr h => ?_)
  · obtain ⟨H0, x, dx, v, r, o, rfl, _⟩ := h
    rfl
  · obtain ⟨H0, x, dx, v, r, o, rfl, n0, s0, hx, h⟩ := h
    refine ⟨_, (pss_cons (ps_expr (pe_call GS hr (by rfl) gS FS.kp bS .nil (passes_call (takes_of rfl rfl rfl rfl) (W := fun cls d _ H => E cls d H) (fun _ _ _ _ h => h)) (pa_cons (pv 1) pa_nil)))
  (pss_cons (ps_fld (pv 0) (PE.nox (pv 1)) rfl)
  (pss_cons (ps_fld (pv 0) (pe_call GR hr (by rfl) gR FR.kp bR .nil (passes_call (takes_of rfl rfl rfl rfl) (W := fun cls d _ H => E cls d H) (fun _ _ _ _ h => h)) (pa_cons (pv 2) pa_nil)) rfl)
  (pss_cons (ps_fld (pv 0) (pe_call GR hr (by rfl) gR FR.kp bR .nil (passes_call (takes_of rfl rfl rfl rfl) (W := fun cls d _ H => E cls d H) (fun _ _ _ _ h => h)) (pa_cons (pv 3) pa_nil)) rfl)
  (pss_cons (ps_set (i := 4) sc_If___init__.nd rfl (by first | exact Or.inl rfl | exact Or.inr rfl) (PE.nox (pe_ifExp (pt_cmpR op_gt (pe_callB (lenK (K := K) rfl) (by rfl) T.m_len PySem.boot_len (pa_cons (fldK (K := K) rfl (pv 0)) pa_nil)) pe_int (nomark _)) (pe_lst (pa_cons pe_str (pa_starK (K := K) rfl (pe_call GL hr (by rfl) gL FL.kp bL .nil pass0 (pa_cons (fldK (K := K) rfl (pv 0)) pa_nil)) pa_nil))) (pe_lst pa_nil))))
  (pss_one (ps_expr (PE.nox (pe_cfun (pe_glob (v := .ref R.row) (by rfl) LR.mgR rfl) CRR CFR GI hr bI .nil pass0 (pa_cons (pv 0) (pa_cons pe_str (pa_cons (pe_lst (pa_cons (pe_joined (PJ.cons pe_str (PJ.cons (pe_fmtO (K := K) rfl (pv 1) GSs hr bSs pass0 fnSs) PJ.nil))) (pa_starK (K := K) rfl (pe_call GL hr (by rfl) gL FL.kp bL .nil pass0 (pa_cons (fldK (K := K) rfl (pv 0)) pa_nil)) (pa_starK (K := K) rfl (pv 4) (pa_cons pe_str pa_nil))))) pa_nil)))))))))))), ?_⟩
    have DD := LR.d R.iff (by simp [Rc.all])
    rcases h with ⟨a, u, rfl, hs, sm, h⟩ | ⟨t, ty, kt, no⟩
    · refine ⟨_, rfl, _, rfl, .inl ⟨a, u, rfl, hs.same s0, ?_⟩⟩
      refine ⟨_, rfl, _, rfl, x, R.iff, dx, [], rfl, hx, DD.cl, DD.nS, (by decide), ?_⟩
      obtain ⟨H1, e1⟩ : ∃ H1, upd H x (.ins R.iff dx (putF "saying" (.ref a) [])) = H1 := ⟨_, rfl⟩
      rw [e1]
      have s1 : Same H0 H1 := by rw [← e1]; exact pre_put n0 s0
      have hx1 : H1 x = some (.ins R.iff dx [("saying", .ref a)]) := by rw [← e1, upd_same]; rfl
      rcases h with ⟨rs, good, h⟩ | ⟨bad, no⟩
      · refine ⟨_, rfl, ?_⟩
        dsimp only [tNil, List.cons_append, List.nil_append]
        obtain ⟨_, _, _, _, _, _, hrl⟩ := id good
        refine good.need LR s1 fun qq as H2 s2 hq hr => ?_
        refine ⟨_, rfl, x, R.iff, dx, _, rfl, s2 _ _ hx1, DD.cl, DD.nR, (show 1 < 1000 by decide), ?_⟩
        obtain ⟨H3, e3⟩ : ∃ H3, upd H2 x (.ins R.iff dx (putF "rows" (.ref qq) [("saying", .ref a)])) = H3 := ⟨_, rfl⟩
        rw [e3]
        have s3 : Same H0 H3 := by rw [← e3]; exact pre_put n0 (s1.trans s2)
        have hx3 : H3 x = some (.ins R.iff dx [("saying", .ref a), ("rows", .ref qq)]) := by rw [← e3, upd_same]; rfl
        have hq3 : SqT K H3 qq (as.map V.ref) := by rw [← e3]; exact SqT.put (s2 _ _ hx1) hq
        rcases h with ⟨os, good2, q⟩ | ⟨bad, no⟩
        · refine ⟨_, rfl, ?_⟩
          dsimp only [tNil, List.cons_append, List.nil_append]
          obtain ⟨_, _, _, _, _, _, hol⟩ := id good2
          refine good2.need LR s3 fun q2 bs H4 s4 hq2 hr2 => ?_
          refine ⟨_, rfl, x, R.iff, dx, _, rfl, s4 _ _ hx3, DD.cl, DD.nO, (show 2 < 1000 by decide), ?_⟩
          obtain ⟨H5, e5⟩ : ∃ H5, upd H4 x (.ins R.iff dx (putF "others" (.ref q2) [("saying", .ref a), ("rows", .ref qq)])) = H5 := ⟨_, rfl⟩
          rw [e5]
          have s5 : Same H0 H5 := by rw [← e5]; exact pre_put n0 (s3.trans s4)
          have hx5 : H5 x = some (.ins R.iff dx [("saying", .ref a), ("rows", .ref qq), ("others", .ref q2)]) := by rw [← e5, upd_same]; rfl
          have hq5 : SqT K H5 qq (as.map V.ref) := by rw [← e5]; exact SqT.put (s4 _ _ hx3) (SqT.kp (Kp.of s4) hq3)
          have hq25 : SqT K H5 q2 (bs.map V.ref) := by rw [← e5]; exact SqT.put (s4 _ _ hx3) hq2
          have hbl := (hr2 _ s5).len
          refine via (t := tIf _ _ _) (fun v Hx => ∃ l, v = .ref l ∧ Same H5 Hx ∧ Hx l = some (.lst ((elseOf os).map V.str))) (fun v6 H6 hP => ?_) (fun Q' k' => ?_)
          rotate_left
          · refine ⟨_, rfl, x, R.iff, dx, _, .ref q2, rfl, hx5, DD.cl, DD.nO, rfl, q2, _, rfl, .inr hq25, _, _, rfl, rfl, _, rfl, ite2 (fun c => ?_) (fun c => ?_)⟩
            · have c : (0 : Int) < ((bs.map V.ref).length : Nat) := of_decide_eq_true c
              rw [List.length_map, hbl] at c
              have ne : os ≠ [] := fun z => by rw [z] at c; exact absurd c (by decide)
              refine ⟨_, rfl, x, R.iff, dx, _, .ref q2, rfl, hx5, DD.cl, DD.nO, rfl, q2, bs, os, rfl, hq25, hr2 _ s5, (by omega), fun l H6 s6 hl => ?_⟩
              refine ⟨l, _, rfl, .inr (SqL.of hl), ?_, fun l2 nl2 => k' _ _ ⟨l2, rfl, s6.trans (same_new nl2), ?_⟩⟩
              · rw [List.length_cons, List.length_append, List.length_map]
                show (linesR os).length + 0 + 1 ≤ 16777216
                omega
              · rw [upd_same, List.append_nil, elseOf_ne ne]
                rfl
            · have c : ¬ (0 : Int) < ((bs.map V.ref).length : Nat) := fun z => c (decide_eq_true z)
              rw [List.length_map, hbl] at c
              have e0 : os = [] := List.eq_nil_of_length_eq_zero (by omega)
              refine ⟨(show 0 ≤ sizeLine by decide), fun l2 nl2 => k' _ _ ⟨l2, rfl, same_new nl2, ?_⟩⟩
              rw [upd_same, e0]
              rfl
          obtain ⟨lb, rfl, s6, hlb⟩ := hP
          have hx6 := s6 _ _ hx5
          have s06 := s5.trans s6
          have hs6 := hs.same s06
          obtain ⟨du, fu, tu, u1, _, _⟩ := hs6.ins
          have hlt := Nat.le_trans (Tl.len sm.1) (Nat.mul_le_mul_left 16000 sm.2.1)
          have hsm := sm.2.1
          have hel := elseOf_len os
          refine ⟨rfl, _, rfl, _, rfl, (by decide), ?_⟩
          refine ⟨_, rfl, a, _, du, fu, rfl, u1, SF.s _ (u.cls_mem Y), SF.f _ (u.cls_mem Y), (L.of u).hm, a, u, rfl, hs6, sm.1, (by omega), sm.2.2, fun H7 s7 => ⟨_, rfl, _, rfl, ?_, ?_⟩⟩
          · rw [emp_app, len_app]
            show _ ≤ 16777216
            have : (Str.ofString "if ").length ≤ 10 := by decide
            omega
          rw [emp_app]
          have hx7 := s7 _ _ hx6
          refine ⟨_, rfl, x, R.iff, dx, _, .ref qq, rfl, hx7, DD.cl, DD.nR, rfl, qq, as, rs, rfl, SqT.kp (Kp.of (s6.trans s7)) hq5, hr _ (s06.trans s7), (by omega), fun l H8 s8 hl => ?_⟩
          refine ⟨l, _, rfl, .inr (SqL.of hl), _, rfl, lb, _, rfl, .inr (SqL.of (s8 _ _ (s7 _ _ hlb))), ?_, fun l2 nl2 => ?_⟩
          · rw [List.length_cons, List.length_append, List.length_append, List.length_map, List.length_map]
            show (linesR rs).length + ((elseOf os).length + 1) + 1 ≤ 16777216
            omega
          have el : V.str (Str.ofString "if " ++ u.txt) :: ((linesR rs).map V.str ++ ((elseOf os).map V.str ++ [V.str (Str.ofString "end")])) = (Rw.iff u rs os).lines.map V.str := by
            rw [if_lines, List.map_cons, List.map_append, List.map_append]
            rfl
          obtain ⟨H9, e9, s9, g9⟩ := new_ex nl2 (.lst ((Rw.iff u rs os).lines.map V.str))
          have e9' : upd H8 l2 (.lst (V.str (Str.ofString "if " ++ u.txt) :: ((linesR rs).map V.str ++ ((elseOf os).map V.str ++ [V.str (Str.ofString "end")])))) = H9 := by rw [el]; exact e9
          dsimp only [tNil, List.cons_append, List.nil_append]
          rw [e9']
          have k59 : Same H5 H9 := ((s6.trans s7).trans s8).trans s9
          refine ⟨x, dx, R.iff, l2, _, Str.ofString "if", (Rw.iff u rs os).lines, rfl, k59 _ _ hx5, DD.cl, DD.nW, DD.nC, (show 3 ≤ 10 by decide), g9, fun ts HA kA hxA htA => ?_⟩
          have sA : Same H0 HA := pre_xo n0 (s5.trans k59) kA
          have kk : ∀ b o, b ≠ x → H5 b = some o → HA b = some o := fun b o nb e => kA b o nb (k59 _ _ e)
          refine q HA sA ?_
          unfold RwAt
          exact ⟨dx, a, qq, q2, ts, as, bs, hxA, hs.same sA, SqT.xo kk hx5 hq5, SqT.xo kk hx5 hq25, hr _ sA, hr2 _ sA, htA⟩
        · refine ⟨_, rfl, ?_⟩
          dsimp only [tNil, List.cons_append, List.nil_append]
          exact bad.need s3 fun d H' s' _ e => no d H' (s3.trans s') e
      · refine ⟨_, rfl, ?_⟩
        dsimp only [tNil, List.cons_append, List.nil_append]
        exact bad.need s1 fun d H' s' _ e => no d H' (s1.trans s') e
    · exact ⟨_, rfl, _, rfl, .inr ⟨t, ty, kt, no⟩⟩
end
end FH

set_option Elab.async false
set_option linter.all false
set_option maxRecDepth 100000
set_option maxHeartbeats 1000000
namespace FH
open PySem L2
local macro_rules | `(tactic| walk_at "seq") => `(tactic| first | assumption | exact SqL.of (by assumption) | exact SqT.of (by assumption) | exact SqL.of upd_same | exact SqT.of upd_same)
local macro_rules | `(tactic| walk_at "at") => `(tactic| first | exact atI_nat (j := 0) rfl | exact atI_nat (j := 1) rfl | exact atI_nat (j := 2) rfl | exact atI_nat (by assumption) | assumption)
local macro_rules | `(tactic| walk_at "ar") => `(tactic| first | omega | exact ⟨by omega, by omega⟩ | exact Or.inl ⟨by omega, by omega⟩ | exact Or.inr ⟨by omega, by omega⟩ | exact ⟨by decide, by decide⟩ | exact Or.inr ⟨by decide, by decide⟩ | exact Or.inl ⟨by decide, by decide⟩ | exact ⟨by decide, by decide, by omega⟩ | exact ⟨by decide, by decide, by decide⟩)
local macro_rules | `(tactic| walk_at "r") => `(tactic| repeat (first
  | refine ⟨_, rfl, ?_⟩
  | refine ⟨_, _, rfl, rfl, ?_⟩
  | refine ⟨_, _, _, _, rfl, rfl, by walk_at "seq", by walk_at "at", ?_⟩
  | refine ⟨_, _, _, _, rfl, rfl, by assumption, rfl, ?_⟩
  | refine ⟨_, _, rfl, Or.inl (by walk_at "seq"), ?_⟩
  | refine Or.inl ⟨_, rfl, ?_⟩
  | refine Or.inr ⟨_, rfl, ?_⟩
  | refine And.intro (by walk_at "ar") ?_))
/-! ### texts of rows, equal rows; talks -/
theorem shaped_tS2 (ns : List Str) (h : ∀ x ∈ ns, LayS x) : SeqAt.shaped (tS ns) = true := shaped_tS ns h
/-- lines that may be joined -/
def JoinOk (ls : List Str) : Prop := (ls.map (·.length)).sum + ls.length * 1 ≤ 16777216
def nlS (ls : List Str) : Str := Txt.join (Str.ofString "\n") ls
def spRStr (K : PySem.W.Frag) (Y : Sy) (C : Addr) (R : Rc) : Sp := fun vs H Q _ => ∃ (a : Addr) (r : Rw), vs = [.ref a] ∧ RwAt K Y C R H r a ∧ JoinOk r.lines ∧ Q (.str (nlS r.lines)) H
def spREq (K : PySem.W.Frag) (Y : Sy) (C : Addr) (R : Rc) : Sp := fun vs H Q _ => ∃ (a : Addr) (r : Rw) (v : V), vs = [.ref a, v] ∧ RwAt K Y C R H r a ∧
  ((∃ (b : Addr) (z : Rw), v = .ref b ∧ RwAt K Y C R H z b ∧ (∀ x ∈ r.lines, LayS x) ∧ (∀ x ∈ z.lines, LayS x) ∧ Q (.bl (decide (r.lines = z.lines))) H) ∨ ∃ t, TyX K H v t ∧ PySem.W.kitOne K t (.ref R.row) = some false ∧ Q (.bl false) H)
/-- a talk stands at a -/
def TkAt (K : PySem.W.Frag) (Y : Sy) (C : Addr) (R : Rc) (TK : Addr) (H : Hp) (rs : List Rw) (a : Addr) : Prop := ∃ dx t as, H a = some (.ins TK dx [("rows", .ref t)]) ∧ SqT K H t (as.map V.ref) ∧ RwsAt K Y C R H rs as
theorem TkAt.kp {K : PySem.W.Frag} {Y : Sy} {C TK : Addr} {R : Rc} {H H' : Hp} {rs : List Rw} {a : Addr} (e : Kp H H') (h : TkAt K Y C R TK H rs a) : TkAt K Y C R TK H' rs a := by
  obtain ⟨dx, t, as, h1, h2, h3⟩ := h
  exact ⟨dx, t, as, e.ins h1, SqT.kp e h2, h3.kp e⟩
theorem TkAt.same {K : PySem.W.Frag} {Y : Sy} {C TK : Addr} {R : Rc} {H H' : Hp} {rs : List Rw} {a : Addr} (s : Same H H') (h : TkAt K Y C R TK H rs a) : TkAt K Y C R TK H' rs a := h.kp (Kp.of s)
/-- the class of talks -/
structure TkC (K : PySem.W.Frag) (TK : Addr) : Prop where
  cl : Cls K TK
  nR : NoAttr K TK "rows"
def spTkI (K : PySem.W.Frag) (Y : Sy) (C CT : Addr) (R : Rc) (TK : Addr) : Sp := fun vs H Q E => ∃ (H0 : Hp) (x dx : Addr) (r : V), vs = [.ref x, r] ∧ H0 x = none ∧ Same H0 H ∧ H x = some (.ins TK dx []) ∧
  ((∃ rs, GoodR K Y C R H0 r rs ∧ ∀ H', Same H0 H' → TkAt K Y C R TK H' rs x → Q .non H') ∨ (BadR K R H0 r ∧ ∀ (d : Addr) (H' : Hp), Same H0 H' → H' d = some (.xd [(("word" : Str), .str "rows")]) → E (.ref CT) (some d) H'))
def spTkStr (K : PySem.W.Frag) (Y : Sy) (C : Addr) (R : Rc) (TK : Addr) : Sp := fun vs H Q _ => ∃ (a : Addr) (rs : List Rw), vs = [.ref a] ∧ TkAt K Y C R TK H rs a ∧ (linesR rs).length ≤ 100000 ∧ JoinOk (linesR rs) ∧ ∀ H', Same H H' → Q (.str (nlS (linesR rs))) H'
def spTkEq (K : PySem.W.Frag) (Y : Sy) (C : Addr) (R : Rc) (TK : Addr) : Sp := fun vs H Q _ => ∃ (a : Addr) (rs : List Rw) (v : V), vs = [.ref a, v] ∧ TkAt K Y C R TK H rs a ∧
  ((∃ (b : Addr) (os : List Rw), v = .ref b ∧ TkAt K Y C R TK H os b ∧ (linesR rs).length ≤ 100000 ∧ (linesR os).length ≤ 100000 ∧ (∀ x ∈ linesR rs, LayS x) ∧ (∀ x ∈ linesR os, LayS x) ∧ ∀ H', Same H H' → Q (.bl (decide (linesR rs = linesR os))) H') ∨ ∃ t, TyX K H v t ∧ PySem.W.kitOne K t (.ref TK) = some false ∧ Q (.bl false) H)
section
variable {P : Program} {w : World} {K : PySem.W.Frag} {mg : Str → Option Value} {base : Heap} {C CT fE TK : Addr} {Y : Sy} {R : Rc} {mc : Value}
theorem sc_Row___str__ : FnScope ["self"] ["self"] (defScope (inClass (topS 95) 1)) := ⟨rfl, rfl, rfl, by decide +kernel, rfl, by decide +kernel, by decide +kernel⟩
theorem ok_rStr {f : Addr} {fd : FuncData} {k : Nat} (F : Fun K "__str__" "Row.__str__" (inClass (topS 95) 1) f fd) (T : Bt mg) (LR : RwC K mg R) : FnOk P w K mg base CX0 (k + 1) f fd ["self"] (spRStr K Y C R) := by
  refine F.ok sc_Row___str__ (fun vs H Q E h => ?_) (fun cdv A outer s H vs Q E hr h => ?_)
  · obtain ⟨a, r, rfl, _⟩ := h
    rfl
  · obtain ⟨a, r, rfl, ha, ok, q⟩ := h
    refine ⟨_, (pss_one (ps_ret (pe_joinK (K := K) rfl pe_str (fldK (K := K) rfl (pv 0))))), ?_⟩
    obtain ⟨dx, fs, ts, h1, h2, h3⟩ := ha.ins
    exact ⟨⟨_, rfl⟩, _, rfl, a, _, dx, fs, .ref ts, rfl, h1, (LR.of r).cl, (LR.of r).nC, h2, _, ts, r.lines, rfl, rfl, .inr (SqT.of h3), ok, q⟩
theorem sc_Row___eq__ : FnScope ["self", "other"] ["self", "other"] (defScope (inClass (topS 95) 2)) := ⟨rfl, rfl, rfl, by decide +kernel, rfl, by decide +kernel, by decide +kernel⟩
theorem ok_rEq {f : Addr} {fd : FuncData} {k : Nat} (F : Fun K "__eq__" "Row.__eq__" (inClass (topS 95) 2) f fd) (T : Bt mg) (LR : RwC K mg R) : FnOk P w K mg base CX0 (k + 1) f fd ["self", "other"] (spREq K Y C R) := by
  refine F.ok sc_Row___eq__ (fun vs H Q E h => ?_) (fun cdv A outer s H vs Q E hr h => ?_)
  · obtain ⟨a, r, v, rfl, _⟩ := h
    rfl
  · obtain ⟨a, r, v, rfl, ha, h⟩ := h
    have hu := hr.units
    refine ⟨_, (pss_one (ps_ret (pe_and (pe_callB (isiK (K := K) rfl) (by rfl) T.m_isinstance (by decide +kernel) (pa_cons (pv 1) (pa_cons (pe_glob (v := .ref R.row) (by rfl) LR.mgR rfl) pa_nil))) (pe_one (pe_cmpR (eqDK (K := K) rfl hu) (fldK (K := K) rfl (pv 0)) (fldK (K := K) rfl (pv 1)) (nomark _)))))), ?_⟩
    rcases h with ⟨b, z, rfl, hb, l1, l2, q⟩ | ⟨t, ty, kt, q⟩
    · obtain ⟨dx, fs, ts, h1, h2, h3⟩ := ha.ins
      obtain ⟨dy, gs, t2, g1, g2, g3⟩ := hb.ins
      refine ⟨_, rfl, _, _, _, _, _, rfl, .own _, hb.tyx LR, (LR.of z).kS, _, rfl, iteT ?_⟩
      refine ⟨_, rfl, a, _, dx, fs, .ref ts, rfl, h1, (LR.of r).cl, (LR.of r).nC, h2, _, rfl, b, _, dy, gs, .ref t2, rfl, g1, (LR.of z).cl, (LR.of z).nC, g2, tS r.lines, tS z.lines, dp_tS (SqT.of h3), dp_tS (SqT.of g3), shaped_tS _ l1, shaped_tS _ l2, ?_⟩
      rw [eqv_tS]
      exact q
    · exact ⟨_, rfl, _, _, _, _, _, rfl, .own _, ty, kt, _, rfl, iteF q⟩
theorem sc_Talk___init__ : FnScope ["self", "rows"] ["self", "rows"] (defScope (inClass (topS 104) 0)) := ⟨rfl, rfl, rfl, by decide +kernel, rfl, by decide +kernel, by decide +kernel⟩
theorem ok_tkI {f fR e0 : Addr} {fd fdR : FuncData} {k : Nat} (F : FunD K "__init__" "Talk.__init__" (defArgs (inClass (topS 104) 0)) (defBody (inClass (topS 104) 0)) (defScope (inClass (topS 104) 0)) [.ref e0] [] f fd) (T : Bt mg) (LR : RwC K mg R) (LT : TkC K TK)
    (FR : Fun K "need_rows" "need_rows" (topS 92) fR fdR) (bR : Binds K fdR ["value"] []) (gR : mg "need_rows" = some (.ref fR)) (GR : FnOk P w K mg base (L2.CX P w) (k + 11) fR fdR ["value"] (spNeedR K R CT)) :
    FnOk P w K mg base (L2.CX P w) (k + 12) f fd ["self", "rows"] (spTkI K Y C CT R TK) := by
  refine F.ok sc_Talk___init__ (fun vs H Q E h => ?_) (fun cdv A outer s H vs Q E hr h => ?_)
  · obtain ⟨H0, x, dx, r, rfl, _⟩ := h
    rfl
  · obtain ⟨H0, x, dx, r, rfl, n0, s0, hx, h⟩ := h
    refine ⟨_, (pss_one (ps_fld (pv 0) (pe_call GR hr (by rfl) gR FR.kp bR .nil (passes_call (takes_of rfl rfl rfl rfl) (W := fun cls d _ H => E cls d H) (fun _ _ _ _ h => h)) (pa_cons (pv 1) pa_nil)) rfl)), ?_⟩
    rcases h with ⟨rs, good, q⟩ | ⟨bad, no⟩
    · refine ⟨_, rfl, ?_⟩
      dsimp only [tNil, List.cons_append, List.nil_append]
      refine good.need LR s0 fun qq as H2 s2 hq hr => ?_
      refine ⟨_, rfl, x, TK, dx, _, rfl, s2 _ _ hx, LT.cl, LT.nR, (show 0 < 1000 by decide), ?_⟩
      have s3 : Same H0 (upd H2 x (.ins TK dx (putF "rows" (.ref qq) []))) := pre_put n0 (s0.trans s2)
      exact q _ s3 ⟨dx, qq, as, upd_same, SqT.put (s2 _ _ hx) hq, hr _ s3⟩
    · refine ⟨_, rfl, ?_⟩
      dsimp only [tNil, List.cons_append, List.nil_append]
      exact bad.need s0 fun d H' s' _ e => no d H' (s0.trans s') e
theorem sc_Talk___str__ : FnScope ["self"] ["self"] (defScope (inClass (topS 104) 10)) := ⟨rfl, rfl, rfl, by decide +kernel, rfl, by decide +kernel, by decide +kernel⟩
theorem ok_tkStr {f fL : Addr} {fd fdL : FuncData} {k : Nat} (F : Fun K "__str__" "Talk.__str__" (inClass (topS 104) 10) f fd) (T : Bt mg) (LR : RwC K mg R) (LT : TkC K TK)
    (FL : Fun K "lines_of" "lines_of" (topS 93) fL fdL) (bL : Binds K fdL ["rows"] []) (gL : mg "lines_of" = some (.ref fL)) (GL : FnOk P w K mg base CX0 (k + 11) fL fdL ["rows"] (spLinesOf K Y C R)) :
    FnOk P w K mg base CX0 (k + 12) f fd ["self"] (spTkStr K Y C R TK) := by
  refine F.ok sc_Talk___str__ (fun vs H Q E h => ?_) (fun cdv A outer s H vs Q E hr h => ?_)
  · obtain ⟨a, rs, rfl, _⟩ := h
    rfl
  · obtain ⟨a, rs, rfl, ⟨dx, t, as, h1, h2, h3⟩, hl, ok, q⟩ := h
    refine ⟨_, (pss_one (ps_ret (pe_joinK (K := K) rfl pe_str (pe_call GL hr (by rfl) gL FL.kp bL .nil pass0 (pa_cons (fldK (K := K) rfl (pv 0)) pa_nil))))), ?_⟩
    exact ⟨⟨_, rfl⟩, _, rfl, a, _, dx, _, .ref t, rfl, h1, LT.cl, LT.nR, rfl, t, as, rs, rfl, h2, h3, hl, fun l H1 s1 g1 => ⟨_, l, linesR rs, rfl, rfl, .inl (SqL.of g1), ok, q _ s1⟩⟩
theorem sc_Talk___eq__ : FnScope ["self", "other"] ["self", "other"] (defScope (inClass (topS 104) 11)) := ⟨rfl, rfl, rfl, by decide +kernel, rfl, by decide +kernel, by decide +kernel⟩
theorem ok_tkEq {f fL : Addr} {fd fdL : FuncData} {k : Nat} (F : Fun K "__eq__" "Talk.__eq__" (inClass (topS 104) 11) f fd) (T : Bt mg) (LR : RwC K mg R) (LT : TkC K TK) (gTK : mg "Talk" = some (.ref TK)) (kT : PySem.W.kitOne K (.ref TK) (.ref TK) = some true) (tyT : ∀ {H : Hp} {a dx : Addr} {fs : List (Str × V)}, H a = some (.ins TK dx fs) → TyX K H (.ref a) (.ref TK))
    (FL : Fun K "lines_of" "lines_of" (topS 93) fL fdL) (bL : Binds K fdL ["rows"] []) (gL : mg "lines_of" = some (.ref fL)) (GL : FnOk P w K mg base CX0 (k + 11) fL fdL ["rows"] (spLinesOf K Y C R)) :
    FnOk P w K mg base CX0 (k + 12) f fd ["self", "other"] (spTkEq K Y C R TK) := by
  refine F.ok sc_Talk___eq__ (fun vs H Q E h => ?_) (fun cdv A outer s H vs Q E hr h => ?_)
  · obtain ⟨a, rs, v, rfl, _⟩ := h
    rfl
  · obtain ⟨a, rs, v, rfl, ⟨dx, t, as, h1, h2, h3⟩, h⟩ := h
    have hu := hr.units
    refine ⟨_, (pss_one (ps_ret (pe_and (pe_callB (isiK (K := K) rfl) (by rfl) T.m_isinstance (by decide +kernel) (pa_cons (pv 1) (pa_cons (pe_glob (v := .ref TK) (by rfl) gTK rfl) pa_nil))) (pe_one (pe_cmpR (eqDK (K := K) rfl hu) (pe_call GL hr (by rfl) gL FL.kp bL .nil pass0 (pa_cons (fldK (K := K) rfl (pv 0)) pa_nil)) (pe_call GL hr (by rfl) gL FL.kp bL .nil pass0 (pa_cons (fldK (K := K) rfl (pv 1)) pa_nil)) (nomark _)))))), ?_⟩
    rcases h with ⟨b, os, rfl, ⟨dy, t2, bs, g1, g2, g3⟩, n1, n2, ly1, ly2, q⟩ | ⟨t, ty, kt, q⟩
    · refine ⟨_, rfl, _, _, _, _, _, rfl, .own _, tyT g1, kT, _, rfl, iteT ?_⟩
      refine ⟨_, rfl, a, _, dx, _, .ref t, rfl, h1, LT.cl, LT.nR, rfl, t, as, rs, rfl, h2, h3, n1, fun l H1 s1 d1 => ?_⟩
      refine ⟨_, rfl, b, _, dy, _, .ref t2, rfl, s1 _ _ g1, LT.cl, LT.nR, rfl, t2, bs, os, rfl, SqT.kp (Kp.of s1) g2, g3.same s1, n2, fun l2 H2 s2 d2 => ?_⟩
      refine ⟨lS (linesR rs), lS (linesR os), dp_lS (SqL.of (s2 _ _ d1)), dp_lS (SqL.of d2), shaped_lS _ ly1, shaped_lS _ ly2, ?_⟩
      rw [eqv_lS]
      exact q _ (s1.trans s2)
    · exact ⟨_, rfl, _, _, _, _, _, rfl, .own _, ty, kt, _, rfl, iteF q⟩
end
end FH

set_option Elab.async false
set_option linter.all false
set_option maxRecDepth 100000
set_option maxHeartbeats 2000000
namespace L2
open PySem PySem.Spec PyProof.Rows
/-- a promise that is kept where nothing is being shown -/
structure FnG (P : Program) (w : World) (K : PySem.W.Frag) (mg : Str → Option Value) (base : Heap) (k : Nat) (f : Addr) (fd : FuncData) (ps : List Str) (sp : Sp) : Prop where
  len : ∀ vs H Q E, sp vs H Q E → vs.length = ps.length
  run : ∀ (A : Around) (outer : List Env) (s : Shared) (H : Hp) (args : Args) (us : List Value) (vs : List V) (Q : VK) (E : XK), A.guards = some [] → Room k A → Env0 P w K mg base A outer s H → BindsTo s fd args (ps.zip us) → Vals vs us → sp vs H Q E →
    codeAny (model P w) A (.call (.ref f) args) (CR CX0 outer P w H s Q E) s
section
variable {P : Program} {w : World} {K : PySem.W.Frag} {mg : Str → Option Value} {base : Heap}
theorem Fun.okG {x qual : Str} {st : Stmt} {f : Addr} {fd : FuncData} {N ps : List Str} {k : Nat} {sp : Sp} (F : Fun K x qual st f fd) (S : FnScope N ps (defScope st)) (len : ∀ vs H Q E, sp vs H Q E → vs.length = ps.length)
    (hbody : ∀ (cdv : Value) (A : Around) (outer : List Env) (s : Shared) (H : Hp) (vs : List V) (Q : VK) (E : XK), (A.deeper (envOfC qual (defScope st) s.heap.objs.size f cdv)).guards = some [] →
      Room k (A.deeper (envOfC qual (defScope st) s.heap.objs.size f cdv)) → sp vs H Q E →
      ∃ t, PSs (cxOf CX0 P w K mg base N qual (defScope st) f cdv A outer s H E).nox (defBody st) t ∧ t { nx := fun _ H' => Q .non H', rt := Q } (start N vs) H) : FnG P w K mg base (k + 1) f fd ps sp := by
  obtain ⟨oc, od, kV, doc, pm, an, cdv, ct, osl, rfl, lk, hcd⟩ := F.ex
  refine ⟨len, fun A outer s H args us vs Q E hg hr e0 hb r hsp => ?_⟩
  -- at this one A the promise's own walk is the plain one's: it asks the body at A alone
  have hl := len _ _ _ _ hsp
  have kin : K.In s.heap := e0.mod.kin.keeps fun b o e => (e0.bs b o e).1
  have lim : s.heap.NoLimit := e0.mod.nolimit.keeps fun b o e => (e0.bs b o e).1
  have hkd : ∀ y ∈ ps.zip us, (defScope st).names.lookup y.1 = some .local ∨ ((defScope st).names.lookup y.1 = some .cell ∧ ((cellsFrom (s.heap.objs.size + 1) (defScope st).names []).lookup y.1).isSome = true) := fun y hy => by
    rcases S.par y.1 (List.of_mem_zip hy).1 with q | q
    · exact .inl q
    · exact .inr ⟨q, PySem.W.cellsFrom_some _ _ _ (.inl q)⟩
  refine codeAny_call_function hr.depth (kin _ _ lk) rfl S.co S.gen rfl (PySem.W.codeRec_of kin hcd) (hb _ _ _ _ (wpAny_newFunctionEnv_cells S.kind hkd fun env he s1 x => ?_))
  subst he
  refine ⟨lim.keeps x.toInCall.keep, codeAny_func ?_⟩
  obtain ⟨t, ht, hq⟩ := hbody cdv A outer s H vs Q E hg (hr.deeper _) hsp
  have I : Inv (cxOf CX0 P w K mg base N qual (defScope st) f cdv A outer s H E) [] (start N vs) H s1 := inv_start S hr.hd e0 hl r x
  refine wpAny_mono (ht.nox.run [] s1 (start N vs) H _ I hq) (fun fl s' hs => ?_) fun e s' hs => hs
  cases fl with
  | ret u =>
    obtain ⟨v, σ', H', J, rv, q⟩ := hs
    exact ⟨v, H', J.os, J.bare, J.base, J.hok, rv, q⟩
  | next =>
    obtain ⟨σ', H', J, q⟩ := hs
    exact ⟨V.non, H', J.os, J.bare, J.base, J.hok, rfl, q⟩
  | brk => exact hs.elim fun _ z => z.elim fun _ z => False.elim z.2
  | cont => exact hs.elim fun _ z => z.elim fun _ z => False.elim z.2
end
/-- the plain promise, of the caller's frame alone -/
theorem FnG.at {P : Program} {w : World} {K : PySem.W.Frag} {mg : Str → Option Value} {base : Heap} {k : Nat} {f : Addr} {fd : FuncData} {ps : List Str} {sp : Sp} (F : FnG P w K mg base k f fd ps sp) {s : Shared} {H : Hp} {args : Args} {us : List Value} {vs : List V} {Q : VK} {E : XK}
    (hr : Room k callerA) (e0 : Env0 P w K mg base callerA [] s H) (hb : BindsTo s fd args (ps.zip us)) (r : Vals vs us) (h : sp vs H Q E) : codeAny (model P w) callerA (.call (.ref f) args) (CR CX0 [] P w H s Q E) s :=
  F.run callerA [] s H args us vs Q E rfl hr e0 hb r h
theorem law_callG {P : Program} {w : World} {K : PySem.W.Frag} {mg mb : Str → Option Value} {k : Nat} {fa a : Addr} {fd : FuncData} {x : Str} {sp : Sp} {s1 : Shared} {vs : List Value} {ns : List Int}
    (kin : K.In s1.heap) (hns : s1.heap.Ns mainGlobals mg) (hb : s1.heap.Ns builtinsNs mb) (hbb : ∀ x : Str, x ≠ "__name__" → mb x = bootBuiltins x) (hlim : s1.heap.NoLimit) (hg : s1.gens = #[])
    (ha : s1.heap.get? a = some { cls := .type "list", data := .seq vs.toArray }) (hi : IntsAre vs ns) (hl : ns.length ≤ sizeLine) (hr : Room k callerA)
    (F : ∀ base : Heap, K.In base → base.Ns mainGlobals mg → FnG P w K mg base k fa fd [x] sp) (hbind : ∀ (s : Shared) (u : Value), BindsTo s fd ⟨[u], []⟩ [(x, u)])
    (hsp : ∀ H : Hp, Only H → SqL K H a (ns.map V.int) → sp [.ref a] H (fun v _ => v = .bl true) fun _ _ _ => False) :
    codeAny (model P w) callerA (.call (.ref fa) ⟨[.ref a], []⟩) (fun r s' => r = .ok (.ret (.bool true)) ∧ OldK s1.heap s'.heap ∧ s'.os = s1.os ∧ AllBare s'.gens) s1 := by
  have rv := vals_ints hi
  have core : ∀ H : Hp, Only H → SqL K H a (ns.map V.int) → HOk P w H s1.heap → (∀ b, H b ≠ none → b = a) → (H a ≠ none → K.lookup a = none) →
      codeAny (model P w) callerA (.call (.ref fa) ⟨[.ref a], []⟩) (fun r s' => r = .ok (.ret (.bool true)) ∧ OldK s1.heap s'.heap ∧ s'.os = s1.os ∧ AllBare s'.gens) s1 := by
    intro H hO hS hok hA hK
    have free : ∀ {b : Addr} {o : Obj}, s1.heap.get? b = some o → (b = a → False) → H b = none := fun {b o} _ n => by
      cases q : H b with
      | none => rfl
      | some u => exact (n (hA b (by rw [q]; simp))).elim
    have nsK : ∀ {b : Addr} {m : Str → Option Value}, s1.heap.Ns b m → (hidT s1.heap H).Ns b m := fun {b m} ⟨o, es, ep, e, d, r⟩ => ⟨o, es, ep, hidT_get e (free e fun z => by
      subst z
      rw [ha] at e
      cases e
      have d' : Data.seq vs.toArray _ = Data.dict es ep := d
      cases d'), d, r⟩
    have hKb : K.In (hidT s1.heap H) := fun b o e => hidT_get (kin b o e) (by
      cases q : H b with
      | none => rfl
      | some u =>
        have z : b = a := hA b (by rw [q]; simp)
        subst z
        rw [hK (by rw [q]; simp)] at e
        cases e)
    have hM : Mod K mg (hidT s1.heap H) := ⟨hKb, nsK hns, ⟨mb, nsK hb, hbb⟩, let ⟨mc, h1, h2⟩ := hlim; ⟨mc, nsK h1, h2⟩⟩
    have e0 : Env0 P w K mg (hidT s1.heap H) callerA [] s1 H := ⟨rfl, hM, fun b o e => of_hidT e, Nat.le_of_eq (hidT_size _ _), trivial, fun b z => absurd (show b ∈ ([] : List Addr) from z) (by simp), hok, .of_eq hg⟩
    refine codeAny_mono ((F _ hKb (nsK hns)).at (us := [.ref a]) (vs := [.ref a]) hr e0 (hbind s1 (.ref a)) (.cons rfl .nil) (hsp H hO hS)) fun r s' h => ?_
    cases r with
    | error e => exact h.elim
    | ok fl =>
      cases fl with
      | ret u =>
        obtain ⟨v, H', os, bare, un, hok', r', q⟩ := h
        have q' : v = .bl true := q
        subst q'
        obtain rfl : u = Value.bool true := r'
        refine ⟨rfl, OldK.of_keep fun b o e => ?_, os, bare⟩
        cases q : H b with
        | none => exact un.keep b o e q (by intro z; exact absurd (show b ∈ ([] : List Addr) from z) (by simp)) (by simp)
        | some u =>
          rcases hO b with z | ⟨ob, xs, z⟩
          · rw [q] at z; cases z
          · have z2 := un.frzs b ob _ z
            obtain ⟨e1, _⟩ := hok b _ z
            obtain ⟨e2, _⟩ := hok' b _ z2
            rw [e] at e1; cases e1
            exact e2
      | next => exact h.elim
      | brk => exact h.elim
      | cont => exact h.elim
  cases hk : K.lookup a with
  | some o =>
    have e := kin a o hk
    rw [ha] at e
    cases e
    exact core (fun _ => none) (fun _ => .inl rfl) (.inr ⟨_, vs.toArray, _, hk, rfl, rfl, rfl, by rw [List.size_toArray, hi.length]; exact hl, by simpa using rv⟩)
      (fun b u z => by have z' : (none : Option HO) = some u := z; cases z') (fun b z => absurd rfl z) fun z => absurd rfl z
  | none =>
    refine core (fun b => if b = a then some (.frz { cls := .type "list", data := .seq vs.toArray } (.lst (ns.map V.int))) else none) (fun b => ?_) (.inl (.inr ⟨{ cls := .type "list", data := .seq vs.toArray }, if_pos rfl⟩)) (fun b u z => ?_) (fun b z => ?_) fun _ => hk
    · by_cases hb : b = a
      · exact .inr ⟨_, _, if_pos hb⟩
      · exact .inl (if_neg hb)
    · by_cases hb : b = a
      · cases (if_pos hb).symm.trans z
        subst hb
        exact ⟨ha, by rw [List.length_map]; exact hl, vs, _, rv, ha⟩
      · cases (if_neg hb).symm.trans z
    · by_cases hb : b = a
      · exact hb
      · exact absurd (if_neg hb) z
theorem walk_ofG {l : PySem.W.OpenLaw} {n k : Nat} {q : Program} {loose : List Str} {XP : (Str → Option Value) → Heap → Prop} {YP : World → Heap → Prop} {d : DefRec} {K : Params → PySem.W.Frag} {sp : PySem.W.Frag → Sp} {x : Str}
    (hn : l.most = some n) (hn2 : n ≤ sizeLine) (hdf : d.params.defaults = []) (hr : Room k callerA) (hY : ∀ (w : World) (h : Heap), YP w h → (K w.params).In h)
    (F : ∀ (w : World) (mg : Str → Option Value) (fa : Addr) (h : Heap), (K w.params).In h → h.Ns mainGlobals mg → mg d.name = some (.ref fa) →
      ∃ fd : FuncData, (∀ (s : Shared) (u : Value), BindsTo s fd ⟨[u], []⟩ [(x, u)]) ∧ ∀ base : Heap, (K w.params).In base → base.Ns mainGlobals mg → FnG l.prog w (K w.params) mg base k fa fd [x] (sp (K w.params)))
    (hsp : ∀ (K : PySem.W.Frag) (H : Hp) (a : Addr) (ns : List Int), ns.length ≤ n → Only H → SqL K H a (ns.map V.int) → sp K [.ref a] H (fun v _ => v = .bl true) fun _ _ _ => False) :
    PySem.W.WalkO q loose XP YP l.row.toRowW d [] (fun f vs => PySem.call f vs) := by
  refine Att.attach_call hn hdf fun w s0 s1 mg mb fa o pm cd doc a vs ns G Y ho hd hcd hmg hobj hints hlen hg => ?_
  obtain ⟨fd, hb, hF⟩ := F w mg fa _ (hY w _ Y) G.T.g hmg
  exact law_callG (hY w _ Y) G.T.g G.T.b G.T.builtins G.T.nolimit hg hobj hints (Nat.le_trans hlen hn2) hr hF hb fun H hO hS => hsp _ H a ns hlen hO hS
section
variable {X : Cx} {CX : CXT} {k : Nat} {f C : Addr} {fd : FuncData} {ps : List Str} {ds : List Value} {dvs : List V} {sp : Sp} {x : Str} {p pos : Pos} {e : Expr} {es : List Expr} {t : TA} {E : St → XK}
/-- C(e, ..) where what is raised is wished for at the slots -/
def tMakeS (C : Addr) (sp : Sp) (dvs : List V) (E : St → XK) (t : TA) : TE := fun σ H Q => t σ H fun vs H1 => ∀ x dx, H1 x = none → H1 dx = none → dx ≠ x →
  sp (.ref x :: (vs ++ dvs)) (upd (upd H1 dx (.own x)) x (.ins C dx [])) (fun v H2 => v = .non ∧ Q (.ref x) H2) (E σ)
theorem pe_makeS (M : Mk X.K C f) (F : FnOk X.prog X.w X.K X.mg X.base CX k f fd ps sp) (hr : Room (k + 1) X.A) (hg : Gl X x) (hm : X.mg x = some (.ref C)) (hb : Binds X.K fd ps ds) (hd : Vals dvs ds) (hx : ∀ σ, PassesAt CX X σ (E σ))
    (ha : PA X (e :: es) t) (hdb : (x == ("__debug__" : Str)) = false := by decide) (he : starEach (e :: es) X.env = (false, eval e X.env) :: starEach es X.env := by rfl) (hpl : (backTo pos (starEach es X.env)).any (·.1) = false := by rfl) :
    PE X (.Call (.Name x p) (e :: es) [] pos) (tMakeS C sp dvs E t) := by
  refine ⟨fun pins s0 σ H0 Q I0 h0 => wpAny_Call_Name_kw (ld_glob I0 hg hm ?_ hdb)⟩
  refine PySem.W.callWith_K (h₀ := X.base) I0.ok.mod.kin M.kp (thn (ha.run pos pins s0 σ H0 _ I0 h0) fun us s ⟨vs, H, I, r, h⟩ => ⟨I.kIn, ?_⟩) he hpl
  have hq := h (s.heap.objs.size + 1) s.heap.objs.size (I.hok.fresh (Nat.le_succ _)) (I.hok.fresh (Nat.le_refl _)) (Nat.ne_of_lt (Nat.lt_succ_self _))
  have I2 := Inv.made (C := C) I
  have r2 : Vals (V.ref (s.heap.objs.size + 1) :: (vs ++ dvs)) (Value.ref (s.heap.objs.size + 1) :: (us ++ ds)) := .cons rfl (r.append hd)
  have hl : (Value.ref (s.heap.objs.size + 1) :: us ++ ds).length = ps.length := r2.length.symm.trans (F.len _ _ _ _ hq)
  refine wpAny_call (make_map (f := f) I.kIn M.makes M.init (beq_iff_eq.mp M.fn) (codeAny_mono (F.run _ X.stack _ _ ⟨Value.ref (s.heap.objs.size + 1) :: us, []⟩ (Value.ref (s.heap.objs.size + 1) :: (us ++ ds)) _ _ (E σ) (hr.make C us [])
    (I2.env0.make C us []) (hb _ (Value.ref (s.heap.objs.size + 1) :: us) I2.kIn hl) r2 hq) fun r s' z => ?_))
  cases r with
  | error e => exact hx σ pins _ _ e s' I2 z
  | ok fl =>
    cases fl with
    | ret u =>
      obtain ⟨v, H', I3, rv, ev, q3⟩ := I2.after z
      subst ev
      exact ⟨rv, ⟨V.ref (s.heap.objs.size + 1), H', I3, rfl, q3⟩⟩
    | next => exact False.elim z
    | brk => exact False.elim z
    | cont => exact False.elim z
end
end L2

set_option Elab.async false
set_option linter.all false
set_option maxRecDepth 100000
set_option maxHeartbeats 2000000
namespace L2
open PySem PySem.Spec PyProof.Rows
/-- isinstance(e, (c1, c2)), e the error that the suite holds, with a dict of its own -/
def rIsEdT (K : PySem.W.Frag) (D a : Addr) (cls : Value) (d : Option Addr) : List V → Hp → VK → Prop := fun xs H Q => ∃ (tp : Addr) (cs : List V) (ws : List Value) (b : Bool) (dd : Addr) (fs : List (Str × V)),
  xs = [.ref a, .ref tp] ∧ cls = .ref D ∧ H tp = some (.tup cs) ∧ Paired ClsV cs ws ∧ d = some dd ∧ H dd = some (.xd fs) ∧ PySem.W.kitAny K (.ref D) ws = some b ∧ Q (.bl b) H
theorem call_isEdT {X : Cx} {a D : Addr} {cls : Value} {d : Option Addr} {oe : Obj} {pn : List (Addr × Obj)} (C : PySem.W.EcC X.K D) (hz : Zc cls d oe) (hf : ∃ vs, oe.data = .fields vs) :
    CallR (X.suite a ((a, oe) :: pn)) (.builtin "isinstance") (rIsEdT X.K D a cls d) := by
  intro pins s σ H xs us Q I r h
  obtain ⟨tp, cs, ws, b, dd, fs, rfl, rfl, hT, k, rfl, hdd, e, q⟩ := h
  obtain ⟨u1, u2, rfl, r1, r2⟩ := vals2 r
  cases (show u1 = Value.ref a from r1)
  cases (show u2 = Value.ref tp from r2)
  obtain ⟨hget, _⟩ := I.pin (a, oe) (List.mem_append.mpr (.inl List.mem_cons_self))
  obtain ⟨vs, hv⟩ := hf
  obtain ⟨mA, hns, _⟩ := (show ObjOk X.prog X.w H s.heap dd (.xd fs) from I.hok dd _ hdd)
  obtain ⟨od, ho, _⟩ := lookIn_ns hns
  have J : PySem.W.InstAt s.heap a oe D (some od) := ⟨hget, hz.1, by unfold PySem.W.notCls; rw [hv] <;> rfl, by rw [hz.2]; exact ho⟩
  obtain ⟨_, its, rv, o, h1, h2, n, h3⟩ := (show ObjOk X.prog X.w H s.heap tp (.tup cs) from I.hok tp _ hT)
  have e3 := ClsV.all k rv
  subst e3
  obtain ⟨oc, od', dt, sl⟩ := o
  simp only at h2 h3
  subst h2 h3
  exact PySem.W.kia_tup (PySem.W.ec_kit C) I.kIn J h1 e (fun z => nomatch z) fun tk => ⟨.bl b, H, I.kept (t' := tk) fun _ _ z => z, rfl, q⟩
/-- x not in q, q a list or a tuple of data -/
def rNinQ (K : PySem.W.Frag) : R2 := fun x y H Q => ∃ d e ds, Dp K H x d ∧ Dp K H y e ∧ (e = .list ds ∨ e = .tuple ds) ∧ SeqAt.shaped d = true ∧ SeqAt.shaped (.list ds) = true ∧ Q (.bl (!(ds.any fun z => PyData.eqv z d))) H
theorem ninQK {X : Cx} {K : PySem.W.Frag} (h : X.K = K) (hu : X.A.units + 65 < cLine) : OpR X (compareOp .NotIn) (rNinQ K) := by
  subst h
  intro pins s σ H x y v u Q I rx ry h
  obtain ⟨d, e, ds, hd, he, hs, sd, se, q⟩ := h
  obtain ⟨as, r1⟩ := Dp.reads I d x v hd rx
  obtain ⟨bs, r2⟩ := Dp.reads I e y u he ry
  rcases hs with rfl | rfl
  · exact SeqAt.notIn_list_reads r2 r1 (SeqAt.canLay_of_shaped se) (SeqAt.canLay_of_shaped sd) (room_in_shaped sd hu) ⟨.bl _, H, I, rfl, q⟩
  · exact SeqAt.notIn_tuple_reads r2 r1 (SeqAt.canLay_of_shaped se) (SeqAt.canLay_of_shaped sd) (room_in_shaped sd hu) ⟨.bl _, H, I, rfl, q⟩
end L2

set_option Elab.async false
set_option linter.all false
set_option maxRecDepth 100000
set_option maxHeartbeats 1000000
namespace FH
open PySem L2
local macro_rules | `(tactic| walk_at "seq") => `(tactic| first | assumption | exact SqL.of (by assumption) | exact SqT.of (by assumption) | exact SqL.of upd_same | exact SqT.of upd_same)
local macro_rules | `(tactic| walk_at "at") => `(tactic| first | exact atI_nat (j := 0) rfl | exact atI_nat (j := 1) rfl | exact atI_nat (j := 2) rfl | exact atI_nat (by assumption) | assumption)
local macro_rules | `(tactic| walk_at "ar") => `(tactic| first | omega | exact ⟨by omega, by omega⟩ | exact Or.inl ⟨by omega, by omega⟩ | exact Or.inr ⟨by omega, by omega⟩ | exact ⟨by decide, by decide⟩ | exact Or.inr ⟨by decide, by decide⟩ | exact Or.inl ⟨by decide, by decide⟩ | exact ⟨by decide, by decide, by omega⟩ | exact ⟨by decide, by decide, by decide⟩)
local macro_rules | `(tactic| walk_at "r") => `(tactic| repeat (first
  | refine ⟨_, rfl, ?_⟩
  | refine ⟨_, _, rfl, rfl, ?_⟩
  | refine ⟨_, _, _, _, rfl, rfl, by walk_at "seq", by walk_at "at", ?_⟩
  | refine ⟨_, _, _, _, rfl, rfl, by assumption, rfl, ?_⟩
  | refine ⟨_, _, rfl, Or.inl (by walk_at "seq"), ?_⟩
  | refine Or.inl ⟨_, rfl, ?_⟩
  | refine Or.inr ⟨_, rfl, ?_⟩
  | refine And.intro (by walk_at "ar") ?_))
theorem lookw (v : V) : List.lookup ("word" : Str) [(("word" : Str), v)] = some v := by simp [List.lookup]
/-- what is no saying -/
def BadS (K : PySem.W.Frag) (Y : Sy) (H : Hp) (v : V) : Prop := ∃ t, (∀ H', Same H H' → TyX K H' v t) ∧ PySem.W.kitOne K t (.ref Y.say) = some false
def GoodS (Y : Sy) (C : Addr) (H : Hp) (v : V) (u : Tl) : Prop := ∃ a, v = .ref a ∧ SayAt Y C H u a ∧ SmT u
def dN (s t : Str) : Prop := decide (V.str s = V.str t) = false
def spRefd (K : PySem.W.Frag) (Y : Sy) (C : Addr) (R : Rc) : Sp := fun vs H Q _ => ∃ (n : Nat) (v1 v2 v3 : V), vs = [.int n, v1, v2, v3] ∧
  ((n ≤ 3 ∧ BadS K Y H v1 ∧ ∀ H', Same H H' → Q (.str (Str.ofString "saying")) H') ∨
   (n = 3 ∧ (∃ u, GoodS Y C H v1 u) ∧ BadR K R H v2 ∧ ∀ H', Same H H' → Q (.str (Str.ofString "rows")) H') ∨
   (n = 3 ∧ (∃ u, GoodS Y C H v1 u) ∧ (∃ rs, GoodR K Y C R H v2 rs) ∧ BadR K R H v3 ∧ ∀ H', Same H H' → Q (.str (Str.ofString "rows")) H') ∨
   (n = 3 ∧ (∃ u rs os, GoodS Y C H v1 u ∧ GoodR K Y C R H v2 rs ∧ GoodR K Y C R H v3 os ∧ JoinOk (Rw.iff u rs os).lines ∧ dN (nlS (Rw.iff u rs os).lines) (Str.ofString "")) ∧ ∀ H', Same H H' → Q (.bl false) H') ∨
   (n = 4 ∧ BadM K H v1 ∧ ∀ H', Same H H' → Q (.str (Str.ofString "many")) H') ∨
   (n = 4 ∧ (∃ m : Nat, v1 = .int m ∧ 1 ≤ m ∧ m ≤ 9) ∧ BadR K R H v2 ∧ ∀ H', Same H H' → Q (.str (Str.ofString "rows")) H') ∨
   (n = 4 ∧ (∃ (m : Nat) (rs : List Rw), v1 = .int m ∧ 1 ≤ m ∧ m ≤ 9 ∧ GoodR K Y C R H v2 rs ∧ JoinOk (Rw.times m rs).lines ∧ dN (nlS (Rw.times m rs).lines) (Str.ofString "?")) ∧ ∀ H', Same H H' → Q (.bl false) H') ∨
   (n = 5 ∧ BadR K R H v2 ∧ ∀ H', Same H H' → Q (.str (Str.ofString "rows")) H') ∨
   (n = 5 ∧ (∃ rs, GoodR K Y C R H v2 rs ∧ (linesR rs).length ≤ 100000 ∧ JoinOk (linesR rs) ∧ dN (nlS (linesR rs)) (Str.ofString "?")) ∧ ∀ H', Same H H' → Q (.bl false) H'))
section
variable {P : Program} {w : World} {K : PySem.W.Frag} {mg : Str → Option Value} {base : Heap} {C CT fE CI CS CK TK : Addr} {Y : Sy} {R : Rc}
theorem made3 {H : Hp} {x dx D : Addr} (nx : H x = none) (nd : H dx = none) (ne : dx ≠ x) : Same H (upd (upd H dx (.own x)) x (.ins D dx [])) := fun b o e => by
  rw [upd_ne (fun z => by rw [z, nx] at e; cases e), upd_ne (fun z => by rw [z, nd] at e; cases e)]; exact e
theorem sc__law_refused : FnScope ["_law_form", "_law_first", "_law_second", "_law_third", "_law_found", "e"] ["_law_form", "_law_first", "_law_second", "_law_third"] (defScope (topS 115)) := ⟨rfl, rfl, rfl, by decide +kernel, rfl, by decide +kernel, by decide +kernel⟩
theorem ok_refd {f fs fa fh fi ft fK fRs fTs : Addr} {fd fds fda fdh fdi fdt fdK fdRs fdTs : FuncData} {k : Nat} (F : Fun K "_law_refused" "_law_refused" (topS 115) f fd) (T : Bt mg) (L : SyC K mg Y C) (LR : RwC K mg R) (LT : TkC K TK) (XE : PySem.ErrX.ErrTxt P K mg "InvalidTalk" CT fE)
    (Gs : FnOk P w K mg base (L2.CX P w) (k + 6) fs fds ["self", "saying"] (spSay1 K Y C CT R R.say Rw.say)) (bs : Binds K fds ["self", "saying"] []) (Ms : Mk K R.say fs) (gs : mg "Say" = some (.ref R.say))
    (Ga : FnOk P w K mg base (L2.CX P w) (k + 6) fa fda ["self", "saying"] (spSay1 K Y C CT R R.ask Rw.ask)) (ba : Binds K fda ["self", "saying"] []) (Ma : Mk K R.ask fa) (ga : mg "Ask" = some (.ref R.ask))
    (Gh : FnOk P w K mg base (L2.CX P w) (k + 6) fh fdh ["self", "saying"] (spSay1 K Y C CT R R.hnd Rw.hands)) (bh : Binds K fdh ["self", "saying"] []) (Mh : Mk K R.hnd fh) (gh : mg "Hands" = some (.ref R.hnd))
    (Gi : FnOk P w K mg base (L2.CX P w) (k + 6) fi fdi ["self", "saying", "rows", "others"] (spIff K Y C CT R)) (bi : Binds K fdi ["self", "saying", "rows", "others"] []) (Mi : Mk K R.iff fi) (gi : mg "If" = some (.ref R.iff))
    (Gt : FnOk P w K mg base (L2.CX P w) (k + 6) ft fdt ["self", "many", "rows"] (spTim K Y C CT R)) (bt : Binds K fdt ["self", "many", "rows"] []) (Mt : Mk K R.tim ft) (gt : mg "Times" = some (.ref R.tim))
    (GK : FnOk P w K mg base (L2.CX P w) (k + 6) fK fdK ["self", "rows"] (spTkI K Y C CT R TK)) (bK : Binds K fdK ["self", "rows"] []) (MK : Mk K TK fK) (gK : mg "Talk" = some (.ref TK))
    (GRs : FnOk P w K mg base CX0 (k + 5) fRs fdRs ["self"] (spRStr K Y C R)) (bRs : Binds K fdRs ["self"] []) (fnRs : PySem.W.isFn K (.ref fRs) = true) (alRs : ∀ D ∈ R.all, PySem.W.findIn K (.ref D) "__str__" = some (some (.ref fRs)))
    (GTs : FnOk P w K mg base CX0 (k + 5) fTs fdTs ["self"] (spTkStr K Y C R TK)) (bTs : Binds K fdTs ["self"] []) (fnTs : PySem.W.isFn K (.ref fTs) = true) (alTs : PySem.W.findIn K (.ref TK) "__str__" = some (some (.ref fTs)))
    (EC : PySem.W.EcC K CT) (XF : XfC K CT) (te : PySem.W.exmOne K (.ref CT) (.ref CT) = some true) (gCK : mg "KnowError" = some (.ref CK)) (gCI : mg "InvalidCrowds" = some (.ref CI)) (gCS : mg "InvalidSaying" = some (.ref CS))
    (kCK : PySem.W.kitOne K (.ref CT) (.ref CK) = some true) (kCI : PySem.W.kitAny K (.ref CT) [.ref CS, .ref CI] = some false) :
    FnOk P w K mg base CX0 (k + 8) f fd ["_law_form", "_law_first", "_law_second", "_law_third"] (spRefd K Y C R) := by
  refine F.ok sc__law_refused (fun vs H Q E h => ?_) (fun cdv A outer s H vs Q E hr h => ?_)
  · obtain ⟨n, v1, v2, v3, rfl, _⟩ := h
    rfl
  · obtain ⟨n, v1, v2, v3, rfl, h⟩ := h
    have hrM : Room (k + 7) _ := hr
    have hrS : Room (k + 7) _ := hr
    refine ⟨_, (pss_cons (ps_set (i := 4) sc__law_refused.nd rfl (by first | exact Or.inl rfl | exact Or.inr rfl) pe_non) (pss_cons (ps_try_as (i := 5) (Wout := fun _ _ _ _ => False) rfl rfl sc__law_refused.nd rfl rfl ⟨rfl, by decide, .inl XE.gC⟩ takes0 (fun W pn xe tk _ => (pss_one (ps_if (pt_cmpR op_lt (pv 0) pe_int (nomark _)) (pss_one (ps_set (i := 4) sc__law_refused.nd rfl (by first | exact Or.inl rfl | exact Or.inr rfl) (pe_cmpR op_eq (pe_callTy (call_strO (K := K) rfl GRs hrS bRs pass0 fnRs) (by rfl) T.m_str (by decide +kernel) (pa_cons (pe_lst (pa_cons (pe_ifExp (pt_cmpR op_eq (pv 0) pe_int (nomark _)) (pe_makeS Ms Gs hrM (by rfl) gs bs .nil (fun σ => passAt tk σ) (pa_cons (pv 1) pa_nil)) (pe_ifExp (pt_cmpR op_eq (pv 0) pe_int (nomark _)) (pe_makeS Ma Ga hrM (by rfl) ga ba .nil (fun σ => passAt tk σ) (pa_cons (pv 1) pa_nil)) (pe_makeS Mh Gh hrM (by rfl) gh bh .nil (fun σ => passAt tk σ) (pa_cons (pv 1) pa_nil)))) pa_nil)) pa_nil)) pe_str (nomark _)))) (pss_one (ps_if (pt_cmpR op_eq (pv 0) pe_int (nomark _)) (pss_one (ps_set (i := 4) sc__law_refused.nd rfl (by first | exact Or.inl rfl | exact Or.inr rfl) (pe_cmpR op_eq (pe_callTy (call_strO (K := K) rfl GRs hrS bRs pass0 fnRs) (by rfl) T.m_str (by decide +kernel) (pa_cons (pe_makeS Mi Gi hrM (by rfl) gi bi .nil (fun σ => passAt tk σ) (pa_cons (pv 1) (pa_cons (pv 2) (pa_cons (pv 3) pa_nil)))) pa_nil)) pe_str (nomark _)))) (pss_one (ps_set (i := 4) sc__law_refused.nd rfl (by first | exact Or.inl rfl | exact Or.inr rfl) (pe_cmpR op_eq (pe_callTy (CallR.or (call_strO (K := K) rfl GRs hrS bRs pass0 fnRs) (call_strO (K := K) rfl GTs hrS bTs pass0 fnTs)) (by rfl) T.m_str (by decide +kernel) (pa_cons (pe_ifExp (pt_cmpR op_eq (pv 0) pe_int (nomark _)) (pe_makeS Mt Gt hrM (by rfl) gt bt .nil (fun σ => passAt tk σ) (pa_cons (pv 1) (pa_cons (pv 2) pa_nil))) (pe_makeS MK GK hrM (by rfl) gK bK .nil (fun σ => passAt tk σ) (pa_cons (pv 2) pa_nil))) pa_nil)) pe_str (nomark _))))))))) (fun a oe cls d pn hz hf => (pss_one (ps_set (i := 4) sc__law_refused.nd rfl (Or.inl rfl) (pe_ifExp (PW.pt (pw_and (pt_val (pe_callB (call_isEd EC hz hf) (by rfl) T.m_isinstance (by decide +kernel) (pa_cons (pv 5) (pa_cons (pe_glob (v := .ref CK) (by rfl) gCK rfl) pa_nil)))) (pw_and1 (pt_not (pt_val (pe_callB (call_isEdT EC hz hf) (by rfl) T.m_isinstance (by decide +kernel) (pa_cons (pv 5) (pa_cons (pe_tup (pa_cons (pe_glob (v := .ref CS) (by rfl) gCS rfl) (pa_cons (pe_glob (v := .ref CI) (by rfl) gCI rfl) pa_nil))) pa_nil)))))))) (pe_xf XF XE.noN hz hf (pv 5)) pe_str))))) (pss_one (ps_ret (pv 4))))), ?_⟩
    rcases h with ⟨hn, ⟨t, ty, kt⟩, q⟩ | ⟨rfl, ⟨u, z, rfl, hz, hu⟩, hb, q⟩ | ⟨rfl, ⟨u, z, rfl, hz, hu⟩, ⟨rs, hg⟩, hb, q⟩ | ⟨rfl, ⟨u, rs, os, ⟨z, rfl, hz, hu⟩, hg, ho, hj, hne⟩, q⟩ | ⟨rfl, hm, q⟩ | ⟨rfl, ⟨m, rfl, m1, m9⟩, hb, q⟩ | ⟨rfl, ⟨m, rs, rfl, m1, m9, hg, hj, hne⟩, q⟩ | ⟨rfl, hb, q⟩ | ⟨rfl, ⟨rs, hg, hl, hj, hne⟩, q⟩
    · match n, hn with
      | 0, _ =>
        refine ⟨_, rfl, _, _, rfl, rfl, _, rfl, iteT ⟨_, rfl, rfl, _, rfl, iteT ?_⟩⟩
        refine ⟨_, rfl, fun x dx nx ndx nex => ⟨H, x, dx, v1, rfl, nx, made3 nx ndx nex, upd_same, .inr ⟨t, ty _ (made3 nx ndx nex), kt, fun d H' s' nd hd => ?_⟩⟩⟩
        have sm : Same H H' := (made3 nx ndx nex).trans s'
        refine ⟨true, te, fun _ a na => ?_, fun q => Bool.noConfusion q⟩
        refine ⟨_, rfl, _, _, _, d, _, rfl, rfl, .own CK, rfl, hd, kCK, _, rfl, iteT ?_⟩
        refine ⟨_, rfl, by show 2 ≤ sizeLine; decide, fun tp ntp => ?_⟩
        have sm2 := same_new (o := .tup [.ref CS, .ref CI]) ntp
        refine ⟨tp, _, _, _, d, _, rfl, rfl, upd_same, .cons (.own CS) (.cons (.own CI) .nil), rfl, sm2 _ _ hd, kCI, _, rfl, iteT ?_⟩
        refine ⟨_, rfl, rfl, rfl, d, _, .str "saying", rfl, sm2 _ _ hd, lookw _, _, rfl, ?_⟩
        exact q _ (sm.trans sm2)
      | 1, _ =>
        refine ⟨_, rfl, _, _, rfl, rfl, _, rfl, iteT ⟨_, rfl, rfl, _, rfl, iteF ⟨_, rfl, rfl, _, rfl, iteT ?_⟩⟩⟩
        refine ⟨_, rfl, fun x dx nx ndx nex => ⟨H, x, dx, v1, rfl, nx, made3 nx ndx nex, upd_same, .inr ⟨t, ty _ (made3 nx ndx nex), kt, fun d H' s' nd hd => ?_⟩⟩⟩
        have sm : Same H H' := (made3 nx ndx nex).trans s'
        refine ⟨true, te, fun _ a na => ?_, fun q => Bool.noConfusion q⟩
        refine ⟨_, rfl, _, _, _, d, _, rfl, rfl, .own CK, rfl, hd, kCK, _, rfl, iteT ?_⟩
        refine ⟨_, rfl, by show 2 ≤ sizeLine; decide, fun tp ntp => ?_⟩
        have sm2 := same_new (o := .tup [.ref CS, .ref CI]) ntp
        refine ⟨tp, _, _, _, d, _, rfl, rfl, upd_same, .cons (.own CS) (.cons (.own CI) .nil), rfl, sm2 _ _ hd, kCI, _, rfl, iteT ?_⟩
        refine ⟨_, rfl, rfl, rfl, d, _, .str "saying", rfl, sm2 _ _ hd, lookw _, _, rfl, ?_⟩
        exact q _ (sm.trans sm2)
      | 2, _ =>
        refine ⟨_, rfl, _, _, rfl, rfl, _, rfl, iteT ⟨_, rfl, rfl, _, rfl, iteF ⟨_, rfl, rfl, _, rfl, iteF ?_⟩⟩⟩
        refine ⟨_, rfl, fun x dx nx ndx nex => ⟨H, x, dx, v1, rfl, nx, made3 nx ndx nex, upd_same, .inr ⟨t, ty _ (made3 nx ndx nex), kt, fun d H' s' nd hd => ?_⟩⟩⟩
        have sm : Same H H' := (made3 nx ndx nex).trans s'
        refine ⟨true, te, fun _ a na => ?_, fun q => Bool.noConfusion q⟩
        refine ⟨_, rfl, _, _, _, d, _, rfl, rfl, .own CK, rfl, hd, kCK, _, rfl, iteT ?_⟩
        refine ⟨_, rfl, by show 2 ≤ sizeLine; decide, fun tp ntp => ?_⟩
        have sm2 := same_new (o := .tup [.ref CS, .ref CI]) ntp
        refine ⟨tp, _, _, _, d, _, rfl, rfl, upd_same, .cons (.own CS) (.cons (.own CI) .nil), rfl, sm2 _ _ hd, kCI, _, rfl, iteT ?_⟩
        refine ⟨_, rfl, rfl, rfl, d, _, .str "saying", rfl, sm2 _ _ hd, lookw _, _, rfl, ?_⟩
        exact q _ (sm.trans sm2)
      | 3, _ =>
        refine ⟨_, rfl, _, _, rfl, rfl, _, rfl, iteF ⟨_, rfl, rfl, _, rfl, iteT ?_⟩⟩
        refine ⟨_, rfl, _, rfl, _, rfl, fun x dx nx ndx nex => ⟨H, x, dx, v1, v2, v3, rfl, nx, made3 nx ndx nex, upd_same, .inr ⟨t, ty _ (made3 nx ndx nex), kt, fun d H' s' nd hd => ?_⟩⟩⟩
        have sm : Same H H' := (made3 nx ndx nex).trans s'
        refine ⟨true, te, fun _ a na => ?_, fun q => Bool.noConfusion q⟩
        refine ⟨_, rfl, _, _, _, d, _, rfl, rfl, .own CK, rfl, hd, kCK, _, rfl, iteT ?_⟩
        refine ⟨_, rfl, by show 2 ≤ sizeLine; decide, fun tp ntp => ?_⟩
        have sm2 := same_new (o := .tup [.ref CS, .ref CI]) ntp
        refine ⟨tp, _, _, _, d, _, rfl, rfl, upd_same, .cons (.own CS) (.cons (.own CI) .nil), rfl, sm2 _ _ hd, kCI, _, rfl, iteT ?_⟩
        refine ⟨_, rfl, rfl, rfl, d, _, .str "saying", rfl, sm2 _ _ hd, lookw _, _, rfl, ?_⟩
        exact q _ (sm.trans sm2)
    · refine ⟨_, rfl, _, _, rfl, rfl, _, rfl, iteF ⟨_, rfl, rfl, _, rfl, iteT ?_⟩⟩
      refine ⟨_, rfl, _, rfl, _, rfl, fun x dx nx ndx nex => ⟨H, x, dx, .ref z, v2, v3, rfl, nx, made3 nx ndx nex, upd_same, .inl ⟨z, u, rfl, hz, hu, .inr ⟨hb, fun d H' sm hd => ?_⟩⟩⟩⟩
      refine ⟨true, te, fun _ a na => ?_, fun q => Bool.noConfusion q⟩
      refine ⟨_, rfl, _, _, _, d, _, rfl, rfl, .own CK, rfl, hd, kCK, _, rfl, iteT ?_⟩
      refine ⟨_, rfl, by show 2 ≤ sizeLine; decide, fun tp ntp => ?_⟩
      have sm2 := same_new (o := .tup [.ref CS, .ref CI]) ntp
      refine ⟨tp, _, _, _, d, _, rfl, rfl, upd_same, .cons (.own CS) (.cons (.own CI) .nil), rfl, sm2 _ _ hd, kCI, _, rfl, iteT ?_⟩
      refine ⟨_, rfl, rfl, rfl, d, _, .str "rows", rfl, sm2 _ _ hd, lookw _, _, rfl, ?_⟩
      exact q _ (sm.trans sm2)
    · refine ⟨_, rfl, _, _, rfl, rfl, _, rfl, iteF ⟨_, rfl, rfl, _, rfl, iteT ?_⟩⟩
      refine ⟨_, rfl, _, rfl, _, rfl, fun x dx nx ndx nex => ⟨H, x, dx, .ref z, v2, v3, rfl, nx, made3 nx ndx nex, upd_same, .inl ⟨z, u, rfl, hz, hu, .inl ⟨rs, hg, .inr ⟨hb, fun d H' sm hd => ?_⟩⟩⟩⟩⟩
      refine ⟨true, te, fun _ a na => ?_, fun q => Bool.noConfusion q⟩
      refine ⟨_, rfl, _, _, _, d, _, rfl, rfl, .own CK, rfl, hd, kCK, _, rfl, iteT ?_⟩
      refine ⟨_, rfl, by show 2 ≤ sizeLine; decide, fun tp ntp => ?_⟩
      have sm2 := same_new (o := .tup [.ref CS, .ref CI]) ntp
      refine ⟨tp, _, _, _, d, _, rfl, rfl, upd_same, .cons (.own CS) (.cons (.own CI) .nil), rfl, sm2 _ _ hd, kCI, _, rfl, iteT ?_⟩
      refine ⟨_, rfl, rfl, rfl, d, _, .str "rows", rfl, sm2 _ _ hd, lookw _, _, rfl, ?_⟩
      exact q _ (sm.trans sm2)
    · refine ⟨_, rfl, _, _, rfl, rfl, _, rfl, iteF ⟨_, rfl, rfl, _, rfl, iteT ?_⟩⟩
      refine ⟨_, rfl, _, rfl, _, rfl, fun x dx nx ndx nex => ⟨H, x, dx, .ref z, v2, v3, rfl, nx, made3 nx ndx nex, upd_same, .inl ⟨z, u, rfl, hz, hu, .inl ⟨rs, hg, .inl ⟨os, ho, fun H' sm rw => ⟨rfl, ?_⟩⟩⟩⟩⟩⟩
      obtain ⟨dw, fw, tw, w1, _, _⟩ := rw.ins
      refine ⟨x, _, dw, fw, rfl, w1, alRs _ (Rw.cls_mem R _), x, _, rfl, rw, hj, ⟨_, rfl, rfl, _, rfl, ?_⟩⟩
      rw [show decide (V.str (nlS (Rw.iff u rs os).lines) = V.str (Str.ofString "")) = false from hne]
      exact q _ sm
    · refine ⟨_, rfl, _, _, rfl, rfl, _, rfl, iteF ⟨_, rfl, rfl, _, rfl, iteF ?_⟩⟩
      refine ⟨_, rfl, rfl, _, rfl, iteT ?_⟩
      refine ⟨_, rfl, _, rfl, fun x dx nx ndx nex => ⟨H, x, dx, v1, v2, rfl, nx, made3 nx ndx nex, upd_same, .inr ⟨hm, fun d H' s' nd hd => ?_⟩⟩⟩
      have sm : Same H H' := (made3 nx ndx nex).trans s'
      refine ⟨true, te, fun _ a na => ?_, fun q => Bool.noConfusion q⟩
      refine ⟨_, rfl, _, _, _, d, _, rfl, rfl, .own CK, rfl, hd, kCK, _, rfl, iteT ?_⟩
      refine ⟨_, rfl, by show 2 ≤ sizeLine; decide, fun tp ntp => ?_⟩
      have sm2 := same_new (o := .tup [.ref CS, .ref CI]) ntp
      refine ⟨tp, _, _, _, d, _, rfl, rfl, upd_same, .cons (.own CS) (.cons (.own CI) .nil), rfl, sm2 _ _ hd, kCI, _, rfl, iteT ?_⟩
      refine ⟨_, rfl, rfl, rfl, d, _, .str "many", rfl, sm2 _ _ hd, lookw _, _, rfl, ?_⟩
      exact q _ (sm.trans sm2)
    · refine ⟨_, rfl, _, _, rfl, rfl, _, rfl, iteF ⟨_, rfl, rfl, _, rfl, iteF ?_⟩⟩
      refine ⟨_, rfl, rfl, _, rfl, iteT ?_⟩
      refine ⟨_, rfl, _, rfl, fun x dx nx ndx nex => ⟨H, x, dx, .int m, v2, rfl, nx, made3 nx ndx nex, upd_same, .inl ⟨m, rfl, m1, m9, .inr ⟨hb, fun d H' sm hd => ?_⟩⟩⟩⟩
      refine ⟨true, te, fun _ a na => ?_, fun q => Bool.noConfusion q⟩
      refine ⟨_, rfl, _, _, _, d, _, rfl, rfl, .own CK, rfl, hd, kCK, _, rfl, iteT ?_⟩
      refine ⟨_, rfl, by show 2 ≤ sizeLine; decide, fun tp ntp => ?_⟩
      have sm2 := same_new (o := .tup [.ref CS, .ref CI]) ntp
      refine ⟨tp, _, _, _, d, _, rfl, rfl, upd_same, .cons (.own CS) (.cons (.own CI) .nil), rfl, sm2 _ _ hd, kCI, _, rfl, iteT ?_⟩
      refine ⟨_, rfl, rfl, rfl, d, _, .str "rows", rfl, sm2 _ _ hd, lookw _, _, rfl, ?_⟩
      exact q _ (sm.trans sm2)
    · refine ⟨_, rfl, _, _, rfl, rfl, _, rfl, iteF ⟨_, rfl, rfl, _, rfl, iteF ?_⟩⟩
      refine ⟨_, rfl, rfl, _, rfl, iteT ?_⟩
      refine ⟨_, rfl, _, rfl, fun x dx nx ndx nex => ⟨H, x, dx, .int m, v2, rfl, nx, made3 nx ndx nex, upd_same, .inl ⟨m, rfl, m1, m9, .inl ⟨rs, hg, fun H' sm rw => ⟨rfl, ?_⟩⟩⟩⟩⟩
      obtain ⟨dw, fw, tw, w1, _, _⟩ := rw.ins
      refine .inl ⟨x, _, dw, fw, rfl, w1, alRs _ (Rw.cls_mem R _), x, _, rfl, rw, hj, ⟨_, rfl, rfl, _, rfl, ?_⟩⟩
      rw [show decide (V.str (nlS (Rw.times m rs).lines) = V.str (Str.ofString "?")) = false from hne]
      exact q _ sm
    · refine ⟨_, rfl, _, _, rfl, rfl, _, rfl, iteF ⟨_, rfl, rfl, _, rfl, iteF ?_⟩⟩
      refine ⟨_, rfl, rfl, _, rfl, iteF ?_⟩
      refine ⟨_, rfl, fun x dx nx ndx nex => ⟨H, x, dx, v2, rfl, nx, made3 nx ndx nex, upd_same, .inr ⟨hb, fun d H' sm hd => ?_⟩⟩⟩
      refine ⟨true, te, fun _ a na => ?_, fun q => Bool.noConfusion q⟩
      refine ⟨_, rfl, _, _, _, d, _, rfl, rfl, .own CK, rfl, hd, kCK, _, rfl, iteT ?_⟩
      refine ⟨_, rfl, by show 2 ≤ sizeLine; decide, fun tp ntp => ?_⟩
      have sm2 := same_new (o := .tup [.ref CS, .ref CI]) ntp
      refine ⟨tp, _, _, _, d, _, rfl, rfl, upd_same, .cons (.own CS) (.cons (.own CI) .nil), rfl, sm2 _ _ hd, kCI, _, rfl, iteT ?_⟩
      refine ⟨_, rfl, rfl, rfl, d, _, .str "rows", rfl, sm2 _ _ hd, lookw _, _, rfl, ?_⟩
      exact q _ (sm.trans sm2)
    · refine ⟨_, rfl, _, _, rfl, rfl, _, rfl, iteF ⟨_, rfl, rfl, _, rfl, iteF ?_⟩⟩
      refine ⟨_, rfl, rfl, _, rfl, iteF ?_⟩
      refine ⟨_, rfl, fun x dx nx ndx nex => ⟨H, x, dx, v2, rfl, nx, made3 nx ndx nex, upd_same, .inl ⟨rs, hg, fun H' sm tk => ⟨rfl, ?_⟩⟩⟩⟩
      obtain ⟨dt, tt, as, i1, i2, i3⟩ := id tk
      refine .inr ⟨x, TK, dt, _, rfl, i1, alTs, x, rs, rfl, tk, hl, hj, fun H2 s2 => ⟨_, rfl, rfl, _, rfl, ?_⟩⟩
      rw [show decide (V.str (nlS (linesR rs)) = V.str (Str.ofString "?")) = false from hne]
      exact q _ (sm.trans s2)
end
end FH

set_option Elab.async false
set_option linter.all false
set_option maxRecDepth 100000
set_option maxHeartbeats 1000000
namespace FH
open PySem L2
local macro_rules | `(tactic| walk_at "seq") => `(tactic| first | assumption | exact SqL.of (by assumption) | exact SqT.of (by assumption) | exact SqL.of upd_same | exact SqT.of upd_same)
local macro_rules | `(tactic| walk_at "at") => `(tactic| first | exact atI_nat (j := 0) rfl | exact atI_nat (j := 1) rfl | exact atI_nat (j := 2) rfl | exact atI_nat (by assumption) | assumption)
local macro_rules | `(tactic| walk_at "ar") => `(tactic| first | omega | exact ⟨by omega, by omega⟩ | exact Or.inl ⟨by omega, by omega⟩ | exact Or.inr ⟨by omega, by omega⟩ | exact ⟨by decide, by decide⟩ | exact Or.inr ⟨by decide, by decide⟩ | exact Or.inl ⟨by decide, by decide⟩ | exact ⟨by decide, by decide, by omega⟩ | exact ⟨by decide, by decide, by decide⟩)
local macro_rules | `(tactic| walk_at "r") => `(tactic| repeat (first
  | refine ⟨_, rfl, ?_⟩
  | refine ⟨_, _, rfl, rfl, ?_⟩
  | refine ⟨_, _, _, _, rfl, rfl, by walk_at "seq", by walk_at "at", ?_⟩
  | refine ⟨_, _, _, _, rfl, rfl, by assumption, rfl, ?_⟩
  | refine ⟨_, _, rfl, Or.inl (by walk_at "seq"), ?_⟩
  | refine Or.inl ⟨_, rfl, ?_⟩
  | refine Or.inr ⟨_, rfl, ?_⟩
  | refine And.intro (by walk_at "ar") ?_))
def spLaw (K : PySem.W.Frag) : Sp := fun vs H Q _ => ∃ (a : Addr) (ns : List Int), vs = [.ref a] ∧ SqL K H a (ns.map V.int) ∧ ns.length ≤ 63 ∧ ∀ H', Q (.bl true) H'
theorem op_notB {X : Cx} : OpR X (compareOp .IsNot) (fun x y H Q => ∃ b c, x = .bl b ∧ y = .bl c ∧ Q (.bl (!decide (b = c))) H) := by
  intro pins s σ H x y v u Q I rx ry h
  obtain ⟨b, c, rfl, rfl, q⟩ := h
  cases rx
  cases ry
  have e : ∀ x y : Bool, Value.bool (!(Value.bool x == Value.bool y)) = Value.bool (!decide (x = y)) := fun x y => by cases x <;> cases y <;> rfl
  have key : ∀ x y : Bool, Q (.bl (!decide (x = y))) H → EP X pins σ Q (Value.bool (!(Value.bool x == Value.bool y))) s := fun x y q => ⟨.bl (!decide (x = y)), H, I, e x y, q⟩
  cases b <;> cases c <;> exact wpAny_pure (key _ _ q)
/-- what is known of classes -/
structure KtF (K : PySem.W.Frag) (Y : Sy) (R : Rc) (TK : Addr) : Prop where
  sy : ∀ t ∈ [Value.type "NoneType", .type "int", .type "bool", .type "str", .type "tuple", .type "list", .ref R.stp, .ref TK], PySem.W.kitOne K t (.ref Y.say) = some false
  rw : ∀ t ∈ [Value.type "NoneType", .type "str", .type "list", .type "tuple", .ref Y.lst], PySem.W.kitOne K t (.ref R.row) = some false
  sq : ∀ t ∈ [Value.type "NoneType", .type "int", .type "str", .ref R.stp, .ref Y.lst, .ref TK], PySem.W.kitAny K t [.type "list", .type "tuple"] = some false
  it : ∀ t ∈ [Value.type "NoneType", .type "str", .type "tuple", .ref Y.lst], PySem.W.kitOne K t (.type "int") = some false
def goods : List (List Rw) := [[], [], [.step], [.step, .say (.least false 2)], [.times 2 [.step]], [.iff .silent [] [.step]]]
theorem g_if : ∀ rs ∈ goods, (((Rw.iff (.least false 2) rs rs).lines.map (·.length)).sum + (Rw.iff (.least false 2) rs rs).lines.length * 1 ≤ 16777216) ∧ decide (V.str (nlS (Rw.iff (.least false 2) rs rs).lines) = V.str (Str.ofString "")) = false := by
  intro rs hrs
  simp only [goods, List.mem_cons, List.not_mem_nil, or_false] at hrs
  rcases hrs with rfl | rfl | rfl | rfl | rfl | rfl <;> decide +kernel
theorem g_tk : ∀ rs ∈ goods, (linesR rs).length ≤ 100000 ∧ ((linesR rs).map (·.length)).sum + (linesR rs).length * 1 ≤ 16777216 ∧ decide (V.str (nlS (linesR rs)) = V.str (Str.ofString "?")) = false := by
  intro rs hrs
  simp only [goods, List.mem_cons, List.not_mem_nil, or_false] at hrs
  rcases hrs with rfl | rfl | rfl | rfl | rfl | rfl <;> decide +kernel
theorem g_tm : ∀ rs ∈ goods, ∀ m : Nat, m < 10 → 1 ≤ m → (((Rw.times m rs).lines.map (·.length)).sum + (Rw.times m rs).lines.length * 1 ≤ 16777216) ∧ decide (V.str (nlS (Rw.times m rs).lines) = V.str (Str.ofString "?")) = false := by
  intro rs hrs
  simp only [goods, List.mem_cons, List.not_mem_nil, or_false] at hrs
  rcases hrs with rfl | rfl | rfl | rfl | rfl | rfl <;> decide +kernel
theorem lay_st : ∀ x ∈ Rw.step.lines, LayS x := by
  intro x hx
  have : x = Str.ofString "step" := List.mem_singleton.mp hx
  subst this
  unfold LayS
  decide +kernel
theorem lay_ti : ∀ x ∈ (Rw.times 2 [.step]).lines, LayS x := by
  have e : (Rw.times 2 [.step]).lines = [Str.ofString "times 2", Str.ofString "step", Str.ofString "end"] := by decide +kernel
  intro x hx
  rw [e] at hx
  simp only [List.mem_cons, List.not_mem_nil, or_false] at hx
  rcases hx with rfl | rfl | rfl <;> (unfold LayS; decide +kernel)
section
variable {P : Program} {w : World} {K : PySem.W.Frag} {mg : Str → Option Value} {base : Heap} {C CT CES TK e0 : Addr} {Y : Sy} {R : Rc}
theorem sc_law : FnScope ["_law_script", "_law_saying", "_law_step", "_law_odd", "_law_good", "_law_bad", "_law_k", "_law_box_here", "_law_turn", "_law_thing", "_law_rows", "_law_form", "_law_number", "_law_many"] ["_law_script"] (defScope (topS 116)) := ⟨rfl, rfl, rfl, by decide +kernel, rfl, by decide +kernel, by decide +kernel⟩
theorem ok_law {f fBx fTa fPi fRf fl fz fs fp fi ft fK fRs fTs fEq : Addr} {fd fdBx fdTa fdPi fdRf fdl fdz fds fdp fdi fdt fdK fdRs fdTs fdEq : FuncData} {k : Nat} (F : Fun K "law" "law" (topS 116) f fd) (T : Bt mg) (L : SyC K mg Y C) (LR : RwC K mg R) (LT : TkC K TK) (KF : KtF K Y R TK)
    (tyT : ∀ {H : Hp} {x dx : Addr} {fs : List (Str × V)}, H x = some (.ins TK dx fs) → TyX K H (.ref x) (.ref TK))
    (FBx : Fun K "_law_box" "_law_box" (topS 112) fBx fdBx) (bBx : Binds K fdBx ["_law_script", "_law_k", "_law_own"] []) (gBx : mg "_law_box" = some (.ref fBx)) (GBx : FnOk P w K mg base CX0 (k + 20) fBx fdBx ["_law_script", "_law_k", "_law_own"] (spFeedB K))
    (FTa : Fun K "_law_take" "_law_take" (topS 113) fTa fdTa) (bTa : Binds K fdTa ["_law_box_here", "_law_many"] []) (gTa : mg "_law_take" = some (.ref fTa)) (GTa : FnOk P w K mg base CX0 (k + 20) fTa fdTa ["_law_box_here", "_law_many"] spTakeB)
    (FPi : Fun K "_law_pick" "_law_pick" (topS 114) fPi fdPi) (bPi : Binds K fdPi ["_law_box_here", "_law_some"] []) (gPi : mg "_law_pick" = some (.ref fPi)) (GPi : FnOk P w K mg base CX0 (k + 20) fPi fdPi ["_law_box_here", "_law_some"] (spPickB K))
    (FRf : Fun K "_law_refused" "_law_refused" (topS 115) fRf fdRf) (bRf : Binds K fdRf ["_law_form", "_law_first", "_law_second", "_law_third"] []) (gRf : mg "_law_refused" = some (.ref fRf)) (GRf : FnOk P w K mg base CX0 (k + 20) fRf fdRf ["_law_form", "_law_first", "_law_second", "_law_third"] (spRefd K Y C R))
    (Gl : FnOk P w K mg base (L2.CX P w) (k + 19) fl fdl ["self", "kind", "number"] (spYl Y C CES)) (bl : Binds K fdl ["self", "kind", "number"] []) (Ml : Mk K Y.lst fl) (gl : mg "AtLeast" = some (.ref Y.lst))
    (Gz : FnOk P w K mg base CX0 (k + 19) fz fdz ["self"] (spSil Y C)) (bz : Binds K fdz ["self"] []) (Mz : Mk K Y.sil fz) (gz : mg "Silent" = some (.ref Y.sil))
    (Gs : FnOk P w K mg base (L2.CX P w) (k + 19) fs fds ["self", "saying"] (spSay1 K Y C CT R R.say Rw.say)) (bs : Binds K fds ["self", "saying"] []) (Ms : Mk K R.say fs) (gs : mg "Say" = some (.ref R.say))
    (Gp : FnOk P w K mg base CX0 (k + 19) fp fdp ["self"] (spStp K Y C R)) (bp : Binds K fdp ["self"] []) (Mp : Mk K R.stp fp) (gp : mg "Step" = some (.ref R.stp))
    (Gi : FnOk P w K mg base (L2.CX P w) (k + 19) fi fdi ["self", "saying", "rows", "others"] (spIff K Y C CT R)) (bi : Binds K fdi ["self", "saying", "rows", "others"] []) (Mi : Mk K R.iff fi) (gi : mg "If" = some (.ref R.iff))
    (Gt : FnOk P w K mg base (L2.CX P w) (k + 19) ft fdt ["self", "many", "rows"] (spTim K Y C CT R)) (bt : Binds K fdt ["self", "many", "rows"] []) (Mt : Mk K R.tim ft) (gt : mg "Times" = some (.ref R.tim))
    (GK : FnOk P w K mg base (L2.CX P w) (k + 19) fK fdK ["self", "rows"] (spTkI K Y C CT R TK)) (bK : Binds K fdK ["self", "rows"] []) (bK2 : Binds K fdK ["self", "rows"] [.ref e0]) (he0 : ∀ H : Hp, SqT K H e0 []) (MK : Mk K TK fK) (gK : mg "Talk" = some (.ref TK))
    (GRs : FnOk P w K mg base CX0 (k + 18) fRs fdRs ["self"] (spRStr K Y C R)) (bRs : Binds K fdRs ["self"] []) (fnRs : PySem.W.isFn K (.ref fRs) = true) (alRs : ∀ D ∈ R.all, PySem.W.findIn K (.ref D) "__str__" = some (some (.ref fRs)))
    (GTs : FnOk P w K mg base CX0 (k + 18) fTs fdTs ["self"] (spTkStr K Y C R TK)) (bTs : Binds K fdTs ["self"] []) (fnTs : PySem.W.isFn K (.ref fTs) = true) (alTs : PySem.W.findIn K (.ref TK) "__str__" = some (some (.ref fTs)))
    (GEq : FnOk P w K mg base CX0 (k + 19) fEq fdEq ["self", "other"] (spREq K Y C R)) (bEq : Binds K fdEq ["self", "other"] []) (fnEq : PySem.W.isFn K (.ref fEq) = true) (eqS : PySem.W.findIn K (.ref R.stp) "__eq__" = some (some (.ref fEq))) (nfS : PySem.W.notFirst K R.stp (.ref R.tim) = true) :
    FnOk P w K mg base CX0 (k + 21) f fd ["_law_script"] (spLaw K) := by
  refine F.ok sc_law (fun vs H Q E h => ?_) (fun cdv A0 outer s H vs Q E hr h => ?_)
  · obtain ⟨a, ns, rfl, _⟩ := h
    rfl
  · obtain ⟨a, ns, rfl, ha, hz, q⟩ := h
    have hu := hr.units
    refine ⟨_, (pss_cons (ps_par (i := 1) (j := 2) rfl sc_law.nd rfl rfl (by decide) rfl rfl (pa_cons (pe_make Ml Gl hr (by rfl) gl bl .nil passF (pa_cons pe_str (pa_cons pe_int pa_nil))) (pa_cons (pe_make0 Mp Gp hr (by rfl) gp bp .nil pass0) pa_nil)) (by rfl))
  (pss_cons (ps_set (i := 3) sc_law.nd rfl (by first | exact Or.inl rfl | exact Or.inr rfl) (pe_lst (pa_cons pe_non (pa_cons pe_int (pa_cons pe_bl (pa_cons pe_str (pa_cons pe_str (pa_cons (pe_tup pa_nil) (pa_cons (pe_lst (pa_cons (pv 1) pa_nil)) (pa_cons (pv 2) (pa_cons (pe_make MK GK hr (by rfl) gK bK .nil passF (pa_cons (pe_lst (pa_cons (pv 2) pa_nil)) pa_nil)) (pa_cons (pe_tup (pa_cons (pv 1) (pa_cons (pv 1) pa_nil))) pa_nil))))))))))))
  (pss_cons (ps_set (i := 4) sc_law.nd rfl (by first | exact Or.inl rfl | exact Or.inr rfl) (pe_lst (pa_cons (pe_lst pa_nil) (pa_cons (pe_tup pa_nil) (pa_cons (pe_lst (pa_cons (pv 2) pa_nil)) (pa_cons (pe_tup (pa_cons (pv 2) (pa_cons (pe_make Ms Gs hr (by rfl) gs bs .nil passF (pa_cons (pv 1) pa_nil)) pa_nil))) (pa_cons (pe_lst (pa_cons (pe_make Mt Gt hr (by rfl) gt bt .nil passF (pa_cons pe_int (pa_cons (pe_lst (pa_cons (pv 2) pa_nil)) pa_nil))) pa_nil)) (pa_cons (pe_tup (pa_cons (pe_make Mi Gi hr (by rfl) gi bi .nil passF (pa_cons (pe_make0 Mz Gz hr (by rfl) gz bz .nil pass0) (pa_cons (pe_lst pa_nil) (pa_cons (pe_lst (pa_cons (pv 2) pa_nil)) pa_nil)))) pa_nil)) pa_nil))))))))
  (pss_cons (ps_set (i := 5) sc_law.nd rfl (by first | exact Or.inl rfl | exact Or.inr rfl) (pe_lst (pa_cons pe_non (pa_cons pe_int (pa_cons pe_str (pa_cons (pv 2) (pa_cons (pv 1) (pa_cons (pe_lst (pa_cons (pv 1) pa_nil)) (pa_cons (pe_lst (pa_cons (pv 2) (pa_cons pe_non pa_nil))) (pa_cons (pe_tup (pa_cons (pv 2) (pa_cons pe_str pa_nil))) (pa_cons (pe_lst (pa_cons (pe_lst (pa_cons (pv 2) pa_nil)) pa_nil)) (pa_cons (pe_make MK GK hr (by rfl) gK bK .nil passF (pa_cons (pe_lst (pa_cons (pv 2) pa_nil)) pa_nil)) (pa_cons (pe_tup (pa_cons (pe_tup (pa_cons (pv 2) pa_nil)) pa_nil)) pa_nil)))))))))))))
  (pss_cons (ps_for PassesOwn.never rfl (pi_range1 (by rfl) T.m_range (pa_cons (pe_callB (call_max2 rfl) (by rfl) T.m_max (by decide +kernel) (pa_cons pe_int (pa_cons (pe_callB (call_min2 rfl) (by rfl) T.m_min (by decide +kernel) (pa_cons pe_int (pa_cons (pe_callB (lenK (K := K) rfl) (by rfl) T.m_len PySem.boot_len (pa_cons (pv 0) pa_nil)) pa_nil))) pa_nil))) pa_nil)) (pg_name (i := 6) sc_law.nd rfl (by first | exact Or.inl rfl | exact Or.inr rfl)) (pss_cons (ps_set (i := 7) sc_law.nd rfl (by first | exact Or.inl rfl | exact Or.inr rfl) (pe_call GBx hr (by rfl) gBx FBx.kp bBx .nil pass0 (pa_cons (pv 0) (pa_cons (pv 6) (pa_cons pe_int pa_nil)))))
  (pss_one (ps_for PassesOwn.never rfl (pi_range1 (by rfl) T.m_range (pa_cons pe_int pa_nil)) (pg_name (i := 8) sc_law.nd rfl (by first | exact Or.inl rfl | exact Or.inr rfl)) (pss_cons (ps_asg (pe_tup (pa_cons (pe_call GPi hr (by rfl) gPi FPi.kp bPi .nil pass0 (pa_cons (pv 7) (pa_cons (pv 3) pa_nil))) (pa_cons (pe_call GPi hr (by rfl) gPi FPi.kp bPi .nil pass0 (pa_cons (pv 7) (pa_cons (pv 4) pa_nil))) pa_nil))) (pg_tup rfl (pgs_cons (pg_name (i := 9) sc_law.nd rfl (by first | exact Or.inl rfl | exact Or.inr rfl)) (pgs_cons (pg_name (i := 10) sc_law.nd rfl (by first | exact Or.inl rfl | exact Or.inr rfl)) pgs_nil))))
  (pss_cons (ps_if (pt_cmpR (neDK (K := K) rfl hu) (pe_lc (own := [("_law_form", 11)]) (g := (gName 11)) rfl sc_law.nd (pi_range1 (by rfl) T.m_range (pa_cons pe_int pa_nil)) (blkOk_by (own := [("_law_form", 11)]) (N := ["_law_script", "_law_saying", "_law_step", "_law_odd", "_law_good", "_law_bad", "_law_k", "_law_box_here", "_law_turn", "_law_thing", "_law_rows", "_law_form", "_law_number", "_law_many"]) (sc := defScope (topS 116)) (by decide +kernel)) (fun _ _ _ _ _ => (pg_name (i := 11) sc_law.nd rfl (by first | exact Or.inl rfl | exact Or.inr rfl))) (fun _ _ _ _ _ => (pts_one (pt_cmpR op_ne (pe_call GRf hr (by rfl) gRf FRf.kp bRf .nil pass0 (pa_cons (pv 11) (pa_cons (pv 9) (pa_cons pe_non (pa_cons pe_non pa_nil))))) pe_str (nomark _)))) (fun _ _ _ _ _ => pe_int)) (pe_lst pa_nil) (nomark _)) (pss_one (ps_ret pe_bl)) pss_nil)
  (pss_cons (ps_if (pt_cmpR op_ne (pe_call GRf hr (by rfl) gRf FRf.kp bRf .nil pass0 (pa_cons pe_int (pa_cons (pv 9) (pa_cons (pe_call GPi hr (by rfl) gPi FPi.kp bPi .nil pass0 (pa_cons (pv 7) (pa_cons (pv 5) pa_nil))) (pa_cons (pe_call GPi hr (by rfl) gPi FPi.kp bPi .nil pass0 (pa_cons (pv 7) (pa_cons (pv 5) pa_nil))) pa_nil))))) pe_str (nomark _)) (pss_one (ps_ret pe_bl)) pss_nil)
  (pss_cons (ps_if (pt_cmpR op_ne (pe_call GRf hr (by rfl) gRf FRf.kp bRf .nil pass0 (pa_cons pe_int (pa_cons (pv 1) (pa_cons (pe_call GPi hr (by rfl) gPi FPi.kp bPi .nil pass0 (pa_cons (pv 7) (pa_cons (pv 5) pa_nil))) (pa_cons (pv 10) pa_nil))))) pe_str (nomark _)) (pss_one (ps_ret pe_bl)) pss_nil)
  (pss_cons (ps_if (pt_cmpR op_ne (pe_call GRf hr (by rfl) gRf FRf.kp bRf .nil pass0 (pa_cons pe_int (pa_cons (pv 1) (pa_cons (pv 10) (pa_cons (pe_call GPi hr (by rfl) gPi FPi.kp bPi .nil pass0 (pa_cons (pv 7) (pa_cons (pv 5) pa_nil))) pa_nil))))) pe_str (nomark _)) (pss_one (ps_ret pe_bl)) pss_nil)
  (pss_cons (ps_set (i := 12) sc_law.nd rfl (by first | exact Or.inl rfl | exact Or.inr rfl) (pe_call GPi hr (by rfl) gPi FPi.kp bPi .nil pass0 (pa_cons (pv 7) (pa_cons (pe_lst (pa_cons pe_int (pa_cons pe_int (pa_cons (pe_op op_sub pe_int pe_int) (pa_cons pe_bl (pa_cons pe_non (pa_cons pe_str (pa_cons (pe_tup (pa_cons pe_int pa_nil)) (pa_cons (pe_op op_pow pe_int pe_int) (pa_cons (pv 1) pa_nil)))))))))) pa_nil))))
  (pss_cons (ps_if (pt_cmpR op_ne (pe_call GRf hr (by rfl) gRf FRf.kp bRf .nil pass0 (pa_cons pe_int (pa_cons (pv 12) (pa_cons (pe_call GPi hr (by rfl) gPi FPi.kp bPi .nil pass0 (pa_cons (pv 7) (pa_cons (pe_op op_cat (pv 5) (pv 4)) pa_nil))) (pa_cons pe_non pa_nil))))) pe_str (nomark _)) (pss_one (ps_ret pe_bl)) pss_nil)
  (pss_cons (ps_if (pt_cmpR op_ne (pe_call GRf hr (by rfl) gRf FRf.kp bRf .nil pass0 (pa_cons pe_int (pa_cons (pe_op op_add pe_int (pe_call GTa hr (by rfl) gTa FTa.kp bTa .nil pass0 (pa_cons (pv 7) (pa_cons pe_int pa_nil)))) (pa_cons (pe_call GPi hr (by rfl) gPi FPi.kp bPi .nil pass0 (pa_cons (pv 7) (pa_cons (pv 5) pa_nil))) (pa_cons pe_non pa_nil))))) pe_str (nomark _)) (pss_one (ps_ret pe_bl)) pss_nil)
  (pss_cons (ps_if (pt_cmpR op_ne (pe_call GRf hr (by rfl) gRf FRf.kp bRf .nil pass0 (pa_cons pe_int (pa_cons pe_non (pa_cons (pe_call GPi hr (by rfl) gPi FPi.kp bPi .nil pass0 (pa_cons (pv 7) (pa_cons (pv 5) pa_nil))) (pa_cons pe_non pa_nil))))) pe_str (nomark _)) (pss_one (ps_ret pe_bl)) pss_nil)
  (pss_one (ps_for PassesOwn.never rfl (piSK (K := K) rfl (pe_tup (pa_cons pe_int (pa_cons pe_int (pa_cons pe_int pa_nil))))) (pg_name (i := 11) sc_law.nd rfl (by first | exact Or.inl rfl | exact Or.inr rfl)) (pss_cons (ps_set (i := 13) sc_law.nd rfl (by first | exact Or.inl rfl | exact Or.inr rfl) (pe_op op_add pe_int (pe_call GTa hr (by rfl) gTa FTa.kp bTa .nil pass0 (pa_cons (pv 7) (pa_cons (pe_ifExp (PW.pt (pw_and (pt_cmpR op_lt (pe_callB (lenK (K := K) rfl) (by rfl) T.m_len PySem.boot_len (pa_cons (pv 10) pa_nil)) pe_int (nomark _)) (pw_and (pt_cmpR (neSK (K := K) rfl GEq hr bEq pass0 fnEq) (pv 10) (pe_ix (ixLK (K := K) rfl) (pv 4) pe_int (fun _ _ => rfl)) (nomark _)) (pw_and1 (pt_cmpR (neSK (K := K) rfl GEq hr bEq pass0 fnEq) (pv 10) (pe_ix (ixLK (K := K) rfl) (pv 4) pe_int (fun _ _ => rfl)) (nomark _)))))) pe_int pe_int) pa_nil)))))
  (pss_one (ps_if (pt_cmpR op_notB (pe_call GRf hr (by rfl) gRf FRf.kp bRf .nil pass0 (pa_cons (pv 11) (pa_cons (pe_ifExp (pt_cmpR op_eq (pv 11) pe_int (nomark _)) (pv 1) (pv 13)) (pa_cons (pv 10) (pa_cons (pv 10) pa_nil))))) pe_bl (nomark _)) (pss_one (ps_ret pe_bl)) pss_nil))))))))))))))))))
  (pss_one (ps_ret (pe_and (pe_cmpR op_eq (pe_callTy (call_strO (K := K) rfl GTs hr bTs pass0 fnTs) (by rfl) T.m_str (by decide +kernel) (pa_cons (pe_make0 MK GK hr (by rfl) gK bK2 (.cons (show RelV (V.ref e0) (Value.ref e0) from rfl) .nil) passF) pa_nil)) pe_str (nomark _)) (pe_and (pe_cmpR (eqT0K (K := K) rfl hu) (fldK (K := K) rfl (pe_make0 MK GK hr (by rfl) gK bK2 (.cons (show RelV (V.ref e0) (Value.ref e0) from rfl) .nil) passF)) (pe_tup pa_nil) (nomark _)) (pe_one (pe_cmpR op_eq (pe_callTy (call_strO (K := K) rfl GRs hr bRs pass0 fnRs) (by rfl) T.m_str (by decide +kernel) (pa_cons (pe_make0 Mp Gp hr (by rfl) gp bp .nil pass0) pa_nil)) pe_str (nomark _)))))))))))), ?_⟩
    have zz : sizeLine = 16777216 := rfl
    refine fun z dz nz ndz nez => mk_lst (m := false) (n := 2) nz ndz fun H1 s1 hz1 => ?_
    refine fun st dst nst ndst nest => ⟨H1, st, dst, rfl, nst, made3 nst ndst nest, upd_same, fun H2 s2 hst2 => ⟨rfl, _, _, rfl, ?_⟩⟩
    have hz2 := hz1.same s2
    -- what is no saying
    refine ⟨by show 0 ≤ sizeLine; decide, fun e5 ne5 => ?_⟩
    obtain ⟨H3, f3, s3, g3⟩ := new_ex ne5 (.tup [])
    rw [f3]
    refine ⟨_, rfl, by show 1 ≤ sizeLine; decide, fun l6 nl6 => ?_⟩
    obtain ⟨H4, f4, s4, g4⟩ := new_ex nl6 (.lst [.ref z])
    rw [f4]
    refine ⟨_, rfl, _, rfl, by show 1 ≤ sizeLine; decide, fun l7 nl7 => ?_⟩
    obtain ⟨H5, f5, s5, g5⟩ := new_ex nl7 (.lst ([st].map V.ref))
    rw [show HO.lst [V.ref st] = HO.lst ([st].map V.ref) from rfl, f5]
    have hst5 := hst2.same ((s3.trans s4).trans s5)
    have lst1 : (linesR [Rw.step]).length ≤ 40000 := by decide +kernel
    refine fun tk dtk ntk ndtk netk => ⟨H5, tk, dtk, _, rfl, ntk, made3 ntk ndtk netk, upd_same, .inl ⟨[.step], ⟨l7, [st], rfl, .inl (SqL.of g5), by show 1 ≤ 1000; decide, RwsAt.one hst5, lst1⟩, fun H6 s6 htk => ⟨rfl, ?_⟩⟩⟩
    have zz0 : 0 ≤ sizeLine := Nat.zero_le _
    refine ⟨_, rfl, _, rfl, by show 2 ≤ sizeLine; decide, fun p9 np9 => ?_⟩
    obtain ⟨H7, f7, s7, g7⟩ := new_ex np9 (.tup [.ref z, .ref z])
    rw [f7]
    refine ⟨by show 10 ≤ sizeLine; decide, fun lo nlo => ?_⟩
    obtain ⟨od, eod⟩ : ∃ od : List V, od = [.non, .int 3, .bl true, .str "silent", .str "step", .ref e5, .ref l6, .ref st, .ref tk, .ref p9] := ⟨_, rfl⟩
    obtain ⟨H8, f8, s8, g8⟩ := new_ex nlo (.lst od)
    rw [show HO.lst [V.non, V.int 3, V.bl true, V.str (Str.ofString "silent"), V.str (Str.ofString "step"), V.ref e5, V.ref l6, V.ref st, V.ref tk, V.ref p9] = HO.lst od by rw [eod], f8]
    have s28 : Same H2 H8 := ((((s3.trans s4).trans s5).trans s6).trans s7).trans s8
    have hz8 := hz2.same s28
    have hst8 := hst2.same s28
    have smz : SmT (Tl.least false 2) := ⟨by show 2 < 1000000; decide, by decide, by decide⟩
    -- good rows
    refine ⟨zz0, fun g0 ng0 => ?_⟩
    obtain ⟨H9, f9, s9, k9⟩ := new_ex ng0 (.lst (([] : List Addr).map V.ref))
    rw [show HO.lst [] = HO.lst (([] : List Addr).map V.ref) from rfl, f9]
    refine ⟨zz0, fun t1 nt1 => ?_⟩
    obtain ⟨H10, f10, s10, k10⟩ := new_ex nt1 (.tup (([] : List Addr).map V.ref))
    rw [show HO.tup [] = HO.tup (([] : List Addr).map V.ref) from rfl, f10]
    refine ⟨_, rfl, by show 1 ≤ sizeLine; decide, fun l2 nl2 => ?_⟩
    obtain ⟨H11, f11, s11, k11⟩ := new_ex nl2 (.lst ([st].map V.ref))
    rw [show HO.lst [V.ref st] = HO.lst ([st].map V.ref) from rfl, f11]
    have s811 := (s9.trans s10).trans s11
    refine ⟨_, rfl, _, rfl, fun sy dsy nsy ndsy nesy => ⟨H11, sy, dsy, .ref z, rfl, nsy, made3 nsy ndsy nesy, upd_same, .inl ⟨z, _, rfl, hz8.same s811, smz, fun H12 s12 hsy => ⟨rfl, ?_⟩⟩⟩⟩
    refine ⟨by show 2 ≤ sizeLine; decide, fun t3 nt3 => ?_⟩
    obtain ⟨H13, f13, s13, k13⟩ := new_ex nt3 (.tup ([st, sy].map V.ref))
    rw [show HO.tup [V.ref st, V.ref sy] = HO.tup ([st, sy].map V.ref) from rfl, f13]
    have s813 := (s811.trans s12).trans s13
    refine ⟨_, rfl, by show 1 ≤ sizeLine; decide, fun l14 nl14 => ?_⟩
    obtain ⟨H14, f14, s14, k14⟩ := new_ex nl14 (.lst ([st].map V.ref))
    rw [show HO.lst [V.ref st] = HO.lst ([st].map V.ref) from rfl, f14]
    have hst14 := hst8.same (s813.trans s14)
    refine fun ti dti nti ndti neti => ⟨H14, ti, dti, .int 2, .ref l14, rfl, nti, made3 nti ndti neti, upd_same, .inl ⟨2, rfl, by decide, by decide, .inl ⟨[.step], ⟨l14, [st], rfl, .inl (SqL.of k14), by show 1 ≤ 1000; decide, RwsAt.one hst14, lst1⟩, fun H15 s15 hti => ⟨rfl, ?_⟩⟩⟩⟩
    refine ⟨by show 1 ≤ sizeLine; decide, fun l4 nl4 => ?_⟩
    obtain ⟨H16, f16, s16, k16⟩ := new_ex nl4 (.lst ([ti].map V.ref))
    rw [show HO.lst [V.ref ti] = HO.lst ([ti].map V.ref) from rfl, f16]
    refine fun zs dzs nzs ndzs nezs => mk_sil nzs ndzs fun H17 s17 hzs => ?_
    refine ⟨zz0, fun l18 nl18 => ?_⟩
    obtain ⟨H18, f18, s18, k18⟩ := new_ex nl18 (.lst (([] : List Addr).map V.ref))
    rw [show HO.lst [] = HO.lst (([] : List Addr).map V.ref) from rfl, f18]
    refine ⟨_, rfl, by show 1 ≤ sizeLine; decide, fun l19 nl19 => ?_⟩
    obtain ⟨H19, f19, s19, k19⟩ := new_ex nl19 (.lst ([st].map V.ref))
    rw [show HO.lst [V.ref st] = HO.lst ([st].map V.ref) from rfl, f19]
    have s1419 : Same H14 H19 := (((s15.trans s16).trans s17).trans s18).trans s19
    have hst19 := hst14.same s1419
    have smi : SmT Tl.silent := ⟨trivial, by decide, by decide⟩
    refine fun fi' dfi nfi ndfi nefi => ⟨H19, fi', dfi, .ref zs, .ref l18, .ref l19, rfl, nfi, made3 nfi ndfi nefi, upd_same, .inl ⟨zs, .silent, rfl, hzs.same (s18.trans s19), smi, .inl ⟨[], ⟨l18, [], rfl, .inl (SqL.of (s19 _ _ k18)), Nat.zero_le _, RwsAt.nil, by decide +kernel⟩, .inl ⟨[.step], ⟨l19, [st], rfl, .inl (SqL.of k19), by show 1 ≤ 1000; decide, RwsAt.one hst19, lst1⟩, fun H20 s20 hfi => ⟨rfl, ?_⟩⟩⟩⟩⟩
    refine ⟨by show 1 ≤ sizeLine; decide, fun t5 nt5 => ?_⟩
    obtain ⟨H21, f21, s21, k21⟩ := new_ex nt5 (.tup ([fi'].map V.ref))
    rw [show HO.tup [V.ref fi'] = HO.tup ([fi'].map V.ref) from rfl, f21]
    refine ⟨by show 6 ≤ sizeLine; decide, fun lg nlg => ?_⟩
    obtain ⟨gd, egd⟩ : ∃ gd : List V, gd = [.ref g0, .ref t1, .ref l2, .ref t3, .ref l4, .ref t5] := ⟨_, rfl⟩
    obtain ⟨H22, f22, s22, k22⟩ := new_ex nlg (.lst gd)
    rw [show HO.lst [V.ref g0, V.ref t1, V.ref l2, V.ref t3, V.ref l4, V.ref t5] = HO.lst gd by rw [egd], f22]
    dsimp only [gName]
    have s1922 : Same H19 H22 := (s20.trans s21).trans s22
    have s822 : Same H8 H22 := ((s813.trans s14).trans s1419).trans s1922
    -- what is no rows
    refine ⟨_, rfl, _, rfl, _, rfl, by show 1 ≤ sizeLine; decide, fun b23 nb23 => ?_⟩
    obtain ⟨H23, f23, s23, k23⟩ := new_ex nb23 (.lst [.ref z])
    rw [f23]
    refine ⟨_, rfl, by show 2 ≤ sizeLine; decide, fun b24 nb24 => ?_⟩
    obtain ⟨H24, f24, s24, k24⟩ := new_ex nb24 (.lst [.ref st, .non])
    rw [f24]
    refine ⟨_, rfl, by show 2 ≤ sizeLine; decide, fun b25 nb25 => ?_⟩
    obtain ⟨H25, f25, s25, k25⟩ := new_ex nb25 (.tup [.ref st, .str (Str.ofString "step")])
    rw [f25]
    refine ⟨_, rfl, by show 1 ≤ sizeLine; decide, fun b26 nb26 => ?_⟩
    obtain ⟨H26, f26, s26, k26⟩ := new_ex nb26 (.lst [.ref st])
    rw [f26]
    refine ⟨by show 1 ≤ sizeLine; decide, fun b27 nb27 => ?_⟩
    obtain ⟨H27, f27, s27, k27⟩ := new_ex nb27 (.lst [.ref b26])
    rw [f27]
    refine ⟨_, rfl, by show 1 ≤ sizeLine; decide, fun b28 nb28 => ?_⟩
    obtain ⟨H28, f28, s28', k28⟩ := new_ex nb28 (.lst ([st].map V.ref))
    rw [show HO.lst [V.ref st] = HO.lst ([st].map V.ref) from rfl, f28]
    have s2228 : Same H22 H28 := ((((s23.trans s24).trans s25).trans s26).trans s27).trans s28'
    have hst28 := hst19.same (s1922.trans s2228)
    refine fun tb dtb ntb ndtb netb => ⟨H28, tb, dtb, _, rfl, ntb, made3 ntb ndtb netb, upd_same, .inl ⟨[.step], ⟨b28, [st], rfl, .inl (SqL.of k28), by show 1 ≤ 1000; decide, RwsAt.one hst28, lst1⟩, fun H29 s29 htb => ⟨rfl, ?_⟩⟩⟩
    refine ⟨_, rfl, by show 1 ≤ sizeLine; decide, fun b30 nb30 => ?_⟩
    obtain ⟨H30, f30, s30, k30⟩ := new_ex nb30 (.tup [.ref st])
    rw [f30]
    refine ⟨by show 1 ≤ sizeLine; decide, fun b31 nb31 => ?_⟩
    obtain ⟨H31, f31, s31, k31⟩ := new_ex nb31 (.tup [.ref b30])
    rw [f31]
    refine ⟨by show 11 ≤ sizeLine; decide, fun lb nlb => ?_⟩
    obtain ⟨bd, ebd⟩ : ∃ bd : List V, bd = [.non, .int 1, .str "step", .ref st, .ref z, .ref b23, .ref b24, .ref b25, .ref b27, .ref tb, .ref b31] := ⟨_, rfl⟩
    obtain ⟨H32, f32, s32, k32⟩ := new_ex nlb (.lst bd)
    rw [show HO.lst [V.non, V.int 1, V.str (Str.ofString "step"), V.ref st, V.ref z, V.ref b23, V.ref b24, V.ref b25, V.ref b27, V.ref tb, V.ref b31] = HO.lst bd by rw [ebd], f32]
    have s2832 : Same H28 H32 := ((s29.trans s30).trans s31).trans s32
    have s2232 := s2228.trans s2832
    have hz32 := (hz8.same s822).same s2232
    have hst32 := hst28.same s2832
    have htb32 := htb.same ((s30.trans s31).trans s32)
    have htk32 := htk.same ((s7.trans s8).trans (s822.trans s2232))
    dsimp only [gName]
    -- what they are, from here on
    have tyz : ∀ Hq, Same H32 Hq → TyX K Hq (.ref z) (.ref Y.lst) := fun Hq sq => (hz32.same sq).tyx L
    have tys : ∀ Hq, Same H32 Hq → TyX K Hq (.ref st) (.ref R.stp) := fun Hq sq => (hst32.same sq).tyx LR
    have tyk : ∀ {x : Addr}, TkAt K Y C R TK H32 [.step] x → ∀ Hq, Same H32 Hq → TyX K Hq (.ref x) (.ref TK) := fun {x} h Hq sq => by
      obtain ⟨dx, t, as, h1, _⟩ := h.same sq
      exact tyT h1
    have odd : ∀ v ∈ od, ∀ Hq, Same H32 Hq → BadS K Y Hq v := fun v hv Hq sq => by
      rw [eod] at hv
      have up : ∀ {c o}, H8 c = some o → ∀ H', Same Hq H' → H' c = some o := fun {c o} e H' s' => s' _ _ (sq _ _ ((s822.trans s2232) _ _ e))
      simp only [List.mem_cons, List.not_mem_nil, or_false] at hv
      rcases hv with rfl | rfl | rfl | rfl | rfl | rfl | rfl | rfl | rfl | rfl
      · exact ⟨_, fun _ _ => .base .non, KF.sy _ (by simp)⟩
      · exact ⟨_, fun _ _ => .base (.int _), KF.sy _ (by simp)⟩
      · exact ⟨_, fun _ _ => .base (.bl _), KF.sy _ (by simp)⟩
      · exact ⟨_, fun _ _ => .base (.str _), KF.sy _ (by simp)⟩
      · exact ⟨_, fun _ _ => .base (.str _), KF.sy _ (by simp)⟩
      · exact ⟨_, fun H' s' => .base (.tup (up ((((s4.trans s5).trans s6).trans s7).trans s8 _ _ g3) H' s')), KF.sy _ (by simp)⟩
      · exact ⟨_, fun H' s' => .base (.lst (up (((s5.trans s6).trans s7).trans s8 _ _ g4) H' s')), KF.sy _ (by simp)⟩
      · exact ⟨_, fun H' s' => tys _ (sq.trans s'), KF.sy _ (by simp)⟩
      · exact ⟨_, fun H' s' => tyk htk32 _ (sq.trans s'), KF.sy _ (by simp)⟩
      · exact ⟨_, fun H' s' => .base (.tup (up (s8 _ _ g7) H' s')), KF.sy _ (by simp)⟩
    have bad : ∀ v ∈ bd, ∀ Hq, Same H32 Hq → BadR K R Hq v := fun v hv Hq sq => by
      rw [ebd] at hv
      have rw1 : ∀ {t : Value}, t ∈ [Value.type "NoneType", .type "str", .type "list", .type "tuple", .ref Y.lst] → PySem.W.kitOne K t (.ref R.row) = some false := fun h => KF.rw _ h
      -- a list or tuple of one or two things, one of which is no row
      have one : ∀ {p : Addr} {x : V} {t : Value}, (SqL K Hq p [x] ∨ SqT K Hq p [x]) → (∀ H', Same Hq H' → TyX K H' x t) → PySem.W.kitOne K t (.ref R.row) = some false → BadR K R Hq (.ref p) := fun {p x t} h1 h2 h3 => .inl ⟨p, [x], [false], rfl, h1, by show 1 ≤ 1000; decide, rfl, fun i y b hy hb => by
        match i, hy, hb with
        | 0, hy, hb => cases hy; cases hb; exact ⟨t, h2, h3⟩
        | i + 1, hy, hb => simp at hy, rfl⟩
      have two : ∀ {p : Addr} {x y : V} {t t' : Value}, (SqL K Hq p [x, y] ∨ SqT K Hq p [x, y]) → (∀ H', Same Hq H' → TyX K H' x t) → PySem.W.kitOne K t (.ref R.row) = some true → (∀ H', Same Hq H' → TyX K H' y t') → PySem.W.kitOne K t' (.ref R.row) = some false → BadR K R Hq (.ref p) := fun {p x y t t'} h1 h2 h3 h4 h5 => .inl ⟨p, [x, y], [true, false], rfl, h1, by show 2 ≤ 1000; decide, rfl, fun i v b hy hb => by
        match i, hy, hb with
        | 0, hy, hb => cases hy; cases hb; exact ⟨t, h2, h3⟩
        | 1, hy, hb => cases hy; cases hb; exact ⟨t', h4, h5⟩
        | i + 2, hy, hb => simp at hy, rfl⟩
      have kst : PySem.W.kitOne K (.ref R.stp) (.ref R.row) = some true := (LR.d R.stp (by simp [Rc.all])).kS
      simp only [List.mem_cons, List.not_mem_nil, or_false] at hv
      rcases hv with rfl | rfl | rfl | rfl | rfl | rfl | rfl | rfl | rfl | rfl | rfl
      · exact .inr ⟨_, fun _ _ => .base .non, KF.sq _ (by simp)⟩
      · exact .inr ⟨_, fun _ _ => .base (.int _), KF.sq _ (by simp)⟩
      · exact .inr ⟨_, fun _ _ => .base (.str _), KF.sq _ (by simp)⟩
      · exact .inr ⟨_, fun H' s' => tys _ (sq.trans s'), KF.sq _ (by simp)⟩
      · exact .inr ⟨_, fun H' s' => tyz _ (sq.trans s'), KF.sq _ (by simp)⟩
      · exact one (.inl (SqL.of (sq _ _ (s2832 _ _ ((((s24.trans s25).trans s26).trans s27).trans s28' _ _ k23))))) (fun H' s' => tyz _ (sq.trans s')) (rw1 (by simp))
      · exact two (.inl (SqL.of (sq _ _ (s2832 _ _ (((s25.trans s26).trans s27).trans s28' _ _ k24))))) (fun H' s' => tys _ (sq.trans s')) kst (fun _ _ => .base .non) (rw1 (by simp))
      · exact two (.inr (SqT.of (sq _ _ (s2832 _ _ ((s26.trans s27).trans s28' _ _ k25))))) (fun H' s' => tys _ (sq.trans s')) kst (fun _ _ => .base (.str _)) (rw1 (by simp))
      · exact one (.inl (SqL.of (sq _ _ (s2832 _ _ (s28' _ _ k27))))) (fun H' s' => .base (.lst (s' _ _ (sq _ _ (s2832 _ _ ((s27.trans s28') _ _ k26)))))) (rw1 (by simp))
      · exact .inr ⟨_, fun H' s' => tyk htb32 _ (sq.trans s'), KF.sq _ (by simp)⟩
      · exact one (.inr (SqT.of (sq _ _ (s32 _ _ k31)))) (fun H' s' => .base (.tup (s' _ _ (sq _ _ ((s31.trans s32) _ _ k30))))) (rw1 (by simp))
    -- the good rows: what stands in them
    obtain ⟨g4, eg4⟩ : ∃ gs : List (List Rw), gs = goods := ⟨_, rfl⟩
    have s1632 : Same H16 H32 := ((s17.trans s18).trans s19).trans (s1922.trans s2232)
    have good : ∀ (i : Nat) (v : V), gd[i]? = some v → ∀ Hq, Same H32 Hq → ∃ rs, g4[i]? = some rs ∧ GoodR K Y C R Hq v rs := fun i v hv Hq sq => by
      rw [egd] at hv
      rw [eg4]
      have hti32 : RwAt K Y C R H32 (.times 2 [.step]) ti := hti.same (s16.trans s1632)
      have hsy32 : RwAt K Y C R H32 (.say (.least false 2)) sy := hsy.same (((s13.trans s14).trans s1419).trans (s1922.trans s2232))
      have hfi32 : RwAt K Y C R H32 (.iff .silent [] [.step]) fi' := hfi.same ((s21.trans s22).trans s2232)
      have s1932 := s1922.trans s2232
      match i, hv with
      | 0, hv => cases hv; exact ⟨_, rfl, g0, [], rfl, .inl (SqL.of (sq _ _ ((((((s10.trans s11).trans s12).trans s13).trans s14).trans s1419).trans s1932 _ _ k9))), Nat.zero_le _, RwsAt.nil, by decide +kernel⟩
      | 1, hv => cases hv; exact ⟨_, rfl, t1, [], rfl, .inr (SqT.of (sq _ _ (((((s11.trans s12).trans s13).trans s14).trans s1419).trans s1932 _ _ k10))), Nat.zero_le _, RwsAt.nil, by decide +kernel⟩
      | 2, hv => cases hv; exact ⟨_, rfl, l2, [st], rfl, .inl (SqL.of (sq _ _ ((((s12.trans s13).trans s14).trans s1419).trans s1932 _ _ k11))), by show 1 ≤ 1000; decide, RwsAt.one (hst32.same sq), lst1⟩
      | 3, hv => cases hv; exact ⟨_, rfl, t3, [st, sy], rfl, .inr (SqT.of (sq _ _ ((s14.trans s1419).trans s1932 _ _ k13))), by show 2 ≤ 1000; decide, RwsAt.app (rs := [.step]) (as := [st]) (RwsAt.one (hst32.same sq)) (RwsAt.one (hsy32.same sq)), by decide +kernel⟩
      | 4, hv => cases hv; exact ⟨_, rfl, l4, [ti], rfl, .inl (SqL.of (sq _ _ (s1632 _ _ k16))), by show 1 ≤ 1000; decide, RwsAt.one (hti32.same sq), by decide +kernel⟩
      | 5, hv => cases hv; exact ⟨_, rfl, t5, [fi'], rfl, .inr (SqT.of (sq _ _ ((s22.trans s2232) _ _ k21))), by show 1 ≤ 1000; decide, RwsAt.one (hfi32.same sq), by decide +kernel⟩
      | i + 6, hv => simp at hv
    have S0 : Same H H32 := ((s1.trans s2).trans s28).trans (s822.trans s2232)
    have hlo := (s822.trans s2232) _ _ g8
    have hlg := s2232 _ _ k22
    have gpos : ∀ {rs : List Rw} {i : Nat}, g4[i]? = some rs → rs ∈ goods := fun h => by rw [← eg4]; exact List.mem_of_getElem? h
    dsimp only [tSeq]
    refine ⟨_, rfl, a, _, rfl, .inl (S0.seq ha), _, _, rfl, _, _, rfl, ?_⟩
    generalize hz1 : (if ((if ((ns.map V.int).length : Int) < 4 then ((ns.map V.int).length : Int) else 4)) > 2 then (if ((ns.map V.int).length : Int) < 4 then ((ns.map V.int).length : Int) else 4) else 2) = zz1
    have z0 : 1 ≤ zz1 := by rw [← hz1]; split <;> omega
    have z1 : zz1 ≤ 4 := by rw [← hz1]; split <;> (try split) <;> omega
    refine ⟨zz1, rfl, by omega, by omega, for_range (D := { nx := _, rt := Q }) (fun i σ Hi => ∃ o6 o7 o8 o9 o10 o11 o12 o13 : Option V, σ = [some (.ref a), some (.ref z), some (.ref st), some (.ref lo), some (.ref lg), some (.ref lb), o6, o7, o8, o9, o10, o11, o12, o13] ∧ Same H32 Hi)
      ⟨none, none, none, none, none, none, none, none, rfl, Same.refl _⟩ (fun i σ Hi hi hP => ?_) (fun σ Hi hP => ?_)⟩
    rotate_left
    · obtain ⟨o6, o7, o8, o9, o10, o11, o12, o13, rfl, si⟩ := hP
      have l0 : (linesR []).length = 0 := by unfold linesR; rfl
      refine fun x dx nx ndx nex => ⟨Hi, x, dx, _, rfl, nx, made3 nx ndx nex, upd_same, .inl ⟨[], ⟨e0, [], rfl, .inr (he0 _), Nat.zero_le _, RwsAt.nil, by omega⟩, fun H3 s3 tk3 => ⟨rfl, ?_⟩⟩⟩
      obtain ⟨dt, tt, xs, i1, i2, i3⟩ := id tk3
      refine ⟨x, TK, dt, _, rfl, i1, alTs, x, [], rfl, tk3, by omega, by unfold JoinOk; decide +kernel, fun H4 s4 => ⟨_, rfl, rfl, _, rfl, ?_⟩⟩
      rw [show decide (V.str (nlS (linesR [])) = V.str (Str.ofString "")) = true by decide +kernel]
      refine iteT ?_
      refine fun y dy ny ndy ney => ⟨H4, y, dy, _, rfl, ny, made3 ny ndy ney, upd_same, .inl ⟨[], ⟨e0, [], rfl, .inr (he0 _), Nat.zero_le _, RwsAt.nil, by omega⟩, fun H5 s5 tk5 => ⟨rfl, ?_⟩⟩⟩
      obtain ⟨du, tu, ys, j1, j2, j3⟩ := id tk5
      have ys0 : ys = [] := List.eq_nil_of_length_eq_zero j3.len
      subst ys0
      refine ⟨y, TK, du, _, .ref tu, rfl, j1, LT.cl, LT.nR, rfl, zz0, fun p np => ⟨tu, p, [], rfl, rfl, SqT.kp (Kp.of (same_new np)) j2, SqT.of upd_same, _, rfl, ?_⟩⟩
      refine iteT ?_
      refine fun v dv nv ndv nev => ⟨_, v, dv, rfl, nv, made3 nv ndv nev, upd_same, fun H7 s7 rw7 => ⟨rfl, ?_⟩⟩
      obtain ⟨dw, fw, tw, w1, _, _⟩ := rw7.ins
      refine ⟨v, _, dw, fw, rfl, w1, alRs _ (Rw.cls_mem R _), v, .step, rfl, rw7, by unfold JoinOk; decide +kernel, ⟨_, rfl, rfl, ?_⟩⟩
      rw [show decide (V.str (nlS Rw.step.lines) = V.str (Str.ofString "step")) = true by decide +kernel]
      exact q H7
    obtain ⟨o6, o7, o8, o9, o10, o11, o12, o13, rfl, si⟩ := hP
    have hi4 : i < 4 := by omega
    dsimp only [gName]
    refine ⟨_, rfl, _, rfl, a, ns, i, 22, (by show [V.ref a, V.int ((0 : Int) + (i : Int)), V.int 22] = _; rw [Int.zero_add]; rfl), si.seq (S0.seq ha), by omega, by omega, fun b Hb sb nb bb => ?_⟩
    have si1 := si.trans sb
    have sx : ∀ {Hx : Hp}, Xb b Hb Hx → Same H32 Hx := fun {Hx} x c o e => by
      have e1 := si _ _ e
      exact x _ _ (fun zc => by rw [zc, nb] at e1; cases e1) (sb _ _ e1)
    have nbl : ∀ {l : Addr} {o : HO}, H32 l = some o → l ≠ b := fun {l o} e zc => by
      have e1 := si _ _ e
      rw [zc, nb] at e1; cases e1
    have pk : ∀ (Ha : Hp) (l : Addr) (xs : List V) (R : VK), BxAt Ha b → Ha l = some (.lst xs) → l ≠ b → 0 < xs.length → xs.length < 1000 → (∀ x Hx, x ∈ xs → Xb b Ha Hx → BxAt Hx b → R x Hx) → spPickB K [.ref b, .ref l] Ha R E0 := fun Ha l xs R hb hl nl h0 h1 r =>
      ⟨b, l, xs, rfl, hb, SqL.of hl, nl.symm, h0, h1, fun x Hx hx x9 hb9 => r x Hx hx x9 hb9⟩
    have bdl : 0 < bd.length ∧ bd.length = 11 := by rw [ebd]; exact ⟨Nat.succ_pos _, rfl⟩
    have gdl : 0 < gd.length ∧ gd.length = 6 := by rw [egd]; exact ⟨Nat.succ_pos _, rfl⟩
    have odl : 0 < od.length ∧ od.length = 10 := by rw [eod]; exact ⟨Nat.succ_pos _, rfl⟩
    have pkB : ∀ (Ha : Hp) (R : VK), Xb b Hb Ha → BxAt Ha b → (∀ x Hx, x ∈ bd → Xb b Ha Hx → BxAt Hx b → R x Hx) → spPickB K [.ref b, .ref lb] Ha R E0 := fun Ha R xa hb r => pk Ha lb bd R hb (sx xa _ _ k32) (nbl k32) bdl.1 (by omega) r
    refine ⟨10, rfl, by decide, by decide, for_range (D := { nx := _, rt := Q }) (fun j σ Hj => ∃ o8 o9 o10 o11 o12 o13 : Option V, σ = [some (.ref a), some (.ref z), some (.ref st), some (.ref lo), some (.ref lg), some (.ref lb), some (.int (0 + (i : Int))), some (.ref b), o8, o9, o10, o11, o12, o13] ∧ Xb b Hb Hj ∧ BxAt Hj b)
      ⟨o8, o9, o10, o11, o12, o13, rfl, Xb.refl _ _, bb⟩ (fun j σ Hj hj hP => ?_) (fun σ Hj hP => ?_)⟩
    rotate_left
    · obtain ⟨o8, o9, o10, o11, o12, o13, rfl, xj, bj⟩ := hP
      exact ⟨_, _, _, _, _, _, _, _, rfl, sx xj⟩
    obtain ⟨o8, o9, o10, o11, o12, o13, rfl, xj, bj⟩ := hP
    dsimp only [gName]
    refine ⟨_, rfl, _, rfl, pk Hj lo od _ bj (sx xj _ _ hlo) (nbl hlo) odl.1 (by omega) fun tv H3 htv x3 b3 => ?_⟩
    have X3 := xj.trans x3
    refine ⟨_, rfl, _, rfl, pk H3 lg gd _ b3 (sx X3 _ _ hlg) (nbl hlg) gdl.1 (by omega) fun gv H4 hgv x4 b4 => ?_⟩
    have X4 := X3.trans x4
    refine ⟨by show 2 ≤ sizeLine; decide, fun tt ntt => ?_⟩
    obtain ⟨H5, e5, s5, g5⟩ := new_ex ntt (.tup [tv, gv])
    rw [e5]
    refine ⟨tt, _, rfl, SqT.of g5, rfl, ?_⟩
    refine ⟨_, _, rfl, _, _, rfl, rfl, ?_⟩
    have X5 := X4.trans (Xb.of s5)
    have b5 := b4.same s5
    obtain ⟨gi, hgi⟩ := List.getElem?_of_mem hgv
    -- no saying
    refine ⟨3, rfl, by decide, by decide, fun D3 nD3 => lc_range (Pv := fun i Hq => Same H5 Hq ∧ Hq D3 = some (.lst [])) ⟨same_new nD3, upd_same⟩ (fun m Hd hm h => ?_) (fun H6 h => ?_)⟩
    · obtain ⟨sd, hD3⟩ := h
      replace hm : m < 3 := hm
      refine ⟨rfl, ?_⟩
      refine ⟨_, rfl, _, rfl, m, tv, .non, .non, (by show [V.int ((0 : Int) + (m : Int)), tv, V.non, V.non] = _; rw [Int.zero_add]), .inl ⟨by omega, odd tv htv Hd ((sx X5).trans sd), fun H' s' => ⟨rfl, _, rfl, ?_⟩⟩⟩
      rw [show (!decide (V.str (Str.ofString "saying") = V.str (Str.ofString "saying"))) = false by rw [decide_eq_true rfl]; rfl]
      exact iteF ⟨sd.trans s', s' _ _ hD3⟩
    obtain ⟨s6, hD3⟩ := h
    refine ⟨by show 0 ≤ sizeLine; decide, fun e7 nE7 => ?_⟩
    obtain ⟨H7, f7', s7', g7'⟩ := new_ex nE7 (.lst (([] : List Int).map V.int))
    rw [show HO.lst [] = HO.lst (([] : List Int).map V.int) from rfl, f7']
    refine ⟨lI [], lI [], dp_lI (ns := []) (s7' _ _ hD3), dp_lI (ns := []) g7', shaped_lI _, shaped_lI _, _, rfl, ?_⟩
    rw [eqv_lI, decide_eq_true rfl]
    have X7 := X5.trans (Xb.of (s6.trans s7'))
    have b7 := b5.same (s6.trans s7')
    refine iteF ?_
    -- a thing that is no saying, and bad rows
    refine ⟨_, rfl, _, rfl, _, rfl, pkB H7 _ X7 b7 fun v1 H8 hv1 x8 b8 => ?_⟩
    have X8 := X7.trans x8
    refine ⟨_, rfl, _, rfl, pkB H8 _ X8 b8 fun v2 H9' hv2 x9 b9 => ?_⟩
    have X9 := X8.trans x9
    refine ⟨3, tv, v1, v2, rfl, .inl ⟨by decide, odd tv htv _ (sx X9), fun H10' s10' => ⟨rfl, _, rfl, ?_⟩⟩⟩
    rw [show (!decide (V.str (Str.ofString "saying") = V.str (Str.ofString "saying"))) = false by rw [decide_eq_true rfl]; rfl]
    have X10 := X9.trans (Xb.of s10')
    have b10 := b9.same s10'
    refine iteF ?_
    -- bad rows
    refine ⟨_, rfl, _, rfl, _, rfl, pkB H10' _ X10 b10 fun v3 H11' hv3 x11 b11 => ?_⟩
    have X11 := X10.trans x11
    refine ⟨_, rfl, 3, .ref z, v3, gv, rfl, .inr (.inl ⟨rfl, ⟨_, z, rfl, hz32.same (sx X11), smz⟩, bad v3 hv3 _ (sx X11), fun H12' s12' => ⟨rfl, _, rfl, ?_⟩⟩)⟩
    rw [show (!decide (V.str (Str.ofString "rows") = V.str (Str.ofString "rows"))) = false by rw [decide_eq_true rfl]; rfl]
    have X12 := X11.trans (Xb.of s12')
    have b12 := b11.same s12'
    refine iteF ?_
    -- bad others
    refine ⟨_, rfl, _, rfl, _, rfl, _, rfl, pkB H12' _ X12 b12 fun v4 H13' hv4 x13 b13 => ?_⟩
    have X13 := X12.trans x13
    obtain ⟨rs, hrs, hgr⟩ := good gi gv hgi _ (sx X13)
    refine ⟨3, .ref z, gv, v4, rfl, .inr (.inr (.inl ⟨rfl, ⟨_, z, rfl, hz32.same (sx X13), smz⟩, ⟨rs, hgr⟩, bad v4 hv4 _ (sx X13), fun H14' s14' => ⟨rfl, _, rfl, ?_⟩⟩))⟩
    rw [show (!decide (V.str (Str.ofString "rows") = V.str (Str.ofString "rows"))) = false by rw [decide_eq_true rfl]; rfl]
    have X14 := X13.trans (Xb.of s14')
    have b14 := b13.same s14'
    refine iteF ?_
    dsimp only [tNext, tSeq]
    -- what is no number
    refine ⟨_, rfl, _, _, rfl, rfl, by show 1 ≤ sizeLine; decide, fun t15 nt15 => ?_⟩
    obtain ⟨H15', f15', s15', g15'⟩ := new_ex nt15 (.tup [.int 2])
    rw [f15']
    refine ⟨_, _, rfl, rfl, ⟨by decide, by decide, by decide⟩, _, rfl, by show 9 ≤ sizeLine; decide, fun ln nln => ?_⟩
    obtain ⟨nm, enm⟩ : ∃ nm : List V, nm = [.int 0, .int 10, .int (0 - 1), .bl true, .non, .str "2", .ref t15, .int (10 ^ (20 : Int).toNat), .ref z] := ⟨_, rfl⟩
    obtain ⟨H16', f16', s16', g16'⟩ := new_ex nln (.lst nm)
    rw [show HO.lst [V.int 0, V.int 10, V.int (0 - 1), V.bl true, V.non, V.str (Str.ofString "2"), V.ref t15, V.int (10 ^ (20 : Int).toNat), V.ref z] = HO.lst nm by rw [enm], f16']
    have X16 := X14.trans (Xb.of (s15'.trans s16'))
    have b16 := b14.same (s15'.trans s16')
    have nml : 0 < nm.length ∧ nm.length = 9 := by rw [enm]; exact ⟨Nat.succ_pos _, rfl⟩
    have nbn : ln ≠ b := (b14.same s15').ne nln
    have nums : ∀ v ∈ nm, ∀ Hq, Xb b H16' Hq → BadM K Hq v := fun v hv Hq xq => by
      have sq := sx (X16.trans xq)
      rw [enm] at hv
      simp only [List.mem_cons, List.not_mem_nil, or_false] at hv
      rcases hv with rfl | rfl | rfl | rfl | rfl | rfl | rfl | rfl | rfl
      · exact .inr (.inr ⟨_, rfl, by decide⟩)
      · exact .inr (.inr ⟨_, rfl, by decide⟩)
      · exact .inr (.inr ⟨_, rfl, by decide⟩)
      · exact .inr (.inl ⟨_, rfl⟩)
      · exact .inl ⟨_, fun _ _ => .base .non, KF.it _ (by simp)⟩
      · exact .inl ⟨_, fun _ _ => .base (.str _), KF.it _ (by simp)⟩
      · exact .inl ⟨_, fun H' s' => .base (.tup (s' _ _ (xq _ _ (b14.ne nt15) (s16' _ _ g15')))), KF.it _ (by simp)⟩
      · exact .inr (.inr ⟨_, rfl, by decide⟩)
      · exact .inl ⟨_, fun H' s' => tyz _ (sq.trans s'), KF.it _ (by simp)⟩
    refine pk H16' ln nm _ b16 g16' nbn nml.1 (by omega) fun nv H17' hnv x17 b17 => ?_
    have X17 := X16.trans x17
    dsimp only [gName]
    refine ⟨_, rfl, _, rfl, _, rfl, _, rfl, lb, lg, _, _, rfl, rfl, sx X17 _ _ k32, sx X17 _ _ hlg, by omega, fun p18 np18 => ?_⟩
    obtain ⟨H18', f18', s18', g18'⟩ := new_ex np18 (.lst (bd ++ gd))
    rw [f18']
    have X18 := X17.trans (Xb.of s18')
    have b18 := b17.same s18'
    refine pk H18' p18 (bd ++ gd) _ b18 g18' (b17.ne np18) (by rw [List.length_append]; omega) (by rw [List.length_append]; omega) fun v5 H19' hv5 x19 b19 => ?_
    have X19 := X18.trans x19
    refine ⟨4, nv, v5, .non, rfl, .inr (.inr (.inr (.inr (.inl ⟨rfl, nums nv hnv _ ((x17.trans (Xb.of s18')).trans x19), fun H20' s20' => ⟨rfl, _, rfl, ?_⟩⟩))))⟩
    rw [show (!decide (V.str (Str.ofString "many") = V.str (Str.ofString "many"))) = false by rw [decide_eq_true rfl]; rfl]
    have X20 := X19.trans (Xb.of s20')
    have b20 := b19.same s20'
    refine iteF ?_
    dsimp only [tNext, tSeq]
    -- a number, and bad rows
    refine ⟨_, rfl, b, 9, rfl, b20, by omega, by omega, fun y1 H21' y10 y11 x21 b21 => ⟨_, _, rfl, rfl, _, rfl, _, rfl, ?_⟩⟩
    obtain ⟨y1, rfl⟩ := Int.eq_ofNat_of_zero_le y10
    have X21 := X20.trans x21
    refine pkB H21' _ X21 b21 fun v6 H22' hv6 x22 b22 => ?_
    have X22 := X21.trans x22
    refine ⟨4, .int (1 + (y1 : Int)), v6, .non, rfl, .inr (.inr (.inr (.inr (.inr (.inl ⟨rfl, ⟨1 + y1, by rw [Int.natCast_add]; rfl, by omega, by omega⟩, bad v6 hv6 _ (sx X22), fun H23' s23' => ⟨rfl, _, rfl, ?_⟩⟩)))))⟩
    rw [show (!decide (V.str (Str.ofString "rows") = V.str (Str.ofString "rows"))) = false by rw [decide_eq_true rfl]; rfl]
    have X23 := X22.trans (Xb.of s23')
    have b23 := b22.same s23'
    refine iteF ?_
    -- a talk of bad rows
    refine ⟨_, rfl, _, rfl, pkB H23' _ X23 b23 fun v7 H24' hv7 x24 b24 => ?_⟩
    have X24 := X23.trans x24
    refine ⟨5, .non, v7, .non, rfl, .inr (.inr (.inr (.inr (.inr (.inr (.inr (.inl ⟨rfl, bad v7 hv7 _ (sx X24), fun H25' s25' => ⟨rfl, _, rfl, ?_⟩⟩)))))))⟩
    rw [show (!decide (V.str (Str.ofString "rows") = V.str (Str.ofString "rows"))) = false by rw [decide_eq_true rfl]; rfl]
    have X25 := X24.trans (Xb.of s25')
    have b25 := b24.same s25'
    refine iteF ?_
    -- good ones are let by
    refine ⟨by show 3 ≤ sizeLine; decide, fun t26 nt26 => ?_⟩
    obtain ⟨H26', f26', s26', g26'⟩ := new_ex nt26 (.tup (([3, 4, 5] : List Int).map V.int))
    rw [show HO.tup [V.int 3, V.int 4, V.int 5] = HO.tup (([3, 4, 5] : List Int).map V.int) from rfl, f26']
    have X26 := X25.trans (Xb.of s26')
    have b26 := b25.same s26'
    have nt26b : t26 ≠ b := b25.ne nt26
    refine ⟨t26, _, rfl, .inr ⟨SqT.of g26', for_tup (K := K) (D := { nx := _, rt := Q }) (a := t26) (xs := ([3, 4, 5] : List Int).map V.int) (fun i' σ Hq => ∃ o11 o13 : Option V, σ = [some (.ref a), some (.ref z), some (.ref st), some (.ref lo), some (.ref lg), some (.ref lb), some (.int (0 + (i : Int))), some (.ref b), some (.int (0 + (j : Int))), some tv, some gv, o11, some nv, o13] ∧ Xb b H26' Hq ∧ BxAt Hq b)
      ⟨o11, o13, rfl, Xb.refl _ _, b26⟩ (fun i' σ Hq _ hp => ?_) (fun i' v σ Hq hv hp => ?_) (fun σ Hq hp => ?_)⟩⟩
    · obtain ⟨_, _, _, xq, _⟩ := hp
      exact SqT.of (xq _ _ nt26b g26')
    · obtain ⟨o11, o13, rfl, xq, bq⟩ := hp
      have Xq := X26.trans xq
      dsimp only [gName, tSeq, tAsg]
      refine ⟨_, rfl, ?_⟩
      have sq32 := sx Xq
      have hlgq := sq32 _ _ hlg
      have hg4 : gd[4]? = some (.ref l4) := by rw [egd]; rfl
      have hg5 : gd[5]? = some (.ref t5) := by rw [egd]; rfl
      have s1932 := s1922.trans s2232
      have q0 : Hq g0 = some (.lst (([] : List Addr).map V.ref)) := sq32 _ _ ((((((s10.trans s11).trans s12).trans s13).trans s14).trans s1419).trans s1932 _ _ k9)
      have q1 : Hq t1 = some (.tup (([] : List Addr).map V.ref)) := sq32 _ _ (((((s11.trans s12).trans s13).trans s14).trans s1419).trans s1932 _ _ k10)
      have q2 : Hq l2 = some (.lst ([st].map V.ref)) := sq32 _ _ ((((s12.trans s13).trans s14).trans s1419).trans s1932 _ _ k11)
      have q3 : Hq t3 = some (.tup ([st, sy].map V.ref)) := sq32 _ _ ((s14.trans s1419).trans s1932 _ _ k13)
      have q4 : Hq l4 = some (.lst ([ti].map V.ref)) := sq32 _ _ (s1632 _ _ k16)
      have q5 : Hq t5 = some (.tup ([fi'].map V.ref)) := sq32 _ _ ((s22.trans s2232) _ _ k21)
      have hstq := hst32.same sq32
      have htiq : RwAt K Y C R Hq (.times 2 [.step]) ti := (hti.same (s16.trans s1632)).same sq32
      have hne' : st ≠ ti := fun e => by
        have h1 := hstq
        have h2 := htiq
        rw [← e] at h2
        unfold RwAt at h1 h2
        obtain ⟨d1, t1', h1, _⟩ := h1
        obtain ⟨d2, tr, t2', as2, h2, _⟩ := h2
        rw [h1] at h2
        have := Option.some.inj h2
        injection this with _ _ e3
        have := congrArg List.length e3
        simp at this
      show tIf _ _ _ _ _ _
      refine via (t := tIf _ _ _) (fun v Hx => ∃ c : Int, v = .int c ∧ 0 < c ∧ c < 10 ∧ Hx = Hq) (fun v27 Hx hP => ?_) (fun Q' k' => ?_)
      rotate_left
      · have r9 := k' (.int 9) Hq ⟨9, rfl, by decide, by decide, rfl⟩
        have r3 := k' (.int 3) Hq ⟨3, rfl, by decide, by decide, rfl⟩
        -- the second test, the third one
        rw [egd] at hgi
        match gi, hgi with
        | 0, hgi =>
          cases hgi
          refine ⟨_, rfl, g0, _, rfl, .inl (SqL.of q0), _, _, rfl, rfl, _, rfl, ite2 (fun e => ?_) (fun e => r3)⟩
          refine ⟨_, rfl, _, rfl, lg, gd, _, _, rfl, rfl, SqL.of hlgq, atI_nat (j := 4) hg4, g0, l4, rfl, rfl, .inl ⟨_, _, SqL.of q0, SqL.of q4, by simp, _, rfl, iteT ?_⟩⟩
          exact ⟨_, rfl, _, rfl, lg, gd, _, _, rfl, rfl, SqL.of hlgq, atI_nat (j := 5) hg5, g0, t5, rfl, rfl, .inr (.inr (.inl ⟨_, _, .inl ⟨SqL.of q0, SqT.of q5⟩, _, rfl, iteT r9⟩))⟩
        | 1, hgi =>
          cases hgi
          refine ⟨_, rfl, t1, _, rfl, .inr (SqT.of q1), _, _, rfl, rfl, _, rfl, ite2 (fun e => ?_) (fun e => r3)⟩
          refine ⟨_, rfl, _, rfl, lg, gd, _, _, rfl, rfl, SqL.of hlgq, atI_nat (j := 4) hg4, t1, l4, rfl, rfl, .inr (.inr (.inl ⟨_, _, .inr ⟨SqT.of q1, SqL.of q4⟩, _, rfl, iteT ?_⟩))⟩
          exact ⟨_, rfl, _, rfl, lg, gd, _, _, rfl, rfl, SqL.of hlgq, atI_nat (j := 5) hg5, t1, t5, rfl, rfl, .inr (.inl ⟨_, _, SqT.of q1, SqT.of q5, rfl, by simp, _, rfl, iteT r9⟩)⟩
        | 2, hgi =>
          cases hgi
          obtain ⟨dx, fs, _, hins, _, _⟩ := hstq.ins
          refine ⟨_, rfl, l2, _, rfl, .inl (SqL.of q2), _, _, rfl, rfl, _, rfl, ite2 (fun e => ?_) (fun e => r3)⟩
          refine ⟨_, rfl, _, rfl, lg, gd, _, _, rfl, rfl, SqL.of hlgq, atI_nat (j := 4) hg4, l2, l4, rfl, rfl, .inr (.inr (.inr (.inr ⟨st, ti, dx, fs, .ref R.tim, R.stp, hne', q2, q4, hins, htiq.tyx LR, nfS, eqS, st, .step, .ref ti, rfl, hstq, .inl ⟨ti, .times 2 [.step], rfl, htiq, lay_st, lay_ti, ⟨_, rfl, q2, q4, _, rfl, ite2 (fun e => ?_) (fun e => r3)⟩⟩⟩)))⟩
          exact ⟨_, rfl, _, rfl, lg, gd, _, _, rfl, rfl, SqL.of hlgq, atI_nat (j := 5) hg5, l2, t5, rfl, rfl, .inr (.inr (.inl ⟨_, _, .inl ⟨SqL.of q2, SqT.of q5⟩, _, rfl, iteT r9⟩))⟩
        | 3, hgi =>
          cases hgi
          refine ⟨_, rfl, t3, _, rfl, .inr (SqT.of q3), _, _, rfl, rfl, _, rfl, ?_⟩
          refine iteF r3
        | 4, hgi =>
          cases hgi
          refine ⟨_, rfl, l4, _, rfl, .inl (SqL.of q4), _, _, rfl, rfl, _, rfl, ite2 (fun e => ?_) (fun e => r3)⟩
          exact ⟨_, rfl, _, rfl, lg, gd, _, _, rfl, rfl, SqL.of hlgq, atI_nat (j := 4) hg4, l4, l4, rfl, rfl, .inr (.inr (.inr (.inl ⟨_, rfl, .inl (SqL.of q4), _, rfl, iteF r3⟩)))⟩
        | 5, hgi =>
          cases hgi
          refine ⟨_, rfl, t5, _, rfl, .inr (SqT.of q5), _, _, rfl, rfl, _, rfl, ite2 (fun e => ?_) (fun e => r3)⟩
          refine ⟨_, rfl, _, rfl, lg, gd, _, _, rfl, rfl, SqL.of hlgq, atI_nat (j := 4) hg4, t5, l4, rfl, rfl, .inr (.inr (.inl ⟨_, _, .inr ⟨SqT.of q5, SqL.of q4⟩, _, rfl, iteT ?_⟩))⟩
          exact ⟨_, rfl, _, rfl, lg, gd, _, _, rfl, rfl, SqL.of hlgq, atI_nat (j := 5) hg5, t5, t5, rfl, rfl, .inr (.inr (.inr (.inl ⟨_, rfl, .inr (SqT.of q5), _, rfl, iteF r3⟩)))⟩
        | gi + 6, hgi => simp at hgi
      obtain ⟨c, rfl, c0, c9, rfl⟩ := hP
      refine ⟨b, c, rfl, bq, c0, by omega, fun y H27 y0 y1 x27 b27 => ⟨_, _, rfl, rfl, ?_⟩⟩
      obtain ⟨y, rfl⟩ := Int.eq_ofNat_of_zero_le y0
      have x27' := xq.trans x27
      have X27 := X26.trans x27'
      obtain ⟨rs, hrs', hgr⟩ := good gi gv hgi _ (sx X27)
      have hrs := gpos hrs'
      match i', hv with
      | 0, hv =>
        cases hv
        refine ⟨_, rfl, _, rfl, rfl, _, rfl, iteT ⟨_, rfl, _, rfl, _, rfl, ?_⟩⟩
        refine ⟨3, .ref z, gv, gv, rfl, .inr (.inr (.inr (.inl ⟨rfl, ⟨_, rs, rs, ⟨z, rfl, hz32.same (sx X27), smz⟩, hgr, hgr, (g_if rs hrs).1, (g_if rs hrs).2⟩, fun H28 s28' => ?_⟩)))⟩
        refine ⟨false, false, rfl, rfl, _, rfl, ?_⟩
        rw [show (!decide (false = false)) = false from rfl]
        exact iteF ⟨_, _, rfl, x27'.trans (Xb.of s28'), b27.same s28'⟩
      | 1, hv =>
        cases hv
        refine ⟨_, rfl, _, rfl, rfl, _, rfl, iteF ⟨_, rfl, _, rfl, _, rfl, ?_⟩⟩
        refine ⟨4, _, gv, gv, rfl, .inr (.inr (.inr (.inr (.inr (.inr (.inl ⟨rfl, ⟨1 + y, rs, (by show V.int (1 + (y : Int)) = _; rw [Int.natCast_add]; rfl), by omega, by omega, hgr, (g_tm rs hrs (1 + y) (by omega) (by omega)).1, (g_tm rs hrs (1 + y) (by omega) (by omega)).2⟩, fun H28 s28' => ?_⟩))))))⟩
        refine ⟨false, false, rfl, rfl, _, rfl, ?_⟩
        rw [show (!decide (false = false)) = false from rfl]
        exact iteF ⟨_, _, rfl, x27'.trans (Xb.of s28'), b27.same s28'⟩
      | 2, hv =>
        cases hv
        refine ⟨_, rfl, _, rfl, rfl, _, rfl, iteF ⟨_, rfl, _, rfl, _, rfl, ?_⟩⟩
        refine ⟨5, _, gv, gv, rfl, .inr (.inr (.inr (.inr (.inr (.inr (.inr (.inr ⟨rfl, ⟨rs, hgr, (g_tk rs hrs).1, (g_tk rs hrs).2.1, (g_tk rs hrs).2.2⟩, fun H28 s28' => ?_⟩)))))))⟩
        refine ⟨false, false, rfl, rfl, _, rfl, ?_⟩
        rw [show (!decide (false = false)) = false from rfl]
        exact iteF ⟨_, _, rfl, x27'.trans (Xb.of s28'), b27.same s28'⟩
      | i' + 3, hv => simp at hv
    · obtain ⟨o11, o13, rfl, xq, bq⟩ := hp
      exact ⟨_, _, _, _, _, _, rfl, X26.trans xq, bq⟩
end
end FH

set_option Elab.async false
set_option linter.all false
set_option maxRecDepth 100000
set_option maxHeartbeats 0
set_option pp.maxSteps 600
namespace FH
open PySem L2
theorem all_mk {w : World} {K : PySem.W.Frag} {h : Heap} {mg : Str → Option Value} {fa : Addr} {fI fN fKi fQ fB fH fY fZ fNk fTb fTx fNs fNr fLo fBx fT fP fRf fW qKs C fJ fSt CE fXi CES fXiS CET fXiT cgK Ys fSi Yl fVl Yr fVr Yf fVf Yu fVu Yi fVi Yk fVk Yc fVc Yn fVn Yb fVb fSs Rb Ry fQy Ra fQa Rh fQh Rp fQp Ri fQi eQi Rt fQt fIr fZs fZe TK fTi eTi fTs : Addr} {fdI fdN fdKi fdQ fdB fdH fdY fdZ fdNk fdTb fdTx fdNs fdNr fdLo fdBx fdT fdP fdRf fdW fdJ fdSt fdXi fdXiS fdXiT fdSi fdVl fdVr fdVf fdVu fdVi fdVk fdVc fdVn fdVb fdSs fdQy fdQa fdQh fdQp fdQi fdQt fdIr fdZs fdZe fdTi fdTs : FuncData} (X : K.In h) (G : h.Ns mainGlobals mg) (hfa : mg "law" = some (.ref fa))
    (B0 : fb0 K fI fN fKi fQ fB fH fY fZ fNk fTb fTx fNs fNr fLo fBx fT fP fRf fW qKs C)
    (B1 : fb1 K C fJ fSt CE fXi)
    (B2 : fb2 K CE fXi CES fXiS)
    (B3 : fb3 K CES fXiS CET fXiT)
    (B4 : fb4 K CET cgK Ys fSi Yl)
    (B5 : fb5 K Ys fSi Yl fVl Yr)
    (B6 : fb6 K Ys fSi Yr fVr Yf)
    (B7 : fb7 K Ys fSi Yf fVf Yu fVu)
    (B8 : fb8 K Ys fSi Yu fVu Yi fVi)
    (B9 : fb9 K Ys fSi Yi fVi Yk fVk)
    (B10 : fb10 K Ys fSi Yk fVk Yc fVc)
    (B11 : fb11 K Ys fSi Yc Yn fVn)
    (B12 : fb12 K Ys fSi Yn Yb fVb)
    (B13 : fb13 K C Ys Yl Yr Yf Yu Yi Yk Yc Yn Yb fSs Rb Ry)
    (B14 : fb14 K Rb Ry fQy Ra)
    (B15 : fb15 K Rb Ra fQa Rh)
    (B16 : fb16 K Rb Rh fQh Rp fQp Ri)
    (B17 : fb17 K Rb Ri fQi eQi Rt)
    (B18 : fb18 K Rb Ry Ra Rh Rp Ri Rt fQt fIr fZs fZe)
    (B19 : fb19 K CE CES CET cgK Ys Rp Rt TK fTi eTi fTs)
    (B20 : fb20 K Ys Yl Rb Rp TK)
    (B21 : fb21 K)
    (FI : Fun K "is_integer" "is_integer" (topS 12) fI fdI)
    (FN : Fun K "is_number" "is_number" (topS 13) fN fdN)
    (FKi : Fun K "is_kind" "is_kind" (topS 14) fKi fdKi)
    (FQ : Fun K "is_sequence" "is_sequence" (topS 15) fQ fdQ)
    (FB : Fun K "is_table" "is_table" (topS 38) fB fdB)
    (FH : Fun K "checked" "checked" (topS 39) fH fdH)
    (FY : Fun K "least_way" "least_way" (topS 40) fY fdY)
    (FZ : Fun K "columns_of" "columns_of" (topS 41) fZ fdZ)
    (FNk : Fun K "need_kind" "need_kind" (topS 53) fNk fdNk)
    (FTb : Fun K "told_by" "told_by" (topS 52) fTb fdTb)
    (FTx : Fun K "text_of" "text_of" (topS 54) fTx fdTx)
    (FNs : Fun K "need_saying" "need_saying" (topS 91) fNs fdNs)
    (FNr : Fun K "need_rows" "need_rows" (topS 92) fNr fdNr)
    (FLo : Fun K "lines_of" "lines_of" (topS 93) fLo fdLo)
    (FBx : Fun K "_law_box" "_law_box" (topS 112) fBx fdBx)
    (FT : Fun K "_law_take" "_law_take" (topS 113) fT fdT)
    (FP : Fun K "_law_pick" "_law_pick" (topS 114) fP fdP)
    (FRf : Fun K "_law_refused" "_law_refused" (topS 115) fRf fdRf)
    (FW : Fun K "law" "law" (topS 116) fW fdW)
    (FJ : Fun K "__init__" "Crowds.__init__" (inClass (topS 49) 0) fJ fdJ)
    (FSt : Fun K "__str__" "Crowds.__str__" (inClass (topS 49) 18) fSt fdSt)
    (FXi : SupX.FunS PySem.Challenge.pw_foreheads_k22_rows_refused K "__init__" "InvalidCrowds.__init__" (inClass (topS 3) 0) CE fXi fdXi) (kdXi : fdXi.kwdefaults = .none) (bsXi : ∀ ps : List Str, (∀ (kV doc pm : Value) (an : Option Addr) (cda : Addr) (ct : Value) (cc : Addr) (us : List Value), us.length = ps.length → bindArgs (PySem.W.ksFn "__init__" "InvalidCrowds.__init__" (defArgs (inClass (topS 3) 0)) (defBody (inClass (topS 3) 0)) (defScope (inClass (topS 3) 0)) .none kV doc pm an (.ref cda) ct cc) ⟨us, []⟩ = pure (ps.zip us)) → Binds K fdXi ps [])
    (FXiS : SupX.FunS PySem.Challenge.pw_foreheads_k22_rows_refused K "__init__" "InvalidSaying.__init__" (inClass (topS 4) 0) CES fXiS fdXiS) (kdXiS : fdXiS.kwdefaults = .none) (bsXiS : ∀ ps : List Str, (∀ (kV doc pm : Value) (an : Option Addr) (cda : Addr) (ct : Value) (cc : Addr) (us : List Value), us.length = ps.length → bindArgs (PySem.W.ksFn "__init__" "InvalidSaying.__init__" (defArgs (inClass (topS 4) 0)) (defBody (inClass (topS 4) 0)) (defScope (inClass (topS 4) 0)) .none kV doc pm an (.ref cda) ct cc) ⟨us, []⟩ = pure (ps.zip us)) → Binds K fdXiS ps [])
    (FXiT : SupX.FunS PySem.Challenge.pw_foreheads_k22_rows_refused K "__init__" "InvalidTalk.__init__" (inClass (topS 5) 0) CET fXiT fdXiT) (kdXiT : fdXiT.kwdefaults = .none) (bsXiT : ∀ ps : List Str, (∀ (kV doc pm : Value) (an : Option Addr) (cda : Addr) (ct : Value) (cc : Addr) (us : List Value), us.length = ps.length → bindArgs (PySem.W.ksFn "__init__" "InvalidTalk.__init__" (defArgs (inClass (topS 5) 0)) (defBody (inClass (topS 5) 0)) (defScope (inClass (topS 5) 0)) .none kV doc pm an (.ref cda) ct cc) ⟨us, []⟩ = pure (ps.zip us)) → Binds K fdXiT ps [])
    (FSi : Fun K "__init__" "Saying.__init__" (inClass (topS 55) 0) fSi fdSi)
    (FVl : SupX.FunS PySem.Challenge.pw_foreheads_k22_rows_refused K "__init__" "AtLeast.__init__" (inClass (topS 58) 0) Yl fVl fdVl) (kdVl : fdVl.kwdefaults = .none) (bsVl : ∀ ps : List Str, (∀ (kV doc pm : Value) (an : Option Addr) (cda : Addr) (ct : Value) (cc : Addr) (us : List Value), us.length = ps.length → bindArgs (PySem.W.ksFn "__init__" "AtLeast.__init__" (defArgs (inClass (topS 58) 0)) (defBody (inClass (topS 58) 0)) (defScope (inClass (topS 58) 0)) .none kV doc pm an (.ref cda) ct cc) ⟨us, []⟩ = pure (ps.zip us)) → Binds K fdVl ps [])
    (FVr : SupX.FunS PySem.Challenge.pw_foreheads_k22_rows_refused K "__init__" "Rest.__init__" (inClass (topS 59) 0) Yr fVr fdVr) (kdVr : fdVr.kwdefaults = .none) (bsVr : ∀ ps : List Str, (∀ (kV doc pm : Value) (an : Option Addr) (cda : Addr) (ct : Value) (cc : Addr) (us : List Value), us.length = ps.length → bindArgs (PySem.W.ksFn "__init__" "Rest.__init__" (defArgs (inClass (topS 59) 0)) (defBody (inClass (topS 59) 0)) (defScope (inClass (topS 59) 0)) .none kV doc pm an (.ref cda) ct cc) ⟨us, []⟩ = pure (ps.zip us)) → Binds K fdVr ps [])
    (FVf : SupX.FunS PySem.Challenge.pw_foreheads_k22_rows_refused K "__init__" "Fact.__init__" (inClass (topS 60) 0) Yf fVf fdVf) (kdVf : fdVf.kwdefaults = .none) (bsVf : ∀ ps : List Str, (∀ (kV doc pm : Value) (an : Option Addr) (cda : Addr) (ct : Value) (cc : Addr) (us : List Value), us.length = ps.length → bindArgs (PySem.W.ksFn "__init__" "Fact.__init__" (defArgs (inClass (topS 60) 0)) (defBody (inClass (topS 60) 0)) (defScope (inClass (topS 60) 0)) .none kV doc pm an (.ref cda) ct cc) ⟨us, []⟩ = pure (ps.zip us)) → Binds K fdVf ps [])
    (FVu : SupX.FunS PySem.Challenge.pw_foreheads_k22_rows_refused K "__init__" "Sure.__init__" (inClass (topS 61) 0) Yu fVu fdVu) (kdVu : fdVu.kwdefaults = .none) (bsVu : ∀ ps : List Str, (∀ (kV doc pm : Value) (an : Option Addr) (cda : Addr) (ct : Value) (cc : Addr) (us : List Value), us.length = ps.length → bindArgs (PySem.W.ksFn "__init__" "Sure.__init__" (defArgs (inClass (topS 61) 0)) (defBody (inClass (topS 61) 0)) (defScope (inClass (topS 61) 0)) .none kV doc pm an (.ref cda) ct cc) ⟨us, []⟩ = pure (ps.zip us)) → Binds K fdVu ps [])
    (FVi : SupX.FunS PySem.Challenge.pw_foreheads_k22_rows_refused K "__init__" "Silent.__init__" (inClass (topS 62) 0) Yi fVi fdVi) (kdVi : fdVi.kwdefaults = .none) (bsVi : ∀ ps : List Str, (∀ (kV doc pm : Value) (an : Option Addr) (cda : Addr) (ct : Value) (cc : Addr) (us : List Value), us.length = ps.length → bindArgs (PySem.W.ksFn "__init__" "Silent.__init__" (defArgs (inClass (topS 62) 0)) (defBody (inClass (topS 62) 0)) (defScope (inClass (topS 62) 0)) .none kV doc pm an (.ref cda) ct cc) ⟨us, []⟩ = pure (ps.zip us)) → Binds K fdVi ps [])
    (FVk : SupX.FunS PySem.Challenge.pw_foreheads_k22_rows_refused K "__init__" "Knows.__init__" (inClass (topS 63) 0) Yk fVk fdVk) (kdVk : fdVk.kwdefaults = .none) (bsVk : ∀ ps : List Str, (∀ (kV doc pm : Value) (an : Option Addr) (cda : Addr) (ct : Value) (cc : Addr) (us : List Value), us.length = ps.length → bindArgs (PySem.W.ksFn "__init__" "Knows.__init__" (defArgs (inClass (topS 63) 0)) (defBody (inClass (topS 63) 0)) (defScope (inClass (topS 63) 0)) .none kV doc pm an (.ref cda) ct cc) ⟨us, []⟩ = pure (ps.zip us)) → Binds K fdVk ps [])
    (FVc : SupX.FunS PySem.Challenge.pw_foreheads_k22_rows_refused K "__init__" "Common.__init__" (inClass (topS 64) 0) Yc fVc fdVc) (kdVc : fdVc.kwdefaults = .none) (bsVc : ∀ ps : List Str, (∀ (kV doc pm : Value) (an : Option Addr) (cda : Addr) (ct : Value) (cc : Addr) (us : List Value), us.length = ps.length → bindArgs (PySem.W.ksFn "__init__" "Common.__init__" (defArgs (inClass (topS 64) 0)) (defBody (inClass (topS 64) 0)) (defScope (inClass (topS 64) 0)) .none kV doc pm an (.ref cda) ct cc) ⟨us, []⟩ = pure (ps.zip us)) → Binds K fdVc ps [])
    (FVn : SupX.FunS PySem.Challenge.pw_foreheads_k22_rows_refused K "__init__" "Contrary.__init__" (inClass (topS 57) 0) Yn fVn fdVn) (kdVn : fdVn.kwdefaults = .none) (bsVn : ∀ ps : List Str, (∀ (kV doc pm : Value) (an : Option Addr) (cda : Addr) (ct : Value) (cc : Addr) (us : List Value), us.length = ps.length → bindArgs (PySem.W.ksFn "__init__" "Contrary.__init__" (defArgs (inClass (topS 57) 0)) (defBody (inClass (topS 57) 0)) (defScope (inClass (topS 57) 0)) .none kV doc pm an (.ref cda) ct cc) ⟨us, []⟩ = pure (ps.zip us)) → Binds K fdVn ps [])
    (FVb : SupX.FunS PySem.Challenge.pw_foreheads_k22_rows_refused K "__init__" "Both.__init__" (inClass (topS 56) 0) Yb fVb fdVb) (kdVb : fdVb.kwdefaults = .none) (bsVb : ∀ ps : List Str, (∀ (kV doc pm : Value) (an : Option Addr) (cda : Addr) (ct : Value) (cc : Addr) (us : List Value), us.length = ps.length → bindArgs (PySem.W.ksFn "__init__" "Both.__init__" (defArgs (inClass (topS 56) 0)) (defBody (inClass (topS 56) 0)) (defScope (inClass (topS 56) 0)) .none kV doc pm an (.ref cda) ct cc) ⟨us, []⟩ = pure (ps.zip us)) → Binds K fdVb ps [])
    (FSs : Fun K "__str__" "Saying.__str__" (inClass (topS 55) 9) fSs fdSs)
    (FQy : Fun K "__init__" "Say.__init__" (inClass (topS 96) 0) fQy fdQy)
    (FQa : Fun K "__init__" "Ask.__init__" (inClass (topS 97) 0) fQa fdQa)
    (FQh : Fun K "__init__" "Hands.__init__" (inClass (topS 98) 0) fQh fdQh)
    (FQp : Fun K "__init__" "Step.__init__" (inClass (topS 99) 0) fQp fdQp)
    (FQi : FunD K "__init__" "If.__init__" (defArgs (inClass (topS 100) 0)) (defBody (inClass (topS 100) 0)) (defScope (inClass (topS 100) 0)) [.ref eQi] [] fQi fdQi)
    (FQt : Fun K "__init__" "Times.__init__" (inClass (topS 101) 0) fQt fdQt)
    (FIr : Fun K "__init__" "Row.__init__" (inClass (topS 95) 0) fIr fdIr)
    (FZs : Fun K "__str__" "Row.__str__" (inClass (topS 95) 1) fZs fdZs)
    (FZe : Fun K "__eq__" "Row.__eq__" (inClass (topS 95) 2) fZe fdZe)
    (FTi : FunD K "__init__" "Talk.__init__" (defArgs (inClass (topS 104) 0)) (defBody (inClass (topS 104) 0)) (defScope (inClass (topS 104) 0)) [.ref eTi] [] fTi fdTi)
    (FTs : Fun K "__str__" "Talk.__str__" (inClass (topS 104) 10) fTs fdTs)
    : ∃ fd : FuncData, (∀ (s : Shared) (v : Value), BindsTo s fd ⟨[v], []⟩ [("_law_script", v)]) ∧ ∀ base : Heap, K.In base → base.Ns mainGlobals mg → FnOk PySem.Challenge.pw_foreheads_k22_rows_refused w K mg base CX0 51 fa fd ["_law_script"] (spLaw K) := by
  obtain ⟨aI, aN, aKi, aQ, aB, aH, aY, aZ, aNk, aTb, aTx, aNs, aNr, aLo, aBx, aT, aP, aRf, aW, sIN, sNO, sMO, aKs, eKs, aC⟩ := B0
  obtain ⟨pgC, hdC, poC, saC, mkC, kcC, nCstarts, nCperiods, nCrows, aJ, iJ, aSt, iSt, hnO, htO, haC, hmC, kOC, aX, xX, saX, gaX, ggX, nwX, aXi⟩ := B1
  obtain ⟨iXi, f3Xi, xcXi, sfXi, tX, kcX, eX, yX, hX, uX, vX, oX, zX, te, aXS, xXS, saXS, gaXS, ggXS, nwXS, aXiS, iXiS, f3XiS, xcXiS, sfXiS⟩ := B2
  obtain ⟨tXS, kcXS, eXS, yXS, hXS, uXS, vXS, teS, aXT, xXT, saXT, gaXT, ggXT, nwXT, aXiT, iXiT, f3XiT, xcXiT, sfXiT, tXT, kcXT, eXT, yXT, hXT, uXT⟩ := B3
  obtain ⟨vXT, teT, ecAT, ecMT, acK, aYs, aSi, tySi, fiSi, aYl, pgYl, hdYl, poYl, saYl, mkYl, kcYl, nYltold, nYlkind, nYlnumber, nYlrest, nYlperiod, nYlcrowds, nYlsaying, haYl, hmYl⟩ := B4
  obtain ⟨kSYl, mroYl, aVl, iVl, f3Vl, xcVl, sfVl, suVl, aYr, pgYr, hdYr, poYr, saYr, mkYr, kcYr, nYrtold, nYrkind, nYrnumber, nYrrest, nYrperiod, nYrcrowds, nYrsaying, haYr, hmYr, kSYr⟩ := B5
  obtain ⟨mroYr, aVr, iVr, f3Vr, xcVr, sfVr, suVr, aYf, pgYf, hdYf, poYf, saYf, mkYf, kcYf, nYftold, nYfkind, nYfnumber, nYfrest, nYfperiod, nYfcrowds, nYfsaying, haYf, hmYf, kSYf, mroYf⟩ := B6
  obtain ⟨aVf, iVf, f3Vf, xcVf, sfVf, suVf, aYu, pgYu, hdYu, poYu, saYu, mkYu, kcYu, nYutold, nYukind, nYunumber, nYurest, nYuperiod, nYucrowds, nYusaying, haYu, hmYu, kSYu, mroYu, aVu⟩ := B7
  obtain ⟨iVu, f3Vu, xcVu, sfVu, suVu, aYi, pgYi, hdYi, poYi, saYi, mkYi, kcYi, nYitold, nYikind, nYinumber, nYirest, nYiperiod, nYicrowds, nYisaying, haYi, hmYi, kSYi, mroYi, aVi, iVi⟩ := B8
  obtain ⟨f3Vi, xcVi, sfVi, suVi, aYk, pgYk, hdYk, poYk, saYk, mkYk, kcYk, nYktold, nYkkind, nYknumber, nYkrest, nYkperiod, nYkcrowds, nYksaying, haYk, hmYk, kSYk, mroYk, aVk, iVk, f3Vk⟩ := B9
  obtain ⟨xcVk, sfVk, suVk, aYc, pgYc, hdYc, poYc, saYc, mkYc, kcYc, nYctold, nYckind, nYcnumber, nYcrest, nYcperiod, nYccrowds, nYcsaying, haYc, hmYc, kSYc, mroYc, aVc, iVc, f3Vc, xcVc⟩ := B10
  obtain ⟨sfVc, suVc, aYn, pgYn, hdYn, poYn, saYn, mkYn, kcYn, nYntold, nYnkind, nYnnumber, nYnrest, nYnperiod, nYncrowds, nYnsaying, haYn, hmYn, kSYn, mroYn, aVn, iVn, f3Vn, xcVn, sfVn⟩ := B11
  obtain ⟨suVn, aYb, pgYb, hdYb, poYb, saYb, mkYb, kcYb, nYbtold, nYbkind, nYbnumber, nYbrest, nYbperiod, nYbcrowds, nYbsaying, haYb, hmYb, kSYb, mroYb, aVb, iVb, f3Vb, xcVb, sfVb, suVb⟩ := B12
  obtain ⟨ndY, nsY, ncY, aSsYl, aSsYr, aSsYf, aSsYu, aSsYi, aSsYk, aSsYc, aSsYn, aSsYb, iSs, aFmYl, aFmYr, aFmYf, aFmYu, aFmYi, aFmYk, aFmYc, aFmYn, aFmYb, aRb, aRy, pgRy⟩ := B13
  obtain ⟨hdRy, poRy, saRy, mkRy, kcRy, nRysaying, nRyword, nRyscript, nRyrows, nRyothers, nRymany, haRy, hmRy, kRRy, aQy, iQy, aRa, pgRa, hdRa, poRa, saRa, mkRa, kcRa, nRasaying, nRaword⟩ := B14
  obtain ⟨nRascript, nRarows, nRaothers, nRamany, haRa, hmRa, kRRa, aQa, iQa, aRh, pgRh, hdRh, poRh, saRh, mkRh, kcRh, nRhsaying, nRhword, nRhscript, nRhrows, nRhothers, nRhmany, haRh, hmRh, kRRh⟩ := B15
  obtain ⟨aQh, iQh, aRp, pgRp, hdRp, poRp, saRp, mkRp, kcRp, nRpsaying, nRpword, nRpscript, nRprows, nRpothers, nRpmany, haRp, hmRp, kRRp, aQp, iQp, aRi, pgRi, hdRi, poRi, saRi⟩ := B16
  obtain ⟨mkRi, kcRi, nRisaying, nRiword, nRiscript, nRirows, nRiothers, nRimany, haRi, hmRi, kRRi, aQi, iQi, dvQi, t0Qi, aRt, pgRt, hdRt, poRt, saRt, mkRt, kcRt, nRtsaying, nRtword, nRtscript⟩ := B17
  obtain ⟨nRtrows, nRtothers, nRtmany, haRt, hmRt, kRRt, aQt, iQt, rdCRb, gaCRb, cvIr, aZsRy, aZsRa, aZsRh, aZsRp, aZsRi, aZsRt, iZs, aZeRy, aZeRa, aZeRh, aZeRp, aZeRi, aZeRt, iZe⟩ := B18
  obtain ⟨aTK, pgTK, hdTK, poTK, saTK, mkTK, kcTK, nTKrows, haTK, hmTK, kOTK, dvTi, t0Ti, aTi, iTi, aTs, iTs, kCK, kCI, nfS, ksy0, ksy1, ksy2, ksy3, ksy4⟩ := B19
  obtain ⟨ksy5, ksy6, ksy7, krw0, krw1, krw2, krw3, krw4, ksq0, ksq1, ksq2, ksq3, ksq4, ksq5, kit0, kit1, kit2, kit3, z0, z1, z2, z3, z4, z5, z6⟩ := B20
  obtain ⟨z7, z8, z9, z10, z11, z12, z13, z14, z15, z16⟩ := B21
  have e := hfa.symm.trans (PySem.W.mg_of X G aW)
  cases e
  have T : Bt mg := ⟨PySem.W.mg_none_of X G z0, PySem.W.mg_none_of X G z1, PySem.W.mg_none_of X G z2, PySem.W.mg_none_of X G z3, PySem.W.mg_none_of X G z4, PySem.W.mg_none_of X G z5, PySem.W.mg_none_of X G z6, PySem.W.mg_none_of X G z7, PySem.W.mg_none_of X G z8, PySem.W.mg_none_of X G z9, PySem.W.mg_none_of X G z10, PySem.W.mg_none_of X G z11, PySem.W.mg_none_of X G z12, PySem.W.mg_none_of X G z13, PySem.W.mg_none_of X G z14, PySem.W.mg_none_of X G z15, PySem.W.mg_none_of X G z16⟩
  have bI := FI.binds (ps := ["value"]) fun _ _ _ _ _ _ us hl => match us, hl with | [_], _ => rfl
  have kI := FI.kp
  have gI := PySem.W.mg_of X G aI
  have bN := FN.binds (ps := ["value"]) fun _ _ _ _ _ _ us hl => match us, hl with | [_], _ => rfl
  have kN := FN.kp
  have gN := PySem.W.mg_of X G aN
  have bKi := FKi.binds (ps := ["value"]) fun _ _ _ _ _ _ us hl => match us, hl with | [_], _ => rfl
  have kKi := FKi.kp
  have gKi := PySem.W.mg_of X G aKi
  have bQ := FQ.binds (ps := ["value"]) fun _ _ _ _ _ _ us hl => match us, hl with | [_], _ => rfl
  have kQ := FQ.kp
  have gQ := PySem.W.mg_of X G aQ
  have bB := FB.binds (ps := ["rows", "tall", "wide"]) fun _ _ _ _ _ _ us hl => match us, hl with | [_, _, _], _ => rfl
  have kB := FB.kp
  have gB := PySem.W.mg_of X G aB
  have bH := FH.binds (ps := ["starts", "periods", "rows"]) fun _ _ _ _ _ _ us hl => match us, hl with | [_, _, _], _ => rfl
  have kH := FH.kp
  have gH := PySem.W.mg_of X G aH
  have bY := FY.binds (ps := ["rows", "start", "period"]) fun _ _ _ _ _ _ us hl => match us, hl with | [_, _, _], _ => rfl
  have kY := FY.kp
  have gY := PySem.W.mg_of X G aY
  have bZ := FZ.binds (ps := ["rows"]) fun _ _ _ _ _ _ us hl => match us, hl with | [_], _ => rfl
  have kZ := FZ.kp
  have gZ := PySem.W.mg_of X G aZ
  have bNk := FNk.binds (ps := ["kind"]) fun _ _ _ _ _ _ us hl => match us, hl with | [_], _ => rfl
  have kNk := FNk.kp
  have gNk := PySem.W.mg_of X G aNk
  have bTb := FTb.binds (ps := ["saying"]) fun _ _ _ _ _ _ us hl => match us, hl with | [_], _ => rfl
  have kTb := FTb.kp
  have gTb := PySem.W.mg_of X G aTb
  have bTx := FTx.binds (ps := ["told"]) fun _ _ _ _ _ _ us hl => match us, hl with | [_], _ => rfl
  have kTx := FTx.kp
  have gTx := PySem.W.mg_of X G aTx
  have bNs := FNs.binds (ps := ["value"]) fun _ _ _ _ _ _ us hl => match us, hl with | [_], _ => rfl
  have kNs := FNs.kp
  have gNs := PySem.W.mg_of X G aNs
  have bNr := FNr.binds (ps := ["value"]) fun _ _ _ _ _ _ us hl => match us, hl with | [_], _ => rfl
  have kNr := FNr.kp
  have gNr := PySem.W.mg_of X G aNr
  have bLo := FLo.binds (ps := ["rows"]) fun _ _ _ _ _ _ us hl => match us, hl with | [_], _ => rfl
  have kLo := FLo.kp
  have gLo := PySem.W.mg_of X G aLo
  have bBx := FBx.binds (ps := ["_law_script", "_law_k", "_law_own"]) fun _ _ _ _ _ _ us hl => match us, hl with | [_, _, _], _ => rfl
  have kBx := FBx.kp
  have gBx := PySem.W.mg_of X G aBx
  have bT := FT.binds (ps := ["_law_box_here", "_law_many"]) fun _ _ _ _ _ _ us hl => match us, hl with | [_, _], _ => rfl
  have kT := FT.kp
  have gT := PySem.W.mg_of X G aT
  have bP := FP.binds (ps := ["_law_box_here", "_law_some"]) fun _ _ _ _ _ _ us hl => match us, hl with | [_, _], _ => rfl
  have kP := FP.kp
  have gP := PySem.W.mg_of X G aP
  have bRf := FRf.binds (ps := ["_law_form", "_law_first", "_law_second", "_law_third"]) fun _ _ _ _ _ _ us hl => match us, hl with | [_, _, _, _], _ => rfl
  have kRf := FRf.kp
  have gRf := PySem.W.mg_of X G aRf
  have bW := FW.binds (ps := ["_law_script"]) fun _ _ _ _ _ _ us hl => match us, hl with | [_], _ => rfl
  have kW := FW.kp
  have gW := PySem.W.mg_of X G aW
  obtain ⟨t1, gIN⟩ := He.str_ok X G sIN
  obtain ⟨t2, gNO⟩ := He.str_ok X G sNO
  obtain ⟨tMO, gMO⟩ := He.int_ok X G sMO
  have gKs := PySem.W.mg_of X G aKs
  have hKs : ∀ H : Hp, SqT K H qKs [.str (Str.ofString "marked"), .str (Str.ofString "plain")] := fun H => by rw [eKs.1]; exact He.tupB_ok eKs.2 H
  have clC : Cls K C := ⟨pgC, hdC, poC, saC⟩
  have gmC := PySem.W.mg_of X G aC
  have bJ := FJ.binds (ps := ["self", "starts", "periods", "rows"]) fun _ _ _ _ _ _ us hl => match us, hl with | [_, _, _, _], _ => rfl
  have kJ := FJ.kp
  have bSt := FSt.binds (ps := ["self"]) fun _ _ _ _ _ _ us hl => match us, hl with | [_], _ => rfl
  have kSt := FSt.kp
  have XE : PySem.ErrX.ErrTxt PySem.Challenge.pw_foreheads_k22_rows_refused K mg "InvalidCrowds" CE fXi := by
    obtain ⟨oc, od, kV, doc, pm, an, ct, osl, cc, cda, hfd, lk, hc, hcode, hcell⟩ := FXi.ex
    refine { gC := PySem.W.mg_of X G aX, cls := HkX.excB_ok xX, sa := saX, ga := gaX, gg := ggX, noN := nwX, iC := aXi, tC := tX, kC := kcX, exC := eX, tyC := yX, hdC := hX, sup := uX, sV := vX, sS := sfXi, op := oX, su := zX, top := by decide +kernel, fn := ?_ }
    have hkn := kdXi
    rw [hfd] at hkn
    obtain rfl : kV = .none := hkn
    exact ⟨_, oc, od, doc, pm, an, ct, osl, _, _, _, cc, cda, (by rw [hfd] at lk; exact lk), hc, hcode, hcell⟩
  have XF : XfC K CE := ⟨gaX, ggX, eX, hX⟩
  have XES : PySem.ErrX.ErrTxt PySem.Challenge.pw_foreheads_k22_rows_refused K mg "InvalidSaying" CES fXiS := by
    obtain ⟨oc, od, kV, doc, pm, an, ct, osl, cc, cda, hfd, lk, hc, hcode, hcell⟩ := FXiS.ex
    refine { gC := PySem.W.mg_of X G aXS, cls := HkX.excB_ok xXS, sa := saXS, ga := gaXS, gg := ggXS, noN := nwXS, iC := aXiS, tC := tXS, kC := kcXS, exC := eXS, tyC := yXS, hdC := hXS, sup := uXS, sV := vXS, sS := sfXiS, op := oX, su := zX, top := by decide +kernel, fn := ?_ }
    have hkn := kdXiS
    rw [hfd] at hkn
    obtain rfl : kV = .none := hkn
    exact ⟨_, oc, od, doc, pm, an, ct, osl, _, _, _, cc, cda, (by rw [hfd] at lk; exact lk), hc, hcode, hcell⟩
  have XFS : XfC K CES := ⟨gaXS, ggXS, eXS, hXS⟩
  have XET : PySem.ErrX.ErrTxt PySem.Challenge.pw_foreheads_k22_rows_refused K mg "InvalidTalk" CET fXiT := by
    obtain ⟨oc, od, kV, doc, pm, an, ct, osl, cc, cda, hfd, lk, hc, hcode, hcell⟩ := FXiT.ex
    refine { gC := PySem.W.mg_of X G aXT, cls := HkX.excB_ok xXT, sa := saXT, ga := gaXT, gg := ggXT, noN := nwXT, iC := aXiT, tC := tXT, kC := kcXT, exC := eXT, tyC := yXT, hdC := hXT, sup := uXT, sV := vXT, sS := sfXiT, op := oX, su := zX, top := by decide +kernel, fn := ?_ }
    have hkn := kdXiT
    rw [hfd] at hkn
    obtain rfl : kV = .none := hkn
    exact ⟨_, oc, od, doc, pm, an, ct, osl, _, _, _, cc, cda, (by rw [hfd] at lk; exact lk), hc, hcode, hcell⟩
  have XFT : XfC K CET := ⟨gaXT, ggXT, eXT, hXT⟩
  have ECT : PySem.W.EcC K CET := ⟨gaXT, ggXT, eXT, hXT, ecAT, hnO, htO, ecMT⟩
  have gcK := PySem.W.mg_of X G acK
  have bSi := FSi.binds (ps := ["self", "told"]) fun _ _ _ _ _ _ us hl => match us, hl with | [_, _], _ => rfl
  have kSi := FSi.kp
  have clYl : Cls K Yl := ⟨pgYl, hdYl, poYl, saYl⟩
  have gmYl := PySem.W.mg_of X G aYl
  have SVl : SupX.SupC PySem.Challenge.pw_foreheads_k22_rows_refused K Yl fSi := ⟨sfVl, suVl, tySi, fiSi, oX, zX, by decide +kernel, HkX.cls_ex mroYl⟩
  have bVl := bsVl ["self", "kind", "number"] fun _ _ _ _ _ _ _ us hl => match us, hl with | [_, _, _], _ => rfl
  have MVl : Mk K Yl fVl := ⟨mkYl, aVl, iVl, kcYl⟩
  have SDYl : SyD K Ys Yl := ⟨clYl, nYltold, nYlkind, nYlnumber, nYlrest, nYlperiod, nYlcrowds, nYlsaying, haYl, hmYl, kSYl, HkX.mro_ex mroYl⟩
  have clYr : Cls K Yr := ⟨pgYr, hdYr, poYr, saYr⟩
  have gmYr := PySem.W.mg_of X G aYr
  have SVr : SupX.SupC PySem.Challenge.pw_foreheads_k22_rows_refused K Yr fSi := ⟨sfVr, suVr, tySi, fiSi, oX, zX, by decide +kernel, HkX.cls_ex mroYr⟩
  have bVr := bsVr ["self", "kind", "rest", "period"] fun _ _ _ _ _ _ _ us hl => match us, hl with | [_, _, _, _], _ => rfl
  have MVr : Mk K Yr fVr := ⟨mkYr, aVr, iVr, kcYr⟩
  have SDYr : SyD K Ys Yr := ⟨clYr, nYrtold, nYrkind, nYrnumber, nYrrest, nYrperiod, nYrcrowds, nYrsaying, haYr, hmYr, kSYr, HkX.mro_ex mroYr⟩
  have clYf : Cls K Yf := ⟨pgYf, hdYf, poYf, saYf⟩
  have gmYf := PySem.W.mg_of X G aYf
  have SVf : SupX.SupC PySem.Challenge.pw_foreheads_k22_rows_refused K Yf fSi := ⟨sfVf, suVf, tySi, fiSi, oX, zX, by decide +kernel, HkX.cls_ex mroYf⟩
  have bVf := bsVf ["self", "crowds"] fun _ _ _ _ _ _ _ us hl => match us, hl with | [_, _], _ => rfl
  have MVf : Mk K Yf fVf := ⟨mkYf, aVf, iVf, kcYf⟩
  have SDYf : SyD K Ys Yf := ⟨clYf, nYftold, nYfkind, nYfnumber, nYfrest, nYfperiod, nYfcrowds, nYfsaying, haYf, hmYf, kSYf, HkX.mro_ex mroYf⟩
  have clYu : Cls K Yu := ⟨pgYu, hdYu, poYu, saYu⟩
  have gmYu := PySem.W.mg_of X G aYu
  have SVu : SupX.SupC PySem.Challenge.pw_foreheads_k22_rows_refused K Yu fSi := ⟨sfVu, suVu, tySi, fiSi, oX, zX, by decide +kernel, HkX.cls_ex mroYu⟩
  have bVu := bsVu ["self", "kind"] fun _ _ _ _ _ _ _ us hl => match us, hl with | [_, _], _ => rfl
  have MVu : Mk K Yu fVu := ⟨mkYu, aVu, iVu, kcYu⟩
  have SDYu : SyD K Ys Yu := ⟨clYu, nYutold, nYukind, nYunumber, nYurest, nYuperiod, nYucrowds, nYusaying, haYu, hmYu, kSYu, HkX.mro_ex mroYu⟩
  have clYi : Cls K Yi := ⟨pgYi, hdYi, poYi, saYi⟩
  have gmYi := PySem.W.mg_of X G aYi
  have SVi : SupX.SupC PySem.Challenge.pw_foreheads_k22_rows_refused K Yi fSi := ⟨sfVi, suVi, tySi, fiSi, oX, zX, by decide +kernel, HkX.cls_ex mroYi⟩
  have bVi := bsVi ["self"] fun _ _ _ _ _ _ _ us hl => match us, hl with | [_], _ => rfl
  have MVi : Mk K Yi fVi := ⟨mkYi, aVi, iVi, kcYi⟩
  have SDYi : SyD K Ys Yi := ⟨clYi, nYitold, nYikind, nYinumber, nYirest, nYiperiod, nYicrowds, nYisaying, haYi, hmYi, kSYi, HkX.mro_ex mroYi⟩
  have clYk : Cls K Yk := ⟨pgYk, hdYk, poYk, saYk⟩
  have gmYk := PySem.W.mg_of X G aYk
  have SVk : SupX.SupC PySem.Challenge.pw_foreheads_k22_rows_refused K Yk fSi := ⟨sfVk, suVk, tySi, fiSi, oX, zX, by decide +kernel, HkX.cls_ex mroYk⟩
  have bVk := bsVk ["self", "kind", "saying"] fun _ _ _ _ _ _ _ us hl => match us, hl with | [_, _, _], _ => rfl
  have MVk : Mk K Yk fVk := ⟨mkYk, aVk, iVk, kcYk⟩
  have SDYk : SyD K Ys Yk := ⟨clYk, nYktold, nYkkind, nYknumber, nYkrest, nYkperiod, nYkcrowds, nYksaying, haYk, hmYk, kSYk, HkX.mro_ex mroYk⟩
  have clYc : Cls K Yc := ⟨pgYc, hdYc, poYc, saYc⟩
  have gmYc := PySem.W.mg_of X G aYc
  have SVc : SupX.SupC PySem.Challenge.pw_foreheads_k22_rows_refused K Yc fSi := ⟨sfVc, suVc, tySi, fiSi, oX, zX, by decide +kernel, HkX.cls_ex mroYc⟩
  have bVc := bsVc ["self", "saying"] fun _ _ _ _ _ _ _ us hl => match us, hl with | [_, _], _ => rfl
  have MVc : Mk K Yc fVc := ⟨mkYc, aVc, iVc, kcYc⟩
  have SDYc : SyD K Ys Yc := ⟨clYc, nYctold, nYckind, nYcnumber, nYcrest, nYcperiod, nYccrowds, nYcsaying, haYc, hmYc, kSYc, HkX.mro_ex mroYc⟩
  have clYn : Cls K Yn := ⟨pgYn, hdYn, poYn, saYn⟩
  have gmYn := PySem.W.mg_of X G aYn
  have SVn : SupX.SupC PySem.Challenge.pw_foreheads_k22_rows_refused K Yn fSi := ⟨sfVn, suVn, tySi, fiSi, oX, zX, by decide +kernel, HkX.cls_ex mroYn⟩
  have bVn := bsVn ["self", "saying"] fun _ _ _ _ _ _ _ us hl => match us, hl with | [_, _], _ => rfl
  have MVn : Mk K Yn fVn := ⟨mkYn, aVn, iVn, kcYn⟩
  have SDYn : SyD K Ys Yn := ⟨clYn, nYntold, nYnkind, nYnnumber, nYnrest, nYnperiod, nYncrowds, nYnsaying, haYn, hmYn, kSYn, HkX.mro_ex mroYn⟩
  have clYb : Cls K Yb := ⟨pgYb, hdYb, poYb, saYb⟩
  have gmYb := PySem.W.mg_of X G aYb
  have SVb : SupX.SupC PySem.Challenge.pw_foreheads_k22_rows_refused K Yb fSi := ⟨sfVb, suVb, tySi, fiSi, oX, zX, by decide +kernel, HkX.cls_ex mroYb⟩
  have bVb := bsVb ["self", "sign", "one", "other"] fun _ _ _ _ _ _ _ us hl => match us, hl with | [_, _, _, _], _ => rfl
  have MVb : Mk K Yb fVb := ⟨mkYb, aVb, iVb, kcYb⟩
  have SDYb : SyD K Ys Yb := ⟨clYb, nYbtold, nYbkind, nYbnumber, nYbrest, nYbperiod, nYbcrowds, nYbsaying, haYb, hmYb, kSYb, HkX.mro_ex mroYb⟩
  have LY : SyC K mg (Sy.mk Ys Yl Yr Yf Yu Yi Yk Yc Yn Yb) C := ⟨Sy.all9 SDYl SDYr SDYf SDYu SDYi SDYk SDYc SDYn SDYb, hnO, htO, PySem.W.mg_of X G aYs, ndY, nsY, ncY⟩
  have alSs : ∀ D ∈ (Sy.mk Ys Yl Yr Yf Yu Yi Yk Yc Yn Yb).all, PySem.W.findIn K (.ref D) "__str__" = some (some (.ref fSs)) := Sy.all9 (Y := (Sy.mk Ys Yl Yr Yf Yu Yi Yk Yc Yn Yb)) (p := fun D => PySem.W.findIn K (.ref D) "__str__" = some (some (.ref fSs))) aSsYl aSsYr aSsYf aSsYu aSsYi aSsYk aSsYc aSsYn aSsYb
  have bSs := FSs.binds (ps := ["self"]) fun _ _ _ _ _ _ us hl => match us, hl with | [_], _ => rfl
  have kSs := FSs.kp
  have alFm : ∀ D ∈ (Sy.mk Ys Yl Yr Yf Yu Yi Yk Yc Yn Yb).all, PySem.W.findIn K (.ref D) "__format__" = some (some (.builtin "object.__format__")) := Sy.all9 (Y := (Sy.mk Ys Yl Yr Yf Yu Yi Yk Yc Yn Yb)) (p := fun D => PySem.W.findIn K (.ref D) "__format__" = some (some (.builtin "object.__format__"))) aFmYl aFmYr aFmYf aFmYu aFmYi aFmYk aFmYc aFmYn aFmYb
  have clRy : Cls K Ry := ⟨pgRy, hdRy, poRy, saRy⟩
  have gmRy := PySem.W.mg_of X G aRy
  have bQy := FQy.binds (ps := ["self", "saying"]) fun _ _ _ _ _ _ us hl => match us, hl with | [_, _], _ => rfl
  have kQy := FQy.kp
  have MQy : Mk K Ry fQy := ⟨mkRy, aQy, iQy, kcRy⟩
  have clRa : Cls K Ra := ⟨pgRa, hdRa, poRa, saRa⟩
  have gmRa := PySem.W.mg_of X G aRa
  have bQa := FQa.binds (ps := ["self", "saying"]) fun _ _ _ _ _ _ us hl => match us, hl with | [_, _], _ => rfl
  have kQa := FQa.kp
  have MQa : Mk K Ra fQa := ⟨mkRa, aQa, iQa, kcRa⟩
  have clRh : Cls K Rh := ⟨pgRh, hdRh, poRh, saRh⟩
  have gmRh := PySem.W.mg_of X G aRh
  have bQh := FQh.binds (ps := ["self", "saying"]) fun _ _ _ _ _ _ us hl => match us, hl with | [_, _], _ => rfl
  have kQh := FQh.kp
  have MQh : Mk K Rh fQh := ⟨mkRh, aQh, iQh, kcRh⟩
  have clRp : Cls K Rp := ⟨pgRp, hdRp, poRp, saRp⟩
  have gmRp := PySem.W.mg_of X G aRp
  have bQp := FQp.binds (ps := ["self"]) fun _ _ _ _ _ _ us hl => match us, hl with | [_], _ => rfl
  have kQp := FQp.kp
  have MQp : Mk K Rp fQp := ⟨mkRp, aQp, iQp, kcRp⟩
  have clRi : Cls K Ri := ⟨pgRi, hdRi, poRi, saRi⟩
  have gmRi := PySem.W.mg_of X G aRi
  have bQi : Binds K fdQi ["self", "saying", "rows", "others"] [] := by
    obtain ⟨ds, r, hb⟩ := FQi.binds1 (ps := ["self", "saying", "rows", "others"]) 4 1 (by simp) rfl (fun _ _ _ _ _ _ _ us its hu hi => match us, its, hu, hi with | [_, _, _, _], [_], _, _ => ⟨_, rfl, rfl⟩)
    cases r
    exact hb
  have bQi2 : Binds K fdQi ["self", "saying", "rows", "others"] [.ref eQi] := by
    obtain ⟨ds, r, hb⟩ := FQi.binds1 (ps := ["self", "saying", "rows", "others"]) 3 0 (by simp) rfl (fun _ _ _ _ _ _ _ us its hu hi => match us, its, hu, hi with | [_, _, _], [_], _, _ => ⟨_, rfl, rfl⟩)
    cases r with
    | cons r1 r2 =>
      cases r2
      cases r1
      exact hb
  have kQi := FQi.kp
  have MQi : Mk K Ri fQi := ⟨mkRi, aQi, iQi, kcRi⟩
  have clRt : Cls K Rt := ⟨pgRt, hdRt, poRt, saRt⟩
  have gmRt := PySem.W.mg_of X G aRt
  have bQt := FQt.binds (ps := ["self", "many", "rows"]) fun _ _ _ _ _ _ us hl => match us, hl with | [_, _, _], _ => rfl
  have kQt := FQt.kp
  have MQt : Mk K Rt fQt := ⟨mkRt, aQt, iQt, kcRt⟩
  have gmRb := PySem.W.mg_of X G aRb
  have LR : RwC K mg (Rc.mk Rb Ry Ra Rh Rp Ri Rt) := ⟨Rc.all6 (R := (Rc.mk Rb Ry Ra Rh Rp Ri Rt)) (p := fun D => RwD K Rb D) ⟨clRy, nRysaying, nRyword, nRyscript, nRyrows, nRyothers, nRymany, haRy, hmRy, kRRy⟩ ⟨clRa, nRasaying, nRaword, nRascript, nRarows, nRaothers, nRamany, haRa, hmRa, kRRa⟩ ⟨clRh, nRhsaying, nRhword, nRhscript, nRhrows, nRhothers, nRhmany, haRh, hmRh, kRRh⟩ ⟨clRp, nRpsaying, nRpword, nRpscript, nRprows, nRpothers, nRpmany, haRp, hmRp, kRRp⟩ ⟨clRi, nRisaying, nRiword, nRiscript, nRirows, nRiothers, nRimany, haRi, hmRi, kRRi⟩ ⟨clRt, nRtsaying, nRtword, nRtscript, nRtrows, nRtothers, nRtmany, haRt, hmRt, kRRt⟩, hnO, htO, gmRb⟩
  have CRR : ClX.CRead K Rb (.type "type") := ⟨rdCRb, gaCRb⟩
  have bIr := FIr.binds (ps := ["self", "word", "script"]) fun _ _ _ _ _ _ us hl => match us, hl with | [_, _, _], _ => rfl
  have kIr := FIr.kp
  have CFR : CFun K Rb (.type "type") "__init__" fIr := ⟨HkX.cvB_ok cvIr, kIr⟩
  have alZs : ∀ D ∈ (Rc.mk Rb Ry Ra Rh Rp Ri Rt).all, PySem.W.findIn K (.ref D) "__str__" = some (some (.ref fZs)) := Rc.all6 (R := (Rc.mk Rb Ry Ra Rh Rp Ri Rt)) (p := fun D => PySem.W.findIn K (.ref D) "__str__" = some (some (.ref fZs))) aZsRy aZsRa aZsRh aZsRp aZsRi aZsRt
  have bZs := FZs.binds (ps := ["self"]) fun _ _ _ _ _ _ us hl => match us, hl with | [_], _ => rfl
  have kZs := FZs.kp
  have alZe : ∀ D ∈ (Rc.mk Rb Ry Ra Rh Rp Ri Rt).all, PySem.W.findIn K (.ref D) "__eq__" = some (some (.ref fZe)) := Rc.all6 (R := (Rc.mk Rb Ry Ra Rh Rp Ri Rt)) (p := fun D => PySem.W.findIn K (.ref D) "__eq__" = some (some (.ref fZe))) aZeRy aZeRa aZeRh aZeRp aZeRi aZeRt
  have bZe := FZe.binds (ps := ["self", "other"]) fun _ _ _ _ _ _ us hl => match us, hl with | [_, _], _ => rfl
  have kZe := FZe.kp
  have clTK : Cls K TK := ⟨pgTK, hdTK, poTK, saTK⟩
  have gmTK := PySem.W.mg_of X G aTK
  have bTi : Binds K fdTi ["self", "rows"] [] := by
    obtain ⟨ds, r, hb⟩ := FTi.binds1 (ps := ["self", "rows"]) 2 1 (by simp) rfl (fun _ _ _ _ _ _ _ us its hu hi => match us, its, hu, hi with | [_, _], [_], _, _ => ⟨_, rfl, rfl⟩)
    cases r
    exact hb
  have bTi2 : Binds K fdTi ["self", "rows"] [.ref eTi] := by
    obtain ⟨ds, r, hb⟩ := FTi.binds1 (ps := ["self", "rows"]) 1 0 (by simp) rfl (fun _ _ _ _ _ _ _ us its hu hi => match us, its, hu, hi with | [_], [_], _, _ => ⟨_, rfl, rfl⟩)
    cases r with
    | cons r1 r2 =>
      cases r2
      cases r1
      exact hb
  have kTi := FTi.kp
  have bTs := FTs.binds (ps := ["self"]) fun _ _ _ _ _ _ us hl => match us, hl with | [_], _ => rfl
  have kTs := FTs.kp
  refine ⟨fdW, HkX.bind1 FW fun _ _ _ _ _ _ v => rfl, fun base _ _ => ?_⟩
  have L : CrC K mg C := ⟨clC, nCstarts, nCperiods, nCrows, gmC⟩
  have I : CrI K C := ⟨haC, hnO, htO, hmC, kOC⟩
  have MK : Mk K C fJ := ⟨mkC, aJ, iJ, kcC⟩
  have GI : ∀ k, FnOk PySem.Challenge.pw_foreheads_k22_rows_refused w K mg base (L2.CX _ w) (k + 4) fJ _ ["self", "starts", "periods", "rows"] (spInit C CE) := fun k => ok_init (k := k) FJ T L FH bH gH (ok_checked (k := k) FH T XE FI bI gI FQ bQ gQ FN bN gN FB bB gB gIN gNO) FY bY gY FZ bZ gZ
  have GSi : ∀ k, FnR PySem.Challenge.pw_foreheads_k22_rows_refused w K mg base CX0 (k + 1) fSi (spSIni K) := fun k => ((ok_sini (k := k) FSi).raw bSi .nil).imp fun _ _ _ _ h => by simpa using h
  have GNk : ∀ k, FnOk PySem.Challenge.pw_foreheads_k22_rows_refused w K mg base (L2.CX _ w) (k + 2) fNk _ ["kind"] (spNeedK CES) := fun k => ok_needK (k := k) FNk T XES FKi bKi gKi gKs hKs
  have GTb : ∀ k, FnOk PySem.Challenge.pw_foreheads_k22_rows_refused w K mg base (L2.CX _ w) (k + 1) fTb _ ["saying"] (spToldB K (Sy.mk Ys Yl Yr Yf Yu Yi Yk Yc Yn Yb) C CES) := fun k => ok_toldB (k := k) FTb T LY XES
  have GN : ∀ k, FnOk PySem.Challenge.pw_foreheads_k22_rows_refused w K mg base CX0 (k + 2) fN _ ["value"] (spInt isNumD) := fun k => ok_isNum (k := k) FN T FI bI gI
  have GL : ∀ k, FnOk PySem.Challenge.pw_foreheads_k22_rows_refused w K mg base (L2.CX _ w) (k + 3) fVl _ ["self", "kind", "number"] (spYl (Sy.mk Ys Yl Yr Yf Yu Yi Yk Yc Yn Yb) C CES) := fun k => ok_lst (k := k) FVl T LY XES SVl (GSi _) FNk bNk gNk (GNk _) FN bN gN (GN _)
  have GR : ∀ k, FnOk PySem.Challenge.pw_foreheads_k22_rows_refused w K mg base (L2.CX _ w) (k + 3) fVr _ ["self", "kind", "rest", "period"] (spRst (Sy.mk Ys Yl Yr Yf Yu Yi Yk Yc Yn Yb) C CES) := fun k => ok_rst (k := k) FVr T LY XES SVr (GSi _) FNk bNk gNk (GNk _) FN bN gN (GN _) FI bI gI (ok_isInt FI T)
  have GF : ∀ k, FnOk PySem.Challenge.pw_foreheads_k22_rows_refused w K mg base (L2.CX _ w) (k + 3) fVf _ ["self", "crowds"] (spFct K (Sy.mk Ys Yl Yr Yf Yu Yi Yk Yc Yn Yb) C CES) := fun k => ok_fct (k := k) FVf T LY XES SVf (GSi _) L I
  have GU : ∀ k, FnOk PySem.Challenge.pw_foreheads_k22_rows_refused w K mg base (L2.CX _ w) (k + 3) fVu _ ["self", "kind"] (spSur (Sy.mk Ys Yl Yr Yf Yu Yi Yk Yc Yn Yb) C CES) := fun k => ok_sur (k := k) FVu T LY XES SVu (GSi _) FNk bNk gNk (GNk _)
  have GZ : ∀ k, FnOk PySem.Challenge.pw_foreheads_k22_rows_refused w K mg base CX0 (k + 3) fVi _ ["self"] (spSil (Sy.mk Ys Yl Yr Yf Yu Yi Yk Yc Yn Yb) C) := fun k => ok_sil (k := k) FVi T LY SVi (GSi _)
  have GK : ∀ k, FnOk PySem.Challenge.pw_foreheads_k22_rows_refused w K mg base (L2.CX _ w) (k + 3) fVk _ ["self", "kind", "saying"] (spKno K (Sy.mk Ys Yl Yr Yf Yu Yi Yk Yc Yn Yb) C CES) := fun k => ok_kno (k := k) FVk T LY XES SVk (GSi _) FNk bNk gNk (GNk _) FTb bTb gTb (GTb _)
  have GO : ∀ k, FnOk PySem.Challenge.pw_foreheads_k22_rows_refused w K mg base (L2.CX _ w) (k + 3) fVc _ ["self", "saying"] (spCom K (Sy.mk Ys Yl Yr Yf Yu Yi Yk Yc Yn Yb) C CES) := fun k => ok_com (k := k) FVc T LY XES SVc (GSi _) FTb bTb gTb (GTb _)
  have GNn : ∀ k, FnOk PySem.Challenge.pw_foreheads_k22_rows_refused w K mg base CX0 (k + 3) fVn _ ["self", "saying"] (spNon (Sy.mk Ys Yl Yr Yf Yu Yi Yk Yc Yn Yb) C) := fun k => ok_non (k := k) FVn T LY SVn (GSi _)
  have GBt : ∀ k, FnOk PySem.Challenge.pw_foreheads_k22_rows_refused w K mg base CX0 (k + 3) fVb _ ["self", "sign", "one", "other"] (spBth (Sy.mk Ys Yl Yr Yf Yu Yi Yk Yc Yn Yb) C) := fun k => ok_bth (k := k) FVb T LY SVb (GSi _)
  have GTx : ∀ d k, FnOk PySem.Challenge.pw_foreheads_k22_rows_refused w K mg base CX0 (k + d + 4) fTx _ ["told"] (spText C d) := ok_text FTx T bTx gTx (fun k => ok_str (k := k) FSt T L) bSt aSt iSt
  have GSs : ∀ k, FnOk PySem.Challenge.pw_foreheads_k22_rows_refused w K mg base CX0 (k + 10) fSs _ ["self"] (spSStr (Sy.mk Ys Yl Yr Yf Yu Yi Yk Yc Yn Yb) C 5) := fun k => ok_sstr (k := k + 5) FSs T LY FTx bTx gTx (GTx 5 k)
  have SF : SaF K (Sy.mk Ys Yl Yr Yf Yu Yi Yk Yc Yn Yb) fSs := ⟨alSs, alFm, iSs⟩
  have GNs : ∀ k, FnOk PySem.Challenge.pw_foreheads_k22_rows_refused w K mg base (L2.CX _ w) (k + 1) fNs _ ["value"] (spNeedS K (Sy.mk Ys Yl Yr Yf Yu Yi Yk Yc Yn Yb) C CET) := fun k => ok_needS (k := k) FNs T LY XET
  have GNr : ∀ k, FnOk PySem.Challenge.pw_foreheads_k22_rows_refused w K mg base (L2.CX _ w) (k + 1) fNr _ ["value"] (spNeedR K (Rc.mk Rb Ry Ra Rh Rp Ri Rt) CET) := fun k => ok_needR (k := k) FNr T LR XET
  have GLo : ∀ k, FnOk PySem.Challenge.pw_foreheads_k22_rows_refused w K mg base CX0 (k + 1) fLo _ ["rows"] (spLinesOf K (Sy.mk Ys Yl Yr Yf Yu Yi Yk Yc Yn Yb) C (Rc.mk Rb Ry Ra Rh Rp Ri Rt)) := fun k => ok_linesOf (k := k) FLo T LR
  have GIr : ∀ k, FnOk PySem.Challenge.pw_foreheads_k22_rows_refused w K mg base CX0 (k + 1) fIr _ ["self", "word", "script"] (spRowI K) := fun k => ok_rowI (k := k) FIr T
  have GQy : ∀ k, FnOk PySem.Challenge.pw_foreheads_k22_rows_refused w K mg base (L2.CX _ w) (k + 12) fQy _ ["self", "saying"] (spSay1 K (Sy.mk Ys Yl Yr Yf Yu Yi Yk Yc Yn Yb) C CET (Rc.mk Rb Ry Ra Rh Rp Ri Rt) Ry Rw.say) := fun k => ok_iSay (k := k) FQy T LY LR SF FNs bNs gNs ((GNs k).mono (by omega)) CRR CFR bIr ((GIr k).mono (by omega)) bSs (GSs k)
  have GQa : ∀ k, FnOk PySem.Challenge.pw_foreheads_k22_rows_refused w K mg base (L2.CX _ w) (k + 12) fQa _ ["self", "saying"] (spSay1 K (Sy.mk Ys Yl Yr Yf Yu Yi Yk Yc Yn Yb) C CET (Rc.mk Rb Ry Ra Rh Rp Ri Rt) Ra Rw.ask) := fun k => ok_iAsk (k := k) FQa T LY LR SF FNs bNs gNs ((GNs k).mono (by omega)) CRR CFR bIr ((GIr k).mono (by omega)) bSs (GSs k)
  have GQh : ∀ k, FnOk PySem.Challenge.pw_foreheads_k22_rows_refused w K mg base (L2.CX _ w) (k + 12) fQh _ ["self", "saying"] (spSay1 K (Sy.mk Ys Yl Yr Yf Yu Yi Yk Yc Yn Yb) C CET (Rc.mk Rb Ry Ra Rh Rp Ri Rt) Rh Rw.hands) := fun k => ok_iHands (k := k) FQh T LY LR SF FNs bNs gNs ((GNs k).mono (by omega)) CRR CFR bIr ((GIr k).mono (by omega)) bSs (GSs k)
  have GQp : ∀ k, FnOk PySem.Challenge.pw_foreheads_k22_rows_refused w K mg base CX0 (k + 12) fQp _ ["self"] (spStp K (Sy.mk Ys Yl Yr Yf Yu Yi Yk Yc Yn Yb) C (Rc.mk Rb Ry Ra Rh Rp Ri Rt)) := fun k => ok_iStep (k := k) FQp T LR CRR CFR bIr ((GIr k).mono (by omega))
  have GQi : ∀ k, FnOk PySem.Challenge.pw_foreheads_k22_rows_refused w K mg base (L2.CX _ w) (k + 12) fQi _ ["self", "saying", "rows", "others"] (spIff K (Sy.mk Ys Yl Yr Yf Yu Yi Yk Yc Yn Yb) C CET (Rc.mk Rb Ry Ra Rh Rp Ri Rt)) := fun k => ok_iIf (k := k) FQi T LY LR SF FNs bNs gNs ((GNs k).mono (by omega)) FNr bNr gNr ((GNr k).mono (by omega)) FLo bLo gLo ((GLo k).mono (by omega)) CRR CFR bIr ((GIr k).mono (by omega)) bSs (GSs k)
  have GQt : ∀ k, FnOk PySem.Challenge.pw_foreheads_k22_rows_refused w K mg base (L2.CX _ w) (k + 12) fQt _ ["self", "many", "rows"] (spTim K (Sy.mk Ys Yl Yr Yf Yu Yi Yk Yc Yn Yb) C CET (Rc.mk Rb Ry Ra Rh Rp Ri Rt)) := fun k => ok_iTimes (k := k) FQt T LR XET gMO FNr bNr gNr ((GNr k).mono (by omega)) FLo bLo gLo ((GLo k).mono (by omega)) CRR CFR bIr ((GIr k).mono (by omega))
  have GZs : ∀ k, FnOk PySem.Challenge.pw_foreheads_k22_rows_refused w K mg base CX0 (k + 1) fZs _ ["self"] (spRStr K (Sy.mk Ys Yl Yr Yf Yu Yi Yk Yc Yn Yb) C (Rc.mk Rb Ry Ra Rh Rp Ri Rt)) := fun k => ok_rStr (k := k) FZs T LR
  have LT : TkC K TK := ⟨clTK, nTKrows⟩
  have tyT : ∀ {H : Hp} {a dx : Addr} {fs : List (Str × V)}, H a = some (.ins TK dx fs) → TyX K H (.ref a) (.ref TK) := fun h => .base (.ins h clTK haTK hnO htO hmTK)
  have MT : Mk K TK fTi := ⟨mkTK, aTi, iTi, kcTK⟩
  have GTi : ∀ k, FnOk PySem.Challenge.pw_foreheads_k22_rows_refused w K mg base (L2.CX _ w) (k + 12) fTi _ ["self", "rows"] (spTkI K (Sy.mk Ys Yl Yr Yf Yu Yi Yk Yc Yn Yb) C CET (Rc.mk Rb Ry Ra Rh Rp Ri Rt) TK) := fun k => ok_tkI (k := k) FTi T LR LT FNr bNr gNr ((GNr k).mono (by omega))
  have GTs : ∀ k, FnOk PySem.Challenge.pw_foreheads_k22_rows_refused w K mg base CX0 (k + 12) fTs _ ["self"] (spTkStr K (Sy.mk Ys Yl Yr Yf Yu Yi Yk Yc Yn Yb) C (Rc.mk Rb Ry Ra Rh Rp Ri Rt) TK) := fun k => ok_tkStr (k := k) FTs T LR LT FLo bLo gLo ((GLo k).mono (by omega))
  have GP : ∀ k, FnOk PySem.Challenge.pw_foreheads_k22_rows_refused w K mg base CX0 (k + 2) fP _ ["_law_box_here", "_law_some"] (spPickB K) := fun k => ok_pickB (k := k) FP T FT bT gT
  have KF : KtF K (Sy.mk Ys Yl Yr Yf Yu Yi Yk Yc Yn Yb) (Rc.mk Rb Ry Ra Rh Rp Ri Rt) TK := ⟨(fun t ht => by
    simp only [List.mem_cons, List.not_mem_nil, or_false] at ht
    rcases ht with rfl | rfl | rfl | rfl | rfl | rfl | rfl | rfl
    · exact ksy0
    · exact ksy1
    · exact ksy2
    · exact ksy3
    · exact ksy4
    · exact ksy5
    · exact ksy6
    · exact ksy7), (fun t ht => by
    simp only [List.mem_cons, List.not_mem_nil, or_false] at ht
    rcases ht with rfl | rfl | rfl | rfl | rfl
    · exact krw0
    · exact krw1
    · exact krw2
    · exact krw3
    · exact krw4), (fun t ht => by
    simp only [List.mem_cons, List.not_mem_nil, or_false] at ht
    rcases ht with rfl | rfl | rfl | rfl | rfl | rfl
    · exact ksq0
    · exact ksq1
    · exact ksq2
    · exact ksq3
    · exact ksq4
    · exact ksq5), (fun t ht => by
    simp only [List.mem_cons, List.not_mem_nil, or_false] at ht
    rcases ht with rfl | rfl | rfl | rfl
    · exact kit0
    · exact kit1
    · exact kit2
    · exact kit3)⟩
  have GZe : ∀ k, FnOk PySem.Challenge.pw_foreheads_k22_rows_refused w K mg base CX0 (k + 1) fZe _ ["self", "other"] (spREq K (Sy.mk Ys Yl Yr Yf Yu Yi Yk Yc Yn Yb) C (Rc.mk Rb Ry Ra Rh Rp Ri Rt)) := fun k => ok_rEq (k := k) FZe T LR
  have GRf : FnOk PySem.Challenge.pw_foreheads_k22_rows_refused w K mg base CX0 50 fRf _ ["_law_form", "_law_first", "_law_second", "_law_third"] (spRefd K (Sy.mk Ys Yl Yr Yf Yu Yi Yk Yc Yn Yb) C (Rc.mk Rb Ry Ra Rh Rp Ri Rt)) := ok_refd (k := 42) FRf T LY LR LT XET ((GQy 0).mono (by omega)) bQy MQy gmRy ((GQa 0).mono (by omega)) bQa MQa gmRa ((GQh 0).mono (by omega)) bQh MQh gmRh ((GQi 0).mono (by omega)) bQi MQi gmRi ((GQt 0).mono (by omega)) bQt MQt gmRt ((GTi 0).mono (by omega)) bTi MT gmTK ((GZs 0).mono (by omega)) bZs iZs alZs ((GTs 0).mono (by omega)) bTs iTs aTs ECT XFT teT gcK (PySem.W.mg_of X G aX) (PySem.W.mg_of X G aXS) kCK kCI
  exact ok_law (k := 30) FW T LY LR LT KF tyT FBx bBx gBx (ok_feedB FBx T) FT bT gT (ok_takeB FT T) FP bP gP ((GP 0).mono (by omega)) FRf bRf gRf GRf ((GL 0).mono (by omega)) bVl MVl gmYl ((GZ 0).mono (by omega)) bVi MVi gmYi ((GQy 0).mono (by omega)) bQy MQy gmRy ((GQp 0).mono (by omega)) bQp MQp gmRp ((GQi 0).mono (by omega)) bQi MQi gmRi ((GQt 0).mono (by omega)) bQt MQt gmRt ((GTi 0).mono (by omega)) bTi bTi2 (fun H => HkX.tup0_ok t0Ti H) MT gmTK ((GZs 0).mono (by omega)) bZs iZs alZs ((GTs 0).mono (by omega)) bTs iTs aTs ((GZe 0).mono (by omega)) bZe iZe (alZe _ (Rw.cls_mem (Rc.mk Rb Ry Ra Rh Rp Ri Rt) .step)) nfS
theorem facts {w : World} {K : PySem.W.Frag} {h : Heap} {mg : Str → Option Value} {fa : Addr} (X : K.In h) (G : h.Ns mainGlobals mg) (hfa : mg "law" = some (.ref fa)) (c : HkX.Says faB fnB K) :
    ∃ fd : FuncData, (∀ (s : Shared) (v : Value), BindsTo s fd ⟨[v], []⟩ [("_law_script", v)]) ∧ ∀ base : Heap, K.In base → base.Ns mainGlobals mg → FnOk PySem.Challenge.pw_foreheads_k22_rows_refused w K mg base CX0 51 fa fd ["_law_script"] (spLaw K) := by
  have hB := c.fac
  unfold faB at hB
  obtain ⟨hB, hB3⟩ := He.ba hB
  obtain ⟨hB, hB2⟩ := He.ba hB
  obtain ⟨hB, hB1⟩ := He.ba hB
  have hB0 := hB
  unfold faP0 at hB0
  obtain ⟨d0, hB0⟩ := He.ba hB0
  obtain ⟨d1, hB0⟩ := He.ba hB0
  obtain ⟨d2, hB0⟩ := He.ba hB0
  obtain ⟨d3, hB0⟩ := He.ba hB0
  have d4 := hB0
  unfold faP1 at hB1
  obtain ⟨d5, hB1⟩ := He.ba hB1
  obtain ⟨d6, hB1⟩ := He.ba hB1
  obtain ⟨d7, hB1⟩ := He.ba hB1
  obtain ⟨d8, hB1⟩ := He.ba hB1
  obtain ⟨d9, hB1⟩ := He.ba hB1
  have d10 := hB1
  unfold faP2 at hB2
  obtain ⟨d11, hB2⟩ := He.ba hB2
  obtain ⟨d12, hB2⟩ := He.ba hB2
  obtain ⟨d13, hB2⟩ := He.ba hB2
  obtain ⟨d14, hB2⟩ := He.ba hB2
  have d15 := hB2
  unfold faP3 at hB3
  obtain ⟨d16, hB3⟩ := He.ba hB3
  obtain ⟨d17, hB3⟩ := He.ba hB3
  obtain ⟨d18, hB3⟩ := He.ba hB3
  obtain ⟨d19, hB3⟩ := He.ba hB3
  obtain ⟨d20, hB3⟩ := He.ba hB3
  have d21 := hB3
  have wI := c.df 0 (d := ⟨fun K => ((He.ga K "is_integer")), "is_integer", "is_integer", (topS 12), false, false⟩) rfl
  obtain ⟨fdI, FI, qI_⟩ := HkX.Df.fun_ rfl rfl wI.1 wI.2
  have wN := c.df 1 (d := ⟨fun K => ((He.ga K "is_number")), "is_number", "is_number", (topS 13), false, false⟩) rfl
  obtain ⟨fdN, FN, qN_⟩ := HkX.Df.fun_ rfl rfl wN.1 wN.2
  have wKi := c.df 2 (d := ⟨fun K => ((He.ga K "is_kind")), "is_kind", "is_kind", (topS 14), false, false⟩) rfl
  obtain ⟨fdKi, FKi, qKi_⟩ := HkX.Df.fun_ rfl rfl wKi.1 wKi.2
  have wQ := c.df 3 (d := ⟨fun K => ((He.ga K "is_sequence")), "is_sequence", "is_sequence", (topS 15), false, false⟩) rfl
  obtain ⟨fdQ, FQ, qQ_⟩ := HkX.Df.fun_ rfl rfl wQ.1 wQ.2
  have wB := c.df 4 (d := ⟨fun K => ((He.ga K "is_table")), "is_table", "is_table", (topS 38), false, false⟩) rfl
  obtain ⟨fdB, FB, qB_⟩ := HkX.Df.fun_ rfl rfl wB.1 wB.2
  have wH := c.df 5 (d := ⟨fun K => ((He.ga K "checked")), "checked", "checked", (topS 39), false, false⟩) rfl
  obtain ⟨fdH, FH, qH_⟩ := HkX.Df.fun_ rfl rfl wH.1 wH.2
  have wY := c.df 6 (d := ⟨fun K => ((He.ga K "least_way")), "least_way", "least_way", (topS 40), false, false⟩) rfl
  obtain ⟨fdY, FY, qY_⟩ := HkX.Df.fun_ rfl rfl wY.1 wY.2
  have wZ := c.df 7 (d := ⟨fun K => ((He.ga K "columns_of")), "columns_of", "columns_of", (topS 41), false, false⟩) rfl
  obtain ⟨fdZ, FZ, qZ_⟩ := HkX.Df.fun_ rfl rfl wZ.1 wZ.2
  have wNk := c.df 8 (d := ⟨fun K => ((He.ga K "need_kind")), "need_kind", "need_kind", (topS 53), false, false⟩) rfl
  obtain ⟨fdNk, FNk, qNk_⟩ := HkX.Df.fun_ rfl rfl wNk.1 wNk.2
  have wTb := c.df 9 (d := ⟨fun K => ((He.ga K "told_by")), "told_by", "told_by", (topS 52), false, false⟩) rfl
  obtain ⟨fdTb, FTb, qTb_⟩ := HkX.Df.fun_ rfl rfl wTb.1 wTb.2
  have wTx := c.df 10 (d := ⟨fun K => ((He.ga K "text_of")), "text_of", "text_of", (topS 54), false, false⟩) rfl
  obtain ⟨fdTx, FTx, qTx_⟩ := HkX.Df.fun_ rfl rfl wTx.1 wTx.2
  have wNs := c.df 11 (d := ⟨fun K => ((He.ga K "need_saying")), "need_saying", "need_saying", (topS 91), false, false⟩) rfl
  obtain ⟨fdNs, FNs, qNs_⟩ := HkX.Df.fun_ rfl rfl wNs.1 wNs.2
  have wNr := c.df 12 (d := ⟨fun K => ((He.ga K "need_rows")), "need_rows", "need_rows", (topS 92), false, false⟩) rfl
  obtain ⟨fdNr, FNr, qNr_⟩ := HkX.Df.fun_ rfl rfl wNr.1 wNr.2
  have wLo := c.df 13 (d := ⟨fun K => ((He.ga K "lines_of")), "lines_of", "lines_of", (topS 93), false, false⟩) rfl
  obtain ⟨fdLo, FLo, qLo_⟩ := HkX.Df.fun_ rfl rfl wLo.1 wLo.2
  have wBx := c.df 14 (d := ⟨fun K => ((He.ga K "_law_box")), "_law_box", "_law_box", (topS 112), false, false⟩) rfl
  obtain ⟨fdBx, FBx, qBx_⟩ := HkX.Df.fun_ rfl rfl wBx.1 wBx.2
  have wT := c.df 15 (d := ⟨fun K => ((He.ga K "_law_take")), "_law_take", "_law_take", (topS 113), false, false⟩) rfl
  obtain ⟨fdT, FT, qT_⟩ := HkX.Df.fun_ rfl rfl wT.1 wT.2
  have wP := c.df 16 (d := ⟨fun K => ((He.ga K "_law_pick")), "_law_pick", "_law_pick", (topS 114), false, false⟩) rfl
  obtain ⟨fdP, FP, qP_⟩ := HkX.Df.fun_ rfl rfl wP.1 wP.2
  have wRf := c.df 17 (d := ⟨fun K => ((He.ga K "_law_refused")), "_law_refused", "_law_refused", (topS 115), false, false⟩) rfl
  obtain ⟨fdRf, FRf, qRf_⟩ := HkX.Df.fun_ rfl rfl wRf.1 wRf.2
  have wW := c.df 18 (d := ⟨fun K => ((He.ga K "law")), "law", "law", (topS 116), false, false⟩) rfl
  obtain ⟨fdW, FW, qW_⟩ := HkX.Df.fun_ rfl rfl wW.1 wW.2
  have wJ := c.df 19 (d := ⟨fun K => ((He.ma K (He.ga K "Crowds") "__init__")), "__init__", "Crowds.__init__", (inClass (topS 49) 0), false, false⟩) rfl
  obtain ⟨fdJ, FJ, qJ_⟩ := HkX.Df.fun_ rfl rfl wJ.1 wJ.2
  have wSt := c.df 20 (d := ⟨fun K => ((He.ma K (He.ga K "Crowds") "__str__")), "__str__", "Crowds.__str__", (inClass (topS 49) 18), false, false⟩) rfl
  obtain ⟨fdSt, FSt, qSt_⟩ := HkX.Df.fun_ rfl rfl wSt.1 wSt.2
  have wXi := c.df 21 (d := ⟨fun K => ((He.ma K (He.ga K "InvalidCrowds") "__init__")), "__init__", "InvalidCrowds.__init__", (inClass (topS 3) 0), true, false⟩) rfl
  have f3Xi_ := (of_decide_eq_true d2).2.1
  have xcXi_ := (of_decide_eq_true d2).2.2.1
  obtain ⟨fdXi, FXi, kdXi, bsXi⟩ := HkX.Df.supF (P := PySem.Challenge.pw_foreheads_k22_rows_refused) (D := ((He.ga K "InvalidCrowds"))) rfl rfl wXi.1 wXi.2 f3Xi_ xcXi_
  have wXiS := c.df 22 (d := ⟨fun K => ((He.ma K (He.ga K "InvalidSaying") "__init__")), "__init__", "InvalidSaying.__init__", (inClass (topS 4) 0), true, false⟩) rfl
  have f3XiS_ := (of_decide_eq_true d2).2.2.2.2.2.2.2.2.2.2.2.2.2.2.2.2.2.2.2.2.2.2.1
  have xcXiS_ := (of_decide_eq_true d2).2.2.2.2.2.2.2.2.2.2.2.2.2.2.2.2.2.2.2.2.2.2.2.1
  obtain ⟨fdXiS, FXiS, kdXiS, bsXiS⟩ := HkX.Df.supF (P := PySem.Challenge.pw_foreheads_k22_rows_refused) (D := ((He.ga K "InvalidSaying"))) rfl rfl wXiS.1 wXiS.2 f3XiS_ xcXiS_
  have wXiT := c.df 23 (d := ⟨fun K => ((He.ma K (He.ga K "InvalidTalk") "__init__")), "__init__", "InvalidTalk.__init__", (inClass (topS 5) 0), true, false⟩) rfl
  have f3XiT_ := (of_decide_eq_true d3).2.2.2.2.2.2.2.2.2.2.2.2.2.2.2.2.1
  have xcXiT_ := (of_decide_eq_true d3).2.2.2.2.2.2.2.2.2.2.2.2.2.2.2.2.2.1
  obtain ⟨fdXiT, FXiT, kdXiT, bsXiT⟩ := HkX.Df.supF (P := PySem.Challenge.pw_foreheads_k22_rows_refused) (D := ((He.ga K "InvalidTalk"))) rfl rfl wXiT.1 wXiT.2 f3XiT_ xcXiT_
  have wSi := c.df 24 (d := ⟨fun K => ((He.ma K (He.ga K "Saying") "__init__")), "__init__", "Saying.__init__", (inClass (topS 55) 0), false, false⟩) rfl
  obtain ⟨fdSi, FSi, qSi_⟩ := HkX.Df.fun_ rfl rfl wSi.1 wSi.2
  have wVl := c.df 25 (d := ⟨fun K => ((He.ma K (He.ga K "AtLeast") "__init__")), "__init__", "AtLeast.__init__", (inClass (topS 58) 0), true, false⟩) rfl
  have f3Vl_ := (of_decide_eq_true d5).2.2.2.2.1
  have xcVl_ := (of_decide_eq_true d5).2.2.2.2.2.1
  obtain ⟨fdVl, FVl, kdVl, bsVl⟩ := HkX.Df.supF (P := PySem.Challenge.pw_foreheads_k22_rows_refused) (D := ((He.ga K "AtLeast"))) rfl rfl wVl.1 wVl.2 f3Vl_ xcVl_
  have wVr := c.df 26 (d := ⟨fun K => ((He.ma K (He.ga K "Rest") "__init__")), "__init__", "Rest.__init__", (inClass (topS 59) 0), true, false⟩) rfl
  have f3Vr_ := (of_decide_eq_true d6).2.2.2.1
  have xcVr_ := (of_decide_eq_true d6).2.2.2.2.1
  obtain ⟨fdVr, FVr, kdVr, bsVr⟩ := HkX.Df.supF (P := PySem.Challenge.pw_foreheads_k22_rows_refused) (D := ((He.ga K "Rest"))) rfl rfl wVr.1 wVr.2 f3Vr_ xcVr_
  have wVf := c.df 27 (d := ⟨fun K => ((He.ma K (He.ga K "Fact") "__init__")), "__init__", "Fact.__init__", (inClass (topS 60) 0), true, false⟩) rfl
  have f3Vf_ := (of_decide_eq_true d7).2.2.1
  have xcVf_ := (of_decide_eq_true d7).2.2.2.1
  obtain ⟨fdVf, FVf, kdVf, bsVf⟩ := HkX.Df.supF (P := PySem.Challenge.pw_foreheads_k22_rows_refused) (D := ((He.ga K "Fact"))) rfl rfl wVf.1 wVf.2 f3Vf_ xcVf_
  have wVu := c.df 28 (d := ⟨fun K => ((He.ma K (He.ga K "Sure") "__init__")), "__init__", "Sure.__init__", (inClass (topS 61) 0), true, false⟩) rfl
  have f3Vu_ := (of_decide_eq_true d8).2.1
  have xcVu_ := (of_decide_eq_true d8).2.2.1
  obtain ⟨fdVu, FVu, kdVu, bsVu⟩ := HkX.Df.supF (P := PySem.Challenge.pw_foreheads_k22_rows_refused) (D := ((He.ga K "Sure"))) rfl rfl wVu.1 wVu.2 f3Vu_ xcVu_
  have wVi := c.df 29 (d := ⟨fun K => ((He.ma K (He.ga K "Silent") "__init__")), "__init__", "Silent.__init__", (inClass (topS 62) 0), true, false⟩) rfl
  have f3Vi_ := (of_decide_eq_true d9).1
  have xcVi_ := (of_decide_eq_true d9).2.1
  obtain ⟨fdVi, FVi, kdVi, bsVi⟩ := HkX.Df.supF (P := PySem.Challenge.pw_foreheads_k22_rows_refused) (D := ((He.ga K "Silent"))) rfl rfl wVi.1 wVi.2 f3Vi_ xcVi_
  have wVk := c.df 30 (d := ⟨fun K => ((He.ma K (He.ga K "Knows") "__init__")), "__init__", "Knows.__init__", (inClass (topS 63) 0), true, false⟩) rfl
  have f3Vk_ := (of_decide_eq_true d9).2.2.2.2.2.2.2.2.2.2.2.2.2.2.2.2.2.2.2.2.2.2.2.2
  have xcVk_ := (of_decide_eq_true d10).1
  obtain ⟨fdVk, FVk, kdVk, bsVk⟩ := HkX.Df.supF (P := PySem.Challenge.pw_foreheads_k22_rows_refused) (D := ((He.ga K "Knows"))) rfl rfl wVk.1 wVk.2 f3Vk_ xcVk_
  have wVc := c.df 31 (d := ⟨fun K => ((He.ma K (He.ga K "Common") "__init__")), "__init__", "Common.__init__", (inClass (topS 64) 0), true, false⟩) rfl
  have f3Vc_ := (of_decide_eq_true d10).2.2.2.2.2.2.2.2.2.2.2.2.2.2.2.2.2.2.2.2.2.2.2.1
  have xcVc_ := (of_decide_eq_true d10).2.2.2.2.2.2.2.2.2.2.2.2.2.2.2.2.2.2.2.2.2.2.2.2
  obtain ⟨fdVc, FVc, kdVc, bsVc⟩ := HkX.Df.supF (P := PySem.Challenge.pw_foreheads_k22_rows_refused) (D := ((He.ga K "Common"))) rfl rfl wVc.1 wVc.2 f3Vc_ xcVc_
  have wVn := c.df 32 (d := ⟨fun K => ((He.ma K (He.ga K "Contrary") "__init__")), "__init__", "Contrary.__init__", (inClass (topS 57) 0), true, false⟩) rfl
  have f3Vn_ := (of_decide_eq_true d11).2.2.2.2.2.2.2.2.2.2.2.2.2.2.2.2.2.2.2.2.2.2.1
  have xcVn_ := (of_decide_eq_true d11).2.2.2.2.2.2.2.2.2.2.2.2.2.2.2.2.2.2.2.2.2.2.2.1
  obtain ⟨fdVn, FVn, kdVn, bsVn⟩ := HkX.Df.supF (P := PySem.Challenge.pw_foreheads_k22_rows_refused) (D := ((He.ga K "Contrary"))) rfl rfl wVn.1 wVn.2 f3Vn_ xcVn_
  have wVb := c.df 33 (d := ⟨fun K => ((He.ma K (He.ga K "Both") "__init__")), "__init__", "Both.__init__", (inClass (topS 56) 0), true, false⟩) rfl
  have f3Vb_ := (of_decide_eq_true d12).2.2.2.2.2.2.2.2.2.2.2.2.2.2.2.2.2.2.2.2.2.1
  have xcVb_ := (of_decide_eq_true d12).2.2.2.2.2.2.2.2.2.2.2.2.2.2.2.2.2.2.2.2.2.2.1
  obtain ⟨fdVb, FVb, kdVb, bsVb⟩ := HkX.Df.supF (P := PySem.Challenge.pw_foreheads_k22_rows_refused) (D := ((He.ga K "Both"))) rfl rfl wVb.1 wVb.2 f3Vb_ xcVb_
  have wSs := c.df 34 (d := ⟨fun K => ((He.ma K (He.ga K "Saying") "__str__")), "__str__", "Saying.__str__", (inClass (topS 55) 9), false, false⟩) rfl
  obtain ⟨fdSs, FSs, qSs_⟩ := HkX.Df.fun_ rfl rfl wSs.1 wSs.2
  have wQy := c.df 35 (d := ⟨fun K => ((He.ma K (He.ga K "Say") "__init__")), "__init__", "Say.__init__", (inClass (topS 96) 0), false, false⟩) rfl
  obtain ⟨fdQy, FQy, qQy_⟩ := HkX.Df.fun_ rfl rfl wQy.1 wQy.2
  have wQa := c.df 36 (d := ⟨fun K => ((He.ma K (He.ga K "Ask") "__init__")), "__init__", "Ask.__init__", (inClass (topS 97) 0), false, false⟩) rfl
  obtain ⟨fdQa, FQa, qQa_⟩ := HkX.Df.fun_ rfl rfl wQa.1 wQa.2
  have wQh := c.df 37 (d := ⟨fun K => ((He.ma K (He.ga K "Hands") "__init__")), "__init__", "Hands.__init__", (inClass (topS 98) 0), false, false⟩) rfl
  obtain ⟨fdQh, FQh, qQh_⟩ := HkX.Df.fun_ rfl rfl wQh.1 wQh.2
  have wQp := c.df 38 (d := ⟨fun K => ((He.ma K (He.ga K "Step") "__init__")), "__init__", "Step.__init__", (inClass (topS 99) 0), false, false⟩) rfl
  obtain ⟨fdQp, FQp, qQp_⟩ := HkX.Df.fun_ rfl rfl wQp.1 wQp.2
  have wQi := c.df 39 (d := ⟨fun K => ((He.ma K (He.ga K "If") "__init__")), "__init__", "If.__init__", (inClass (topS 100) 0), false, true⟩) rfl
  have dvQi_ := (of_decide_eq_true d17).2.2.2.2.2.2.2.2.2.2.2.2.2.1
  obtain ⟨fdQi, FQi⟩ := HkX.Df.funD_ (dvs := [.ref ((HkX.dfE K (He.ma K (He.ga K "If") "__init__")))]) rfl wQi.1 wQi.2 dvQi_
  have wQt := c.df 40 (d := ⟨fun K => ((He.ma K (He.ga K "Times") "__init__")), "__init__", "Times.__init__", (inClass (topS 101) 0), false, false⟩) rfl
  obtain ⟨fdQt, FQt, qQt_⟩ := HkX.Df.fun_ rfl rfl wQt.1 wQt.2
  have wIr := c.df 41 (d := ⟨fun K => ((He.ma K (He.ga K "Row") "__init__")), "__init__", "Row.__init__", (inClass (topS 95) 0), false, false⟩) rfl
  obtain ⟨fdIr, FIr, qIr_⟩ := HkX.Df.fun_ rfl rfl wIr.1 wIr.2
  have wZs := c.df 42 (d := ⟨fun K => ((He.ma K (He.ga K "Row") "__str__")), "__str__", "Row.__str__", (inClass (topS 95) 1), false, false⟩) rfl
  obtain ⟨fdZs, FZs, qZs_⟩ := HkX.Df.fun_ rfl rfl wZs.1 wZs.2
  have wZe := c.df 43 (d := ⟨fun K => ((He.ma K (He.ga K "Row") "__eq__")), "__eq__", "Row.__eq__", (inClass (topS 95) 2), false, false⟩) rfl
  obtain ⟨fdZe, FZe, qZe_⟩ := HkX.Df.fun_ rfl rfl wZe.1 wZe.2
  have wTi := c.df 44 (d := ⟨fun K => ((He.ma K (He.ga K "Talk") "__init__")), "__init__", "Talk.__init__", (inClass (topS 104) 0), false, true⟩) rfl
  have dvTi_ := (of_decide_eq_true d19).2.2.2.2.2.2.2.2.2.2.2.1
  obtain ⟨fdTi, FTi⟩ := HkX.Df.funD_ (dvs := [.ref ((HkX.dfE K (He.ma K (He.ga K "Talk") "__init__")))]) rfl wTi.1 wTi.2 dvTi_
  have wTs := c.df 45 (d := ⟨fun K => ((He.ma K (He.ga K "Talk") "__str__")), "__str__", "Talk.__str__", (inClass (topS 104) 10), false, false⟩) rfl
  obtain ⟨fdTs, FTs, qTs_⟩ := HkX.Df.fun_ rfl rfl wTs.1 wTs.2
  exact all_mk X G hfa (of_decide_eq_true d0) (of_decide_eq_true d1) (of_decide_eq_true d2) (of_decide_eq_true d3) (of_decide_eq_true d4) (of_decide_eq_true d5) (of_decide_eq_true d6) (of_decide_eq_true d7) (of_decide_eq_true d8) (of_decide_eq_true d9) (of_decide_eq_true d10) (of_decide_eq_true d11) (of_decide_eq_true d12) (of_decide_eq_true d13) (of_decide_eq_true d14) (of_decide_eq_true d15) (of_decide_eq_true d16) (of_decide_eq_true d17) (of_decide_eq_true d18) (of_decide_eq_true d19) (of_decide_eq_true d20) (of_decide_eq_true d21) FI FN FKi FQ FB FH FY FZ FNk FTb FTx FNs FNr FLo FBx FT FP FRf FW FJ FSt FXi kdXi bsXi FXiS kdXiS bsXiS FXiT kdXiT bsXiT FSi FVl kdVl bsVl FVr kdVr bsVr FVf kdVf bsVf FVu kdVu bsVu FVi kdVi bsVi FVk kdVk bsVk FVc kdVc bsVc FVn kdVn bsVn FVb kdVb bsVb FSs FQy FQa FQh FQp FQi FQt FIr FZs FZe FTi FTs
theorem kf (w : World) (os : OsState) : HkX.obF faB fnB (HsZ.SE w os) = HkX.val fnB := HkX.obs_join (HkX.obs_join (HkX.obs_join (kf0 w os) (kf1 w os)) (kf2 w os)) (kf3 w os)
end FH
open PySem PySem.W PySem.Calls PyProof.Rows
set_option maxRecDepth 100000 in
set_option maxHeartbeats 0 in
theorem PySem.Challenge.cw_foreheads_k22_rows_refused_holds : PySem.Challenge.rw_foreheads_k22_rows_refused.Holds := by
  w_on; o_law
  refine HsX.head_two (r := OpenLaw.row PySem.Challenge.rw_foreheads_k22_rows_refused) (q := view (OpenLaw.row PySem.Challenge.rw_foreheads_k22_rows_refused).prog [116]) (H := HkX.hook FH.faB FH.fnB) (ob := HkX.obF FH.faB FH.fnB) (loose := FH.loose) (d := HandSHeadRun.topDef (OpenLaw.row PySem.Challenge.rw_foreheads_k22_rows_refused).prog 116) (kwd := []) (S := HsZ.SE) HkX.obF_eq
    (by kernel_rfl) (fun s => by kernel_rfl) HsZ.hb HsZ.ha HsZ.run FH.kk1 FH.kk2 FH.kf (by kernel_rfl) (by kernel_rfl) (by kernel_rfl) (by rfl) (by first | assumption | decide +kernel) (by decide +kernel) ⟨rfl, rfl, rfl, rfl, rfl, by decide +kernel⟩ ?hw ?hc
  case hw => w_witness2
  case hc =>
    refine L2.walk_ofE (l := PySem.Challenge.rw_foreheads_k22_rows_refused) (n := 63) (k := 51) (x := "_law_script") (CX := L2.CX0) rfl (by decide) (by kernel_rfl) ⟨rfl, by decide, by decide⟩ ?F (fun _ _ _ _ z => z)
    intro w mg fa h Y G hmg0
    obtain ⟨K, KX, c⟩ := Y
    have hmg : mg ("law" : PySem.Str) = some (.ref fa) := by
      have e : (HandSHeadRun.topDef (OpenLaw.row PySem.Challenge.rw_foreheads_k22_rows_refused).prog 116).name = ("law" : PySem.Str) := by kernel_rfl
      rw [← e]
      exact hmg0
    obtain ⟨fd, hb, hF⟩ := FH.facts (w := w) KX G hmg c
    exact ⟨K, fd, FH.spLaw K, KX, hb, fun H a ns hl _ hS => ⟨a, ns, rfl, hS, hl, fun _ => rfl⟩, hF⟩
