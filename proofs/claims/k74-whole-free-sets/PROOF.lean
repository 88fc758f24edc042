import PyProof.Rows.All
import Wide.All
import OpenK.AllK
import Wide.FinOn
import HandS.ForMost
import HandS.Star
import KE.SortData
import HandS.DictTup
import HandS.DictComp
import KE.KDictItemsList
import KE.GoesEnum
import HandS.SetFor
import HandS.IsInst
import HandS.Small
import HandS.Conv
import HandS.Walk
import PySem.Challenge.RW_avoidwords_k74_whole_free_sets
import HandS.Codes
import HandS.More
import HandS.Wide
import HandS.WideBits
import HandS.TupAny
set_option Elab.async false
set_option linter.all false
set_option maxRecDepth 100000
set_option maxHeartbeats 8000000
/-! Rules that the layer lacks, part a: the order of data, sorted and min of data. -/
namespace Av
open PySem PySem.Spec PyProof.Rows L2
section
variable {X : Cx}

/-- x < y of data that are alike -/
def rLtD (K : PySem.W.Frag) : R2 := fun x y H Q =>
  ∃ d e, Dp K H x d ∧ Dp K H y e ∧ PySem.W.alike d e = true ∧ d ≠ .none ∧ d.depth ≤ 60 ∧ Q (.bl (PySem.W.dataLt d e)) H
theorem op_ltD (hu : X.A.units + 64 < cLine) : OpR X (compareOp .Lt) (rLtD X.K) := by
  intro ps s0 τ H x y u1 u2 Q I r1 r2 hq
  obtain ⟨d, e, p1, p2, al, nn, dep, fin⟩ := hq
  obtain ⟨w1, rd1⟩ := p1.reads I d x u1 r1
  obtain ⟨w2, rd2⟩ := p2.reads I e y u2 r2
  refine PySem.W.rcLt_alike d e X.A s0 u1 u2 w1 w2 rd1 rd2 al nn ?_ X.prog X.w _ _ ⟨.bl _, H, I, rfl, fin⟩
  have := Nat.min_le_left d.depth e.depth
  omega

/-- the items read as data, one by one -/
theorem eachReads {pins : List (Addr × Obj)} {τ : L2.St} {H : Hp} {s0 : Shared} (I : Inv X pins τ H s0) {β : Type} {enc : β → PyData} :
    ∀ {xs : List V} {us : List Value} {bs : List β}, Vals xs us → Paired (fun v b => Dp X.K H v (enc b)) xs bs →
      PySem.W.EachIs (fun u b => ∃ as, Reads s0.heap u (enc b) as) us bs
  | _, _, _, .nil, .nil => .nil
  | _, _, _, .cons r rs, .cons d ds => .cons (d.reads I _ _ _ r) (eachReads I rs ds)

/-- the values of items -/
def vOf : Value → V
  | .none => .non
  | .bool b => .bl b
  | .int i _ => .int i
  | .str x _ => .str x
  | .bytes b _ => .byt b
  | .float b _ => .flt b
  | .ref a => .ref a
  | .type n => .ty n
  | _ => .non
theorem vOf_rel {x : V} {u : Value} (r : RelV x u) : vOf u = x := by
  cases x with
  | non => cases r; rfl
  | bl _ => cases r; rfl
  | int _ => obtain ⟨t, rfl⟩ := r; rfl
  | str _ => obtain ⟨t, rfl⟩ := r; rfl
  | byt _ => obtain ⟨t, rfl⟩ := r; rfl
  | flt _ => obtain ⟨t, rfl⟩ := r; rfl
  | ref _ => cases r; rfl
  | ty _ => cases r; rfl
theorem eachBack {β : Type} {G : V → β → Prop} : ∀ {us : List Value} {bs : List β},
    PySem.W.EachIs (fun u b => RelV (vOf u) u ∧ G (vOf u) b) us bs → ∃ ys : List V, Vals ys us ∧ Paired G ys bs
  | _, _, .nil => ⟨[], .nil, .nil⟩
  | _, _, .cons h t => by
    obtain ⟨ys, a, b⟩ := eachBack t
    exact ⟨_ :: ys, .cons h.1 a, .cons h.2 b⟩
theorem eachGo {β : Type} {G : V → β → Prop} : ∀ {xs : List V} {us : List Value} {bs : List β}, Vals xs us → Paired G xs bs →
    PySem.W.EachIs (fun u b => RelV (vOf u) u ∧ G (vOf u) b) us bs
  | _, _, _, .nil, .nil => .nil
  | _, _, _, .cons r rs, .cons d ds => .cons (by rw [vOf_rel r]; exact ⟨r, d⟩) (eachGo rs ds)

/-- sorted(xs), xs data that are alike, each a tuple with an item; G: what else is known of each item and what it stands for -/
def rSortedD (K : PySem.W.Frag) : List V → Hp → VK → Prop := fun vs H Q =>
  ∃ (a : Addr) (xs : List V) (β : Type) (bs : List β) (enc : β → PyData) (G : V → β → Prop), vs = [V.ref a] ∧ SqL K H a xs ∧
    Paired (fun v b => G v b ∧ Dp K H v (enc b)) xs bs ∧
    PySem.W.AllAlike (bs.map enc) ∧ PySem.W.Sortable (bs.map enc) ∧ (∀ b ∈ bs, (enc b).depth ≤ 60) ∧
    ∀ (ys : List V) (p : Addr), Paired G ys (bs.mergeSort (PySem.W.dataLe false enc)) → H p = none → Q (.ref p) (upd H p (.lst ys))
theorem cr_sortedD (hu : X.A.units + 64 < cLine) : CallR X (.builtin "sorted") (rSortedD X.K) := by
  intro pins s0 τ H vs us Q I r hq
  obtain ⟨a, xs, β, bs, enc, G, rfl, hs, pr, al, so, dep, fin⟩ := hq
  obtain ⟨its, rv, hl, hz⟩ := I.list hs
  rw [Vals.ref1 r]
  have lx : xs.length = bs.length := Paired.length pr
  have pg : Paired G xs bs := L2.Paired.mapP pr fun _ _ h => h.1
  have pd : Paired (fun v b => Dp X.K H v (enc b)) xs bs := L2.Paired.mapP pr fun _ _ h => h.2
  refine PySem.W.sorted_data (enc := enc) (R := fun u b => RelV (vOf u) u ∧ G (vOf u) b) hl.isList (eachGo rv pg) (eachReads I rv pd) al so (by omega) (fun b hb => ?_) fun out lo eo => ?_
  · have := dep b hb
    omega
  · obtain ⟨ys, e1, e2⟩ := eachBack eo
    obtain ⟨ep, he⟩ := PyProof.Rows.sortedAll_at s0.heap its out.toArray
    refine ⟨.ref _, upd H (s0.heap.objs.size + 1) (.lst ys), I.laid (t' := s0.toks) (fun _ _ => PyProof.Rows.sortedAll_old) (Nat.le_succ _) ⟨?_, out.toArray.toList, ep, by simpa using e1, ?_⟩, rfl, fin ys _ e2 (I.hok.fresh (Nat.le_succ _))⟩
    · have := e1.length
      omega
    · simpa using he
end

/-! ### min of a list of data -/
section
variable {prog : Program} {w : World} {A : Around} {E : Value → Shared → Prop} {R : Result → Shared → Prop} {base : Heap} {l it bx : Addr} {vs : List Value} {ds : List PyData}
/-- nothing of the heap is lost -/
def Grown (h h' : Heap) : Prop := ∀ b o, h.get? b = some o → h'.get? b = some o
theorem dLt_trans {x y z : PyData} (a : PySem.W.dataLt x y = true) (b : PySem.W.dataLt y z = true) : PySem.W.dataLt x z = true := PyProof.Rows.lex_trans _ _ _ a b

theorem lt_at {h : Heap} {tk : Nat} {sh : Shared} (hb : Grown base h) (rd : ∀ (i : Nat) (v : Value), vs[i]? = some v → ∃ as, Reads base v (ds.getD i .none) as)
    (al : ∀ i j, i < vs.length → j < vs.length → PySem.W.alike (ds.getD i .none) (ds.getD j .none) = true) (nn : ∀ i, i < vs.length → ds.getD i .none ≠ .none)
    (dp : ∀ i, i < vs.length → A.units + (ds.getD i .none).depth < cLine) {i j : Nat} {u v : Value} (hu : vs[i]? = some u) (hv : vs[j]? = some v)
    {Q : Value → Shared → Prop} (q : Q (.bool (PySem.W.dataLt (ds.getD i .none) (ds.getD j .none))) { sh with heap := h, toks := tk }) :
    wpAny (model prog w) A (richCompare .Lt u v) Q E { sh with heap := h, toks := tk } := by
  have li : i < vs.length := (List.getElem?_eq_some_iff.mp hu).1
  have lj : j < vs.length := (List.getElem?_eq_some_iff.mp hv).1
  obtain ⟨a1, r1⟩ := rd i u hu
  obtain ⟨a2, r2⟩ := rd j v hv
  refine PySem.W.rcLt_alike _ _ A { sh with heap := h, toks := tk } u v a1 a2 (PyProof.Rows.Reads.keeps hb r1) (PyProof.Rows.Reads.keeps hb r2) (al i j li lj) (nn i li) ?_ prog w _ _ q
  have := dp i li
  have := Nat.min_le_left (ds.getD i .none).depth (ds.getD j .none).depth
  omega

theorem minD_loop {sh : Shared} (hh : A.handled = none) (hl : base.IsList l vs.toArray) (nl : l ≠ it) (nb : bx ≠ it) (fi : base.objs.size ≤ it) (fb : base.objs.size ≤ bx)
    (cmp : ∀ (i j : Nat) (u v : Value) (h : Heap) (tk : Nat) (Q : Value → Shared → Prop) (E : Value → Shared → Prop), vs[i]? = some u → vs[j]? = some v → Grown base h → Q (.bool (PySem.W.dataLt (ds.getD i .none) (ds.getD j .none))) { sh with heap := h, toks := tk } →
      wpAny (model prog w) A.in1 (richCompare .Lt u v) Q E { sh with heap := h, toks := tk })
    (fin : ∀ i v h tk, vs[i]? = some v → (∀ j, j < vs.length → PySem.W.dataLt (ds.getD j .none) (ds.getD i .none) = false) → Grown base h → R (.ok (.ret v)) { sh with heap := h, toks := tk }) :
    ∀ (left at_ i : Nat) (h : Heap) (tk : Nat) (bv : Value) (c : Nat), vs.length - (at_ + 1) = left → at_ + 1 ≤ vs.length → Grown base h → h.IsListIter it l (at_ + 1) → h.get? bx = some (seqObj "list" #[bv, bv] c) →
      vs[i]? = some bv → (∀ j, j ≤ at_ → PySem.W.dataLt (ds.getD j .none) (ds.getD i .none) = false) →
      codeAny (model prog w) A (.builtin "min.loop" ⟨[.ref it, .none, .ref bx], []⟩) R { sh with heap := h, toks := tk } := by
  have nm : (toString "min" ++ toString ".loop" : String) = "min.loop" := by decide
  have wk := Walks.list (prog := prog) (w := w) (A := A.in1) hh it l nl vs.toArray
  have sz : vs.toArray.size = vs.length := List.size_toArray ..
  have lst : ∀ h, Grown base h → h.IsList l vs.toArray := fun h g => by
    obtain ⟨o, e, r⟩ := hl
    exact ⟨o, g _ _ e, r⟩
  have off : ∀ b o, base.get? b = some o → b ≠ it ∧ b ≠ bx := fun b o e => by
    have lt := Heap.lt_size e
    exact ⟨Nat.ne_of_lt (Nat.lt_of_lt_of_le lt fi), Nat.ne_of_lt (Nat.lt_of_lt_of_le lt fb)⟩
  intro left
  induction left with
  | zero =>
    intro at_ i h tk bv c hk hj hb hit hbx hbv best
    refine codeAny_builtin PySem.F.entry_min_loop ?_
    rw [Around.under_plainId PySem.F.plain_min_loop _]
    show wpAny _ A.in1 (seqItems? (.ref bx) >>= _) _ _ _
    refine wpAny_bind (wpAny_seqItems hbx rfl ?_)
    show wpAny _ A.in1 (tryCatch (pyNext (.ref it)) _ >>= _) _ _ _
    have full : at_ + 1 = vs.length := by omega
    refine wpAny_bind (wpAny_tryCatch (wk.done _ _ _ ⟨by rw [sz, ← full]; exact hit, lst h hb⟩ fun h2 tk2 kp => ?_))
    have hbx2 := kp bx _ (by simpa using nb) hbx
    show wpAny _ A.in1 (updateSeq bx (fun _ => #[]) >>= _) _ _ _
    refine wpAny_bind ?_
    refine wpAny_updateSeq hbx2 rfl (wpAny_bind (wpAny_letGo (wpAny_pure ?_)))
    refine fin i bv _ _ hbv (fun j hj' => best j (by omega)) fun b o e => ?_
    have ⟨n1, n2⟩ := off b o e
    exact (Heap.get?_update_other _ _ (Ne.symm n2)).trans (kp b o (by simpa using n1) (hb b o e))
  | succ left ih =>
    intro at_ i h tk bv c hk hj hb hit hbx hbv best
    have more : at_ + 1 < vs.length := by omega
    refine codeAny_builtin PySem.F.entry_min_loop ?_
    rw [Around.under_plainId PySem.F.plain_min_loop _]
    show wpAny _ A.in1 (seqItems? (.ref bx) >>= _) _ _ _
    refine wpAny_bind (wpAny_seqItems hbx rfl ?_)
    show wpAny _ A.in1 (tryCatch (pyNext (.ref it)) _ >>= _) _ _ _
    refine wpAny_bind (wpAny_tryCatch (wk.item (at_ + 1) _ _ _ (by rw [sz]; exact more) ⟨hit, lst h hb⟩ fun v h2 tk2 hp st2 kp => ?_))
    have hv : vs[at_ + 1]? = some v := by simpa using hp
    have hbx2 := kp bx _ (by simpa using nb) hbx
    have hb2 : Grown base h2 := fun b o e => kp b o (by simpa using (off b o e).1) (hb b o e)
    show wpAny _ A.in1 (tryCatch (holding [v, v] (richCompare .Lt v bv >>= _)) _ >>= _) _ _ _
    refine wpAny_bind (wpAny_tryCatch (wpAny_holding (wpAny_bind (cmp (at_ + 1) i v bv h2 tk2 _ _ hv hbv hb2 ?_))))
    refine wpAny_bind (wpAny_holding (wpAny_truthy_bool ?_))
    refine wpAny_bind (wpAny_letGo (wpAny_pure ?_))
    cases lt : PySem.W.dataLt (ds.getD (at_ + 1) .none) (ds.getD i .none) with
    | true =>
      simp only [if_true]
      refine wpAny_bind ?_
      refine wpAny_updateSeq hbx2 rfl (wpAny_bind (wpAny_letGo ?_))
      rw [nm]
      refine wpAny_pure ⟨plainId_quiet PySem.F.plain_min_loop _, ih (at_ + 1) (at_ + 1) _ _ v _ (by omega) more (fun b o e => ?_) ?_ (Heap.get?_update_self _ hbx2 rfl) hv fun j hj' => ?_⟩
      · exact (Heap.get?_update_other _ _ (Ne.symm (off b o e).2)).trans (hb2 b o e)
      · exact st2.1.at fun o e => (Heap.get?_update_other _ _ nb).trans e
      · rcases Nat.lt_or_ge at_ j with z | z
        · have ej : j = at_ + 1 := by omega
          subst ej
          exact PyProof.Rows.lex_irrefl _
        · cases q : PySem.W.dataLt (ds.getD j .none) (ds.getD (at_ + 1) .none) with
          | false => rfl
          | true =>
            have := dLt_trans q lt
            rw [best j z] at this
            exact absurd this Bool.false_ne_true
    | false =>
      simp only [Bool.false_eq_true, if_false]
      refine wpAny_bind (wpAny_letGo ?_)
      rw [nm]
      refine wpAny_pure ⟨plainId_quiet PySem.F.plain_min_loop _, ih (at_ + 1) i _ _ bv c (by omega) more hb2 st2.1 hbx2 hbv fun j hj' => ?_⟩
      rcases Nat.lt_or_ge at_ j with z | z
      · have ej : j = at_ + 1 := by omega
        subst ej
        exact lt
      · exact best j z

theorem minD {s : Shared} {Q : Value → Shared → Prop} (hh : A.handled = none) (hl : s.heap.IsList l vs.toArray) (ne : 0 < vs.length)
    (rd : ∀ (i : Nat) (v : Value), vs[i]? = some v → ∃ as, Reads s.heap v (ds.getD i .none) as)
    (al : ∀ i j, i < vs.length → j < vs.length → PySem.W.alike (ds.getD i .none) (ds.getD j .none) = true) (nn : ∀ i, i < vs.length → ds.getD i .none ≠ .none)
    (dp : ∀ i, i < vs.length → A.units + 1 + (ds.getD i .none).depth < cLine)
    (fin : ∀ i v h tk, vs[i]? = some v → (∀ j, j < vs.length → PySem.W.dataLt (ds.getD j .none) (ds.getD i .none) = false) → Grown s.heap h → Q v { s with heap := h, toks := tk }) :
    wpAny (model prog w) A (call (.builtin "min") [.ref l]) Q E s := by
  have nm : (toString "min" ++ toString ".loop" : String) = "min.loop" := by decide
  have ll : l < s.heap.objs.size := by
    obtain ⟨o, e, _⟩ := hl
    exact Heap.lt_size e
  refine call_function_tree PySem.F.kind_min PySem.F.plain_min PySem.F.entry_min (PySem.F.args_min1 _) ?_
  show wpAny _ A.in1 (Builtin.Builtins.bindParams "min" ["key", "default"] 0 ⟨[], []⟩ >>= _) _ _ s
  refine wpAny_bind (wpAny_of_eq (show Builtin.Builtins.bindParams "min" ["key", "default"] 0 ⟨[], []⟩ = pure [none, none] from rfl) ?_)
  refine wpAny_bind (wpAny_pure ?_)
  refine wpAny_bind (wpAny_pyIter_list hl ?_)
  refine wpAny_bind (wpAny_newObj_type ?_ (Nat.zero_le _))
  rw [nm]
  generalize hb1 : s.heap.push { cls := .type "list_iterator", data := .fields #[.ref l, .int 0 0] } = h1
  have z1 : h1.objs.size = s.heap.objs.size + 1 := by rw [← hb1]; exact size_push' ..
  have g1 : Grown s.heap h1 := fun b o e => by rw [← hb1]; exact Heap.get?_push_of_some _ e
  have i1 : h1.get? s.heap.objs.size = some { cls := .type "list_iterator", data := .fields #[.ref l, .int 0 0] } := by rw [← hb1]; exact Heap.get?_push_size _ rfl
  have wk := Walks.list (prog := prog) (w := w) (A := A.in1) hh s.heap.objs.size l (Nat.ne_of_lt ll) vs.toArray
  refine wpAny_pure ⟨plainId_quiet PySem.F.plain_min_loop _, codeAny_builtin PySem.F.entry_min_loop ?_⟩
  rw [Around.under_plainId PySem.F.plain_min_loop _]
  have b1 : (h1.push { cls := .type "list", data := .seq ([] : List Value).toArray }).get? h1.objs.size = some { cls := .type "list", data := .seq ([] : List Value).toArray } := Heap.get?_push_size _ rfl
  show wpAny _ A.in1 (seqItems? (.ref h1.objs.size) >>= _) _ _ _
  refine wpAny_bind (wpAny_seqItems b1 rfl ?_)
  show wpAny _ A.in1 (tryCatch (pyNext (.ref s.heap.objs.size)) _ >>= _) _ _ _
  refine wpAny_bind (wpAny_tryCatch (wk.item 0 _ _ _ (by simpa using ne) ⟨⟨_, Heap.get?_push_of_some _ i1, rfl, rfl⟩, ?_⟩ fun v h2 tk2 hp st2 kp => ?_))
  · obtain ⟨o, e, r⟩ := hl
    exact ⟨o, Heap.get?_push_of_some _ (g1 _ _ e), r⟩
  · have nb : h1.objs.size ≠ s.heap.objs.size := by omega
    have b2 := kp h1.objs.size _ (by simpa using nb) b1
    have g2 : Grown s.heap h2 := fun b o e => kp b o (by simpa using Nat.ne_of_lt (Heap.lt_size e)) (Heap.get?_push_of_some _ (g1 b o e))
    have hv : vs[0]? = some v := by simpa using hp
    show wpAny _ A.in1 (updateSeq h1.objs.size (fun _ => #[v, v]) >>= _) _ _ _
    refine wpAny_bind ?_
    refine wpAny_updateSeq b2 rfl ?_
    rw [nm]
    refine wpAny_pure ⟨plainId_quiet PySem.F.plain_min_loop _, minD_loop (sh := s) (base := s.heap) (ds := ds) hh hl (Nat.ne_of_lt ll) nb (Nat.le_refl _) (by omega) (fun i j u v h tk Q E hu hv g q => lt_at (A := A.in1) g rd al nn dp hu hv q) fin
      _ 0 0 _ _ v _ rfl ne (fun b o e => ?_) ?_ (Heap.get?_update_self _ b2 rfl) hv fun j hj => ?_⟩
    · exact (Heap.get?_update_other _ _ (Nat.ne_of_gt (by rw [z1]; exact Nat.lt_succ_of_lt (Heap.lt_size e)))).trans (g2 b o e)
    · exact st2.1.at fun o e => (Heap.get?_update_other _ _ nb).trans e
    · have : j = 0 := by omega
      subst this
      exact PyProof.Rows.lex_irrefl _
end

section
variable {X : Cx}
/-- min(xs), xs data that are alike: one of the items, none is less -/
def rMinD (K : PySem.W.Frag) : List V → Hp → VK → Prop := fun vs H Q =>
  ∃ (a : Addr) (xs : List V) (ds : List PyData), vs = [V.ref a] ∧ SqL K H a xs ∧ 0 < xs.length ∧ DpAll K H xs ds ∧
    (∀ d ∈ ds, d ≠ .none ∧ d.depth ≤ 60 ∧ ∀ e ∈ ds, PySem.W.alike d e = true) ∧
    ∀ (i : Nat) (v : V) (d : PyData), xs[i]? = some v → ds[i]? = some d → (∀ e ∈ ds, PySem.W.dataLt e d = false) → Q v H
theorem dpAll_at {K : PySem.W.Frag} {H : Hp} : ∀ {xs : List V} {ds : List PyData}, DpAll K H xs ds → xs.length = ds.length ∧ ∀ (i : Nat) (v : V), xs[i]? = some v → Dp K H v (ds.getD i .none)
  | _, _, .nil => ⟨rfl, fun i v h => by simp at h⟩
  | _, _, .cons h t => by
    obtain ⟨a, b⟩ := dpAll_at t
    refine ⟨by rw [List.length_cons, List.length_cons, a], fun i v e => ?_⟩
    cases i with
    | zero =>
      have := Option.some.inj e
      subst this
      exact h
    | succ i => exact b i v e
theorem cr_minD (hc : X.calm = true) (hu : X.A.units + 64 < cLine) : CallR X (.builtin "min") (rMinD X.K) := by
  intro pins s0 τ H vs us Q I r hq
  obtain ⟨a, xs, ds, rfl, hs, ne, da, ok, fin⟩ := hq
  obtain ⟨its, rv, hl, hz⟩ := I.list hs
  rw [Vals.ref1 r]
  obtain ⟨le, dat⟩ := dpAll_at da
  have li := rv.length
  have got : ∀ i, i < its.length → ds.getD i .none ∈ ds := fun i hi => by
    have : i < ds.length := by omega
    rw [List.getD_eq_getElem?_getD, List.getElem?_eq_getElem this]
    exact List.getElem_mem this
  have val : ∀ (i : Nat) (u : Value), its[i]? = some u → ∃ x, xs[i]? = some x ∧ RelV x u := fun i u e => by
    have hi : i < its.length := (List.getElem?_eq_some_iff.mp e).1
    obtain ⟨u', e', r'⟩ := Vals.get rv (List.getElem?_eq_getElem (by omega : i < xs.length))
    rw [e] at e'
    cases e'
    exact ⟨_, List.getElem?_eq_getElem (by omega), r'⟩
  refine minD (ds := ds) (I.ok.hd hc) hl.isList (by omega) (fun i u e => ?_) (fun i j hi hj => (ok _ (got i hi)).2.2 _ (got j hj)) (fun i hi => (ok _ (got i hi)).1) (fun i hi => ?_) fun i u h tk e best g => ?_
  · obtain ⟨x, e1, r1⟩ := val i u e
    exact (dat i x e1).reads I _ _ _ r1
  · have := (ok _ (got i hi)).2.1
    omega
  · obtain ⟨x, e1, r1⟩ := val i u e
    refine ⟨x, H, I.kept g, r1, fin i x (ds.getD i .none) e1 ?_ fun d hd => ?_⟩
    · have : i < ds.length := by
        have := (List.getElem?_eq_some_iff.mp e).1
        omega
      rw [List.getD_eq_getElem?_getD, List.getElem?_eq_getElem this]
      rfl
    · obtain ⟨j, hj, e⟩ := List.mem_iff_getElem.mp hd
      have := best j (by omega)
      rw [List.getD_eq_getElem?_getD, List.getElem?_eq_getElem hj, e] at this
      exact this
end
end Av
/-! Rules that the layer lacks, part b: dicts: update, list(d.items()) with tuple keys, a comprehension of two clauses with tuple keys. -/
namespace Av
open PySem PySem.Spec PyProof.Rows L2
section
variable {X : Cx}

/-! ### d.update(e), keys ints or texts -/
def rUpdate : V → List V → Hp → VK → Prop := fun x ys H Q =>
  ∃ (a b : Addr) (ks ls : List (L2.Key × V)), x = .ref a ∧ ys = [.ref b] ∧ a ≠ b ∧ H a = some (.dK ks) ∧ H b = some (.dK ls) ∧ ks.length + ls.length ≤ sizeLine ∧ Q .non (upd H a (.dK (mergeK ks ls)))
theorem mt_update : MtR X "dict.update" rUpdate := by
  intro pn s0 τ H x ys u us Q I rx ry hq
  obtain ⟨a, b, ks, ls, rfl, rfl, ab, ea, eb, sz, fin⟩ := hq
  cases rx
  rw [Vals.ref1 ry]
  obtain ⟨z1, d1, v1, r1, o1⟩ := dk_of I.hok ea
  obtain ⟨z2, d2, v2, r2, o2⟩ := dk_of I.hok eb
  have l1 := r1.length
  have l2 := r2.length
  refine call_meetsIn PySem.F.slot_dict_update o1.typeIs PySem.F.entry_dict_update (PySem.F.args_dict_update_2 _ _) (meets_dict_update (mixKind X.prog X.w) a b ab d2)
    ⟨v1, v2, o1, o2, by omega, fun h2 n1 _ sb => ?_⟩
  have ex : ∃ q, h2.get? a = some q := by
    obtain ⟨q, _, _, hq, _⟩ := n1
    exact ⟨q, hq⟩
  have lm := length_mergeK ls ks
  exact ⟨.non, _, d_write (t' := s0.toks) I (by rw [ea]; exact True.intro) sb ex (dk_new (by omega) d1 (KV.merge r2 r1) n1), rfl, fin⟩

/-! ### list(v), v the view that d.items() gives, tuple keys -/
/-- new tuples beside what was tracked -/
def withTups (H : Hp) (ps : List (Addr × List V)) : Hp := fun b => match ps.lookup b with
  | some xs => some (.tup xs)
  | none => H b
theorem lookup_at : ∀ {ps : List (Addr × List V)}, (ps.map (·.1)).Nodup → ∀ {j : Nat} {p : Addr × List V}, ps[j]? = some p → ps.lookup p.1 = some p.2
  | [], _, j, p, e => by simp at e
  | (a, xs) :: r, nd, 0, p, e => by
    have := Option.some.inj e
    subst this
    simp [List.lookup_cons]
  | (a, xs) :: r, nd, j + 1, p, e => by
    obtain ⟨n1, n2⟩ := List.nodup_cons.mp nd
    have e' : r[j]? = some p := e
    have ih := lookup_at n2 e'
    have ne : (p.1 == a) = false := by
      refine beq_eq_false_iff_ne.mpr fun z => n1 ?_
      rw [← z]
      exact List.mem_map.mpr ⟨p, List.mem_of_getElem? e', rfl⟩
    rw [List.lookup_cons, ne]
    exact ih
theorem lookup_off {ps : List (Addr × List V)} {b : Addr} (h : b ∉ ps.map (·.1)) : ps.lookup b = none := by
  induction ps with
  | nil => rfl
  | cons p r ih =>
    have ne : (b == p.1) = false := beq_eq_false_iff_ne.mpr fun z => h (by rw [z]; exact List.mem_cons_self)
    rw [List.lookup_cons, ne]
    exact ih fun z => h (List.mem_cons_of_mem _ z)
theorem lookup_some_mem : ∀ {ps : List (Addr × List V)} {b : Addr} {xs : List V}, ps.lookup b = some xs → (b, xs) ∈ ps
  | [], _, _, h => by simp at h
  | (a, ys) :: r, b, xs, h => by
    rw [List.lookup_cons] at h
    cases q : b == a with
    | true =>
      rw [q] at h
      have e1 : b = a := by simpa using q
      have e2 : ys = xs := Option.some.inj h
      subst e1 e2
      exact List.mem_cons_self
    | false =>
      rw [q] at h
      exact List.mem_cons_of_mem _ (lookup_some_mem h)

/-- what list(d.items()) makes: tuples of a key's object and a value, in order -/
def ItemsAt (H H' : Hp) (kvs : List (List L2.Key × V)) (ts : List Addr) : Prop :=
  ts.length = kvs.length ∧ ∀ (j : Nat) (t : Addr), ts[j]? = some t → ∃ kv q, kvs[j]? = some kv ∧ H q = some (.tup (kv.1.map kV)) ∧ H' t = some (.tup [.ref q, kv.2])
def rListItT : List V → Hp → VK → Prop := fun vs H Q =>
  ∃ (p a : Addr) (kvs : List (List L2.Key × V)), vs = [.ref p] ∧ H p = some (DX.itemsO p a) ∧ H a = some (.dT kvs) ∧
    ∀ (H' : Hp) (l : Addr) (ts : List Addr), Same H H' → H l = none → H' l = some (.lst (ts.map V.ref)) → ItemsAt H H' kvs ts → Q (.ref l) H'
theorem vals_refs : ∀ as : List Addr, Vals (as.map V.ref) (as.map Value.ref)
  | [] => .nil
  | _ :: as => .cons rfl (vals_refs as)
theorem paired_back {α β : Type} {F : α → β → Prop} : ∀ {xs : List α} {ys : List β}, Paired F xs ys → ∀ {j : Nat} {y : β}, ys[j]? = some y → ∃ x, xs[j]? = some x ∧ F x y
  | _, _, .cons h t, 0, y, e => by
    have := Option.some.inj e
    subst this
    exact ⟨_, rfl, h⟩
  | _, _, .cons h t, j + 1, y, e => paired_back t e
theorem pickEach : ∀ (as : List Addr) {P : Nat → Addr → List V → Prop}, (∀ j t, as[j]? = some t → ∃ ys, P j t ys) →
    ∃ ps : List (Addr × List V), ps.map (·.1) = as ∧ ∀ j t, as[j]? = some t → ∃ ys, ps[j]? = some (t, ys) ∧ P j t ys
  | [], _, _ => ⟨[], rfl, fun j t e => by simp at e⟩
  | a :: r, P, h => by
    obtain ⟨ps, e1, e2⟩ := pickEach r (P := fun j => P (j + 1)) fun j t e => h (j + 1) t e
    obtain ⟨ys, hy⟩ := h 0 a rfl
    refine ⟨(a, ys) :: ps, by rw [List.map_cons, e1], fun j t e => ?_⟩
    cases j with
    | zero =>
      have := Option.some.inj e
      subst this
      exact ⟨ys, rfl, hy⟩
    | succ j => exact e2 j t e
theorem call_listItT (hc : X.calm = true) : CallR X (.type "list") rListItT := by
  intro pn s0 τ H vs us Q I r hq
  obtain ⟨p, a, kvs, rfl, hp, ha, fin⟩ := hq
  rw [Vals.ref1 r]
  have view : s0.heap.IsItemsView p a := (show ObjOk X.prog X.w H s0.heap p (DX.itemsO p a) from I.hok p _ hp).1
  obtain ⟨z, hd, xs, rel, o, es, ep, ho, hx, hdat, hes, his, hn⟩ := dt_of I.hok ha
  have lx : kvs.length = xs.length := Paired.length rel
  have le : es.size = xs.length := by rw [← Array.length_toList, hes, List.length_map]
  refine PySem.W.dil_call (es := es) (ep := ep) (I.ok.hd hc) view ⟨o, ho, hx, hdat⟩ (by omega) fun h2 tk acc c as kp hS la g eacc => ?_
  have newS : H s0.heap.objs.size = none := I.hok.fresh (Nat.le_refl _)
  have nda : as.Nodup := List.Pairwise.imp (fun {x y} (h : x < y) => Nat.ne_of_lt h) g.rise
  have newA : ∀ t ∈ as, H t = none := fun t ht => I.hok.fresh (Nat.le_of_lt (g.above t ht))
  have notS : s0.heap.objs.size ∉ as := fun m => Nat.lt_irrefl _ (g.above _ m)
  -- what each new tuple holds
  have each : ∀ (j : Nat) (t : Addr), as[j]? = some t → ∃ kv q u, kvs[j]? = some kv ∧ H q = some (.tup (kv.1.map kV)) ∧ RelV kv.2 u ∧ h2.get? t = some { cls := .type "tuple", data := .seq #[Value.ref q, u] } := by
    intro j t e
    obtain ⟨hj, e2⟩ := g.pairs j t e
    have hjx : j < xs.length := by omega
    have een : es[j] = entryOfKey (tupleKind (mixKind X.prog X.w)) xs[j] := by
      have q : es.toList[j]? = some es[j] := by simp [hj]
      rw [hes, List.getElem?_map, List.getElem?_eq_getElem hjx] at q
      exact (Option.some.inj q).symm
    obtain ⟨kv, f1, f2, f3, f4⟩ := paired_back rel (List.getElem?_eq_getElem hjx)
    refine ⟨kv, xs[j].2.1, xs[j].2.2, f1, f3, f4, ?_⟩
    rw [e2, een]
    rfl
  -- the tracked heap behind it
  obtain ⟨ps, pmap, pat'⟩ := pickEach as (P := fun j t ys => ∃ kv q u, kvs[j]? = some kv ∧ H q = some (.tup (kv.1.map kV)) ∧ RelV kv.2 u ∧ h2.get? t = some { cls := .type "tuple", data := .seq #[Value.ref q, u] } ∧ ys = [.ref q, kv.2]) fun j t e => by
    obtain ⟨kv, q, u, f1, f2, f3, f4⟩ := each j t e
    exact ⟨_, kv, q, u, f1, f2, f3, f4, rfl⟩
  have pat : ∀ (j : Nat) (t : Addr), as[j]? = some t → ∃ kv q u, kvs[j]? = some kv ∧ H q = some (.tup (kv.1.map kV)) ∧ RelV kv.2 u ∧ h2.get? t = some { cls := .type "tuple", data := .seq #[Value.ref q, u] } ∧ ps[j]? = some (t, [.ref q, kv.2]) := by
    intro j t e
    obtain ⟨ys, e2, kv, q, u, f1, f2, f3, f4, f5⟩ := pat' j t e
    exact ⟨kv, q, u, f1, f2, f3, f4, by rw [e2, f5]⟩
  have ndp : (ps.map (·.1)).Nodup := by rw [pmap]; exact nda
  let H1 := upd H s0.heap.objs.size (.lst (as.map V.ref))
  let H2 := withTups H1 ps
  have off : ∀ b, b ∉ as → H2 b = H1 b := fun b hb => by
    show (match ps.lookup b with | some xs => some (HO.tup xs) | none => H1 b) = _
    rw [lookup_off (by rw [pmap]; exact hb)]
  have on : ∀ (j : Nat) (t : Addr), as[j]? = some t → ∃ kv q u, kvs[j]? = some kv ∧ H q = some (.tup (kv.1.map kV)) ∧ RelV kv.2 u ∧ h2.get? t = some { cls := .type "tuple", data := .seq #[Value.ref q, u] } ∧ H2 t = some (.tup [.ref q, kv.2]) := by
    intro j t e
    obtain ⟨kv, q, u, f1, f2, f3, f4, f5⟩ := pat j t e
    refine ⟨kv, q, u, f1, f2, f3, f4, ?_⟩
    have := lookup_at ndp f5
    show (match ps.lookup t with | some xs => some (HO.tup xs) | none => H1 t) = _
    rw [this]
  have sm : Same H H2 := fun b u e => by
    rw [off b fun m => by rw [newA b m] at e; cases e]
    show upd H _ _ b = _
    rw [upd_ne fun z => by rw [z, newS] at e; cases e]
    exact e
  have eS : H2 s0.heap.objs.size = some (.lst (as.map V.ref)) := by
    rw [off _ notS]
    exact upd_same
  have J : Inv X pn τ H2 { s0 with heap := h2, toks := tk } := by
    refine I.call' (ch := []) rfl ⟨fun b u q _ _ _ => kp b u q, fun b u q _ _ _ => ⟨u.slots, kp b u q⟩, fun b u q n _ => ?_, fun b u q _ => ⟨u, kp b u q⟩, fun b ys q => sm b _ q, fun b u v q => sm b _ q, fun b ys q => ⟨#[], by rw [sm b _ q]; simp⟩⟩ (fun b u q => ?_) I.bare fun b z => by simp at z
    · have lt := Heap.lt_size q
      rw [off b fun m => Nat.lt_asymm lt (g.above b m)]
      show upd H _ _ b = _
      rw [upd_ne (Nat.ne_of_lt lt)]
      exact n
    · by_cases m : b ∈ as
      · obtain ⟨j, e⟩ := List.mem_iff_getElem?.mp m
        obtain ⟨kv, k, w, f1, f2, f3, f4, f5⟩ := on j b e
        rw [f5] at q
        cases q
        exact ⟨by show 2 ≤ sizeLine; decide, [.ref k, w], .cons rfl (.cons f3 .nil), ⟨_, f4, rfl, _, rfl⟩⟩
      · by_cases e : b = s0.heap.objs.size
        · rw [e] at q ⊢
          rw [eS] at q
          cases q
          refine ⟨by rw [List.length_map]; omega, acc.toList, c, by rw [eacc]; exact vals_refs as, ?_⟩
          rw [Array.toArray_toList]
          exact hS
        · rw [off b m] at q
          have q : upd H _ _ b = _ := q
          rw [upd_ne e] at q
          exact (I.hok b u q).stay (fun d v _ y => kp d v y) (fun d y => sm d _ y) fun d ys y => sm d _ y
  refine ⟨.ref _, H2, J, rfl, fin H2 _ as sm newS eS ⟨by omega, fun j t e => ?_⟩⟩
  obtain ⟨kv, k, w, f1, f2, f3, f4, f5⟩ := on j t e
  exact ⟨kv, k, f1, f2, f5⟩
end
end Av
/-! Rules that the layer lacks, part c: a dict comprehension of two clauses without tests, the keys tuples. -/
namespace Av
open PySem PySem.Spec PyProof.Rows L2

theorem dcTurn_one (kx vx g0 e0 g1 e1 : Expr) (scope : Scope) (pos : Pos) (it : Value) (dd : Addr) (env : Env) :
    compTurn (.DictComp kx vx [⟨g0, e0, [], 0⟩, ⟨g1, e1, [], 0⟩] scope pos) 0 it (.ref dd) env = (do
      standAt e0.pos
      match ← pyNext it with
      | none => pure (.done .next)
      | some u =>
        letOwnedTupleGo g0 it u
        assign g0 env u
        let y ← eval e1 env
        standAt e1.pos
        let y ← foldedSetIterable e1 env y
        let _ ← runOwn (.compStart (.DictComp kx vx [⟨g0, e0, [], 0⟩, ⟨g1, e1, [], 0⟩] scope pos) 1 (← holding [y] (pyIter y)) (.ref dd) env) env
        again (.compLoop (.DictComp kx vx [⟨g0, e0, [], 0⟩, ⟨g1, e1, [], 0⟩] scope pos) 0 it (.ref dd) env)) := by rfl
theorem dcTurn_two (kx vx g0 e0 g1 e1 : Expr) (scope : Scope) (pos : Pos) (it : Value) (dd : Addr) (env : Env) :
    compTurn (.DictComp kx vx [⟨g0, e0, [], 0⟩, ⟨g1, e1, [], 0⟩] scope pos) 1 it (.ref dd) env = (do
      standAt e1.pos
      match ← pyNext it with
      | none => pure (.done .next)
      | some u =>
        letOwnedTupleGo g1 it u
        assign g1 env u
        (do
          let kv ← eval kx env
          let vv ← holding [kv] (eval vx env)
          standAt { kx.pos with endLine := vx.pos.endLine, endCol := vx.pos.endCol }
          holding [kv, vv] (dictSet dd kv vv))
        again (.compLoop (.DictComp kx vx [⟨g0, e0, [], 0⟩, ⟨g1, e1, [], 0⟩] scope pos) 1 it (.ref dd) env)) := by rfl

section
variable {prog : Program} {w : World} {A : Around} {R : Result → Shared → Prop} {s : Shared} {kx vx g0 e0 g1 e1 : Expr} {scope : Scope} {pos : Pos} {it : Value} {dd : Addr} {env : Env}
/-- what an exception within the block comes to -/
abbrev Nt (prog : Program) (w : World) (A : Around) (env : Env) (R : Result → Shared → Prop) : Value → Shared → Prop := notedBy (model prog w) A env fun e s' => R (.error e) s'
theorem dcLoop_one (hs : ∀ x, foldedSetIterable e1 env x = pure x) (Z : Nat → Shared → Prop)
    (turn : ∀ n s, Z n s → wpAny (model prog w) A (pyNext it) (fun r s1 => match r with
      | none => R (.ok .next) s1
      | some u => wpAny (model prog w) A (letOwnedTupleGo g0 it u) (fun _ s2 => wpAny (model prog w) A (assign g0 env u) (fun _ s3 =>
          wpAny (model prog w) A (eval e1 env) (fun y s4 => wpAny (model prog w) A (pyIter y) (fun it1 s5 =>
            codeAny (model prog w) A (.compStart (.DictComp kx vx [⟨g0, e0, [], 0⟩, ⟨g1, e1, [], 0⟩] scope pos) 1 it1 (.ref dd) env) (fun r s' => match r with
              | .ok _ => ∃ m, m < n ∧ Z m s'
              | .error _ => False) s5) (Nt prog w A env R) s4) (Nt prog w A env R) s3) (Nt prog w A env R) s2) (Nt prog w A env R) s1) (Nt prog w A env R) s)
    (n : Nat) (h : Z n s) : codeAny (model prog w) A (.compLoop (.DictComp kx vx [⟨g0, e0, [], 0⟩, ⟨g1, e1, [], 0⟩] scope pos) 0 it (.ref dd) env) R s := by
  refine codeAny_loop rfl Z (fun n s hz => ?_) n h
  show wpAny _ A ((compTurn (.DictComp kx vx [⟨g0, e0, [], 0⟩, ⟨g1, e1, [], 0⟩] scope pos) 0 it (.ref dd) env).onRaise (fun x => do noteFrame x env; theTreesLotGoes x)) _ _ s
  refine wpAny_noted ?_
  rw [dcTurn_one]
  refine wpAny_bind (wpAny_standAt (wpAny_bind (wpAny_mono (turn n s hz) (fun r s1 h1 => ?_) fun _ _ z => z)))
  cases r with
  | none => exact wpAny_pure h1
  | some u =>
    refine wpAny_bind (wpAny_mono h1 (fun _ s2 h2 => wpAny_bind (wpAny_mono h2 (fun _ s3 h3 => wpAny_bind (wpAny_mono h3 (fun y s4 h4 => ?_) fun _ _ z => z)) fun _ _ z => z)) fun _ _ z => z)
    refine wpAny_bind (wpAny_standAt (wpAny_bind (wpAny_of_eq (hs y) (wpAny_bind (wpAny_holding (wpAny_mono h4 (fun it1 s5 h5 => ?_) fun _ _ z => z))))))
    refine wpAny_bind (wpAny_runOwn ?_)
    rw [Around.mark_none]
    refine codeAny_mono h5 fun r s' hr => ?_
    cases r with
    | ok f => first | exact wpAny_pure ⟨rfl, hr⟩ | exact wpAny_bind (wpAny_pure (wpAny_pure ⟨rfl, hr⟩))
    | error e => exact hr.elim
theorem dcLoop_two (Z : Nat → Shared → Prop)
    (turn : ∀ n s, Z n s → wpAny (model prog w) A (pyNext it) (fun r s1 => match r with
      | none => R (.ok .next) s1
      | some u => wpAny (model prog w) A (letOwnedTupleGo g1 it u) (fun _ s2 => wpAny (model prog w) A (assign g1 env u) (fun _ s3 =>
          wpAny (model prog w) A (eval kx env) (fun kv s4 => wpAny (model prog w) A (eval vx env) (fun vv s5 =>
            wpAny (model prog w) A (dictSet dd kv vv) (fun _ s6 => ∃ m, m < n ∧ Z m s6) (Nt prog w A env R) s5) (Nt prog w A env R) s4) (Nt prog w A env R) s3) (Nt prog w A env R) s2) (Nt prog w A env R) s1) (Nt prog w A env R) s)
    (n : Nat) (h : Z n s) : codeAny (model prog w) A (.compLoop (.DictComp kx vx [⟨g0, e0, [], 0⟩, ⟨g1, e1, [], 0⟩] scope pos) 1 it (.ref dd) env) R s := by
  refine codeAny_loop rfl Z (fun n s hz => ?_) n h
  show wpAny _ A ((compTurn (.DictComp kx vx [⟨g0, e0, [], 0⟩, ⟨g1, e1, [], 0⟩] scope pos) 1 it (.ref dd) env).onRaise (fun x => do noteFrame x env; theTreesLotGoes x)) _ _ s
  refine wpAny_noted ?_
  rw [dcTurn_two]
  refine wpAny_bind (wpAny_standAt (wpAny_bind (wpAny_mono (turn n s hz) (fun r s1 h1 => ?_) fun _ _ z => z)))
  cases r with
  | none => exact wpAny_pure h1
  | some u =>
    refine wpAny_bind (wpAny_mono h1 (fun _ s2 h2 => wpAny_bind (wpAny_mono h2 (fun _ s3 h3 => ?_) fun _ _ z => z)) fun _ _ z => z)
    exact wpAny_bind (wpAny_bind (wpAny_mono h3 (fun kv s4 h4 => wpAny_bind (wpAny_holding (wpAny_mono h4 (fun vv s5 h5 => wpAny_bind (wpAny_standAt (wpAny_holding (wpAny_mono h5 (fun _ s6 h6 => wpAny_pure ⟨rfl, h6⟩) fun _ _ z => z)))) fun _ _ z => z))) fun _ _ z => z))
/-- the second clause's start -/
theorem dcStart_two (h0 : codeAny (model prog w) A (.compLoop (.DictComp kx vx [⟨g0, e0, [], 0⟩, ⟨g1, e1, [], 0⟩] scope pos) 1 it (.ref dd) env) R s)
    (h : wpAny (model prog w) A (pyIter it) (fun it' s' => codeAny (model prog w) A (.compLoop (.DictComp kx vx [⟨g0, e0, [], 0⟩, ⟨g1, e1, [], 0⟩] scope pos) 1 it' (.ref dd) env) R s') (Nt prog w A env R) s) :
    codeAny (model prog w) A (.compStart (.DictComp kx vx [⟨g0, e0, [], 0⟩, ⟨g1, e1, [], 0⟩] scope pos) 1 it (.ref dd) env) R s := by
  refine codeAny_of_tree ?_
  show wpAny _ _ ((compStart (.DictComp kx vx [⟨g0, e0, [], 0⟩, ⟨g1, e1, [], 0⟩] scope pos) 1 it (.ref dd) env).onRaise (fun x => do noteFrame x env; standAt theWindowsPlace)) _ _ s
  refine wpAny_notedAt ?_
  unfold compStart
  show wpAny _ _ (ask >>= _) _ _ s
  refine wpAny_bind (wpAny_askSetting (wpAny_ite ?_))
  split
  · first
      | exact wpAny_bind (wpAny_pure (wpAny_pure (And.intro rfl h0)))
      | exact wpAny_pure (And.intro rfl h0)
  · first
      | exact wpAny_bind (wpAny_rule (wpAny_bind (wpAny_standAt (wpAny_bind (wpAny_mono h (fun it' s' h' => wpAny_pure (And.intro rfl h')) fun _ _ x => x)))))
      | (refine wpAny_bind (wpAny_rule ?_); show wpAny _ _ (standAt e1.pos >>= _) _ _ s; exact wpAny_bind (wpAny_standAt (wpAny_bind (wpAny_mono h (fun it' s' h' => wpAny_pure (And.intro rfl h')) fun _ _ x => x))))
end

/-- d[k] = v by a comprehension, k a tuple -/
theorem dictSetT {X : Cx} {pn : List (Addr × Obj)} {τ : L2.St} {H : Hp} {s : Shared} {E : Value → Shared → Prop} {dd b : Addr} {kvs : List (List L2.Key × V)} {k : List L2.Key} {v : V} {r : Value} {Q : Unit → Shared → Prop}
    (hu : X.A.units < cLine) (I : Inv X pn τ H s) (e : H dd = some (.dT kvs)) (sz : kvs.length < sizeLine) (eb : H b = some (.tup (k.map kV))) (rv : RelV v r)
    (h : ∀ s', Inv X pn τ (upd H dd (.dT (putK kvs k v))) s' → Q () s') : wpAny (model X.prog X.w) X.A (dictSet dd (.ref b) r) Q E s := by
  obtain ⟨z, nd, xs, rel, o⟩ := dt_of I.hok e
  have lx : kvs.length = xs.length := Paired.length rel
  refine wpAny_dictSet_heap (hsz := by omega) ?room (key_of I.hok eb) o fun h2 o2 sb => h _ ?_
  case room =>
    first | exact tupleKind_room hu | exact hu
  obtain ⟨q, es, ep, hq, h2', h3, h4, _, h5⟩ := o2
  have lp := length_putK kvs k v
  refine d_write I (by rw [e]; exact True.intro) sb ⟨q, hq⟩ ⟨by omega, nd, _, (rel.put k eb rv).keeps fun c ys ec => ?_, q, es, ep, hq, h2', h3, h4, h5⟩
  rw [upd_ne (ne_of ec e fun z => nomatch z)]
  exact ec

section
variable {X : Cx}
/-- {k: v for g in iter for g1 in iter1}, k a tuple of ints and texts: D the new dict -/
def tDc2 (wi : TI) (g : TG) (wi1 : TI) (g1 : TG) (tk tv : TE) (vs vs1 : List Nat) : TE := fun σ H Q => wi σ H fun J H1 => ∀ D, H1 D = none → ∃ W : Nat → Nat → Hp → Prop, (∃ m, W 0 m (upd H1 D (.dT []))) ∧ ∀ i m H, W i m H →
  (J.stop i H ∧ Q (.ref D) H) ∨ (J.go i H ∧ ∃ Nx : Hp → Prop, (∀ H', Nx H' → ∃ m', m' < m ∧ W (i + 1) m' H') ∧ ∀ x H', J.yld i H x H' → g x (wipe σ vs) H' fun σ2 H2 => wipe σ2 vs = wipe σ vs ∧
    wi1 σ2 H2 fun J1 H4 => ∃ W1 : Nat → Nat → Hp → Prop, (∃ m, W1 0 m H4) ∧ ∀ j k H, W1 j k H →
      (J1.stop j H ∧ Nx H) ∨ (J1.go j H ∧ ∃ Nx1 : Hp → Prop, (∀ H', Nx1 H' → ∃ k', k' < k ∧ W1 (j + 1) k' H') ∧ ∀ x H', J1.yld j H x H' → g1 x (wipe σ2 vs1) H' fun σ3 H5 => wipe σ3 vs1 = wipe σ2 vs1 ∧
        tk σ3 H5 fun y H6 => tv σ3 H6 fun z H7 => ∃ kvs ky b, y = .ref b ∧ H7 D = some (.dT kvs) ∧ H7 b = some (.tup (ky.map kV)) ∧ kvs.length < sizeLine ∧ Nx1 (upd H7 D (.dT (putK kvs ky z)))))
theorem dc2_core {pins : List (Addr × Obj)} {s : Shared} {σ : L2.St} {H : Hp} {Q : VK} {kx vx tg iter tg1 iter1 : Expr} {scope : Scope} {own : List (Str × Nat)} {vs1 : List Nat} {pos pos' : Pos} {wi wi1 : TI} {g g1 : TG} {tk tv : TE} {use : Option (Value → Sem Unit)} {Qf : Value → Shared → Prop}
    (hu : X.A.units < cLine) (hc : X.calm = true) (hN : X.N.Nodup) (I : Inv X pins σ H s) (hi : PI X tg iter wi) (ok : BlkOk X.N X.env.scope scope own) (hv : ∀ i ∈ vs1, i ∈ own.map (·.2))
    (hg : ∀ (s : Shared) (H : Hp) (C : Addr) (cl : List (Str × Addr)) (fp : List Addr), PG (X.blk s H scope (compEnvC scope cl C X.env) fp) tg g)
    (hi1 : ∀ (s : Shared) (H : Hp) (C : Addr) (cl : List (Str × Addr)) (fp : List Addr), PI (X.blk s H scope (compEnvC scope cl C X.env) fp) tg1 iter1 wi1)
    (hg1 : ∀ (s : Shared) (H : Hp) (C : Addr) (cl : List (Str × Addr)) (fp : List Addr), PG (X.blk s H scope (compEnvC scope cl C X.env) fp) tg1 g1)
    (hk : ∀ (s : Shared) (H : Hp) (C : Addr) (cl : List (Str × Addr)) (fp : List Addr), PE (X.blk s H scope (compEnvC scope cl C X.env) fp) kx tk)
    (he : ∀ (s : Shared) (H : Hp) (C : Addr) (cl : List (Str × Addr)) (fp : List Addr), PE (X.blk s H scope (compEnvC scope cl C X.env) fp) vx tv)
    (hs : ∀ x, foldedSetIterable iter X.env x = pure x) (hs1 : ∀ env x, foldedSetIterable iter1 env x = pure x)
    (h : tDc2 wi g wi1 g1 tk tv (own.map (·.2)) vs1 σ H Q)
    (hRR : ∀ D C s' m H', Inv X pins σ H' s' → Q (.ref D) H' → s'.heap.Ns C m → FpOk X pins H' C → compPost (model X.prog X.w) X.A X.xe use Qf (.ref D) C (.ok .next) s') :
    wpAny (model X.prog X.w) X.A (comprehension (.DictComp kx vx [⟨tg, iter, [], 0⟩, ⟨tg1, iter1, [], 0⟩] scope pos) scope X.env pos' newDict false (eval iter X.env) use) Qf X.xe s := by
  have fr : ∀ y ∈ scope.names, y.2 = .free → ∃ c, X.env.cells.lookup y.1 = some c := fun y hy e => (ok.free y hy e).elim (fun k => I.ok.has _ (.inl k)) fun k => I.ok.has _ (.inr k)
  refine wpAny_comprehension_free (use := use) rfl hs (closure_ok fr) ok.kind (fun y hy e => by rw [ok.uniq y hy, e]) (thn (hi.run pins s σ H _ I h) fun xv s1 hx => thn hx fun itv s2 h2 => ?_)
  obtain ⟨it, fp, tn, J, H2, e, I2, T, st2, f2, q⟩ := h2
  subst e
  refine wpAny_newObj_type (newEnv_comp ?_)
  generalize eD : s2.heap.objs.size = D
  have nD : H2 D = none := I2.hok.fresh (Nat.le_of_eq eD)
  obtain ⟨W, ⟨m0, w0⟩, turn⟩ := q D nD
  -- the new dict
  generalize e3 : ({ s2 with heap := s2.heap.push { cls := .type "dict", data := .dict #[] } } : Shared) = s3
  have h3 : s3.heap = s2.heap.push { cls := .type "dict", data := .dict #[] } := by rw [← e3]
  have I3 : Inv X pins σ (upd H2 D (.dT [])) s3 := by
    rw [← e3]
    refine I2.laid (t' := s2.toks) (fun b o e => Heap.get?_push_of_some _ e) (Nat.le_of_eq eD) ?_
    rw [← eD]
    exact dt_empty s2.heap I2.big
  have below : ∀ b ∈ fp, b < s2.heap.objs.size := fun b hb => by
    obtain ⟨o, e, _⟩ := T.obj _ _ st2 b hb
    exact Heap.lt_size e
  have f3 : ∀ b ∈ fp, FpOk X pins (upd H2 D (.dT [])) b ∧ b < s3.heap.objs.size := fun b hb => by
    have lt := below b hb
    refine ⟨⟨?_, (f2 b hb).2⟩, by rw [h3, Heap.size_push]; exact Nat.lt_succ_of_lt lt⟩
    rw [upd_ne (by rw [← eD]; exact Nat.ne_of_lt lt)]
    exact (f2 b hb).1
  have st3 : tn 0 s3.heap := T.keep _ _ _ st2 fun b _ o e => by rw [h3]; exact Heap.get?_push_of_some _ e
  have I4 := block_start I3 ok hN f3
  have pg := hg s3 (upd H2 D (.dT [])) s3.heap.objs.size (cellsFrom (s3.heap.objs.size + 1) scope.names (cloFrom X.env.cells scope.names [])) fp
  have pk := hk s3 (upd H2 D (.dT [])) s3.heap.objs.size (cellsFrom (s3.heap.objs.size + 1) scope.names (cloFrom X.env.cells scope.names [])) fp
  have pv := he s3 (upd H2 D (.dT [])) s3.heap.objs.size (cellsFrom (s3.heap.objs.size + 1) scope.names (cloFrom X.env.cells scope.names [])) fp
  have pi1 := hi1 s3 (upd H2 D (.dT [])) s3.heap.objs.size (cellsFrom (s3.heap.objs.size + 1) scope.names (cloFrom X.env.cells scope.names [])) fp
  have pg1 := hg1 s3 (upd H2 D (.dT [])) s3.heap.objs.size (cellsFrom (s3.heap.objs.size + 1) scope.names (cloFrom X.env.cells scope.names [])) fp
  show codeAny _ _ (.compStart (.DictComp kx vx [⟨tg, iter, [], 0⟩, ⟨tg1, iter1, [], 0⟩] scope pos) 0 (.ref it) (.ref D) (compEnvC scope (cellsFrom (s3.heap.objs.size + 1) scope.names (cloFrom X.env.cells scope.names [])) s3.heap.objs.size X.env)) _ { s3 with heap := pushCells (s3.heap.push { cls := .type "dict", data := .dict #[] }) scope.names }
  have nfp : ∀ b ∈ fp, (upd H2 D (.dT [])) b = none := fun b hb => (f3 b hb).1.1
  generalize ece : compEnvC scope (cellsFrom (s3.heap.objs.size + 1) scope.names (cloFrom X.env.cells scope.names [])) s3.heap.objs.size X.env = ce at I4 pg pk pv pi1 pg1 ⊢
  have cL : ce.locals = s3.heap.objs.size := by subst ece; rfl
  generalize eH3 : upd H2 D (.dT []) = H3 at I3 I4 pg pk pv pi1 pg1 w0 nfp f3
  generalize e4 : ({ s3 with heap := pushCells (s3.heap.push { cls := .type "dict", data := .dict #[] }) scope.names } : Shared) = s4 at I4 ⊢
  have st4 : tn 0 s4.heap := T.keep _ _ _ st3 fun b _ o e => by rw [← e4]; exact pushCells_keeps _ _ _ _ (Heap.get?_push_of_some _ e)
  have okF : ∀ {σ' : L2.St} {H' : Hp} {s' : Shared}, Inv (X.blk s3 H3 scope ce fp) [] σ' H' s' → (∀ b ∈ fp, H' b = none) → ∀ b ∈ fp, FpOk (X.blk s3 H3 scope ce fp) [] H' b := fun {σ' H' s'} I' hn b hb =>
    ⟨hn b hb, (I'.ok.exf b hb).1, I'.ok.exfs b hb, .inl hb, fun x c e => (I'.ok.exf b hb).2 x c e, fun p hp => absurd (show p ∈ ([] : List (Addr × Obj)) ++ [] from hp) (by simp)⟩
  have loop : codeAny (model X.prog X.w) X.A (.compLoop (.DictComp kx vx [⟨tg, iter, [], 0⟩, ⟨tg1, iter1, [], 0⟩] scope pos) 0 (.ref it) (.ref D) ce) (compPost (model X.prog X.w) X.A X.xe use Qf (.ref D) s3.heap.objs.size) s4 := by
    refine dcLoop_one (hs1 ce) (fun n s' => ∃ i H', Inv (X.blk s3 H3 scope ce fp) [] (wipe σ (own.map (·.2))) H' s' ∧ tn i s'.heap ∧ (∀ b ∈ fp, H' b = none) ∧ W i n H') ?_ m0 ⟨0, H3, I4, st4, nfp, w0⟩
    rintro n s5 ⟨i, H5, I5, st5, n5, w5⟩
    rcases turn i n H5 w5 with ⟨stop, qq⟩ | ⟨go, Nx, hNx, step⟩
    · refine thnF (T.done (X.blk s3 H3 scope ce fp) rfl rfl rfl hc i [] s5 _ H5 (fun _ _ => False) I5 (okF I5 n5) st5 stop) fun r s6 ⟨hr, I6⟩ => ?_
      subst hr
      have I7 : Inv X pins σ H5 s6 := I3.call' (ch := fp) I6.os I6.base I6.hok I6.bare fun b hb => ⟨(f3 b hb).1.2.2.2.1, (f3 b hb).1.2.1, (f3 b hb).1.2.2.2.2.1, (f3 b hb).1.2.2.2.2.2⟩
      have nC : H5 s3.heap.objs.size = none := by
        have z : H5 ce.locals = none := I6.free
        rw [cL] at z
        exact z
      obtain ⟨m, hn, _⟩ := I6.loc
      have hn : s6.heap.Ns ce.locals m := hn
      rw [cL] at hn
      exact hRR D s3.heap.objs.size s6 m H5 I7 qq hn (I3.fpOk (Nat.le_refl _) nC)
    · refine thnF (T.item (X.blk s3 H3 scope ce fp) rfl rfl rfl hc i [] s5 _ H5 (fun _ _ => False) I5 (okF I5 n5) st5 go) fun r s6 ⟨u, hr, h6⟩ => ?_
      subst hr
      refine thnF h6 fun _ s7 ⟨x, H7, I7, r7, y7, st7, n7⟩ => ?_
      have I7' := I7.pinned (okF I7 n7) (T.obj _ _ st7)
      refine thnF (pg.run _ s7 _ H7 x u _ I7' r7 (step x H7 y7)) fun _ s8 ⟨σ8, H8, I8, hw8, q8⟩ => ?_
      have fin : ∀ {σ9 : L2.St} {s' : Shared} {H' : Hp}, Inv (X.blk s3 H3 scope ce fp) ([] ++ pinsAt fp s7.heap) σ9 H' s' → (wipe σ (own.map (·.2))).length = σ9.length → (∀ (j : Nat) v, (wipe σ (own.map (·.2)))[j]? = some (some v) → σ9[j]? = some (some v)) → Nx H' →
          ∃ m, m < n ∧ ∃ i H', Inv (X.blk s3 H3 scope ce fp) [] (wipe σ (own.map (·.2))) H' s' ∧ tn i s'.heap ∧ (∀ b ∈ fp, H' b = none) ∧ W i m H' := fun {σ9 s' H'} I' hl hk nx => by
        obtain ⟨m', hm, w'⟩ := hNx H' nx
        have pin' : ∀ b ∈ fp, ∀ o, s7.heap.get? b = some o → s'.heap.get? b = some o ∧ H' b = none := fun b hb o e =>
          let z := I'.pin (b, o) (List.mem_append_right _ (List.mem_append_right _ (mem_pinsAt hb e)))
          ⟨z.1, z.2.1⟩
        refine ⟨m', hm, i + 1, H', (I'.unpinned (pins := [])).weak hl hk, T.keep _ _ _ st7 fun b hb o e => (pin' b hb o e).1, fun b hb => ?_, w'⟩
        obtain ⟨o, e, _⟩ := T.obj _ _ st7 b hb
        exact (pin' b hb o e).2
      have hl8 : (wipe σ (own.map (·.2))).length = σ8.length := by rw [← hw8, wipe_length]
      have hk9 : ∀ (j : Nat) v, (wipe σ (own.map (·.2)))[j]? = some (some v) → (wipe σ8 vs1)[j]? = some (some v) := fun j v e => by
        rw [← hw8] at e
        obtain ⟨a1, a2⟩ := wipe_some e
        rw [wipe_out fun z => a2 (hv j z)]
        exact a1
      refine thnF (pi1.run _ s8 σ8 H8 _ I8 q8) fun xv s10 hx => thnF hx fun itv s11 h11 => ?_
      obtain ⟨it1, fp1, tn1, J1, H11, a1, I11, T1, st11, f11, W1, ⟨m1, w1⟩, turn1⟩ := h11
      subst a1
      have okF1 : ∀ {H' : Hp}, (∀ b ∈ fp1, H' b = none) → ∀ b ∈ fp1, FpOk (X.blk s3 H3 scope ce fp) ([] ++ pinsAt fp s7.heap) H' b := fun hn b hb => ⟨hn b hb, (f11 b hb).2⟩
      have loop1 : codeAny (model X.prog X.w) X.A (.compLoop (.DictComp kx vx [⟨tg, iter, [], 0⟩, ⟨tg1, iter1, [], 0⟩] scope pos) 1 (.ref it1) (.ref D) ce)
          (fun r s' => match r with
            | .ok _ => ∃ m, m < n ∧ ∃ i H', Inv (X.blk s3 H3 scope ce fp) [] (wipe σ (own.map (·.2))) H' s' ∧ tn i s'.heap ∧ (∀ b ∈ fp, H' b = none) ∧ W i m H'
            | .error _ => False) s11 := by
        refine dcLoop_two (fun k s' => ∃ j H', Inv (X.blk s3 H3 scope ce fp) ([] ++ pinsAt fp s7.heap) (wipe σ8 vs1) H' s' ∧ tn1 j s'.heap ∧ (∀ b ∈ fp1, H' b = none) ∧ W1 j k H') ?_ m1 ⟨0, H11, I11.weak (wipe_length _ _) (fun j v e => (wipe_some e).1), st11, fun b hb => (f11 b hb).1, w1⟩
        rintro k s12 ⟨j, H12, I12, st12, n12, w12⟩
        rcases turn1 j k H12 w12 with ⟨stop1, nx1⟩ | ⟨go1, Nx1, hNx1, step1⟩
        · refine thnF (T1.done (X.blk s3 H3 scope ce fp) rfl rfl rfl hc j _ s12 (wipe σ8 vs1) H12 (fun _ _ => False) I12 (okF1 n12) st12 stop1) fun r s13 ⟨hr, I13⟩ => ?_
          subst hr
          exact fin I13 (hl8.trans (wipe_length σ8 vs1).symm) hk9 nx1
        · refine thnF (T1.item (X.blk s3 H3 scope ce fp) rfl rfl rfl hc j _ s12 (wipe σ8 vs1) H12 (fun _ _ => False) I12 (okF1 n12) st12 go1) fun r s13 ⟨u1, hr, h13⟩ => ?_
          subst hr
          refine thnF h13 fun _ s14 ⟨x1, H14, I14, r14, y14, st14, n14⟩ => ?_
          have I14' := I14.pinned (okF1 n14) (T1.obj _ _ st14)
          refine thnF (pg1.run _ s14 (wipe σ8 vs1) H14 x1 u1 _ I14' r14 (step1 x1 H14 y14)) fun _ s15 ⟨σ15, H15, I15, hw15, q15⟩ => ?_
          have fin1 : ∀ {s' : Shared} {H' : Hp}, Inv (X.blk s3 H3 scope ce fp) (([] ++ pinsAt fp s7.heap) ++ pinsAt fp1 s14.heap) σ15 H' s' → Nx1 H' → ∃ m, m < k ∧ ∃ j H', Inv (X.blk s3 H3 scope ce fp) ([] ++ pinsAt fp s7.heap) (wipe σ8 vs1) H' s' ∧ tn1 j s'.heap ∧ (∀ b ∈ fp1, H' b = none) ∧ W1 j m H' := fun {s' H'} I' nx => by
            obtain ⟨m', hm, w'⟩ := hNx1 H' nx
            have pin' : ∀ b ∈ fp1, ∀ o, s14.heap.get? b = some o → s'.heap.get? b = some o ∧ H' b = none := fun b hb o e =>
              let z := I'.pin (b, o) (List.mem_append_right _ (List.mem_append_right _ (mem_pinsAt hb e)))
              ⟨z.1, z.2.1⟩
            refine ⟨m', hm, j + 1, H', I'.unpinned.weak (by rw [← hw15, wipe_length]) (fun j v e => by rw [← hw15] at e; exact (wipe_some e).1), T1.keep _ _ _ st14 fun b hb o e => (pin' b hb o e).1, fun b hb => ?_, w'⟩
            obtain ⟨o, e, _⟩ := T1.obj _ _ st14 b hb
            exact (pin' b hb o e).2
          refine thnF (pk.run _ s15 σ15 H15 _ I15 q15) fun kz s16 ⟨yk, H16, I16, r16, q16⟩ => ?_
          refine thnF (pv.run _ s16 σ15 H16 _ I16 q16) fun vz s17 ⟨yv, H17, I17, r17, kvs, ky, b, ek, hD, hb, hz, nx⟩ => ?_
          subst ek
          obtain rfl : kz = Value.ref b := r16
          exact dictSetT (X := X.blk s3 H3 scope ce fp) hu I17 hD hz hb r17 fun s18 I18 => fin1 I18 nx
      exact dcStart_two loop1 (T1.self X.A 0 _ _ _ st11 loop1)
  exact codeAny_compStart_dict loop (T.self X.A 0 _ _ _ st4 loop)
theorem pe_dc2 {kx vx tg iter tg1 iter1 : Expr} {scope : Scope} {own : List (Str × Nat)} {vs1 : List Nat} {pos : Pos} {wi wi1 : TI} {g g1 : TG} {tk tv : TE} (hu : X.A.units < cLine) (hc : X.calm = true) (hN : X.N.Nodup) (hi : PI X tg iter wi) (ok : BlkOk X.N X.env.scope scope own) (hv : ∀ i ∈ vs1, i ∈ own.map (·.2))
    (hg : ∀ (s : Shared) (H : Hp) (C : Addr) (cl : List (Str × Addr)) (fp : List Addr), PG (X.blk s H scope (compEnvC scope cl C X.env) fp) tg g)
    (hi1 : ∀ (s : Shared) (H : Hp) (C : Addr) (cl : List (Str × Addr)) (fp : List Addr), PI (X.blk s H scope (compEnvC scope cl C X.env) fp) tg1 iter1 wi1)
    (hg1 : ∀ (s : Shared) (H : Hp) (C : Addr) (cl : List (Str × Addr)) (fp : List Addr), PG (X.blk s H scope (compEnvC scope cl C X.env) fp) tg1 g1)
    (hk : ∀ (s : Shared) (H : Hp) (C : Addr) (cl : List (Str × Addr)) (fp : List Addr), PE (X.blk s H scope (compEnvC scope cl C X.env) fp) kx tk)
    (he : ∀ (s : Shared) (H : Hp) (C : Addr) (cl : List (Str × Addr)) (fp : List Addr), PE (X.blk s H scope (compEnvC scope cl C X.env) fp) vx tv)
    (hs : ∀ x, foldedSetIterable iter X.env x = pure x := by intro _; rfl) (hs1 : ∀ env x, foldedSetIterable iter1 env x = pure x := by intro _ _; rfl) :
    PE X (.DictComp kx vx [⟨tg, iter, [], 0⟩, ⟨tg1, iter1, [], 0⟩] scope pos) (tDc2 wi g wi1 g1 tk tv (own.map (·.2)) vs1) := by
  refine ⟨fun pins s σ H Q I h => ?_⟩
  rw [arm_eval_DictComp]
  refine dc2_core hu hc hN I hi ok hv hg hi1 hg1 hk he hs hs1 h fun D C s' m H' I' q hn f => ⟨m, hn, fun h'' sb => ?_⟩
  obtain ⟨f0, f1, f2, f3, f4, f5⟩ := f
  exact ⟨.ref D, H', I'.turned (t' := s'.toks) (fun b o hb e => (sb.2 b hb).trans e) f0 f1 f3 f4 f5, rfl, q⟩
theorem ps_setDc2 {i : Nat} {y : Str} {py spos : Pos} {kx vx tg iter tg1 iter1 : Expr} {scope : Scope} {own : List (Str × Nat)} {vs1 : List Nat} {pos : Pos} {wi wi1 : TI} {g g1 : TG} {tk tv : TE} (hu : X.A.units < cLine) (hc : X.calm = true) (hN : X.N.Nodup) (hy : X.N[i]? = some y) (hyl : X.env.scope.names.lookup y = some .local)
    (hsw : swapsWith (.DictComp kx vx [⟨tg, iter, [], 0⟩, ⟨tg1, iter1, [], 0⟩] scope pos) (some (.Name y py)) spos.line X.env = pure true) (hi : PI X tg iter wi) (ok : BlkOk X.N X.env.scope scope own) (hv : ∀ i ∈ vs1, i ∈ own.map (·.2))
    (hg : ∀ (s : Shared) (H : Hp) (C : Addr) (cl : List (Str × Addr)) (fp : List Addr), PG (X.blk s H scope (compEnvC scope cl C X.env) fp) tg g)
    (hi1 : ∀ (s : Shared) (H : Hp) (C : Addr) (cl : List (Str × Addr)) (fp : List Addr), PI (X.blk s H scope (compEnvC scope cl C X.env) fp) tg1 iter1 wi1)
    (hg1 : ∀ (s : Shared) (H : Hp) (C : Addr) (cl : List (Str × Addr)) (fp : List Addr), PG (X.blk s H scope (compEnvC scope cl C X.env) fp) tg1 g1)
    (hk : ∀ (s : Shared) (H : Hp) (C : Addr) (cl : List (Str × Addr)) (fp : List Addr), PE (X.blk s H scope (compEnvC scope cl C X.env) fp) kx tk)
    (he : ∀ (s : Shared) (H : Hp) (C : Addr) (cl : List (Str × Addr)) (fp : List Addr), PE (X.blk s H scope (compEnvC scope cl C X.env) fp) vx tv)
    (hs : ∀ x, foldedSetIterable iter X.env x = pure x := by intro _; rfl) (hs1 : ∀ env x, foldedSetIterable iter1 env x = pure x := by intro _ _; rfl) :
    PS X (.Assign [.Name y py] (.DictComp kx vx [⟨tg, iter, [], 0⟩, ⟨tg1, iter1, [], 0⟩] scope pos) spos) (tAsg (tDc2 wi g wi1 g1 tk tv (own.map (·.2)) vs1) (gName i)) := by
  refine ⟨fun pins s σ H D I h => ?_⟩
  rw [exec_Assign_Name_used _ _ _ _ hsw]
  refine wpAny_bind (wpAny_standAt (wpAny_bind ?_))
  show wpAny _ X.A (do let _ ← comprehension (.DictComp kx vx [⟨tg, iter, [], 0⟩, ⟨tg1, iter1, [], 0⟩] scope pos) scope X.env (firstIterPos [⟨tg, iter, [], 0⟩, ⟨tg1, iter1, [], 0⟩] pos) newDict false (eval iter X.env) (some (assign (.Name y py) X.env))) _ _ s
  have h : tDc2 wi g wi1 g1 tk tv (own.map (·.2)) vs1 σ H (fun x H1 => gName i x σ H1 D.nx) := h
  refine wpAny_bind (thn (dc2_core (Qf := fun _ s' => SP X pins D .next s') hu hc hN I hi ok hv hg hi1 hg1 hk he hs hs1 h fun Ld C s' m H' I' q hn f => ?_) fun _ s' hq => wpAny_pure (wpAny_pure hq))
  show wpAny _ _ (assign (.Name y py) X.env (.ref Ld)) _ _ _
  refine wpAny_assign_Name (store_ok2 (v := V.ref Ld) I' hN hy (.inl hyl) rfl (fun s2 I2 ⟨a, sb, ha⟩ => ?_) (.inr hyl))
  obtain ⟨f0, f1, f2, f3, f4, f5⟩ := f
  have haC : C ≠ a := by
    rcases ha with z | z
    · rw [z]; exact f1
    · exact fun e => f4 y a z e.symm
  refine ⟨m, hn.sameBut sb haC, fun h3 sb3 => ?_⟩
  exact ⟨_, H', I2.turned (t' := s2.toks) (fun b o hb e => (sb3.2 b hb).trans e) f0 f1 f3 f4 f5, q⟩
theorem sw_trueD {kx vx : Expr} {gs : List Comprehension} {scope : Scope} {pos py : Pos} {y : Str} {l : Nat} {env : Env} (hk : env.scope.kind = .function) (hy : env.scope.names.lookup y = some .local) (hl : (py.line == pos.line) = true)
    (ha : (scope.names.any fun (n, k) => n == y && (k == .local || k == .cell)) = false) : swapsWith (.DictComp kx vx gs scope pos) (some (.Name y py)) l env = pure true := by
  have ky : env.kindOf y = some .local := hy
  have hb : env.blockKind = .function := by unfold Env.blockKind; rw [hk]; rfl
  unfold swapsWith
  simp only [hb, ky, ha, Expr.pos, hl]
  rfl
end
end Av
/-! Rules that the layer lacks, part d: for a, b in zip(text, text); for i, c in enumerate(text). -/
namespace Av
open PySem PySem.Spec PyProof.Rows L2

/-- the signs of two texts side by side, each pair a new tuple -/
def Itzs (x y : Str) : It :=
  ⟨fun i _ => i < x.cps.size ∧ i < y.cps.size,
    fun i H v H' => ∃ T c d, v = .ref T ∧ H T = none ∧ H' = upd H T (.tup [.str ⟨#[c]⟩, .str ⟨#[d]⟩]) ∧ x.cps[i]? = some c ∧ y.cps[i]? = some d,
    fun i _ => x.cps.size ≤ i ∨ y.cps.size ≤ i⟩
theorem turn_zipS {P : Program} {w : World} {K : PySem.W.Frag} {elts : List Expr} {kk : Nat} {tpos : Pos} {z TI TO i1 i2 : Addr} {x y : Str} {t u : Tok} (S : ZipSep2 z TI TO i1 i2 [i1] [i2]) :
    Turn P w K (.Tuple elts kk tpos) (Itzs x y) [z, TI, TO, i1, i2] z (fun i h => (IsZip h z TI TO .none ∧ IsTupOf2 h TI (.ref i1) (.ref i2) ∧ (∃ p q, IsTupOf2 h TO p q)) ∧ h.IsStrIter i1 (strIterType x) x t i ∧ h.IsStrIter i2 (strIterType y) y u i ∧ i ≤ x.cps.size ∧ i ≤ y.cps.size) where
  mem := by simp
  obj := fun i h st c hc => by
    obtain ⟨⟨a1, a2, ⟨p, q, a3⟩⟩, ⟨o1, b1, _, d1⟩, ⟨o2, b2, _, d2⟩, _⟩ := st
    have e : c = z ∨ c = TI ∨ c = TO ∨ c = i1 ∨ c = i2 := by simpa using hc
    rcases e with e | e | e | e | e
    · rw [e]; exact ⟨_, a1, fun v q => nomatch q⟩
    · rw [e]; exact ⟨_, a2, fun v q => nomatch q⟩
    · rw [e]; exact ⟨_, a3, fun v q => nomatch q⟩
    · rw [e]; exact ⟨o1, b1, fun v q => by rw [d1] at q; cases q⟩
    · rw [e]; exact ⟨o2, b2, fun v q => by rw [d2] at q; cases q⟩
  keep := fun i h h' st k => by
    obtain ⟨⟨a1, a2, ⟨p, q, a3⟩⟩, ⟨o1, b1, r1⟩, ⟨o2, b2, r2⟩, l⟩ := st
    exact ⟨⟨k z (by simp) _ a1, k TI (by simp) _ a2, ⟨p, q, k TO (by simp) _ a3⟩⟩, ⟨o1, k i1 (by simp) _ b1, r1⟩, ⟨o2, k i2 (by simp) _ b2, r2⟩, l⟩
  item := by
    intro X hP hw hK hc i pins s σ H E I hf st hg
    subst hP hw hK
    obtain ⟨⟨a1, a2, ⟨p, q, a3⟩⟩, st1, st2, l1, l2⟩ := st
    obtain ⟨g1, g2⟩ := hg
    have hzl : z < s.heap.objs.size := Heap.lt_size a1
    refine wpAny_pyNext_zipD2_item S (Draws.text (A := X.A.in1) (I.ok.hd hc) i1 x t) (Draws.text (A := X.A.in1) (I.ok.hd hc) i2 y u) a1 a2 a3 st1 st2 g1 g2 fun x1 x2 h' tk p1 p2 z' TO' s1' s2' hT hsz hk => ?_
    obtain ⟨c, uc, ec, rfl⟩ := p1
    obtain ⟨d, ud, ed, rfl⟩ := p2
    refine ⟨_, rfl, wpAny_letOwnedTupleGo_zip (s := { s with heap := h', toks := tk }) z' fun h2 z2 sb => ?_⟩
    have hT2 : h2.get? s.heap.objs.size = some { cls := .type "tuple", data := .seq #[.str ⟨#[c]⟩ uc, .str ⟨#[d]⟩ ud] } := (sb.2 _ (Nat.ne_of_gt hzl)).trans hT
    have new : ObjOk X.prog X.w (upd H s.heap.objs.size (.tup [.str ⟨#[c]⟩, .str ⟨#[d]⟩])) h2 s.heap.objs.size (.tup [.str ⟨#[c]⟩, .str ⟨#[d]⟩]) :=
      ⟨by show 2 ≤ sizeLine; decide, [.str ⟨#[c]⟩ uc, .str ⟨#[d]⟩ ud], .cons ⟨_, rfl⟩ (.cons ⟨_, rfl⟩ .nil), ⟨_, hT2, rfl, _, rfl⟩⟩
    have I1 : Inv X pins σ (upd H s.heap.objs.size (.tup [.str ⟨#[c]⟩, .str ⟨#[d]⟩])) { s with heap := h2, toks := tk } :=
      I.turnedNew (ch := [z, TI, TO, i1, i2]) (fun b o hb q => (sb.2 b (fun e => hb (by simp [e]))).trans (hk b o (fun e => hb (by simp [e])) (fun e => hb (by simp [e])) (fun e => hb (by simp [e])) (fun e => hb (by simp [e])) q)) hf (Nat.le_refl _) new
    have off : ∀ b o, b ≠ z → h'.get? b = some o → h2.get? b = some o := fun b o hb e => (sb.2 b hb).trans e
    obtain ⟨oa, ea, ra⟩ := s1'
    obtain ⟨ob, eb, rb⟩ := s2'
    refine ⟨.ref s.heap.objs.size, _, I1, rfl, ⟨_, c, d, rfl, I.hok.fresh (Nat.le_refl _), rfl, ec, ed⟩, ⟨⟨z2, off _ _ S.TIz (hk _ _ S.TIz S.TITO S.TIi1 S.TIi2 a2), ⟨_, _, off _ _ S.TOz TO'⟩⟩, ⟨oa, off _ _ (Ne.symm S.zi1) ea, ra⟩, ⟨ob, off _ _ (Ne.symm S.zi2) eb, rb⟩, g1, g2⟩, fun b hb => ?_⟩
    have lt : b < s.heap.objs.size := by
      have e : b = z ∨ b = TI ∨ b = TO ∨ b = i1 ∨ b = i2 := by simpa using hb
      rcases e with e | e | e | e | e
      · rw [e]; exact hzl
      · rw [e]; exact Heap.lt_size a2
      · rw [e]; exact Heap.lt_size a3
      · rw [e]; obtain ⟨_, q, _⟩ := st1; exact Heap.lt_size q
      · rw [e]; obtain ⟨_, q, _⟩ := st2; exact Heap.lt_size q
    rw [upd_ne (Nat.ne_of_lt lt)]
    exact (hf b hb).1
  done := by
    intro X hP hw hK hc i pins s σ H E I hf st hg
    subst hP hw hK
    obtain ⟨⟨a1, a2, ⟨p, q, a3⟩⟩, st1, st2, l1, l2⟩ := st
    have he : i = x.cps.size ∨ i = y.cps.size := by
      have hg : x.cps.size ≤ i ∨ y.cps.size ≤ i := hg
      omega
    exact wpAny_pyNext_zipD2_end S (Draws.text (A := X.A.in1) (I.ok.hd hc) i1 x t) (Draws.text (A := X.A.in1) (I.ok.hd hc) i2 y u) a1 a2 a3 st1 st2 l1 l2 he fun h' tk hk => ⟨rfl, I.turnedL (t' := tk) (ch := [z, TI, TO, i1, i2]) (fun c o hb q =>
      hk c o (fun e => hb (by simp [e])) (fun e => hb (by simp [e])) (fun e => hb (by simp [e])) (fun e => hb (by simp [e])) q) hf⟩
  self := fun A i s Q E st h => wpAny_pyIter_zip st.1.1 h
def iZipS (ta : TA) : TI := fun σ H R => ta σ H fun vs H1 => ∃ x y, vs = [.str x, .str y] ∧ R (Itzs x y) H1
theorem pi_zipS {X : Cx} {e e2 : Expr} {ta : TA} {p pos tpos : Pos} {elts : List Expr} {kk : Nat} (hg : Gl X "zip") (hm : X.mg "zip" = none) (ha : PA X [e, e2] ta)
    (hs : starEach [e, e2] X.env = (false, eval e X.env) :: starEach [e2] X.env := by rfl) (hpl : (backTo pos (starEach [e2] X.env)).any (·.1) = false := by rfl) :
    PI X (.Tuple elts kk tpos) (.Call (.Name "zip" p) [e, e2] [] pos) (iZipS ta) := by
  refine ⟨fun pins s σ H R I h => ?_⟩
  refine Call_ (ld_blt I hg hm PyProof.Rows.boot_zip (PyProof.Rows.callWith_type1 (thn (ha.run pos pins s σ H _ I h) fun us s1 ⟨vs, H1, I1, r1, x, y, ex, q⟩ => ?_) hs hpl))
  subst ex
  obtain ⟨a, b, rfl, r2, r3⟩ := Vals.two r1
  obtain ⟨t, rfl⟩ := r2
  obtain ⟨u, rfl⟩ := r3
  refine zip_begins2 (begins_text x t) (begins_text y u) trivial trivial fun h' hz hTI hTO g1 g2 hsz hk => wpAny_pyIter_zip hz ?_
  have I2 : Inv X pins σ H1 { s1 with heap := h' } := I1.kept (t' := s1.toks) hk
  refine ⟨s1.heap.objs.size + 4, [s1.heap.objs.size + 4, s1.heap.objs.size + 2, s1.heap.objs.size + 3, s1.heap.objs.size, s1.heap.objs.size + 1], _, _, H1, rfl, I2,
    turn_zipS (t := t) (u := u) (zip_sep2 (fp1 := []) (fp2 := []) (fun b hb => by cases hb) (fun b hb => by cases hb)), ⟨⟨hz, hTI, ⟨_, _, hTO⟩⟩, ⟨_, g1, rfl, rfl⟩, ⟨_, g2, rfl, rfl⟩, Nat.zero_le _, Nat.zero_le _⟩, fun c hc => ?_, q⟩
  have le : s1.heap.objs.size ≤ c := by
    have e : c = s1.heap.objs.size + 4 ∨ c = s1.heap.objs.size + 2 ∨ c = s1.heap.objs.size + 3 ∨ c = s1.heap.objs.size ∨ c = s1.heap.objs.size + 1 := by simpa using hc
    rcases e with e | e | e | e | e
    · rw [e]; exact Nat.le_add_right _ _
    · rw [e]; exact Nat.le_add_right _ _
    · rw [e]; exact Nat.le_add_right _ _
    · rw [e]; exact Nat.le_refl _
    · rw [e]; exact Nat.le_add_right _ _
  exact I1.fpOk le (I1.hok.fresh le)

/-- the signs of a text with their places, each pair a new tuple -/
def Ites (x : Str) : It :=
  ⟨fun i _ => i < x.cps.size, fun i H v H' => ∃ T c, v = .ref T ∧ H T = none ∧ H' = upd H T (.tup [.int (i : Nat), .str ⟨#[c]⟩]) ∧ x.cps[i]? = some c, fun i _ => x.cps.size ≤ i⟩
theorem turn_enumS {P : Program} {w : World} {K : PySem.W.Frag} {elts : List Expr} {kk : Nat} {tpos : Pos} {e it : Addr} {x : Str} {t : Tok} :
    Turn P w K (.Tuple elts kk tpos) (Ites x) [e, it] e (fun i h => (∃ old, IsEnum h e it ((i : Nat) : Int) old) ∧ h.IsStrIter it (strIterType x) x t i ∧ e ≠ it ∧ i ≤ x.cps.size) where
  mem := by simp
  obj := fun i h st b hb => by
    obtain ⟨⟨old, a1⟩, ⟨o, b1, _, d1⟩, _⟩ := st
    have q : b = e ∨ b = it := by simpa using hb
    rcases q with q | q
    · rw [q]; exact ⟨_, a1, fun v z => nomatch z⟩
    · rw [q]; exact ⟨o, b1, fun v z => by rw [d1] at z; cases z⟩
  keep := fun i h h' st k => by
    obtain ⟨⟨old, a1⟩, ⟨o, b1, r1⟩, l⟩ := st
    exact ⟨⟨old, k e (by simp) _ a1⟩, ⟨o, k it (by simp) _ b1, r1⟩, l⟩
  item := by
    intro X hP hw hK hc i pins s σ H E I hf st hg
    subst hP hw hK
    obtain ⟨⟨old, a1⟩, st1, ne, l⟩ := st
    have hel : e < s.heap.objs.size := Heap.lt_size a1
    have hil : it < s.heap.objs.size := by obtain ⟨_, q, _⟩ := st1; exact Heap.lt_size q
    refine wpAny_pyNext_enum_itemD (Draws.text (A := X.A.in1) (I.ok.hd hc) it x t) a1 st1 hg ne (by simpa using ne) fun x1 h' tk p1 ho s1' hT hsz hk => ?_
    obtain ⟨c, uc, ec, rfl⟩ := p1
    refine ⟨_, rfl, wpAny_letOwnedTupleGo_enum (s := { s with heap := h', toks := tk + 1 }) ho fun h2 e2 sb => ?_⟩
    have hT2 : h2.get? s.heap.objs.size = some { cls := .type "tuple", data := .seq #[.int i tk, .str ⟨#[c]⟩ uc] } := (sb.2 _ (Nat.ne_of_gt hel)).trans hT
    have new : ObjOk X.prog X.w (upd H s.heap.objs.size (.tup [.int (i : Nat), .str ⟨#[c]⟩])) h2 s.heap.objs.size (.tup [.int (i : Nat), .str ⟨#[c]⟩]) :=
      ⟨by show 2 ≤ sizeLine; decide, [.int i tk, .str ⟨#[c]⟩ uc], .cons ⟨_, rfl⟩ (.cons ⟨_, rfl⟩ .nil), ⟨_, hT2, rfl, _, rfl⟩⟩
    have I1 : Inv X pins σ (upd H s.heap.objs.size (.tup [.int (i : Nat), .str ⟨#[c]⟩])) { s with heap := h2, toks := tk + 1 } :=
      I.turnedNew (ch := [e, it]) (fun b o hb q => (sb.2 b (fun z => hb (by simp [z]))).trans (hk b o (fun z => hb (by simp [z])) (fun z => hb (by simp [z])) q)) hf (Nat.le_refl _) new
    obtain ⟨oa, ea, ra⟩ := s1'
    refine ⟨.ref s.heap.objs.size, _, I1, rfl, ⟨_, c, rfl, I.hok.fresh (Nat.le_refl _), rfl, ec⟩, ⟨⟨.str ⟨#[c]⟩ uc, ?_⟩, ⟨oa, (sb.2 it (Ne.symm ne)).trans ea, ra⟩, ne, hg⟩, fun b hb => ?_⟩
    · have z : ((i + 1 : Nat) : Int) = (i : Int) + 1 := by omega
      rw [z]
      exact e2
    · have lt : b < s.heap.objs.size := by
        have q : b = e ∨ b = it := by simpa using hb
        rcases q with q | q
        · rw [q]; exact hel
        · rw [q]; exact hil
      rw [upd_ne (Nat.ne_of_lt lt)]
      exact (hf b hb).1
  done := by
    intro X hP hw hK hc i pins s σ H E I hf st hg
    subst hP hw hK
    obtain ⟨⟨old, a1⟩, st1, ne, l⟩ := st
    have ei : i = x.cps.size := Nat.le_antisymm l hg
    subst ei
    obtain ⟨f0, f1, f2, f3, f4, f5⟩ := hf it (by simp)
    exact wpAny_pyNext_enum_endD (Draws.text (A := X.A.in1) (I.ok.hd hc) it x t) a1 st1 fun h' eb => ⟨rfl, I.turned (t' := s.toks) (fun b o hb q => eb b o hb q) f0 f1 f3 f4 f5⟩
  self := fun A i s Q E st h => let ⟨⟨_, a1⟩, _⟩ := st; wpAny_pyIter_enum a1 h
def iEnumS (ta : TA) : TI := fun σ H R => ta σ H fun vs H1 => ∃ x, vs = [.str x] ∧ R (Ites x) H1
theorem pi_enumS {X : Cx} {e : Expr} {ta : TA} {p pos tpos : Pos} {elts : List Expr} {kk : Nat} (hg : Gl X "enumerate") (hm : X.mg "enumerate" = none) (ha : PA X [e] ta) (hs : starEach [e] X.env = [(false, eval e X.env)] := by rfl) :
    PI X (.Tuple elts kk tpos) (.Call (.Name "enumerate" p) [e] [] pos) (iEnumS ta) := by
  refine ⟨fun pins s σ H R I h => ?_⟩
  refine Call_ (ld_blt I hg hm boot_enumerate (PyProof.Rows.callWith_type1 (thn (ha.run pos pins s σ H _ I h) fun us s1 ⟨vs, H1, I1, r1, x, ex, q⟩ => ?_) hs rfl))
  subst ex
  obtain ⟨a, rfl, r2⟩ := Vals.one r1
  obtain ⟨t, rfl⟩ := r2
  refine call_enumerate_str fun h' he hit hsz hk => wpAny_pyIter_enum he ?_
  have I2 : Inv X pins σ H1 { s1 with heap := h' } := I1.kept (t' := s1.toks) hk
  refine ⟨s1.heap.objs.size + 1, [s1.heap.objs.size + 1, s1.heap.objs.size], _, _, H1, rfl, I2, turn_enumS (t := t), ⟨⟨.none, he⟩, hit, Nat.succ_ne_self _, Nat.zero_le _⟩, fun b hb => ?_, q⟩
  have le : s1.heap.objs.size ≤ b := by
    have z : b = s1.heap.objs.size + 1 ∨ b = s1.heap.objs.size := by simpa using hb
    rcases z with z | z
    · rw [z]; exact Nat.le_add_right _ _
    · rw [z]; exact Nat.le_refl _
  exact I1.fpOk le (I1.hok.fresh le)
end Av
/-! Rules that the layer lacks, part e: set(text), sorted of it. -/
namespace Av
open PySem PySem.Spec PyProof.Rows L2

def txtOf (e : Int × Value) : Str := match e.2 with | .str x _ => x | _ => Str.empty
def GoodT (w : World) (e : Int × Value) : Prop := ∃ x tk, e.2 = Value.str x tk ∧ e.1 = hashStr w x
/-- the set of texts at a: S its members, n their number; its table rises and can be walked -/
def SetX (w : World) (h : Heap) (a : Addr) (S : Str → Bool) (n : Nat) : Prop :=
  ∃ o es ep t, h.get? a = some o ∧ o.ExactSet ∧ o.data = .set es ep t ∧ (∀ e ∈ es.toList, GoodT w e) ∧ (es.toList.map txtOf).Nodup ∧ (∀ k, S k = true ↔ k ∈ es.toList.map txtOf) ∧
    es.size < scanBound ∧ t.fits es.size = true ∧ es.size = n ∧ Ris t.place.toList ∧ (w.params.followText "set-order" = true ∨ t.led = true)
section
variable {P : Program} {w : World} {A : Around} {E : Value → Shared → Prop} {s : Shared} {h h' : Heap} {a : Addr} {S : Str → Bool} {n : Nat}
theorem SetX.at (R : SetX w h a S n) (k : ∀ o, h.get? a = some o → h'.get? a = some o) : SetX w h' a S n := by
  obtain ⟨o, es, ep, t, ho, r⟩ := R
  exact ⟨o, es, ep, t, k o ho, r⟩
theorem SetX.congr {S' : Str → Bool} (R : SetX w h a S n) (e : ∀ k, S' k = S k) : SetX w h a S' n := by
  have q : S' = S := funext e
  rw [q]
  exact R
theorem goodT_elems {l : List (Int × Value)} (g : ∀ e ∈ l, GoodT w e) : ElemsOf (strKind P w) l := fun e he => by
  obtain ⟨k, tk, h1, h2⟩ := g e he
  exact ⟨⟨k, by rw [h1]; exact strKind_is P w k tk, h2⟩, by rw [h1] <;> rfl⟩
theorem goodT_is {e : Int × Value} (g : GoodT w e) (k : Str) : (strKind P w).is k e.2 = true ↔ txtOf e = k := by
  obtain ⟨x, tk, h1, _⟩ := g
  unfold txtOf
  rw [h1]
  show Value.isStrOf k (.str x tk) = true ↔ x = k
  simp [Value.isStrOf]
theorem goodT_mem {l : List (Int × Value)} (g : ∀ e ∈ l, GoodT w e) (k : Str) : k ∈ l.map txtOf ↔ ∃ e ∈ l, (strKind P w).is k e.2 = true := by
  rw [List.mem_map]
  exact ⟨fun ⟨e, he, q⟩ => ⟨e, he, (goodT_is (g e he) k).2 q⟩, fun ⟨e, he, q⟩ => ⟨e, he, (goodT_is (g e he) k).1 q⟩⟩

theorem setX_tail {gv : Bool → Sem Unit} (hg : ∀ (b : Bool) (s1 : Shared) (Q' : Unit → Shared → Prop), Q' () s1 → wpAny (model P w) A (gv b) Q' E s1)
    {o : Obj} {es : Array (Int × Value)} {ep : Nat} {t : SetTable} (ho : s.heap.get? a = some o) (hex : o.ExactSet) (hd : o.data = .set es ep t)
    {e1 : Array (Int × Value)} {t2 : SetTable} {S' : Str → Bool} (g1 : ∀ e ∈ e1.toList, GoodT w e) (nd1 : (e1.toList.map txtOf).Nodup) (m1 : ∀ k, S' k = true ↔ k ∈ e1.toList.map txtOf)
    (hb1 : e1.size < scanBound) (hf2 : t2.fits e1.size = true) (hr : Ris t2.place.toList) (hl : w.params.followText "set-order" = true ∨ t2.led = true) {wasDummy : Bool} {R : Option Bool → Shared → Prop}
    (hR : ∀ h', Heap.SameBut a s.heap h' → SetX w h' a S' e1.size → R (some true) { s with heap := h' }) :
    wpAny (model P w) A (do
        storeSet a e1 t2
        if (!wasDummy && t2.tooFull) = true then do
            gv (relayAll t2 e1 (SetTable.grown e1.size)).2.2
            storeSet a (relayAll t2 e1 (SetTable.grown e1.size)).1 (relayAll t2 e1 (SetTable.grown e1.size)).2.1
            pure (some true)
          else pure (some true)) R E s := by
  refine wpAny_bind (wpAny_storeSet_of ho hd ?_ (fits_of_scanBound hb1))
  have ho1 := store_at (es' := e1) (t' := t2) ho hd
  have sb1 := Heap.SameBut.update s.heap a (Obj.putSet e1 t2)
  split
  · have pm := relayAll_perm t2 e1 (SetTable.grown e1.size)
    have hf3 := relayAll_fits t2 e1 (SetTable.grown e1.size)
    have hr3 := relayAll_ris t2 e1 (SetTable.grown e1.size)
    have hl3 := relayAll_led t2 e1 (SetTable.grown e1.size)
    generalize relayAll t2 e1 (SetTable.grown e1.size) = Z at pm hf3 hr3 hl3 ⊢
    obtain ⟨e2, t3, gave⟩ := Z
    dsimp only at pm hf3 hr3 hl3 ⊢
    have sz : e2.size = e1.size := by rw [← Array.length_toList, pm.length_eq, Array.length_toList]
    have hb2 : e2.size < scanBound := by omega
    refine wpAny_bind (hg _ _ _ ?_)
    refine wpAny_bind (wpAny_storeSet_of ho1 rfl ?_ (fits_of_scanBound hb2))
    have ho2 := store_at (es' := e2) (t' := t3) ho1 rfl
    refine wpAny_pure (hR _ (sb1.trans (Heap.SameBut.update _ a _)) ?_)
    exact ⟨_, e2, _, t3, ho2, hex, rfl, fun e he => g1 e (pm.mem_iff.mp he), (pm.map txtOf).nodup_iff.mpr nd1, fun k => (m1 k).trans (pm.map txtOf).mem_iff.symm, hb2, hf3, sz, hr3,
      hl.imp id fun z => by rw [hl3]; exact z⟩
  · exact wpAny_pure (hR _ sb1 ⟨_, e1, _, t2, ho1, hex, rfl, g1, nd1, m1, hb1, hf2, rfl, hr, hl⟩)
theorem setX_add {k : Str} {tk : Tok} {Q : Bool → Shared → Prop} (R : SetX w s.heap a S n) (room : n + 1 < scanBound)
    (hQ : ∀ h', Heap.SameBut a s.heap h' → SetX w h' a (fun j => S j || decide (j = k)) (if S k = true then n else n + 1) → Q (!S k) { s with heap := h' }) :
    wpAny (model P w) A (setAddHashed a (.str k tk) ((strKind P w).hash k)) Q E s := by
  obtain ⟨o, es, ep, t, ho, hex, hd, g, nd, hm, hb, hf, hn, hr, hl⟩ := R
  have key : (strKind P w).is k (.str k tk) = true := strKind_is P w k tk
  have sc : (Value.str k tk).scannable = true := rfl
  have el : ElemsOf (strKind P w) es.toList := goodT_elems g
  unfold setAddHashed setAddHashedIn
  refine wpAny_holding (wpAny_bind (wpAny_setState_of ho hd hf ?_))
  dsimp only
  rw [byScan_of sc hb el]
  simp only [↓reduceIte]
  unfold setAddByScan
  refine wpAny_bind ?_
  refine wpAny_bind (wpAny_rule ?_)
  refine wpAny_bind (wpAny_setScan_of key ho hd hf el ?_)
  cases fi : List.findIdx? (fun e => (strKind P w).is k e.2) es.toList with
  | some j =>
    dsimp only
    obtain ⟨hj, pj, _⟩ := List.findIdx?_eq_some_iff_getElem.mp fi
    have Sk : S k = true := (hm k).2 ((goodT_mem (P := P) (w := w) g k).2 ⟨es.toList[j], List.getElem_mem hj, pj⟩)
    refine wpAny_pure (wpAny_pure ?_)
    have q := hQ s.heap (Heap.SameBut.refl a s.heap) ⟨o, es, ep, t, ho, hex, hd, g, nd, fun i => by
      rw [Bool.or_eq_true, decide_eq_true_eq, ← hm i]
      exact ⟨fun z => z.elim id (fun e => e ▸ Sk), .inl⟩, hb, hf, by rw [if_pos Sk]; exact hn, hr, hl⟩
    rw [Sk] at q
    exact q
  | none =>
    dsimp only
    have nk : k ∉ es.toList.map txtOf := fun z => by
      obtain ⟨e, he, q⟩ := (goodT_mem (P := P) (w := w) g k).1 z
      have c := List.findIdx?_eq_none_iff.mp fi e he
      rw [q] at c
      cases c
    have Sk : S k = false := by
      cases q : S k with
      | false => rfl
      | true => exact absurd ((hm k).1 q) nk
    have gw : ∀ (b : Bool) {s1 : Shared} {Q' : Unit → Shared → Prop}, Q' () s1 → wpAny (model P w) A (match b with | true => rule "set.scan.the-table-gave-way" | false => pure ()) Q' E s1 :=
      fun b s1 Q' q => by cases b <;> first | exact wpAny_pure q | exact wpAny_rule q
    have pm := layNew_perm t es ((strKind P w).hash k) (.str k tk)
    have hf1 := layNew_fits t es ((strKind P w).hash k) (.str k tk)
    have hr1 := layNew_ris t es ((strKind P w).hash k) (.str k tk) hr
    have hl1 := layNew_led t es ((strKind P w).hash k) (.str k tk)
    generalize layNew t es ((strKind P w).hash k) (.str k tk) = Z at pm hf1 hr1 hl1 ⊢
    obtain ⟨e1, t1, wasDummy, gave⟩ := Z
    dsimp only at pm hf1 hr1 hl1 ⊢
    rw [Array.toList_push] at pm
    have pc : e1.toList.Perm (((strKind P w).hash k, Value.str k tk) :: es.toList) := pm.trans (List.perm_append_singleton _ _)
    have pk : (e1.toList.map txtOf).Perm (k :: es.toList.map txtOf) := pc.map txtOf
    have g1 : ∀ e ∈ e1.toList, GoodT w e := fun e he => by
      rcases List.mem_cons.mp (pc.mem_iff.mp he) with z | z
      · rw [z]; exact ⟨k, tk, rfl, rfl⟩
      · exact g e z
    have nd1 : (e1.toList.map txtOf).Nodup := pk.nodup_iff.mpr (List.nodup_cons.mpr ⟨nk, nd⟩)
    have m1 : ∀ i, (S i || decide (i = k)) = true ↔ i ∈ e1.toList.map txtOf := fun i => by
      rw [Bool.or_eq_true, decide_eq_true_eq, hm i, pk.mem_iff, List.mem_cons]
      exact Or.comm
    have sz : e1.size = n + 1 := by rw [← Array.length_toList, pc.length_eq, List.length_cons, Array.length_toList, hn]
    have hb1 : e1.size < scanBound := by omega
    have led : w.params.followText "set-order" = true ∨ t1.led = true := hl.imp id fun z => by rw [hl1]; exact z
    have fin : ∀ h', Heap.SameBut a s.heap h' → SetX w h' a (fun j => S j || decide (j = k)) e1.size → Q true { s with heap := h' } := fun h' sb r => by
      have q := hQ h' sb
      rw [Sk] at q
      rw [sz] at r
      exact q r
    refine wpAny_bind (gw _ ?_)
    split
    · refine wpAny_bind ?_
      rw [hashByValue_scannable 8 sc]
      refine wpAny_pure ?_
      refine setX_tail ?_ ho hex hd g1 nd1 m1 hb1 ?_ ?_ ?_ ?_
      · intro b s1 Q' q; cases b <;> first | exact wpAny_pure q | exact wpAny_rule q
      · first | (split <;> first | exact hf1 | exact SetTable.fits_plain_off hf1) | exact SetTable.fits_plain_off hf1 | exact hf1
      · first | (split <;> exact hr1) | exact hr1
      · first | (split <;> exact led) | exact led
      · intro h' sb r; dsimp only; exact wpAny_pure (fin h' sb r)
    · refine wpAny_bind (wpAny_pure ?_)
      simp only [↓reduceIte]
      refine setX_tail ?_ ho hex hd g1 nd1 m1 hb1 hf1 hr1 led ?_
      · intro b s1 Q' q; cases b <;> first | exact wpAny_pure q | exact wpAny_rule q
      · intro h' sb r; dsimp only; exact wpAny_pure (fin h' sb r)

/-! ### set(text) -/
theorem setX_fresh {h : Heap} {a : Addr} (ho : h.get? a = some { cls := .type "set", dict := none, data := .set #[] 0 (.fresh 0 0 (!w.params.followText "set-order")) }) : SetX w h a (fun _ => false) 0 :=
  ⟨_, #[], 0, _, ho, ⟨rfl, rfl, rfl⟩, rfl, (fun e he => by simp at he), (by simp), (fun k => by simp), (by decide), (by rfl), rfl, List.Pairwise.nil, by
    show _ ∨ (!w.params.followText "set-order") = true
    cases w.params.followText "set-order"
    · exact .inr rfl
    · exact .inl rfl⟩
/-- the first i signs of x, as texts -/
def sgnIn (x : Str) (i : Nat) (k : Str) : Bool := (x.cps.toList.take i).any fun c => decide (k = ⟨#[c]⟩)
theorem setX_update {I : Addr} {fp wr : List Addr} {G : Array GenState → Array GenState → Prop} {n : Nat} {St : Nat → Shared → Prop} {R : Result → Shared → Prop} {x : Str}
    (W : WalksS P w A.in1 I fp wr G n (SignAt x) St) (B : Addr) (hB : B ∉ fp) (hn : n = x.cps.size) (hb : n + 1 < scanBound) :
    ∀ (k i : Nat) (s : Shared), n - i = k → i ≤ n → St i s → (∃ c, c ≤ i ∧ SetX w s.heap B (sgnIn x i) c) →
      (∀ s' c, Moved (B :: wr) G s s' → c ≤ n → SetX w s'.heap B (sgnIn x n) c → R (.ok (.ret .none)) s') →
      codeAny (model P w) A (.builtin "set.update.loop" ⟨[.ref B, .ref I], []⟩) R s := by
  have Bw : B ∉ wr := fun h => hB (W.sub _ h)
  have sub : ∀ b ∈ wr, b ∈ B :: wr := fun b hb => List.mem_cons_of_mem _ hb
  intro k
  induction k with
  | zero =>
    intro i s hk hi hst ⟨c, hc, hS⟩ hR
    have e : i = n := by omega
    subst e
    refine codeAny_builtin F.entry_set_update_loop ?_
    rw [Around.under_plainId F.plain_set_update_loop _]
    show wpAny _ A.in1 (pyNext (.ref I) >>= _) _ _ s
    refine wpAny_bind (W.done s _ _ hst fun s' hm => ?_)
    show wpAny _ A.in1 (ret Value.none) _ _ s'
    exact wpAny_pure (hR s' c (hm.mono sub) hc (hS.at fun o e => hm.heap B o Bw e))
  | succ k ih =>
    intro i s hk hi hst ⟨c, hc, hS⟩ hR
    have lt : i < n := by omega
    refine codeAny_builtin F.entry_set_update_loop ?_
    rw [Around.under_plainId F.plain_set_update_loop _]
    show wpAny _ A.in1 (pyNext (.ref I) >>= _) _ _ s
    refine wpAny_bind (W.item i s _ _ lt hst fun v s' hP hst' hm => ?_)
    obtain ⟨z, u, hz, rfl⟩ := hP
    have hS' : SetX w s'.heap B (sgnIn x i) c := hS.at fun o e => hm.heap B o Bw e
    show wpAny _ A.in1 (holding [Value.str ⟨#[z]⟩ u] (setAdd B (.str ⟨#[z]⟩ u)) >>= _) _ _ s'
    refine wpAny_bind (wpAny_holding ?_)
    unfold setAdd
    refine wpAny_holding ?_
    refine wpAny_bind ((strKind P w).pyHash (k := ⟨#[z]⟩) (strKind_is _ _ _ _) ?_)
    refine setX_add (s := { s' with toks := s'.toks + 1 }) hS' (by omega) fun h2 sb hS2 => ?_
    have e1 : x.cps.toList[i]? = some z := by rw [Array.getElem?_toList]; exact hz
    have hS3 : SetX w h2 B (sgnIn x (i + 1)) (if sgnIn x i ⟨#[z]⟩ = true then c else c + 1) := hS2.congr fun j => by
      unfold sgnIn
      rw [List.take_add_one, e1, List.any_append]
      simp
    have hc3 : (if sgnIn x i ⟨#[z]⟩ = true then c else c + 1) ≤ i + 1 := by
      split <;> omega
    refine wpAny_pure ⟨plainId_quiet F.plain_set_update_loop _, ih (i + 1) _ (by omega) lt (W.frame _ s' _ _ hst' (Nat.le_succ _) fun b hb o e => ?_) ⟨_, hc3, hS3⟩ fun s'' c2 hm2 hc2 hS4 => ?_⟩
    · rw [sb.2 b (fun h : b = B => hB (by rw [← h]; exact hb))]; exact e
    · refine hR s'' c2 (Moved.trans W.gtrans ((hm.mono sub).then_heap (Nat.le_succ _) fun b o hb e => ?_) hm2) hc2 hS4
      rw [sb.2 b (fun h : b = B => hb (by rw [h]; exact List.mem_cons_self))]; exact e
theorem walks_signs (hh : A.handled = none) (I : Addr) (x : Str) (t : Tok) : Walks P w A I [I] [I] x.cps.size (SignAt x) (fun i h => h.IsStrIter I (strIterType x) x t i) := by
  cases ha : x.cps.all (· < 128)
  · simp only [strIterType, ha, Bool.false_eq_true, if_false]
    exact Walks.strWide hh I x t
  · simp only [strIterType, ha, if_true]
    exact Walks.strAscii hh I x t
theorem call_set_txt {x : Str} {t : Tok} {Q : Value → Shared → Prop} (hh : A.handled = none) (hb : x.cps.size + 1 < scanBound)
    (h : ∀ (h' : Heap) (tk c : Nat), SetX w h' s.heap.objs.size (sgnIn x x.cps.size) c → c ≤ x.cps.size → (∀ b o, s.heap.get? b = some o → h'.get? b = some o) → Q (.ref s.heap.objs.size) { s with heap := h', toks := tk }) :
    wpAny (model P w) A (call (.type "set") [.str x t]) Q E s := by
  obtain ⟨c, tl, hmro⟩ := F.called_set.mro
  have hmade := F.called_set.made
  have hsub := F.called_set.sub
  refine wpAny_call (codeAny_of_tree ?_)
  show wpAny _ _ (callAny (.type "set") _) _ _ _
  refine wpAny_pure ⟨Code.quiet_builtin _ (by decide +kernel), codeAny_builtin F.entry_type_call ?_⟩
  rw [Around.under_plain (weight_type_call_type "set" [.str x t] []) rfl]
  have h1 := F.called_set.notType
  have h2 := F.called_set.canCreate
  have hct := F.typeCall_set_1 (.str x t)
  repeat (any_goals (first | assumption | wp_step))
  refine codeAny_mono (code_set_led1 (.str x t) (E := E) (Q₁ := fun ob s1 => ob = .ref s.heap.objs.size ∧ s1 = { s with heap := s.heap.push { cls := .type "set", dict := none, data := .set #[] 0 (.fresh 0 0 (!w.params.followText "set-order")) } }) ⟨rfl, rfl⟩) fun r s1 hr => ?_
  cases r with
  | error e => exact hr
  | ok fl =>
    cases fl with
    | ret ob =>
      obtain ⟨rfl, rfl⟩ := hr
      have hS : (s.heap.push { cls := .type "set", dict := none, data := .set #[] 0 (.fresh 0 0 (!w.params.followText "set-order")) }).get? s.heap.objs.size = some { cls := .type "set", dict := none, data := .set #[] 0 (.fresh 0 0 (!w.params.followText "set-order")) } := Heap.get?_push_size _ rfl
      have hT : Shared.TypeIs { s with heap := s.heap.push { cls := .type "set", dict := none, data := .set #[] 0 (.fresh 0 0 (!w.params.followText "set-order")) } } (.ref s.heap.objs.size) "set" := ⟨_, hS, rfl⟩
      have hli := F.called_set.init.lookup
      have hbi := F.called_set.init.bind (.ref s.heap.objs.size)
      repeat (any_goals (first | assumption | wp_step))
      refine codeAny_mono (codeAny_call_builtin (R := wants (fun r s2 => r = .none ∧ ∃ h' tk c, s2 = { s with heap := h', toks := tk } ∧ SetX w h' s.heap.objs.size (sgnIn x x.cps.size) c ∧ c ≤ x.cps.size ∧
          (∀ b o, s.heap.get? b = some o → h'.get? b = some o)) E) F.called_set.init.plain F.entry_set_init (check_set_init_1 hT ?_)) fun r2 s2 hr2 => ?_
      · have sls : isSubtype (.type "str") (.type "set") = pure false := by rw [isSubtype_type]; kernel_rfl
        have slf : isSubtype (.type "str") (.type "frozenset") = pure false := by rw [isSubtype_type]; kernel_rfl
        have ne : (Value.type "str" == Value.type "dict") = false := by decide
        unfold Builtin.«set.__init__» noKeywords Builtin.Frozenset.updateFrom
        generalize hPI : pyIter = PI
        wp_walk
        subst hPI
        refine wpAny_pyIter_strU ?_
        refine wpAny_bind (wpAny_runValue ?_)
        have hh3 : A.in1.in1.in1.handled = none := by simp [hh]
        have z1 : (s.heap.push { cls := .type "set", dict := none, data := .set #[] 0 (.fresh 0 0 (!w.params.followText "set-order")) }).objs.size = s.heap.objs.size + 1 := Heap.size_push ..
        have nf : s.heap.objs.size ∉ [(s.heap.push { cls := .type "set", dict := none, data := .set #[] 0 (.fresh 0 0 (!w.params.followText "set-order")) }).objs.size] := by
          rw [z1]
          simp
        refine setX_update ((walks_signs hh3 _ x t).toS) s.heap.objs.size nf rfl hb (x.cps.size - 0) 0 _ (by omega) (Nat.zero_le _) ⟨_, Heap.get?_push_size _ rfl, rfl, rfl⟩ ⟨0, Nat.le_refl 0, ?_⟩ ?_
        · exact (setX_fresh (Heap.get?_push_of_some _ hS)).congr fun _ => rfl
        · intro s' c' hm hc' hS'
          obtain ⟨h', g2, d', tk', os'⟩ := s'
          have eg : g2 = s.gens := hm.gens
          have ed : d' = s.drawn := hm.drawn
          have eo : os' = s.os := hm.os
          subst eg; subst ed; subst eo
          show wpAny _ _ _ _ _ _
          refine wpAny_pure ?_
          show wpAny _ _ (ret Value.none) _ _ _
          refine wpAny_pure ⟨rfl, h', tk', c', rfl, hS', hc', fun b o e => ?_⟩
          have lt : b < s.heap.objs.size := Heap.lt_size e
          refine hm.heap b o ?_ (Heap.get?_push_of_some _ (Heap.get?_push_of_some _ e))
          simp only [List.mem_cons, List.not_mem_nil, or_false, not_or]
          exact ⟨Nat.ne_of_lt lt, by rw [z1]; exact Nat.ne_of_lt (Nat.lt_succ_of_lt lt)⟩
      · cases r2 with
        | error e => exact hr2
        | ok fl2 =>
          cases fl2 with
          | ret r =>
            obtain ⟨rfl, h', tk, c', rfl, hS', hc', hk'⟩ := hr2
            repeat (any_goals (first | assumption | wp_step))
            exact h _ _ _ hS' hc' hk'
          | _ => exact hr2.elim
    | _ => exact hr.elim
end
end Av
/-! Rules that the layer lacks, part f: sorted(set(text)). -/
namespace Av
open PySem PySem.Spec PyProof.Rows L2
def SetXO (w : World) (a : Addr) (S : Str → Bool) (n : Nat) : HO := .ext fun h => SetX w h a S n
section
variable {P : Program} {w : World} {A : Around} {E : Value → Shared → Prop} {s : Shared} {a : Addr} {S : Str → Bool} {n : Nat}
theorem sorted_setX {Q : Value → Shared → Prop} (R : SetX w s.heap a S n) (hh : A.handled = none) (few : n < 64) (hu : A.units + 64 < cLine)
    (hQ : ∀ s' p (out : List Value) (c : Nat) (ks : List Str), (∀ b o, s.heap.get? b = some o → s'.heap.get? b = some o) → s'.gens = s.gens → s'.os = s.os → s.heap.objs.size ≤ p →
      s'.heap.get? p = some (seqObj "list" out.toArray c) → Vals ((ks.mergeSort (PySem.W.dataLe false PyData.str)).map V.str) out → ks.Nodup → (∀ k, k ∈ ks ↔ S k = true) → ks.length = n → Q (.ref p) s') :
    wpAny (model P w) A (call (.builtin "sorted") [.ref a]) Q E s := by
  obtain ⟨o, es, ep, t, ho, hex, hd, g, nd, hm, hb, hf, hn, hr, hl⟩ := R
  refine Calls.call_function_entry kind_sorted plain_sorted entry_sorted (args_sorted1 _) ?_
  unfold Builtin.«sorted»
  refine wpAny_bind (m := checkCount "sorted" 1 1 _) (wpAny_pure ?_)
  refine wpAny_bind (collect_set (A := A.in1) hh ⟨o, ho, hex.1, hd⟩ hf hb hr hl fun s1 vs k1 hz g1 o1 pm => ?_)
  have lv : vs.length = n := by rw [pm.length_eq, List.length_map, Array.length_toList]; exact hn
  have all : ∀ v ∈ vs, ∃ x t, v = Value.str x t := fun v hv => by
    obtain ⟨e, he, q⟩ := List.mem_map.mp (pm.mem_iff.mp hv)
    obtain ⟨k, tk, h1, _⟩ := g e he
    exact ⟨k, tk, by rw [← q]; exact h1⟩
  have pk : (vs.map strOf).Perm (es.toList.map txtOf) := by
    have q := pm.map strOf
    rw [List.map_map] at q
    refine q.trans (List.Perm.of_eq (List.map_congr_left fun e he => ?_))
    obtain ⟨k, tk, h1, _⟩ := g e he
    show strOf e.2 = txtOf e
    unfold txtOf
    rw [h1] <;> rfl
  refine wpAny_bind (wpAny_newList ?_ (by rw [lv, sizeLine_eq]; omega))
  have hoL : (s1.heap.push (seqObj "list" vs.toArray 0)).get? s1.heap.objs.size = some (seqObj "list" vs.toArray 0) := Heap.get?_push_size _ rfl
  have ev : ∀ vs : List Value, (∀ v ∈ vs, ∃ x t, v = Value.str x t) → PySem.W.EachIs (fun v (k : Str) => RelV (.str k) v) vs (vs.map strOf) := by
    intro vs
    induction vs with
    | nil => exact fun _ => .nil
    | cons v r ih =>
      intro h
      obtain ⟨x, t, rfl⟩ := h v List.mem_cons_self
      exact .cons ⟨t, rfl⟩ (ih fun u hu => h u (List.mem_cons_of_mem _ hu))
  refine wpAny_bind (wpAny_holding (PySem.W.list_sort_data (enc := PyData.str) (bs := vs.map strOf) (R := fun v k => RelV (.str k) v) hoL (ev vs all) ((ev vs all).mono fun v k h => ?_) (PySem.W.AllAlike.of fun b b' => by simp [PySem.W.alike]) (PySem.W.Sortable.others fun b => ⟨by simp, by simp⟩)
    (by rw [List.length_map, lv, sizeLine_eq]; omega) (fun b hb => ?_) fun out lo eo => ?_))
  · obtain ⟨t, rfl⟩ := h
    exact ⟨[], Reads.str k t, by simp⟩
  · show A.in1.units + 1 + (PyData.str b).depth < cLine
    have e : (PyData.str b).depth = 0 := by simp [PyData.depth]
    rw [e]
    have : A.in1.units ≤ A.units + 2 := by first | exact Nat.le_refl _ | (simp [Around.in1]; done) | (simp [Around.in1]; omega)
    omega
  · obtain ⟨c, hc⟩ := sortedHeap_at (vs := vs) (out := out.toArray) hoL
    have bk : ∀ {out : List Value} {ks : List Str}, PySem.W.EachIs (fun v k => RelV (.str k) v) out ks → Vals (ks.map V.str) out := by
      intro out ks h
      induction h with
      | nil => exact .nil
      | cons r _ ih => exact .cons r ih
    refine wpAny_pure ⟨_, rfl, hQ _ s1.heap.objs.size out c (vs.map strOf) (fun b u e => ?_) g1 o1 hz hc (bk eo) (pk.nodup_iff.mpr nd) (fun k => by rw [pk.mem_iff, ← hm k]) (by rw [List.length_map, lv])⟩
    have q := k1 b u e
    have lt := Heap.lt_size q
    show (sortedHeap (s1.heap.push (seqObj "list" vs.toArray 0)) s1.heap.objs.size vs out.toArray).get? b = some u
    rw [sortedHeap_old (Nat.ne_of_lt lt) (by rw [size_push']; exact Nat.lt_succ_of_lt lt)]
    exact Heap.get?_push_of_some _ q
end
section
variable {X : Cx}
theorem setXO_new {w : World} {P : Program} {H : Hp} {h : Heap} {a : Addr} {S : Str → Bool} {n : Nat} (R : SetX w h a S n) : ObjOk P w H h a (SetXO w a S n) := by
  have ⟨o, _, _, _, ho, _⟩ := R
  exact ⟨R, ⟨o, ho⟩, fun h1 h2 p k => SetX.at p k⟩
/-- set(text) -/
def rSetTx (w : World) : List V → Hp → VK → Prop := fun xs H Q => ∃ x : Str, xs = [.str x] ∧ x.cps.size < 1000 ∧ ∀ p c, c ≤ x.cps.size → H p = none → Q (.ref p) (upd H p (SetXO w p (sgnIn x x.cps.size) c))
theorem cr_setTx (hc : X.calm = true) : CallR X (.type "set") (rSetTx X.w) := by
  intro pn s0 τ H xs us Q I r hq
  obtain ⟨x, rfl, few, fin⟩ := hq
  obtain ⟨u, rfl, ru⟩ := Vals.one r
  obtain ⟨t, rfl⟩ := ru
  refine call_set_txt (I.ok.hd hc) (by show x.cps.size + 1 < 4096; omega) fun h2 tk c R hc2 kp => ?_
  have hn : H s0.heap.objs.size = none := I.hok.fresh (Nat.le_refl _)
  exact ⟨.ref _, _, I.laid (t' := tk) kp (Nat.le_refl _) (setXO_new R), rfl, fin _ c hc2 hn⟩
/-- sorted(s), s such a set -/
def rSortedSx (w : World) : List V → Hp → VK → Prop := fun vs H Q => ∃ (a : Addr) (S : Str → Bool) (n : Nat), vs = [V.ref a] ∧ H a = some (SetXO w a S n) ∧ n < 64 ∧
  ∀ (ks : List Str) (p : Addr), ks.Nodup → (∀ k, k ∈ ks ↔ S k = true) → ks.length = n → H p = none → Q (.ref p) (upd H p (.lst ((ks.mergeSort (PySem.W.dataLe false PyData.str)).map V.str)))
theorem cr_sortedSx (hc : X.calm = true) (hu : X.A.units + 64 < cLine) : CallR X (.builtin "sorted") (rSortedSx X.w) := by
  intro pn s0 τ H vs us Q I r hq
  obtain ⟨a, S, n, rfl, ha, few, fin⟩ := hq
  have R : SetX X.w s0.heap a S n := (I.hok a _ ha).1
  rw [Vals.ref1 r]
  refine sorted_setX R (I.ok.hd hc) few hu fun s' p out c ks k g o hp hg hv nd mem hl => ?_
  have hn : H p = none := I.hok.fresh hp
  have len : ((ks.mergeSort (PySem.W.dataLe false PyData.str)).map V.str).length ≤ sizeLine := by rw [List.length_map, List.length_mergeSort, hl, sizeLine_eq]; omega
  have J : Inv X pn τ (upd H p (.lst ((ks.mergeSort (PySem.W.dataLe false PyData.str)).map V.str))) s' := by
    refine I.call' (ch := []) o (Un.laid k hp hn) (I.hok.laid k hp ⟨len, out, c, hv, hg⟩) (by rw [g]; exact I.bare) fun _ z => nomatch z
  exact ⟨.ref p, _, J, rfl, fin ks p nd mem hl hn⟩
end
end Av
/-! The letters, tuples and rows of the law as plain lists; their order; how a heap holds them. -/
namespace Av
open PySem PySem.Spec PyProof.Rows L2

/-! ### strict total orders -/
structure STO {α : Type} (lt : α → α → Bool) : Prop where
  irr : ∀ a, lt a a = false
  tr : ∀ a b c, lt a b = true → lt b c = true → lt a c = true
  tot : ∀ a b, lt a b = false → lt b a = false → a = b
def ltN (a b : Nat) : Bool := decide (a < b)
theorem stoN : STO ltN := ⟨fun a => by simp [ltN], fun a b c h1 h2 => by simp only [ltN, decide_eq_true_eq] at *; omega, fun a b h1 h2 => by simp only [ltN, decide_eq_false_iff_not] at *; omega⟩
section
variable {α : Type} [DecidableEq α] {lt : α → α → Bool}
/-- the first place that differs decides -/
def lx (lt : α → α → Bool) : List α → List α → Bool
  | [], [] => false
  | [], _ :: _ => true
  | _ :: _, [] => false
  | x :: xs, y :: ys => if x = y then lx lt xs ys else lt x y
theorem lx_irr : ∀ a : List α, lx lt a a = false
  | [] => rfl
  | x :: xs => by rw [lx, if_pos rfl]; exact lx_irr xs
theorem lx_tr (S : STO lt) : ∀ a b c : List α, lx lt a b = true → lx lt b c = true → lx lt a c = true
  | [], [], _, h, _ => by simp [lx] at h
  | [], _ :: _, [], _, h => by simp [lx] at h
  | [], _ :: _, _ :: _, _, _ => rfl
  | _ :: _, [], _, h, _ => by simp [lx] at h
  | _ :: _, _ :: _, [], _, h => by simp [lx] at h
  | x :: xs, y :: ys, z :: zs, h1, h2 => by
    rw [lx] at h1 h2 ⊢
    by_cases e1 : x = y
    · subst e1
      rw [if_pos rfl] at h1
      by_cases e2 : x = z
      · rw [if_pos e2] at h2 ⊢
        exact lx_tr S xs ys zs h1 h2
      · rw [if_neg e2] at h2 ⊢
        exact h2
    · rw [if_neg e1] at h1
      by_cases e2 : y = z
      · subst e2
        rw [if_neg e1]
        exact h1
      · rw [if_neg e2] at h2
        have h3 := S.tr _ _ _ h1 h2
        have ne : x ≠ z := fun e => by
          subst e
          rw [S.irr] at h3
          cases h3
        rw [if_neg ne]
        exact h3
theorem lx_tot (S : STO lt) : ∀ a b : List α, lx lt a b = false → lx lt b a = false → a = b
  | [], [], _, _ => rfl
  | [], _ :: _, h, _ => by simp [lx] at h
  | _ :: _, [], _, h => by simp [lx] at h
  | x :: xs, y :: ys, h1, h2 => by
    rw [lx] at h1 h2
    by_cases e : x = y
    · subst e
      rw [if_pos rfl] at h1 h2
      rw [lx_tot S xs ys h1 h2]
    · rw [if_neg e] at h1
      rw [if_neg fun z => e z.symm] at h2
      exact absurd (S.tot x y h1 h2) e
theorem sto_lx (S : STO lt) : STO (lx lt) := ⟨lx_irr, lx_tr S, lx_tot S⟩
/-- rows of one length: the beginnings decide first -/
theorem lx_snoc (S : STO lt) : ∀ (a b : List α) (x y : α), a.length = b.length → lx lt (a ++ [x]) (b ++ [y]) = if a = b then lt x y else lx lt a b
  | [], [], x, y, _ => by
    show (if x = y then lx lt [] [] else lt x y) = _
    by_cases e : x = y
    · subst e
      rw [if_pos rfl, if_pos rfl, S.irr]
      rfl
    · rw [if_neg e, if_pos rfl]
  | [], _ :: _, _, _, h => by simp at h
  | _ :: _, [], _, _, h => by simp at h
  | p :: a, q :: b, x, y, h => by
    have ih := lx_snoc S a b x y (by simpa using h)
    show (if p = q then lx lt (a ++ [x]) (b ++ [y]) else lt p q) = _
    by_cases e : p = q
    · subst e
      rw [if_pos rfl, ih]
      by_cases e2 : a = b
      · subst e2
        rw [if_pos rfl, if_pos rfl]
      · rw [if_neg e2, if_neg (by simpa using e2), lx, if_pos rfl]
    · rw [if_neg e, if_neg (by simp [e]), lx, if_neg e]
end
theorem sorted_perm_eq {α : Type} {le : α → α → Bool} (anti : ∀ a b, le a b = true → le b a = true → a = b) : ∀ {l1 l2 : List α}, l1.Pairwise (fun a b => le a b = true) → l2.Pairwise (fun a b => le a b = true) → l1.Perm l2 → l1 = l2
  | [], l2, _, _, p => (List.Perm.eq_nil p.symm).symm
  | a :: r, [], _, _, p => absurd p.length_eq (by simp)
  | a :: r, b :: t, s1, s2, p => by
    obtain ⟨h1, t1⟩ := List.pairwise_cons.mp s1
    obtain ⟨h2, t2⟩ := List.pairwise_cons.mp s2
    have e : a = b := by
      have m1 : a ∈ b :: t := p.mem_iff.mp List.mem_cons_self
      have m2 : b ∈ a :: r := p.mem_iff.mpr List.mem_cons_self
      rcases List.mem_cons.mp m1 with e | m1
      · exact e
      · rcases List.mem_cons.mp m2 with e | m2
        · exact e.symm
        · exact anti a b (h1 b m2) (h2 a m1)
    subst e
    rw [sorted_perm_eq anti t1 t2 ((List.perm_cons a).mp p)]
section
variable {α : Type} {lt : α → α → Bool}
/-- the sort that Python's is -/
def msort (lt : α → α → Bool) (l : List α) : List α := l.mergeSort fun a b => !lt b a
theorem msort_sorted (S : STO lt) (l : List α) : (msort lt l).Pairwise fun a b => (!lt b a) = true := by
  refine List.pairwise_mergeSort (le := fun a b => !lt b a) (fun a b c h1 h2 => ?_) (fun a b => ?_) l
  · simp only [Bool.not_eq_true'] at *
    cases q : lt c a with
    | false => rfl
    | true =>
      cases q2 : lt a b with
      | true =>
        have := S.tr _ _ _ q q2
        rw [h2] at this
        cases this
      | false =>
        have e := S.tot a b q2 h1
        subst e
        rw [h2] at q
        cases q
  · cases q : lt b a with
    | false => rfl
    | true =>
      cases q2 : lt a b with
      | false => rfl
      | true =>
        have := S.tr _ _ _ q q2
        rw [S.irr] at this
        cases this
theorem msort_perm (l : List α) : (msort lt l).Perm l := List.mergeSort_perm _ _
theorem msort_congr (S : STO lt) {l1 l2 : List α} (p : l1.Perm l2) : msort lt l1 = msort lt l2 :=
  sorted_perm_eq (le := fun a b => !lt b a) (fun a b h1 h2 => S.tot a b (by simpa using h2) (by simpa using h1)) (msort_sorted S l1) (msort_sorted S l2) (((msort_perm l1).trans p).trans (msort_perm l2).symm)
end
abbrev ltT : List Nat → List Nat → Bool := lx ltN
abbrev ltR : List (List Nat) → List (List Nat) → Bool := lx ltT
theorem stoT : STO ltT := sto_lx stoN
theorem stoR : STO ltR := sto_lx stoT

/-! ### as data -/
abbrev L (c : Nat) : Str := ⟨#[c]⟩
abbrev vL (c : Nat) : V := .str (L c)
abbrev dL (c : Nat) : PyData := .str (L c)
def dT (t : List Nat) : PyData := .tuple (t.map dL)
def dR (r : List (List Nat)) : PyData := .tuple (r.map dT)
theorem L_inj {c d : Nat} (h : L c = L d) : c = d := by
  have e : (L c).cps.toList = (L d).cps.toList := by rw [h]
  simpa using e
theorem dataLt_L (c d : Nat) : PySem.W.dataLt (dL c) (dL d) = ltN c d := by
  rw [PySem.W.dataLt_str]
  show decide ([c] < [d]) = decide (c < d)
  exact decide_eq_decide.mpr (by simp [List.cons_lt_cons_iff])
theorem eqv_L (c d : Nat) : PyData.eqv (dL c) (dL d) = decide (c = d) := by
  rw [PyData.eqv]
  by_cases e : c = d
  · subst e
    simp
  · rw [decide_eq_false e]
    exact beq_eq_false_iff_ne.mpr fun z => e (L_inj z)
theorem alike_Ls : ∀ a b : List Nat, PySem.W.alikeAll (a.map dL) (b.map dL) = true
  | [], _ => by simp [PySem.W.alikeAll]
  | _ :: _, [] => by simp [PySem.W.alikeAll]
  | x :: a, y :: b => by
    show PySem.W.alikeAll (dL x :: a.map dL) (dL y :: b.map dL) = true
    rw [PySem.W.alikeAll, alike_Ls a b]
    simp [PySem.W.alike]
theorem alike_T (a b : List Nat) : PySem.W.alike (dT a) (dT b) = true := by
  unfold dT
  rw [PySem.W.alike]
  exact alike_Ls a b
theorem alike_Ts : ∀ a b : List (List Nat), PySem.W.alikeAll (a.map dT) (b.map dT) = true
  | [], _ => by simp [PySem.W.alikeAll]
  | _ :: _, [] => by simp [PySem.W.alikeAll]
  | x :: a, y :: b => by
    show PySem.W.alikeAll (dT x :: a.map dT) (dT y :: b.map dT) = true
    rw [PySem.W.alikeAll, alike_Ts a b, alike_T]
    rfl
theorem alike_R (a b : List (List Nat)) : PySem.W.alike (dR a) (dR b) = true := by
  unfold dR
  rw [PySem.W.alike]
  exact alike_Ts a b
theorem eqv_Ls : ∀ a b : List Nat, PyData.eqvAll (a.map dL) (b.map dL) = decide (a = b)
  | [], [] => by simp [PyData.eqvAll]
  | [], _ :: _ => by simp [PyData.eqvAll]
  | _ :: _, [] => by simp [PyData.eqvAll]
  | x :: a, y :: b => by
    show PyData.eqvAll (dL x :: a.map dL) (dL y :: b.map dL) = _
    rw [PyData.eqvAll, eqv_Ls a b, eqv_L]
    rw [Bool.eq_iff_iff]
    simp
theorem eqv_T (a b : List Nat) : PyData.eqv (dT a) (dT b) = decide (a = b) := by
  unfold dT
  rw [PyData.eqv]
  exact eqv_Ls a b
theorem depth_Ls : ∀ a : List Nat, PyData.depthAll (a.map dL) = 0
  | [] => by simp [PyData.depthAll]
  | x :: a => by
    show PyData.depthAll (dL x :: a.map dL) = 0
    rw [PyData.depthAll, depth_Ls a]
    simp [PyData.depth]
theorem depth_T (a : List Nat) : (dT a).depth = 1 := by
  unfold dT
  rw [PyData.depth, depth_Ls]
theorem depth_Ts : ∀ a : List (List Nat), PyData.depthAll (a.map dT) ≤ 1
  | [] => by simp [PyData.depthAll]
  | x :: a => by
    show PyData.depthAll (dT x :: a.map dT) ≤ 1
    have := depth_Ts a
    rw [PyData.depthAll, depth_T]
    omega
theorem depth_R (a : List (List Nat)) : (dR a).depth ≤ 2 := by
  unfold dR
  have := depth_Ts a
  rw [PyData.depth]
  omega
/-- rows of data, by an encoding that keeps equality and order -/
theorem rowLt_map {α : Type} [DecidableEq α] {enc : α → PyData} {lt : α → α → Bool} (al : ∀ x y, PySem.W.alike (enc x) (enc y) = true) (ev : ∀ x y, PyData.eqv (enc x) (enc y) = decide (x = y)) (dl : ∀ x y, PySem.W.dataLt (enc x) (enc y) = lt x y) :
    ∀ a b : List α, PySem.W.rowLt (a.map enc) (b.map enc) = lx lt a b
  | [], [] => PyProof.Rows.lex_irrefl _
  | [], y :: b => by
    show PySem.W.rowLt [] (enc y :: b.map enc) = true
    unfold PySem.W.rowLt
    rw [PySem.W.toks_all_cons]
    simp only [PySem.W.keyToksAll]
    rw [lex_diff (O := itemOrd) (by simp)]
    rfl
  | x :: a, [] => by
    show PySem.W.rowLt (enc x :: a.map enc) [] = false
    unfold PySem.W.rowLt
    rw [PySem.W.toks_all_cons]
    simp only [PySem.W.keyToksAll]
    rw [lex_diff (O := itemOrd) (by simp)]
    rfl
  | x :: a, y :: b => by
    have ih := rowLt_map al ev dl a b
    show PySem.W.rowLt (enc x :: a.map enc) (enc y :: b.map enc) = _
    unfold PySem.W.rowLt at ih ⊢
    rw [PySem.W.dataLt_cons (al x y), ev, dl, ih, lx]
    by_cases e : x = y
    · simp [e]
    · simp [e]
theorem dataLt_T (a b : List Nat) : PySem.W.dataLt (dT a) (dT b) = ltT a b := by
  unfold dT
  rw [PySem.W.dataLt_tuple]
  exact rowLt_map (fun x y => by simp [PySem.W.alike]) eqv_L dataLt_L a b
theorem dataLt_R (a b : List (List Nat)) : PySem.W.dataLt (dR a) (dR b) = ltR a b := by
  unfold dR
  rw [PySem.W.dataLt_tuple]
  exact rowLt_map alike_T eqv_T dataLt_T a b
theorem sortT (l : List (List Nat)) : l.mergeSort (PySem.W.dataLe false dT) = msort ltT l := by
  unfold msort
  congr 1
  funext a b
  show (!PySem.W.dataLt (dT b) (dT a)) = _
  rw [dataLt_T]
theorem sortL (l : List Nat) : l.mergeSort (PySem.W.dataLe false dL) = msort ltN l := by
  unfold msort
  congr 1
  funext a b
  show (!PySem.W.dataLt (dL b) (dL a)) = _
  rw [dataLt_L]

/-! ### in the heap -/
/-- tuples stay -/
def TK (H H' : Hp) : Prop := ∀ b xs, H b = some (.tup xs) → H' b = some (.tup xs)
theorem TK.refl (H : Hp) : TK H H := fun _ _ h => h
theorem TK.trans {H H1 H2 : Hp} (a : TK H H1) (b : TK H1 H2) : TK H H2 := fun c o h => b c o (a c o h)
theorem tk_same {H H' : Hp} (h : Same H H') : TK H H' := fun b xs e => h b _ e
theorem tk_new {H : Hp} {p : Addr} {o : HO} (h : H p = none) : TK H (upd H p o) := fun b xs e => by
  rw [upd_ne (ne_of_none e h)]
  exact e
theorem tk_upd {H : Hp} {p : Addr} {o u : HO} (h : H p = some u) (nt : ∀ xs, u ≠ .tup xs) : TK H (upd H p o) := fun b xs e => by
  rw [upd_ne (ne_of e h fun z => nt xs z.symm)]
  exact e
theorem same_new {H : Hp} {p : Addr} {o : HO} (h : H p = none) : Same H (upd H p o) := fun b x e => by
  rw [upd_ne (ne_of_none e h)]
  exact e
def IsT (H : Hp) (v : V) (t : List Nat) : Prop := ∃ a, v = .ref a ∧ H a = some (.tup (t.map vL))
def IsR (H : Hp) (v : V) (r : List (List Nat)) : Prop := ∃ a xs, v = .ref a ∧ H a = some (.tup xs) ∧ Paired (IsT H) xs r
theorem IsT.keep {H H' : Hp} {v : V} {t : List Nat} (k : TK H H') (h : IsT H v t) : IsT H' v t := by
  obtain ⟨a, e, h⟩ := h
  exact ⟨a, e, k _ _ h⟩
theorem isTs_keep {H H' : Hp} {xs : List V} {ts : List (List Nat)} (k : TK H H') (h : Paired (IsT H) xs ts) : Paired (IsT H') xs ts := L2.Paired.mapP h fun _ _ q => q.keep k
theorem IsR.keep {H H' : Hp} {v : V} {r : List (List Nat)} (k : TK H H') (h : IsR H v r) : IsR H' v r := by
  obtain ⟨a, xs, e, h, p⟩ := h
  exact ⟨a, xs, e, k _ _ h, isTs_keep k p⟩
theorem isRs_keep {H H' : Hp} {xs : List V} {ts : List (List (List Nat))} (k : TK H H') (h : Paired (IsR H) xs ts) : Paired (IsR H') xs ts := L2.Paired.mapP h fun _ _ q => q.keep k
theorem dp_Ls {K : PySem.W.Frag} {H : Hp} : ∀ t : List Nat, DpAll K H (t.map vL) (t.map dL)
  | [] => .nil
  | c :: t => .cons (.str _) (dp_Ls t)
theorem IsT.dp {K : PySem.W.Frag} {H : Hp} {v : V} {t : List Nat} (h : IsT H v t) : Dp K H v (dT t) := by
  obtain ⟨a, rfl, h⟩ := h
  exact .tup (SqT.of h) (dp_Ls t)
theorem dp_Ts {K : PySem.W.Frag} {H : Hp} : ∀ {xs : List V} {ts : List (List Nat)}, Paired (IsT H) xs ts → DpAll K H xs (ts.map dT)
  | _, _, .nil => .nil
  | _, _, .cons h t => .cons h.dp (dp_Ts t)
theorem IsR.dp {K : PySem.W.Frag} {H : Hp} {v : V} {r : List (List Nat)} (h : IsR H v r) : Dp K H v (dR r) := by
  obtain ⟨a, xs, rfl, h, p⟩ := h
  exact .tup (SqT.of h) (dp_Ts p)
theorem dp_Rs {K : PySem.W.Frag} {H : Hp} : ∀ {xs : List V} {rs : List (List (List Nat))}, Paired (IsR H) xs rs → DpAll K H xs (rs.map dR)
  | _, _, .nil => .nil
  | _, _, .cons h t => .cons h.dp (dp_Rs t)
/-- a text of letters -/
def tx (p : List Nat) : Str := ⟨p.toArray⟩
theorem tx_size (p : List Nat) : (tx p).cps.size = p.length := by simp [tx]
theorem tx_get (p : List Nat) (i : Nat) : (tx p).cps[i]? = p[i]? := by simp [tx]
theorem tx_len (p : List Nat) : (tx p).length = p.length := by simp [tx, Str.length]
theorem tx_inj {p q : List Nat} (h : tx p = tx q) : p = q := by
  have e : (tx p).cps.toList = (tx q).cps.toList := by rw [h]
  simpa [tx] using e
end Av
/-! The text by places; the slots. -/
namespace Av
open PySem PySem.Spec PyProof.Rows L2
def topS (i : Nat) : Stmt := PySem.Challenge.pw_avoidwords_k74_whole_free_sets.main.body.getD i (.Pass ⟨0, 0, 0, 0⟩)
abbrev sNeed : Stmt := topS 6
abbrev sKinds : Stmt := topS 7
abbrev sSides : Stmt := topS 8
abbrev sFree : Stmt := topS 9
abbrev sSubs : Stmt := topS 10
abbrev sFreeOf : Stmt := topS 11
abbrev sSets : Stmt := topS 12
abbrev sWithout : Stmt := topS 13
abbrev sRed : Stmt := topS 14
abbrev sTaken : Stmt := topS 16
abbrev sAlike : Stmt := topS 17
abbrev sLawSets : Stmt := topS 18
abbrev sLaw : Stmt := topS 19
theorem scNeed : FnScope ["value", "sign"] ["value"] (defScope sNeed) := ⟨rfl, rfl, rfl, by decide +kernel, rfl, by decide +kernel, by decide +kernel⟩
theorem scKinds : FnScope ["pattern", "at", "sign"] ["pattern"] (defScope sKinds) := ⟨rfl, rfl, rfl, by decide +kernel, rfl, by decide +kernel, by decide +kernel⟩
theorem scSides : FnScope ["pattern", "found", "one", "other", "first", "second", "key", "mark", "sign", "side"] ["pattern"] (defScope sSides) := ⟨rfl, rfl, rfl, by decide +kernel, rfl, by decide +kernel, by decide +kernel⟩
theorem scFree : FnScope ["marks", "told", "one", "other"] ["marks", "told"] (defScope sFree) := ⟨rfl, rfl, rfl, by decide +kernel, rfl, by decide +kernel, by decide +kernel⟩
theorem scSubs : FnScope ["kinds", "found", "sign", "told"] ["kinds"] (defScope sSubs) := ⟨rfl, rfl, rfl, by decide +kernel, rfl, by decide +kernel, by decide +kernel⟩
theorem scFreeOf : FnScope ["pattern", "marks", "told"] ["pattern"] (defScope sFreeOf) := ⟨rfl, rfl, rfl, by decide +kernel, rfl, by decide +kernel, by decide +kernel⟩
theorem scSets : FnScope ["pattern"] ["pattern"] (defScope sSets) := ⟨rfl, rfl, rfl, by decide +kernel, rfl, by decide +kernel, by decide +kernel⟩
theorem scWithout : FnScope ["pattern", "told", "sign"] ["pattern", "told"] (defScope sWithout) := ⟨rfl, rfl, rfl, by decide +kernel, rfl, by decide +kernel, by decide +kernel⟩
theorem scRed : FnScope ["pattern", "known", "rim", "later", "now", "told", "rest", "row"] ["pattern"] (defScope sRed) := ⟨rfl, rfl, rfl, by decide +kernel, rfl, by decide +kernel, by decide +kernel⟩
theorem scTaken : FnScope ["_law_row", "_law_many", "_law_found", "_law_cell"] ["_law_row", "_law_many"] (defScope sTaken) := ⟨rfl, rfl, rfl, by decide +kernel, rfl, by decide +kernel, by decide +kernel⟩
theorem scAlike : FnScope ["_law_found", "_law_due", "_law_k"] ["_law_found", "_law_due"] (defScope sAlike) := ⟨rfl, rfl, rfl, by decide +kernel, rfl, by decide +kernel, by decide +kernel⟩
theorem scLawSets : FnScope ["_law_pattern", "_law_kinds", "_law_marks", "_law_at", "_law_turn", "_law_left", "_law_right", "_law_least", "_law_found", "_law_number", "_law_told", "_law_joined", "_law_one", "_law_other"] ["_law_pattern"] (defScope sLawSets) := ⟨rfl, rfl, rfl, by decide +kernel, rfl, by decide +kernel, by decide +kernel⟩
theorem scLaw : FnScope ["_law_script", "_law_row", "_law_kinds", "_law_pattern", "_law_rows", "_law_due", "_law_turn", "_law_later", "_law_told", "_law_rest", "_law_some", "_law_done", "_law_at", "_law_sign", "_law_pair"] ["_law_script"] (defScope sLaw) := ⟨rfl, rfl, rfl, by decide +kernel, rfl, by decide +kernel, by decide +kernel⟩
/-! ### texts of letters -/
theorem mem_letters {c : Nat} : ∀ {t : List Nat}, inV (vL c) (t.map vL) = decide (c ∈ t)
  | [] => rfl
  | d :: t => by
    have ih := mem_letters (c := c) (t := t)
    unfold inV at ih ⊢
    rw [List.map_cons, List.any_cons, ih]
    show (eqV (vL d) (vL c) || _) = _
    have e : eqV (vL d) (vL c) = decide (c = d) := by
      show (L d == L c) = _
      by_cases q : c = d
      · subst q
        simp
      · rw [decide_eq_false q]
        exact beq_eq_false_iff_ne.mpr fun z => q (L_inj z).symm
    rw [e, Bool.eq_iff_iff]
    simp [List.mem_cons]
theorem flat_letters : ∀ t : List Nat, (t.map vL).all flatV = true
  | [] => rfl
  | _ :: t => flat_letters t
theorem join_letters (p : List Nat) : Txt.join (Str.ofString "") (p.map L) = tx p := by
  show Builtin.Str.glued (Str.ofString "") (p.map L) = tx p
  rw [PySem.StrLaws.glued_eq_join]
  have e : p.map L = signs (tx p) := by
    simp [signs, tx]
  rw [e]
  exact join_nil_signs (tx p)
end Av
namespace Av
open PySem PySem.Spec PyProof.Rows L2
section
variable {P : Program} {w : World} {K : PySem.W.Frag} {mg : Str → Option Value} {base : Heap}
/-! ### without -/
def drop' (t p : List Nat) : List Nat := p.filter fun c => !decide (c ∈ t)
def spWithout : Sp := fun vs H Q _ => ∃ (p t : List Nat) (v : V), vs = [.str (tx p), v] ∧ IsT H v t ∧ p.length ≤ 12 ∧ ∀ H', Same H H' → Q (.str (tx (drop' t p))) H'
theorem drop_take (t p : List Nat) (i : Nat) (c : Nat) (h : p[i]? = some c) : drop' t (p.take (i + 1)) = if c ∈ t then drop' t (p.take i) else drop' t (p.take i) ++ [c] := by
  unfold drop'
  rw [List.take_add_one, h, List.filter_append]
  by_cases m : c ∈ t
  · rw [if_pos m]
    simp [m]
  · rw [if_neg m]
    simp [m]
theorem ok_without {f : Addr} {fd : FuncData} {k : Nat} (F : Fun K "without" "without" sWithout f fd) : FnOk P w K mg base CX0 (k + 1) f fd ["pattern", "told"] spWithout := by
  refine F.ok scWithout (fun vs H Q E h => ?_) (fun cdv A outer s H vs Q E hr h => ?_)
  · obtain ⟨p, t, v, rfl, _⟩ := h
    rfl
  · obtain ⟨p, t, v, rfl, ⟨a, rfl, ht⟩, lp, q⟩ := h
    refine ⟨_, pss_one (ps_ret (pe_join pe_str (pe_lc (own := [("sign", 2)]) (g := gName 2) rfl scWithout.nd (pi_str (pv 0))
      (blkOk_by (N := ["pattern", "told", "sign"]) (sc := defScope sWithout) (by decide +kernel)) (fun _ _ _ _ _ => pg_name (i := 2) scWithout.nd rfl (Or.inl rfl))
      (fun _ _ _ _ _ => pts_one (pt_cmpR (r := rIn K true) op_notIn_seq (pv 2) (pv 1) rfl)) (fun _ _ _ _ _ => pv 2)))), ?_⟩
    refine ⟨⟨_, rfl⟩, ?_⟩
    refine ⟨_, rfl, tx p, rfl, fun D nD => lc_it walk_str (fun i H' => Same H H' ∧ H' D = some (.lst ((drop' t (p.take i)).map vL))) ?_ (fun _ _ _ _ => True.intro) ?_ ?_⟩
    · exact ⟨same_new nD, upd_same⟩
    · rintro i x H1 H2 hi ⟨sm, hD⟩ ⟨rfl, c, hc, rfl⟩
      rw [tx_get] at hc
      refine ⟨rfl, ?_⟩
      refine ⟨vL c, rfl, .ref a, rfl, ?_⟩
      refine ⟨a, t.map vL, rfl, .inr (SqT.of (sm _ _ ht)), rfl, flat_letters t, _, rfl, ?_⟩
      simp only [if_true, mem_letters, drop_take t p i c hc]
      by_cases m : c ∈ t
      · simp only [m, decide_true, Bool.not_true, Bool.false_eq_true, if_false, if_true]
        exact ⟨sm, hD⟩
      · simp only [m, decide_false, Bool.not_false, if_true, if_false]
        refine ⟨vL c, rfl, _, hD, ?_, ?_, ?_⟩
        · have h1 : (drop' t (p.take i)).length ≤ (p.take i).length := List.length_filter_le _ _
          rw [List.length_map]
          have h2 : (p.take i).length ≤ p.length := by rw [List.length_take]; omega
          exact small1000 (by omega)
        · exact fun b u e => by
            rw [upd_ne (ne_of_none e nD)]
            exact sm b u e
        · rw [upd_same, List.map_append]
          rfl
    · rintro H1 ⟨sm, hD⟩
      rw [tx_size, List.take_length] at hD
      refine ⟨Str.ofString "", D, (drop' t p).map L, rfl, rfl, .inl (SqL.of (by rw [List.map_map]; exact hD)), ?_, ?_⟩
      · have h1 : (drop' t p).length ≤ p.length := List.length_filter_le _ _
        have h2 : ∀ l : List Nat, ((l.map L).map (·.length)).sum = l.length := by
          intro l
          induction l with
          | nil => rfl
          | cons c r ih =>
            rw [List.map_cons, List.map_cons, List.sum_cons, ih, List.length_cons]
            show 1 + r.length = _
            omega
        have h3 : (Str.ofString "").length = 0 := by decide
        rw [h2, h3]
        omega
      · rw [join_letters]
        exact q _ sm
end
end Av
namespace Av
open PySem PySem.Spec PyProof.Rows L2
section
variable {P : Program} {w : World} {K : PySem.W.Frag} {mg : Str → Option Value} {base : Heap}
/-! ### need_pattern -/
def Pat (p : List Nat) : Prop := 1 ≤ p.length ∧ p.length ≤ 7 ∧ ∀ c ∈ p, 65 ≤ c ∧ c ≤ 68
def spNeed : Sp := fun vs H Q _ => ∃ p : List Nat, vs = [.str (tx p)] ∧ Pat p ∧ ∀ H', Same H H' → Q .non H'
theorem ok_need {f : Addr} {fd : FuncData} {k : Nat} (F : Fun K "need_pattern" "need_pattern" sNeed f fd) (mI : mg "isinstance" = none) (mS : mg "str" = none) (mL : mg "len" = none) (mA : mg "all" = none)
    (gV : ∃ t, mg "VARIABLES" = some (.str "ABCDEF" t)) (gM : ∃ t, mg "MOST_PATTERN" = some (.int 12 t)) : FnOk P w K mg base CX0 (k + 1) f fd ["value"] spNeed := by
  obtain ⟨tV, gV⟩ := gV
  obtain ⟨tM, gM⟩ := gM
  refine F.ok scNeed (fun vs H Q E h => ?_) (fun cdv A outer s H vs Q E hr h => ?_)
  · obtain ⟨p, rfl, _⟩ := h
    rfl
  · obtain ⟨p, rfl, ⟨l1, l2, l3⟩, q⟩ := h
    refine ⟨_, pss_cons (ps_if (PW.pt (pw_or (pt_not (pt_val (pe_callB call_isi (by rfl) mI (by decide +kernel) (pa_cons (pv 0) (pa_cons (pe_bltn (v := .ty "str") (by rfl) mS (by decide +kernel) rfl) pa_nil)))))
        (pw_or1 (pt_not (pt_chain op_le op_le pe_int (pe_callB call_len_str (by rfl) mL PySem.boot_len (pa_cons (pv 0) pa_nil)) (pe_glob (v := .int 12) (by rfl) gM ⟨_, rfl⟩)))))) (pss_one ps_never) pss_nil)
      (pss_one (ps_if (pt_not (pt_val (pe_callB (cr_all rfl) (by rfl) mA (by decide +kernel) (pa_cons (pe_lc (own := [("sign", 1)]) (g := gName 1) rfl scNeed.nd (pi_str (pv 0))
        (blkOk_by (N := ["value", "sign"]) (sc := defScope sNeed) (by decide +kernel)) (fun _ _ _ _ _ => pg_name (i := 1) scNeed.nd rfl (Or.inl rfl)) (fun _ _ _ _ _ => pts_nil)
        (fun _ _ _ _ _ => pe_cmpR op_in_sign (pv 1) (pe_glob (v := .str "ABCDEF") (by rfl) gV ⟨_, rfl⟩) rfl)) pa_nil)))) (pss_one ps_never) pss_nil)), ?_⟩
    refine ⟨_, rfl, .str (tx p), .ty "str", .type "str", .type "str", true, rfl, .ty "str", .base (.str _), kit_ty (by decide +kernel), true, rfl, iteF ?_⟩
    refine ⟨.str (tx p), rfl, tx p, rfl, ?_, 1, ((tx p).length : Int), rfl, rfl, _, rfl, ?_⟩
    · rw [tx_len]
      exact Nat.le_of_lt (small1000 (by omega))
    have e1 : decide ((1 : Int) ≤ ((tx p).length : Int)) = true := decide_eq_true (by rw [tx_len]; omega)
    rw [e1]
    refine iteT ⟨((tx p).length : Int), 12, rfl, rfl, _, rfl, ?_⟩
    have e2 : decide (((tx p).length : Int) ≤ 12) = true := decide_eq_true (by rw [tx_len]; omega)
    rw [e2]
    refine iteF ?_
    refine ⟨.str (tx p), rfl, tx p, rfl, fun D nD => lc_it walk_str (fun i H' => Same H H' ∧ H' D = some (.lst (List.replicate i (V.bl true)))) ?_ (fun _ _ _ _ => True.intro) ?_ ?_⟩
    · exact ⟨same_new nD, upd_same⟩
    · rintro i x H1 H2 hi ⟨sm, hD⟩ ⟨rfl, c, hc, rfl⟩
      rw [tx_get] at hc
      have mc := l3 c (List.mem_of_getElem? hc)
      refine ⟨rfl, ?_⟩
      refine ⟨vL c, rfl, c, Str.ofString "ABCDEF", rfl, rfl, ?_⟩
      have e : decide (c ∈ (Str.ofString "ABCDEF").cps.toList) = true := by
        have z : (Str.ofString "ABCDEF").cps.toList = [65, 66, 67, 68, 69, 70] := by decide
        rw [z]
        refine decide_eq_true ?_
        have : c = 65 ∨ c = 66 ∨ c = 67 ∨ c = 68 := by omega
        rcases this with e | e | e | e <;> simp [e]
      rw [e]
      refine ⟨_, hD, ?_, ?_, ?_⟩
      · rw [List.length_replicate]
        rw [tx_size] at hi
        exact small1000 (by omega)
      · exact fun b u e => by
          rw [upd_ne (ne_of_none e nD)]
          exact sm b u e
      · rw [upd_same, List.replicate_succ']
    · rintro H1 ⟨sm, hD⟩
      refine ⟨D, List.replicate (tx p).cps.size true, rfl, SqL.of (by rw [List.map_replicate]; exact hD), ?_⟩
      have e : (List.replicate (tx p).cps.size true).all id = true := by
        rw [List.all_eq_true]
        intro b hb
        rw [(List.mem_replicate.mp hb).2]
        rfl
      rw [e]
      exact ⟨true, rfl, iteF (q _ sm)⟩
end
end Av
namespace Av
open PySem PySem.Spec PyProof.Rows L2
/-! ### small things about heaps and walks -/
theorem un {H : Hp} {T D : Addr} {o u : HO} (n : H T = none) (e : H D = some o) : upd H T u D = some o := by
  rw [upd_ne (ne_of_none e n)]
  exact e
theorem su {H H1 : Hp} {D : Addr} {o : HO} (nD : H D = none) (sm : Same H H1) : Same H (upd H1 D o) := fun b u e => by
  rw [upd_ne (ne_of_none e nD)]
  exact sm b u e
theorem sn {H H1 : Hp} {T : Addr} {o : HO} (sm : Same H H1) (n : H1 T = none) : Same H (upd H1 T o) := sm.trans (same_new n)
theorem walk_enumS {x : Str} : Walk (Ites x) x.cps.size (fun _ => True) (fun i H v H' => ∃ T c, v = .ref T ∧ H T = none ∧ H' = upd H T (.tup [.int (i : Nat), .str ⟨#[c]⟩]) ∧ x.cps[i]? = some c) :=
  ⟨fun _ _ hi _ => hi, fun _ _ => Nat.le_refl _, fun _ _ _ _ _ _ y => y⟩
theorem walk_zipS {x y : Str} {n : Nat} (hn : n = min x.cps.size y.cps.size) : Walk (Itzs x y) n (fun _ => True) (fun i H v H' => ∃ T c d, v = .ref T ∧ H T = none ∧ H' = upd H T (.tup [.str ⟨#[c]⟩, .str ⟨#[d]⟩]) ∧ x.cps[i]? = some c ∧ y.cps[i]? = some d) :=
  ⟨fun i _ hi _ => by show i < x.cps.size ∧ i < y.cps.size; omega, fun _ _ => by show x.cps.size ≤ n ∨ y.cps.size ≤ n; omega, fun _ _ _ _ _ _ y => y⟩
/-! ### kinds_of -/
def addK (acc : List Nat) (c : Nat) : List Nat := if c ∈ acc then acc else acc ++ [c]
def kTo (p : List Nat) : List Nat := p.foldl addK []
theorem kTo_snoc (p : List Nat) (c : Nat) : kTo (p ++ [c]) = addK (kTo p) c := by simp [kTo]
theorem mem_addK {acc : List Nat} {c d : Nat} : d ∈ addK acc c ↔ d ∈ acc ∨ d = c := by
  unfold addK
  by_cases h : c ∈ acc
  · rw [if_pos h]
    exact ⟨.inl, fun q => q.elim id fun e => e ▸ h⟩
  · rw [if_neg h]
    simp
theorem mem_foldK : ∀ (p : List Nat) (acc : List Nat) (d : Nat), d ∈ p.foldl addK acc ↔ d ∈ acc ∨ d ∈ p
  | [], acc, d => by simp
  | c :: p, acc, d => by
    rw [List.foldl_cons, mem_foldK p, mem_addK, List.mem_cons, or_assoc]
theorem mem_kTo {p : List Nat} {d : Nat} : d ∈ kTo p ↔ d ∈ p := by
  unfold kTo
  rw [mem_foldK]
  simp
theorem nodup_addK {acc : List Nat} {c : Nat} (h : acc.Nodup) : (addK acc c).Nodup := by
  unfold addK
  by_cases m : c ∈ acc
  · rw [if_pos m]
    exact h
  · rw [if_neg m]
    rw [List.nodup_append]
    refine ⟨h, by simp, fun a ha b hb => ?_⟩
    rw [List.mem_singleton] at hb
    subst hb
    exact fun e => m (e ▸ ha)
theorem nodup_foldK : ∀ (p acc : List Nat), acc.Nodup → (p.foldl addK acc).Nodup
  | [], _, h => h
  | c :: p, acc, h => nodup_foldK p _ (nodup_addK h)
theorem nodup_kTo (p : List Nat) : (kTo p).Nodup := nodup_foldK p [] List.nodup_nil
theorem len_addK (acc : List Nat) (c : Nat) : (addK acc c).length ≤ acc.length + 1 := by
  unfold addK
  split
  · omega
  · simp
theorem len_foldK : ∀ (p acc : List Nat), (p.foldl addK acc).length ≤ acc.length + p.length
  | [], acc => by simp
  | c :: p, acc => by
    have h := len_foldK p (addK acc c)
    have h2 := len_addK acc c
    rw [List.foldl_cons, List.length_cons]
    omega
theorem len_kTo (p : List Nat) : (kTo p).length ≤ p.length := by
  have := len_foldK p []
  simpa [kTo] using this
section
variable {P : Program} {w : World} {K : PySem.W.Frag} {mg : Str → Option Value} {base : Heap}
def spKinds : Sp := fun vs H Q _ => ∃ p : List Nat, vs = [.str (tx p)] ∧ p.length ≤ 12 ∧ ∀ H' q, Same H H' → H q = none → H' q = some (.lst ((kTo p).map vL)) → Q (.ref q) H'
theorem ok_kinds {f : Addr} {fd : FuncData} {k : Nat} (F : Fun K "kinds_of" "kinds_of" sKinds f fd) (mE : mg "enumerate" = none) : FnOk P w K mg base CX0 (k + 1) f fd ["pattern"] spKinds := by
  refine F.ok scKinds (fun vs H Q E h => ?_) (fun cdv A outer s H vs Q E hr h => ?_)
  · obtain ⟨p, rfl, _⟩ := h
    rfl
  · obtain ⟨p, rfl, lp, q⟩ := h
    refine ⟨_, pss_one (ps_ret (pe_lc (own := [("at", 1), ("sign", 2)]) (g := gTup K 2 (gCons (gName 1) (gCons (gName 2) gNil))) rfl scKinds.nd (pi_enumS (by rfl) mE (pa_cons (pv 0) pa_nil))
      (blkOk_by (N := ["pattern", "at", "sign"]) (sc := defScope sKinds) (by decide +kernel))
      (fun _ _ _ _ _ => by exact pg_tup rfl (pgs_cons (pg_name (i := 1) scKinds.nd rfl (Or.inl rfl) (hf := .inr rfl)) (pgs_cons (pg_name (i := 2) scKinds.nd rfl (Or.inl rfl) (hf := .inr rfl)) pgs_nil)))
      (fun _ _ _ _ _ => pts_one (pt_cmpR op_notIn_sign (pv 2) (pe_slice C8.sl_txt (pv 0) po_none (po_some (pv 1))) rfl)) (fun _ _ _ _ _ => pv 2))), ?_⟩
    refine ⟨_, rfl, tx p, rfl, fun D nD => lc_it walk_enumS (fun i H' => Same H H' ∧ H' D = some (.lst ((kTo (p.take i)).map vL))) ?_ (fun _ _ _ _ => True.intro) ?_ ?_⟩
    · exact ⟨same_new nD, upd_same⟩
    · rintro i x H1 H2 hi ⟨sm, hD⟩ ⟨T, c, rfl, nT, rfl, hc⟩
      rw [tx_get] at hc
      rw [tx_size] at hi
      refine ⟨T, _, rfl, SqT.of upd_same, rfl, .int (i : Nat), _, rfl, vL c, _, rfl, rfl, rfl, ?_⟩
      refine ⟨vL c, rfl, .str (tx p), rfl, .int (i : Nat), rfl, (i : Nat), rfl, tx p, rfl, ?_, c, tx (p.take i), rfl, ?_, ?_⟩
      · rw [tx_len]
        exact Nat.le_of_lt (small1000 (by omega))
      · exact congrArg V.str (SX.slice_to (a := p) (i := (i : Int)) (by omega))
      have e : (tx (p.take i)).cps.toList = p.take i := by simp [tx]
      rw [e]
      have s2 := sn (o := .tup [.int (i : Nat), vL c]) sm nT
      have hD2 := un (u := .tup [.int (i : Nat), vL c]) nT hD
      have e3 : kTo (p.take (i + 1)) = addK (kTo (p.take i)) c := by
        rw [List.take_add_one, hc]
        exact kTo_snoc _ _
      rw [e3]
      refine ⟨_, rfl, ?_⟩
      by_cases m : c ∈ p.take i
      · have m2 : c ∈ kTo (p.take i) := mem_kTo.mpr m
        simp only [m, decide_true, Bool.not_true, Bool.false_eq_true, if_false]
        unfold addK
        rw [if_pos m2]
        exact ⟨s2, hD2⟩
      · have m2 : c ∉ kTo (p.take i) := fun z => m (mem_kTo.mp z)
        simp only [m, decide_false, Bool.not_false, if_true]
        unfold addK
        rw [if_neg m2]
        refine ⟨vL c, rfl, _, hD2, ?_, su nD s2, ?_⟩
        · have h1 := len_kTo (p.take i)
          rw [List.length_map]
          have h2 : (p.take i).length ≤ p.length := by rw [List.length_take]; omega
          exact small1000 (by omega)
        · rw [upd_same, List.map_append]
          rfl
    · rintro H1 ⟨sm, hD⟩
      rw [tx_size, List.take_length] at hD
      exact q _ _ sm nD hD
end
end Av
/-! Dicts told by a list of names and a function; the comprehension of two clauses over walks. -/
namespace Av
open PySem PySem.Spec PyProof.Rows L2
section
variable {κ ν : Type} [DecidableEq κ] [DecidableEq ν] {key : ν → κ}
def dOf (key : ν → κ) (ns : List ν) (f : ν → V) : List (κ × V) := ns.map fun n => (key n, f n)
theorem dOf_len (ns : List ν) (f : ν → V) : (dOf key ns f).length = ns.length := List.length_map _
theorem dOf_congr {ns : List ν} {f g : ν → V} (h : ∀ n ∈ ns, f n = g n) : dOf key ns f = dOf key ns g := List.map_congr_left fun n hn => by rw [h n hn]
theorem valV_dOf (inj : ∀ a b, key a = key b → a = b) {f : ν → V} {x : ν} : ∀ {ns : List ν}, x ∈ ns → valV (dOf key ns f) (key x) = some (f x)
  | n :: ns, h => by
    show ((((key n, f n) :: dOf key ns f).find? fun kv => decide (kv.1 = key x)).map (·.2)) = _
    rw [List.find?_cons]
    by_cases e : n = x
    · subst e
      simp
    · have e2 : ¬ key n = key x := fun z => e (inj _ _ z)
      simp only [decide_eq_false e2]
      rcases List.mem_cons.mp h with z | h
      · exact absurd z.symm e
      · exact valV_dOf inj h
theorem valV_dOf_none (inj : ∀ a b, key a = key b → a = b) {f : ν → V} {x : ν} : ∀ {ns : List ν}, x ∉ ns → valV (dOf key ns f) (key x) = none
  | [], _ => rfl
  | n :: ns, h => by
    show ((((key n, f n) :: dOf key ns f).find? fun kv => decide (kv.1 = key x)).map (·.2)) = _
    rw [List.find?_cons]
    have e2 : ¬ key n = key x := fun z => h (by rw [inj _ _ z]; exact List.mem_cons_self)
    simp only [decide_eq_false e2]
    exact valV_dOf_none inj fun z => h (List.mem_cons_of_mem _ z)
theorem any_dOf (inj : ∀ a b, key a = key b → a = b) {f : ν → V} {x : ν} {ns : List ν} : ((dOf key ns f).any fun kv => decide (kv.1 = key x)) = decide (x ∈ ns) := by
  unfold dOf
  rw [List.any_map, Bool.eq_iff_iff]
  simp only [List.any_eq_true, Function.comp, decide_eq_true_eq]
  exact ⟨fun ⟨n, hn, e⟩ => inj _ _ e ▸ hn, fun h => ⟨x, h, rfl⟩⟩
theorem putK_dOf (inj : ∀ a b, key a = key b → a = b) {f : ν → V} {x : ν} {v : V} {ns : List ν} (h : x ∈ ns) : putK (dOf key ns f) (key x) v = dOf key ns fun n => if n = x then v else f n := by
  unfold putK
  rw [any_dOf inj, if_pos (decide_eq_true h)]
  unfold dOf
  rw [List.map_map]
  refine List.map_congr_left fun n _ => ?_
  show (if key n = key x then (key n, v) else (key n, f n)) = _
  by_cases e : n = x
  · subst e
    simp
  · show _ = (key n, if n = x then v else f n)
    rw [if_neg fun z => e (inj _ _ z), if_neg e]
theorem putK_dOf_new (inj : ∀ a b, key a = key b → a = b) {f : ν → V} {x : ν} {v : V} {ns : List ν} (h : x ∉ ns) : putK (dOf key ns f) (key x) v = dOf key (ns ++ [x]) fun n => if n = x then v else f n := by
  unfold putK
  rw [any_dOf inj, if_neg (by simpa using h)]
  unfold dOf
  rw [List.map_append]
  congr 1
  · refine List.map_congr_left fun n hn => ?_
    show _ = (key n, if n = x then v else f n)
    rw [if_neg fun z : n = x => h (z ▸ hn)]
  · simp
end
/-! ### the sides of letters -/
abbrev Nd := Nat × Nat
def keyN (n : Nd) : List L2.Key := [.inr (L n.1), .inl (n.2 : Int)]
theorem keyN_inj (a b : Nd) (h : keyN a = keyN b) : a = b := by
  unfold keyN at h
  injection h with h1 h2
  injection h2 with h2 _
  have e1 := L_inj (Sum.inr.inj h1)
  have e2 : (a.2 : Int) = (b.2 : Int) := Sum.inl.inj h2
  exact Prod.ext e1 (by omega)
def nodes (ks : List Nat) : List Nd := ks.flatMap fun c => [(c, 0), (c, 1)]
theorem nodes_cons (c : Nat) (ks : List Nat) : nodes (c :: ks) = (c, 0) :: (c, 1) :: nodes ks := rfl
theorem mem_nodes {ks : List Nat} {n : Nd} : n ∈ nodes ks ↔ n.1 ∈ ks ∧ n.2 < 2 := by
  induction ks with
  | nil => simp [nodes]
  | cons c ks ih =>
    rw [nodes_cons, List.mem_cons, List.mem_cons, ih, List.mem_cons]
    obtain ⟨a, b⟩ := n
    simp only [Prod.mk.injEq]
    constructor
    · rintro (⟨rfl, rfl⟩ | ⟨rfl, rfl⟩ | ⟨h1, h2⟩)
      · exact ⟨.inl rfl, by omega⟩
      · exact ⟨.inl rfl, by omega⟩
      · exact ⟨.inr h1, h2⟩
    · rintro ⟨h1 | h1, h2⟩
      · subst h1
        have : b = 0 ∨ b = 1 := by omega
        rcases this with e | e
        · exact .inl ⟨rfl, e⟩
        · exact .inr (.inl ⟨rfl, e⟩)
      · exact .inr (.inr ⟨h1, h2⟩)
theorem nodes_len (ks : List Nat) : (nodes ks).length = 2 * ks.length := by
  induction ks with
  | nil => rfl
  | cons c ks ih =>
    rw [nodes_cons, List.length_cons, List.length_cons, ih, List.length_cons]
    omega
theorem nodes_get {ks : List Nat} {i : Nat} {c : Nat} (h : ks[i]? = some c) {j : Nat} (hj : j < 2) : (nodes ks)[2 * i + j]? = some (c, j) := by
  induction ks generalizing i with
  | nil => simp at h
  | cons d ks ih =>
    rw [nodes_cons]
    cases i with
    | zero =>
      have e : d = c := by simpa using h
      subst e
      have : j = 0 ∨ j = 1 := by omega
      rcases this with e | e
      · subst e; rfl
      · subst e; rfl
    | succ i =>
      have h' : ks[i]? = some c := by simpa using h
      have := ih h'
      have e : 2 * (i + 1) + j = (2 * i + j) + 1 + 1 := by omega
      rw [e, List.getElem?_cons_succ, List.getElem?_cons_succ]
      exact this
theorem nodes_nodup {ks : List Nat} (h : ks.Nodup) : (nodes ks).Nodup := by
  induction ks with
  | nil => exact List.nodup_nil
  | cons c ks ih =>
    obtain ⟨h1, h2⟩ := List.nodup_cons.mp h
    rw [nodes_cons, List.nodup_cons, List.nodup_cons]
    refine ⟨fun m => ?_, fun m => h1 (mem_nodes.mp m).1, ih h2⟩
    rcases List.mem_cons.mp m with e | m
    · simp at e
    · exact h1 (mem_nodes.mp m).1
theorem not_mem_take {α : Type} {l : List α} (nd : l.Nodup) {i : Nat} {x : α} (h : l[i]? = some x) : x ∉ l.take i := by
  intro m
  obtain ⟨j, hj, e⟩ := List.mem_take_iff_getElem.mp m
  obtain ⟨hi, e2⟩ := List.getElem?_eq_some_iff.mp h
  have q := (List.pairwise_iff_getElem.mp nd) j i (by omega) hi (by omega)
  exact q (e.trans e2.symm)
/-! ### the comprehension of two clauses -/
section
variable {J J1 : It} {n n1 : Nat} {G G1 : Hp → Prop} {Y Y1 : Nat → Hp → V → Hp → Prop}
theorem dc2_in (w : Walk J1 n1 G1 Y1) {g1 : TG} {tk tv : TE} {vs1 : List Nat} {σ2 : L2.St} {H4 : Hp} {D : Addr} {Nx : Hp → Prop} (Pv : Nat → Hp → Prop) (h0 : Pv 0 H4) (hG : ∀ i H, i ≤ n1 → Pv i H → G1 H)
    (hs : ∀ i x H H', i < n1 → Pv i H → Y1 i H x H' → g1 x (wipe σ2 vs1) H' fun σ3 H5 => wipe σ3 vs1 = wipe σ2 vs1 ∧
        tk σ3 H5 fun y H6 => tv σ3 H6 fun z H7 => ∃ kvs ky b, y = .ref b ∧ H7 D = some (.dT kvs) ∧ H7 b = some (.tup (ky.map kV)) ∧ kvs.length < sizeLine ∧ Pv (i + 1) (upd H7 D (.dT (putK kvs ky z)))) (hd : ∀ H, Pv n1 H → Nx H) :
    ∃ W1 : Nat → Nat → Hp → Prop, (∃ m, W1 0 m H4) ∧ ∀ j k H, W1 j k H →
      (J1.stop j H ∧ Nx H) ∨ (J1.go j H ∧ ∃ Nx1 : Hp → Prop, (∀ H', Nx1 H' → ∃ k', k' < k ∧ W1 (j + 1) k' H') ∧ ∀ x H', J1.yld j H x H' → g1 x (wipe σ2 vs1) H' fun σ3 H5 => wipe σ3 vs1 = wipe σ2 vs1 ∧
        tk σ3 H5 fun y H6 => tv σ3 H6 fun z H7 => ∃ kvs ky b, y = .ref b ∧ H7 D = some (.dT kvs) ∧ H7 b = some (.tup (ky.map kV)) ∧ kvs.length < sizeLine ∧ Nx1 (upd H7 D (.dT (putK kvs ky z)))) := by
  refine ⟨fun i m H => m = n1 - i ∧ i ≤ n1 ∧ Pv i H, ⟨n1, by simp, Nat.zero_le _, h0⟩, ?_⟩
  rintro i m H ⟨rfl, hi, p⟩
  have q := hG i H hi p
  by_cases hlt : i < n1
  · exact .inr ⟨w.goes i H hlt q, Pv (i + 1), fun H' p' => ⟨n1 - (i + 1), by omega, rfl, hlt, p'⟩, fun x H' y => hs i x H H' hlt p (w.yields i H x H' hlt q y)⟩
  · have e : i = n1 := by omega
    subst e
    exact .inl ⟨w.stops H q, hd H p⟩
theorem dc2_it (w : Walk J n G Y) {g : TG} {wi1 : TI} {T1 : L2.St → (Hp → Prop) → It → Hp → Prop} {vs : List Nat} {σ : L2.St} {H1 : Hp} {D : Addr} {Qd : Hp → Prop} (Pv : Nat → Hp → Prop) (h0 : Pv 0 (upd H1 D (.dT []))) (hG : ∀ i H, i ≤ n → Pv i H → G H)
    (hs : ∀ i x H H', i < n → Pv i H → Y i H x H' → g x (wipe σ vs) H' fun σ2 H2 => wipe σ2 vs = wipe σ vs ∧ wi1 σ2 H2 fun J1 H4 => T1 σ2 (Pv (i + 1)) J1 H4) (hd : ∀ H, Pv n H → Qd H) :
    ∃ W : Nat → Nat → Hp → Prop, (∃ m, W 0 m (upd H1 D (.dT []))) ∧ ∀ i m H, W i m H →
      (J.stop i H ∧ Qd H) ∨ (J.go i H ∧ ∃ Nx : Hp → Prop, (∀ H', Nx H' → ∃ m', m' < m ∧ W (i + 1) m' H') ∧ ∀ x H', J.yld i H x H' → g x (wipe σ vs) H' fun σ2 H2 => wipe σ2 vs = wipe σ vs ∧ wi1 σ2 H2 fun J1 H4 => T1 σ2 Nx J1 H4) := by
  refine ⟨fun i m H => m = n - i ∧ i ≤ n ∧ Pv i H, ⟨n, by simp, Nat.zero_le _, h0⟩, ?_⟩
  rintro i m H ⟨rfl, hi, p⟩
  have q := hG i H hi p
  by_cases hlt : i < n
  · exact .inr ⟨w.goes i H hlt q, Pv (i + 1), fun H' p' => ⟨n - (i + 1), by omega, rfl, hlt, p'⟩, fun x H' y => hs i x H H' hlt p (w.yields i H x H' hlt q y)⟩
  · have e : i = n := by omega
    subst e
    exact .inl ⟨w.stops H q, hd H p⟩
end
end Av
namespace Av
open PySem PySem.Spec PyProof.Rows L2
/-! ### sides: the plain things -/
def Let (p : List Nat) : Prop := ∀ c ∈ p, 65 ≤ c ∧ c ≤ 68
def stepM (m : Nd → Nd) (x y : Nat) : Nd → Nd := fun n => if m n = m (y, 1) then m (x, 0) else m n
def adj (p : List Nat) : List (Nat × Nat) := p.zip (p.drop 1)
def marksOf (es : List (Nat × Nat)) : Nd → Nd := es.foldl (fun m e => stepM m e.1 e.2) id
def mkV (α : Nd → Addr) : Nd → V := fun n => .ref (α n)
def ndV (n : Nd) : List V := [vL n.1, .int (n.2 : Nat)]
def dN (n : Nd) : PyData := .tuple [dL n.1, .int (n.2 : Nat)]
theorem ndV_key (n : Nd) : ndV n = (keyN n).map kV := rfl
def Marked (H : Hp) (a : Addr) (ks : List Nat) (α : Nd → Addr) (m : Nd → Nd) : Prop := H a = some (.dT (dOf keyN (nodes ks) (mkV α))) ∧ ∀ n ∈ nodes ks, H (α n) = some (.tup (ndV (m n)))
theorem eqv_N (a b : Nd) : PyData.eqv (dN a) (dN b) = decide (a = b) := by
  unfold dN
  rw [PyData.eqv, PyData.eqvAll, eqv_L, PyData.eqvAll, PyData.eqvAll]
  obtain ⟨a1, a2⟩ := a
  obtain ⟨b1, b2⟩ := b
  have e : PyData.eqv (.int ((a2 : Nat) : Int)) (.int ((b2 : Nat) : Int)) = decide (a2 = b2) := by
    rw [PyData.eqv, Bool.eq_iff_iff]
    simp
    omega
  show (decide (a1 = b1) && (PyData.eqv (.int ((a2 : Nat) : Int)) (.int ((b2 : Nat) : Int)) && true)) = _
  rw [e, Bool.eq_iff_iff]
  simp
theorem dp_N {K : PySem.W.Frag} {H : Hp} {a : Addr} {n : Nd} (h : H a = some (.tup (ndV n))) : Dp K H (.ref a) (dN n) := .tup (SqT.of h) (.cons (.str _) (.cons (.int _) .nil))
theorem strOk_L {c : Nat} (h : 65 ≤ c ∧ c ≤ 68) : PyData.strOk (L c) = true := by
  unfold PyData.strOk
  simp
  omega
theorem shaped_N {n : Nd} (h : 65 ≤ n.1 ∧ n.1 ≤ 68) : SeqAt.shaped (dN n) = true := by
  have e := strOk_L h
  simp [SeqAt.shaped, dN, PyData.canLay0, PyData.canLayAll0, PyData.depth, PyData.depthAll, e]
/-- all but one stays -/
def SB (D : Addr) (H H' : Hp) : Prop := ∀ b o, b ≠ D → H b = some o → H' b = some o
theorem SB.trans {D : Addr} {H H1 H2 : Hp} (a : SB D H H1) (b : SB D H1 H2) : SB D H H2 := fun c o n h => b c o n (a c o n h)
theorem Same.sb {D : Addr} {H H1 : Hp} (a : Same H H1) : SB D H H1 := fun c o _ h => a c o h
theorem sb_upd {D : Addr} {H : Hp} {o : HO} : SB D H (upd H D o) := fun c u n h => by
  rw [upd_ne n]
  exact h
theorem sb_same {D : Addr} {H H1 H2 : Hp} (nD : H D = none) (a : Same H H1) (b : SB D H1 H2) : Same H H2 := fun c o h => b c o (ne_of_none h nD) (a c o h)
theorem mem_nodes_k {p : List Nat} {c s : Nat} (h : c ∈ p) (hs : s < 2) : (c, s) ∈ nodes (kTo p) := mem_nodes.mpr ⟨mem_kTo.mpr h, hs⟩
theorem adj_get {p : List Nat} {i c d : Nat} (h1 : p[i]? = some c) (h2 : (p.drop 1)[i]? = some d) : (adj p)[i]? = some (c, d) := by
  unfold adj
  rw [List.getElem?_zip_eq_some]
  exact ⟨h1, h2⟩
theorem adj_len (p : List Nat) : (adj p).length = min (tx p).cps.size (tx (p.drop 1)).cps.size := by
  unfold adj
  rw [List.length_zip, tx_size, tx_size]
theorem marks_snoc (es : List (Nat × Nat)) (x y : Nat) : marksOf (es ++ [(x, y)]) = stepM (marksOf es) x y := by
  simp [marksOf]
theorem marks_in {ks : List Nat} : ∀ {es : List (Nat × Nat)}, (∀ e ∈ es, e.1 ∈ ks ∧ e.2 ∈ ks) → ∀ (m : Nd → Nd), (∀ n ∈ nodes ks, m n ∈ nodes ks) → ∀ n ∈ nodes ks, (es.foldl (fun m e => stepM m e.1 e.2) m) n ∈ nodes ks
  | [], _, m, h => h
  | e :: es, he, m, h => by
    refine marks_in (es := es) (fun x hx => he x (List.mem_cons_of_mem _ hx)) _ fun n hn => ?_
    show (if m n = m (e.2, 1) then m (e.1, 0) else m n) ∈ nodes ks
    split
    · exact h _ (mem_nodes.mpr ⟨(he e List.mem_cons_self).1, Nat.zero_lt_two⟩)
    · exact h n hn
theorem adj_mem {p : List Nat} {e : Nat × Nat} (h : e ∈ adj p) : e.1 ∈ p ∧ e.2 ∈ p := by
  obtain ⟨a, b⟩ := e
  have := List.of_mem_zip h
  exact ⟨this.1, List.mem_of_mem_drop this.2⟩
theorem marksOf_in {p : List Nat} {es : List (Nat × Nat)} (h : ∀ e ∈ es, e ∈ adj p) {n : Nd} (hn : n ∈ nodes (kTo p)) : marksOf es n ∈ nodes (kTo p) :=
  marks_in (fun e he => ⟨mem_kTo.mpr (adj_mem (h e he)).1, mem_kTo.mpr (adj_mem (h e he)).2⟩) id (fun _ q => q) n hn
end Av
namespace Av
open PySem PySem.Spec PyProof.Rows L2
section
variable {P : Program} {w : World} {K : PySem.W.Frag} {mg : Str → Option Value} {base : Heap}
def spSides : Sp := fun vs H Q _ => ∃ p : List Nat, vs = [.str (tx p)] ∧ p.length ≤ 12 ∧ Let p ∧ ∀ H' q α, Same H H' → H q = none → Marked H' q (kTo p) α (marksOf (adj p)) → Q (.ref q) H'
def aJ (k : List Nd) (α : Nd → Addr) (m : Nd → Nd) (m2 : Nd) (a1 : Addr) (j : Nat) : Nd → Addr := fun n => if n ∈ k.take j ∧ m n = m2 then a1 else α n
theorem mem_take_succ {α : Type} {k : List α} {j : Nat} {n x : α} (h : k[j]? = some n) : x ∈ k.take (j + 1) ↔ x ∈ k.take j ∨ x = n := by
  rw [List.take_add_one, h, List.mem_append]
  simp
theorem aJ_yes {k : List Nd} {α : Nd → Addr} {m : Nd → Nd} {m2 : Nd} {a1 : Addr} {j : Nat} {n : Nd} (h : k[j]? = some n) (e : m n = m2) : mkV (aJ k α m m2 a1 (j + 1)) = fun x => if x = n then V.ref a1 else mkV (aJ k α m m2 a1 j) x := by
  funext x
  show V.ref (if x ∈ k.take (j + 1) ∧ m x = m2 then a1 else α x) = if x = n then V.ref a1 else V.ref (if x ∈ k.take j ∧ m x = m2 then a1 else α x)
  by_cases z : x = n
  · subst z
    rw [if_pos rfl, if_pos ⟨(mem_take_succ h).mpr (.inr rfl), e⟩]
  · rw [if_neg z]
    by_cases y : x ∈ k.take j ∧ m x = m2
    · rw [if_pos y, if_pos ⟨(mem_take_succ h).mpr (.inl y.1), y.2⟩]
    · rw [if_neg y, if_neg fun q => y ⟨((mem_take_succ h).mp q.1).resolve_right z, q.2⟩]
theorem aJ_no {k : List Nd} {α : Nd → Addr} {m : Nd → Nd} {m2 : Nd} {a1 : Addr} {j : Nat} {n : Nd} (h : k[j]? = some n) (e : ¬ m n = m2) : aJ k α m m2 a1 (j + 1) = aJ k α m m2 a1 j := by
  funext x
  show (if x ∈ k.take (j + 1) ∧ m x = m2 then a1 else α x) = if x ∈ k.take j ∧ m x = m2 then a1 else α x
  by_cases y : x ∈ k.take j ∧ m x = m2
  · rw [if_pos y, if_pos ⟨(mem_take_succ h).mpr (.inl y.1), y.2⟩]
  · rw [if_neg y, if_neg fun q => ?_]
    rcases (mem_take_succ h).mp q.1 with z | z
    · exact y ⟨z, q.2⟩
    · exact e (z ▸ q.2)
theorem aJ_zero {k : List Nd} {α : Nd → Addr} {m : Nd → Nd} {m2 : Nd} {a1 : Addr} : aJ k α m m2 a1 0 = α := by
  funext x
  show (if x ∈ k.take 0 ∧ m x = m2 then a1 else α x) = _
  rw [if_neg fun z => by simp at z]
theorem aJ_all {k : List Nd} {α : Nd → Addr} {m : Nd → Nd} {m2 : Nd} {a1 : Addr} {n : Nd} (h : n ∈ k) : aJ k α m m2 a1 k.length n = if m n = m2 then a1 else α n := by
  show (if n ∈ k.take k.length ∧ m n = m2 then a1 else α n) = _
  rw [List.take_length]
  by_cases e : m n = m2
  · rw [if_pos ⟨h, e⟩, if_pos e]
  · rw [if_neg fun z => e z.2, if_neg e]
theorem lt_of_get {α : Type} {l : List α} {i : Nat} {x : α} (h : l[i]? = some x) : i < l.length := (List.getElem?_eq_some_iff.mp h).1
theorem ok_sides {f fK : Addr} {fd fdK : FuncData} (F : Fun K "sides" "sides" sSides f fd) (FK : Fun K "kinds_of" "kinds_of" sKinds fK fdK) (bK : Binds K fdK ["pattern"] []) (gK : mg "kinds_of" = some (.ref fK))
    (mE : mg "enumerate" = none) (mZ : mg "zip" = none) (mL : mg "list" = none) : FnOk P w K mg base CX0 2 f fd ["pattern"] spSides := by
  have GK : FnOk P w K mg base CX0 1 fK fdK ["pattern"] spKinds := ok_kinds FK mE
  refine F.ok scSides (fun vs H Q E h => ?_) (fun cdv A outer s H vs Q E hr h => ?_)
  · obtain ⟨p, rfl, _⟩ := h
    rfl
  · obtain ⟨p, rfl, lp, letp, q⟩ := h
    have hu1 : (A.deeper (envOfC "sides" (defScope sSides) s.heap.objs.size f cdv)).units + 1 < cLine := by have := hr.units; omega
    refine ⟨_, pss_cons (ps_setDc2 (i := 1) (own := [("sign", 8), ("side", 9)]) (vs1 := [9]) (g := gName 8) (g1 := gName 9) (tk := tTup (tCons (tVar 8) (tCons (tVar 9) tNil))) (tv := tTup (tCons (tVar 8) (tCons (tVar 9) tNil))) (wi1 := iTup K (tTup (tCons (tC (.int 0)) (tCons (tC (.int 1)) tNil))))
          hr.units0 rfl scSides.nd rfl rfl (sw_trueD rfl rfl rfl rfl) (pi_list (pe_call GK hr (by rfl) gK FK.kp bK .nil pass0 (pa_cons (pv 0) pa_nil)))
          (blkOk_by (N := ["pattern", "found", "one", "other", "first", "second", "key", "mark", "sign", "side"]) (sc := defScope sSides) (by decide +kernel)) (by decide)
          (fun _ _ _ _ _ => pg_name (i := 8) scSides.nd rfl (Or.inl rfl))
          (fun _ _ _ _ _ => by exact pi_tup (pe_tup (pa_cons pe_int (pa_cons pe_int pa_nil))))
          (fun _ _ _ _ _ => pg_name (i := 9) scSides.nd rfl (Or.inl rfl))
          (fun _ _ _ _ _ => by exact pe_tup (pa_cons (pv 8) (pa_cons (pv 9) pa_nil)))
          (fun _ _ _ _ _ => by exact pe_tup (pa_cons (pv 8) (pa_cons (pv 9) pa_nil))))
      (pss_cons (ps_for PassesOwn.never rfl (pi_zipS (by rfl) mZ (pa_cons (pv 0) (pa_cons (pe_slice C8.sl_txt (pv 0) (po_some pe_int) po_none) pa_nil)))
          (pg_tup rfl (pgs_cons (pg_name (i := 2) scSides.nd rfl (.inl rfl)) (pgs_cons (pg_name (i := 3) scSides.nd rfl (.inl rfl)) pgs_nil)))
          (pss_cons (ps_par (i := 4) (j := 5) (by rfl) scSides.nd rfl rfl (by decide) rfl rfl (pa_cons (pe_dget hu1 (pv 1) (pe_tup (pa_cons (pv 2) (pa_cons pe_int pa_nil))) (fun _ _ => rfl)) (pa_cons (pe_dget hu1 (pv 1) (pe_tup (pa_cons (pv 3) (pa_cons pe_int pa_nil))) (fun _ _ => rfl)) pa_nil)) (by rfl))
          (pss_one (ps_for PassesOwn.never rfl (pi_list (pe_callTy (call_listItT rfl) (by rfl) mL (by decide +kernel) (pa_cons (pe_bm0 PySem.F.plainAttrs_dict PySem.F.slot_dict_items PySem.F.type_dict_items DX.mt_itemsT (pv 1)) pa_nil)))
            (pg_tup rfl (pgs_cons (pg_name (i := 6) scSides.nd rfl (.inl rfl)) (pgs_cons (pg_name (i := 7) scSides.nd rfl (.inl rfl)) pgs_nil)))
            (pss_one (ps_if (pt_cmpR (op_eqD hr.units) (pv 7) (pv 5) rfl) (pss_one (ps_dput hu1 (pv 1) (pv 6) (pv 4) rfl)) pss_nil))))))
      (pss_one (ps_ret (pv 1)))), ?_⟩
    -- kinds_of(pattern)
    refine ⟨.str (tx p), rfl, p, rfl, lp, fun H1 q1 sm1 n1 e1 => ?_⟩
    refine ⟨q1, rfl, ⟨_, SqL.of e1⟩, fun D nD => ?_⟩
    have hnd : (nodes (kTo p)).Nodup := nodes_nodup (nodup_kTo p)
    have hk := len_kTo p
    refine dc2_it walk_list (fun i H' => Same H1 H' ∧ ∃ α, H' D = some (.dT (dOf keyN ((nodes (kTo p)).take (2 * i)) (mkV α))) ∧ ∀ n ∈ (nodes (kTo p)).take (2 * i), H' (α n) = some (.tup (ndV n)))
      ⟨same_new nD, fun _ => 0, upd_same, fun n hn => by simp at hn⟩ (fun i H' _ h => h.1.seq (SqL.of e1)) ?_ ?_
    · rintro i x H2 H3 hi ⟨sm2, α, hD, hα⟩ ⟨rfl, hx⟩
      obtain ⟨c, hc, rfl⟩ : ∃ c, (kTo p)[i]? = some c ∧ vL c = x := by
        rw [List.getElem?_map] at hx
        cases e : (kTo p)[i]? with
        | none => rw [e] at hx; cases hx
        | some c => rw [e] at hx; exact ⟨c, rfl, Option.some.inj hx⟩
      have hil := lt_of_get hc
      refine ⟨rfl, Nat.le_of_lt (small1000 (by decide)), fun T nT => ⟨T, rfl, ⟨_, SqT.of upd_same⟩, ?_⟩⟩
      refine dc2_in walk_tup (fun j H' => Same H1 H' ∧ H' T = some (.tup [.int 0, .int 1]) ∧ ∃ α, H' D = some (.dT (dOf keyN ((nodes (kTo p)).take (2 * i + j)) (mkV α))) ∧ ∀ n ∈ (nodes (kTo p)).take (2 * i + j), H' (α n) = some (.tup (ndV n)))
        ⟨sn sm2 nT, upd_same, α, un nT hD, fun n hn => un nT (hα n hn)⟩ (fun j H' _ h => SqT.of h.2.1) ?_ ?_
      · rintro j x H5 H4 hj ⟨sm4, hT, α4, hD4, hα4⟩ ⟨rfl, hx⟩
        have hj2 : j < 2 := hj
        obtain rfl : .int (j : Nat) = x := by
          have : j = 0 ∨ j = 1 := by omega
          rcases this with e | e
          · subst e; exact Option.some.inj hx
          · subst e; exact Option.some.inj hx
        refine ⟨rfl, vL c, rfl, .int (j : Nat), rfl, Nat.le_of_lt (small1000 (show 2 ≤ 1000 by decide)), fun B nB => ⟨vL c, rfl, .int (j : Nat), rfl, Nat.le_of_lt (small1000 (show 2 ≤ 1000 by decide)), fun B2 nB2 => ?_⟩⟩
        have hg := nodes_get hc hj2
        have nin := not_mem_take hnd hg
        have hD5 := un (u := .tup (ndV (c, j))) nB2 (un (u := .tup (ndV (c, j))) nB hD4)
        have hB5 : upd (upd H4 B (.tup (ndV (c, j)))) B2 (.tup (ndV (c, j))) B = some (.tup ((keyN (c, j)).map kV)) := un nB2 upd_same
        refine ⟨_, keyN (c, j), B, rfl, hD5, hB5, ?_, ?_⟩
        · rw [dOf_len, List.length_take, nodes_len]
          exact small1000 (by omega)
        · have sm6 : Same H1 (upd (upd H4 B (.tup (ndV (c, j)))) B2 (.tup (ndV (c, j)))) := sn (sn sm4 nB) nB2
          have key : ∀ a o, a ≠ D → upd (upd H4 B (.tup (ndV (c, j)))) B2 (.tup (ndV (c, j))) a = some o → upd (upd (upd H4 B (.tup (ndV (c, j)))) B2 (.tup (ndV (c, j)))) D (.dT (putK (dOf keyN ((nodes (kTo p)).take (2 * i + j)) (mkV α4)) (keyN (c, j)) (.ref B2))) a = some o := fun a o n e => by
            rw [upd_ne n]
            exact e
          have e6 : ∀ {a : Addr} {l : List V}, H4 a = some (.tup l) → a ≠ D := fun {a l} e z => by
            rw [z, hD4] at e
            cases e
          refine ⟨su nD sm6, key _ _ (e6 hT) (un nB2 (un nB hT)), fun n => if n = (c, j) then B2 else α4 n, ?_, ?_⟩
          · rw [upd_same, putK_dOf_new keyN_inj nin, ← Nat.add_assoc, List.take_add_one, hg]
            congr 3
            funext n
            show (if n = (c, j) then V.ref B2 else V.ref (α4 n)) = V.ref (if n = (c, j) then B2 else α4 n)
            split <;> rfl
          · intro n hn
            rw [← Nat.add_assoc, List.take_add_one, hg] at hn
            rcases List.mem_append.mp hn with hn | hn
            · have z : (fun n => if n = (c, j) then B2 else α4 n) n = α4 n := if_neg fun z : n = (c, j) => nin (z ▸ hn)
              rw [z]
              exact key _ _ (e6 (hα4 n hn)) (un nB2 (un nB (hα4 n hn)))
            · have e : n = (c, j) := by simpa using hn
              have z : (fun n => if n = (c, j) then B2 else α4 n) n = B2 := if_pos e
              rw [z, e]
              refine key _ _ (fun z => ?_) upd_same
              rw [z] at nB2
              rw [un nB hD4] at nB2
              cases nB2
      · rintro H6 ⟨sm6, _, α6, hD6, hα6⟩
        exact ⟨sm6, α6, hD6, hα6⟩
    · rintro H2 ⟨sm2, α2, hD2, hα2⟩
      have tk : (nodes (kTo p)).take (2 * ((kTo p).map vL).length) = nodes (kTo p) := by
        rw [List.length_map, ← nodes_len]
        exact List.take_length
      rw [tk] at hD2 hα2
      refine ⟨.str (tx p), rfl, .str (tx p), rfl, 1, rfl, tx p, rfl, ?_, tx p, tx (p.drop 1), ?_, ?_⟩
      · rw [tx_len]
        exact Nat.le_of_lt (small1000 (by omega))
      · rw [show Txt.slice (tx p) (some 1) none = tx (p.drop 1) from SX.slice_from (a := p) (i := 1) (by omega)]
      refine for_it (walk_zipS (adj_len p)) (fun i σ H' => ∃ y2 y3 y4 y5 y6 y7 y8 y9, σ = [some (.str (tx p)), some (.ref D), y2, y3, y4, y5, y6, y7, y8, y9] ∧ Same H1 H' ∧ ∃ α, Marked H' D (kTo p) α (marksOf ((adj p).take i)))
        ⟨none, none, none, none, none, none, none, none, rfl, sm2, α2, hD2, hα2⟩ (fun _ _ _ _ _ => True.intro) ?_ ?_
      · rintro i x σ H3 H4 hi ⟨y2, y3, y4, y5, y6, y7, y8, y9, rfl, sm3, α, hM, hα⟩ ⟨T, c, d, rfl, nT, rfl, hc, hd⟩
        rw [tx_get] at hc hd
        have mc : c ∈ p := List.mem_of_getElem? hc
        have md : d ∈ p := List.mem_of_mem_drop (List.mem_of_getElem? hd)
        refine ⟨T, _, rfl, SqT.of upd_same, rfl, vL c, _, rfl, vL d, _, rfl, rfl, ?_⟩
        refine ⟨.ref D, rfl, vL c, rfl, Nat.le_of_lt (small1000 (show 2 ≤ 1000 by decide)), fun T1 nT1 => ⟨D, .ref (α (c, 0)), rfl, ?_, ?_⟩⟩
        · rw [← show valV (dOf keyN (nodes (kTo p)) (mkV α)) (keyN (c, 0)) = some (.ref (α (c, 0))) from valV_dOf keyN_inj (mem_nodes_k mc (by decide))]
          exact DGet.t (un nT1 (un nT hM)) upd_same
        refine ⟨.ref D, rfl, vL d, rfl, Nat.le_of_lt (small1000 (show 2 ≤ 1000 by decide)), fun T2 nT2 => ⟨D, .ref (α (d, 1)), rfl, ?_, ?_⟩⟩
        · rw [← show valV (dOf keyN (nodes (kTo p)) (mkV α)) (keyN (d, 1)) = some (.ref (α (d, 1))) from valV_dOf keyN_inj (mem_nodes_k md (by decide))]
          exact DGet.t (un nT2 (un nT1 (un nT hM))) upd_same
        refine ⟨_, _, rfl, ?_⟩
        have sm4 := sn (o := .tup [vL d, .int 1]) (sn (o := .tup [vL c, .int 0]) (sn (o := .tup [vL c, vL d]) (Same.refl H3) nT) nT1) nT2
        have nTs := sm4
        generalize upd (upd (upd H3 T (.tup [vL c, vL d])) T1 (.tup [vL c, .int 0])) T2 (.tup [vL d, .int 1]) = H4 at sm4 ⊢
        have hM4 := sm4 _ _ hM
        refine ⟨.ref D, rfl, .inr (.inr (.inl ⟨rfl, .inr ⟨_, hM4⟩⟩)), D, _, rfl, rfl, hM4, fun v nv => ?_⟩
        refine ⟨v, D, _, rfl, upd_same, un nv hM4, fun H6 l ts sm6 nl hl items => ?_⟩
        refine ⟨l, rfl, ⟨_, SqL.of hl⟩, ?_⟩
        have hM6 := sm6 _ _ (un nv hM4)
        have s36 : Same H3 H6 := (sm4.trans (same_new nv)).trans sm6
        have nDt : ∀ {H : Hp} {a : Addr} {l : List V} {kv : List (List L2.Key × V)}, H D = some (.dT kv) → H a = some (.tup l) → a ≠ D := fun {H a l kv} e1 e2 z => by
          rw [z, e1] at e2
          cases e2
        have hml : marksOf ((adj p).take (i + 1)) = stepM (marksOf ((adj p).take i)) c d := by
          rw [List.take_add_one, adj_get hc hd]
          exact marks_snoc _ _ _
        have hin : ∀ n ∈ nodes (kTo p), marksOf ((adj p).take i) n ∈ nodes (kTo p) := fun n hn => marksOf_in (fun e he => List.mem_of_mem_take he) hn
        generalize hm : marksOf ((adj p).take i) = m at hα hml hin
        have lt2 : ∀ n ∈ nodes (kTo p), 65 ≤ n.1 ∧ n.1 ≤ 68 := fun n hn => letp _ (mem_kTo.mp (mem_nodes.mp hn).1)
        have nc := mem_nodes_k mc (show 0 < 2 by decide)
        have nd := mem_nodes_k md (show 1 < 2 by decide)
        refine for_it walk_list (fun j σ H' => ∃ y6 y7, σ = [some (.str (tx p)), some (.ref D), some (vL c), some (vL d), some (.ref (α (c, 0))), some (.ref (α (d, 1))), y6, y7, y8, y9] ∧ SB D H6 H' ∧
            H' D = some (.dT (dOf keyN (nodes (kTo p)) (mkV (aJ (nodes (kTo p)) α m (m (d, 1)) (α (c, 0)) j)))))
          ⟨y6, y7, rfl, fun _ _ _ h => h, by rw [aJ_zero]; exact hM6⟩ (fun j σ H' _ ⟨_, _, _, sb, _⟩ => SqL.of (sb _ _ (fun z => by rw [z, hM6] at hl; cases hl) hl)) ?_ ?_
        · rintro j x σ H8 H7 hj ⟨y6, y7, rfl, sb, hD7⟩ ⟨rfl, hx⟩
          obtain ⟨t, ht, rfl⟩ : ∃ t, ts[j]? = some t ∧ V.ref t = x := by
            rw [List.getElem?_map] at hx
            cases e : ts[j]? with
            | none => rw [e] at hx; cases hx
            | some c => rw [e] at hx; exact ⟨c, rfl, Option.some.inj hx⟩
          obtain ⟨kv, qk, hkv, hqk, htt⟩ := items.2 j t ht
          obtain ⟨n, hn, rfl⟩ : ∃ n, (nodes (kTo p))[j]? = some n ∧ (keyN n, mkV α n) = kv := by
            rw [dOf, List.getElem?_map] at hkv
            cases e : (nodes (kTo p))[j]? with
            | none => rw [e] at hkv; cases hkv
            | some c => rw [e] at hkv; exact ⟨c, rfl, Option.some.inj hkv⟩
          have mn : n ∈ nodes (kTo p) := List.mem_of_getElem? hn
          have ht7 := sb _ _ (nDt hM6 htt) htt
          have hqk6 := sm6 _ _ hqk
          have hq7 := sb _ _ (nDt hM6 hqk6) hqk6
          have ha7 : ∀ n ∈ nodes (kTo p), H7 (α n) = some (HO.tup (ndV (m n))) := fun n hn =>
            have z := s36 _ _ (hα n hn)
            sb _ _ (nDt hM6 z) z
          refine ⟨t, _, rfl, SqT.of ht7, rfl, .ref qk, _, rfl, .ref (α n), _, rfl, rfl, ?_⟩
          refine ⟨.ref (α n), rfl, .ref (α (d, 1)), rfl, dN (m n), dN (m (d, 1)), dp_N (ha7 n mn), dp_N (ha7 _ nd), shaped_N (lt2 _ (hin n mn)), shaped_N (lt2 _ (hin _ nd)), _, rfl, ?_⟩
          rw [eqv_N]
          by_cases e : m n = m (d, 1)
          · simp only [e, decide_true, if_true]
            refine ⟨.ref (α (c, 0)), rfl, .ref D, rfl, .ref qk, rfl, D, _, rfl, DPut.t hD7 hq7 ?_, some (.ref qk), some (.ref (α n)), rfl, sb.trans sb_upd, ?_⟩
            · rw [dOf_len, nodes_len]
              exact small1000 (by omega)
            · rw [upd_same, putK_dOf keyN_inj mn, aJ_yes hn e]
          · simp only [e, decide_false, Bool.false_eq_true, if_false]
            refine ⟨some (.ref qk), some (.ref (α n)), rfl, sb, ?_⟩
            rw [aJ_no hn e]
            exact hD7
        · rintro σ H7 ⟨y6, y7, rfl, sb, hD7⟩
          have el : (ts.map V.ref).length = (nodes (kTo p)).length := by rw [List.length_map, items.1, dOf_len]
          rw [el] at hD7
          have ha7 : ∀ n ∈ nodes (kTo p), H7 (α n) = some (HO.tup (ndV (m n))) := fun n hn =>
            have z := s36 _ _ (hα n hn)
            sb _ _ (nDt hM6 z) z
          refine ⟨_, _, _, _, _, _, _, _, rfl, sb_same nD (sm3.trans s36) sb, _, hD7, fun n hn => ?_⟩
          rw [hml, aJ_all hn]
          show _ = some (HO.tup (ndV (if m n = m (d, 1) then m (c, 0) else m n)))
          by_cases e : m n = m (d, 1)
          · rw [if_pos e, if_pos e]
            exact ha7 _ nc
          · rw [if_neg e, if_neg e]
            exact ha7 n hn
      · rintro σ H3 ⟨y2, y3, y4, y5, y6, y7, y8, y9, rfl, sm3, α, hM⟩
        have el : min (tx p).cps.size (tx (p.drop 1)).cps.size = (adj p).length := (adj_len p).symm
        rw [List.take_length] at hM
        refine ⟨.ref D, rfl, q H3 D α (sm1.trans sm3) ?_ hM⟩
        cases e : H D with
        | none => rfl
        | some o => rw [sm1 _ _ e] at nD; cases nD
end
end Av
namespace Av
open PySem PySem.Spec PyProof.Rows L2
/-- any loop of a comprehension over a walk: T is what one turn asks -/
theorem it_any {J : It} {n : Nat} {G : Hp → Prop} {Y : Nat → Hp → V → Hp → Prop} (w : Walk J n G Y) {g : TG} {T : L2.St → (Hp → Prop) → Hp → Prop} {vs : List Nat} {σ : L2.St} {Hs : Hp} {Qd : Hp → Prop} (Pv : Nat → Hp → Prop) (h0 : Pv 0 Hs) (hG : ∀ i H, i ≤ n → Pv i H → G H)
    (hs : ∀ i x H H', i < n → Pv i H → Y i H x H' → g x (wipe σ vs) H' fun σ2 H2 => wipe σ2 vs = wipe σ vs ∧ T σ2 (Pv (i + 1)) H2) (hd : ∀ H, Pv n H → Qd H) :
    ∃ W : Nat → Nat → Hp → Prop, (∃ m, W 0 m Hs) ∧ ∀ i m H, W i m H →
      (J.stop i H ∧ Qd H) ∨ (J.go i H ∧ ∃ Nx : Hp → Prop, (∀ H', Nx H' → ∃ m', m' < m ∧ W (i + 1) m' H') ∧ ∀ x H', J.yld i H x H' → g x (wipe σ vs) H' fun σ2 H2 => wipe σ2 vs = wipe σ vs ∧ T σ2 Nx H2) := by
  refine ⟨fun i m H => m = n - i ∧ i ≤ n ∧ Pv i H, ⟨n, by simp, Nat.zero_le _, h0⟩, ?_⟩
  rintro i m H ⟨rfl, hi, p⟩
  have q := hG i H hi p
  by_cases hlt : i < n
  · exact .inr ⟨w.goes i H hlt q, Pv (i + 1), fun H' p' => ⟨n - (i + 1), by omega, rfl, hlt, p'⟩, fun x H' y => hs i x H H' hlt p (w.yields i H x H' hlt q y)⟩
  · have e : i = n := by omega
    subst e
    exact .inl ⟨w.stops H q, hd H p⟩
/-! ### is_free -/
def clashL (m : Nd → Nd) (t u : List Nat) : List Bool := t.flatMap fun a => u.map fun b => decide (m (a, 0) = m (b, 1))
def freeB (m : Nd → Nd) (t : List Nat) : Bool := !(clashL m t t).any id
theorem map_get {α β : Type} {f : α → β} {l : List α} {i : Nat} {y : β} (h : (l.map f)[i]? = some y) : ∃ x, l[i]? = some x ∧ f x = y := by
  rw [List.getElem?_map] at h
  cases e : l[i]? with
  | none => rw [e] at h; cases h
  | some c => rw [e] at h; exact ⟨c, rfl, Option.some.inj h⟩
theorem clash_take_succ {m : Nd → Nd} {t u : List Nat} {i c : Nat} (h : t[i]? = some c) : clashL m (t.take (i + 1)) u = clashL m (t.take i) u ++ u.map fun b => decide (m (c, 0) = m (b, 1)) := by
  unfold clashL
  rw [List.take_add_one, h, List.flatMap_append]
  simp
theorem clash_len (m : Nd → Nd) (t u : List Nat) : (clashL m t u).length = t.length * u.length := by
  unfold clashL
  induction t with
  | nil => simp
  | cons a t ih =>
    rw [List.flatMap_cons, List.length_append, ih, List.length_map, List.length_cons, Nat.add_mul]
    omega
section
variable {P : Program} {w : World} {K : PySem.W.Frag} {mg : Str → Option Value} {base : Heap}
def spFree : Sp := fun vs H Q _ => ∃ (a : Addr) (v : V) (ks : List Nat) (α : Nd → Addr) (m : Nd → Nd) (t : List Nat), vs = [.ref a, v] ∧ Marked H a ks α m ∧ (∀ n ∈ nodes ks, m n ∈ nodes ks) ∧ Let ks ∧ IsT H v t ∧ (∀ c ∈ t, c ∈ ks) ∧ t.length ≤ 12 ∧ ∀ H', Same H H' → Q (.bl (freeB m t)) H'
theorem ok_free {f : Addr} {fd : FuncData} {k : Nat} (F : Fun K "is_free" "is_free" sFree f fd) (mA : mg "any" = none) : FnOk P w K mg base CX0 (k + 1) f fd ["marks", "told"] spFree := by
  refine F.ok scFree (fun vs H Q E h => ?_) (fun cdv A outer s H vs Q E hr h => ?_)
  · obtain ⟨a, v, ks, α, m, t, rfl, _⟩ := h
    rfl
  · obtain ⟨a, v, ks, α, m, t, rfl, ⟨hM, hα⟩, hin, letk, ⟨b, rfl, ht⟩, tk, lt, q⟩ := h
    have hu1 : (A.deeper (envOfC "is_free" (defScope sFree) s.heap.objs.size f cdv)).units + 1 < cLine := by have := hr.units; omega
    refine ⟨_, pss_one (ps_ret (pe_not (pe_callB (cr_any rfl) (by rfl) mA (by decide +kernel) (pa_cons (pe_lc2 (own := [("one", 2), ("other", 3)]) (vs1 := [3]) (g := gName 2) (g1 := gName 3) (wi1 := iTup K (tVar 1))
        rfl scFree.nd (pi_tup (pv 1)) (blkOk_by (N := ["marks", "told", "one", "other"]) (sc := defScope sFree) (by decide +kernel)) (by decide)
        (fun _ _ _ _ _ => pg_name (i := 2) scFree.nd rfl (Or.inl rfl)) (fun _ _ _ _ _ => pts_nil)
        (fun _ _ _ _ _ => by exact pi_tup (pv 1))
        (fun _ _ _ _ _ => pg_name (i := 3) scFree.nd rfl (Or.inl rfl)) (fun _ _ _ _ _ => pts_nil)
        (fun _ _ _ _ _ => pe_cmpR (r := rEqD K) (op_eqD hr.units) (pe_dget hu1 (pv 0) (pe_tup (pa_cons (pv 2) (pa_cons pe_int pa_nil))) (fun _ _ => rfl)) (pe_dget hu1 (pv 0) (pe_tup (pa_cons (pv 3) (pa_cons pe_int pa_nil))) (fun _ _ => rfl)) rfl)) pa_nil)))), ?_⟩
    refine ⟨.ref b, rfl, b, rfl, ⟨_, SqT.of ht⟩, fun D nD => ?_⟩
    refine it_any walk_tup (fun i H' => Same H H' ∧ H' D = some (.lst ((clashL m (t.take i) t).map V.bl))) ⟨same_new nD, upd_same⟩ (fun i H' _ h => SqT.of (h.1 _ _ ht)) ?_ ?_
    · rintro i x H2 H1 hi ⟨sm, hD⟩ ⟨rfl, hx⟩
      obtain ⟨c, hc, rfl⟩ := map_get hx
      refine ⟨rfl, ?_⟩
      refine ⟨.ref b, rfl, b, rfl, ⟨_, SqT.of (sm _ _ ht)⟩, ?_⟩
      have mc : (c, 0) ∈ nodes ks := mem_nodes.mpr ⟨tk c (List.mem_of_getElem? hc), Nat.zero_lt_two⟩
      refine it_any walk_tup (fun j H' => Same H H' ∧ H' D = some (.lst ((clashL m (t.take i) t ++ (t.take j).map fun b => decide (m (c, 0) = m (b, 1))).map V.bl))) ⟨sm, by rw [List.take_zero, List.map_nil, List.append_nil]; exact hD⟩ (fun i H' _ h => SqT.of (h.1 _ _ ht)) ?_ ?_
      · rintro j x H3 H2 hj ⟨sm2, hD2⟩ ⟨rfl, hx⟩
        obtain ⟨d, hd, rfl⟩ := map_get hx
        have md : (d, 1) ∈ nodes ks := mem_nodes.mpr ⟨tk d (List.mem_of_getElem? hd), Nat.one_lt_two⟩
        refine ⟨rfl, ?_⟩
        refine ⟨.ref a, rfl, vL c, rfl, Nat.le_of_lt (small1000 (show 2 ≤ 1000 by decide)), fun T1 nT1 => ⟨a, .ref (α (c, 0)), rfl, ?_, ?_⟩⟩
        · rw [← show valV (dOf keyN (nodes ks) (mkV α)) (keyN (c, 0)) = some (.ref (α (c, 0))) from valV_dOf keyN_inj mc]
          exact DGet.t (un nT1 (sm2 _ _ hM)) upd_same
        refine ⟨.ref a, rfl, vL d, rfl, Nat.le_of_lt (small1000 (show 2 ≤ 1000 by decide)), fun T2 nT2 => ⟨a, .ref (α (d, 1)), rfl, ?_, ?_⟩⟩
        · rw [← show valV (dOf keyN (nodes ks) (mkV α)) (keyN (d, 1)) = some (.ref (α (d, 1))) from valV_dOf keyN_inj md]
          exact DGet.t (un nT2 (un nT1 (sm2 _ _ hM))) upd_same
        refine ⟨dN (m (c, 0)), dN (m (d, 1)), dp_N (un nT2 (un nT1 (sm2 _ _ (hα _ mc)))), dp_N (un nT2 (un nT1 (sm2 _ _ (hα _ md)))), shaped_N (letk _ (mem_nodes.mp (hin _ mc)).1), shaped_N (letk _ (mem_nodes.mp (hin _ md)).1), _, un nT2 (un nT1 hD2), ?_, ?_, ?_⟩
        · rw [List.length_map, List.length_append, clash_len, List.length_map, List.length_take, List.length_take]
          have h1 : min i t.length * t.length ≤ 12 * 12 := Nat.mul_le_mul (by omega) lt
          exact small1000 (by omega)
        · exact su nD (sn (sn sm2 nT1) nT2)
        · rw [upd_same, eqv_N, List.take_add_one, hd]
          simp
      · rintro H4 ⟨sm4, hD4⟩
        rw [List.length_map, List.take_length, ← clash_take_succ hc] at hD4
        exact ⟨sm4, hD4⟩
    · rintro H1 ⟨sm, hD⟩
      rw [List.length_map, List.take_length] at hD
      exact ⟨D, _, rfl, SqL.of hD, _, rfl, q H1 sm⟩
end
end Av
namespace Av
open PySem PySem.Spec PyProof.Rows L2
/-! ### paired lists -/
theorem paired_fwd {α β : Type} {F : α → β → Prop} : ∀ {xs : List α} {ys : List β}, Paired F xs ys → ∀ {j : Nat} {x : α}, xs[j]? = some x → ∃ y, ys[j]? = some y ∧ F x y
  | _, _, .nil, j, x, e => by simp at e
  | _, _, .cons h t, 0, x, e => by
    have := Option.some.inj e
    subst this
    exact ⟨_, rfl, h⟩
  | _, _, .cons h t, j + 1, x, e => paired_fwd t e
theorem paired_app {α β : Type} {F : α → β → Prop} : ∀ {xs xs2 : List α} {ys ys2 : List β}, Paired F xs ys → Paired F xs2 ys2 → Paired F (xs ++ xs2) (ys ++ ys2)
  | _, _, _, _, .nil, h => h
  | _, _, _, _, .cons a t, h => .cons a (paired_app t h)
theorem paired_snoc {α β : Type} {F : α → β → Prop} {xs : List α} {ys : List β} {x : α} {y : β} (h : Paired F xs ys) (a : F x y) : Paired F (xs ++ [x]) (ys ++ [y]) := paired_app h (.cons a .nil)
theorem paired_drop1 {α β : Type} {F : α → β → Prop} : ∀ {xs : List α} {ys : List β}, Paired F xs ys → Paired F (xs.drop 1) (ys.drop 1)
  | _, _, .nil => .nil
  | _, _, .cons _ t => t
theorem paired_map {α β : Type} {F : α → β → Prop} {f : β → α} (h : ∀ b, F (f b) b) : ∀ ys : List β, Paired F (ys.map f) ys
  | [] => .nil
  | y :: ys => .cons (h y) (paired_map h ys)
theorem paired_eq_map {α β : Type} {f : β → α} : ∀ {xs : List α} {ys : List β}, Paired (fun x y => x = f y) xs ys → xs = ys.map f
  | _, _, .nil => rfl
  | _, _, .cons h t => by rw [List.map_cons, h, paired_eq_map t]
theorem cut1' (xs : List V) : cutV xs (some 1) none = xs.drop 1 := by
  unfold cutV
  rw [show HT.sIx xs.length 0 (some 1) = min 1 xs.length from HT.sIx_nat xs.length 0 1, HT.sIx_none]
  cases xs with
  | nil => rfl
  | cons x r =>
    rw [show min 1 (x :: r).length = 1 by
      rw [List.length_cons]
      omega]
    show (List.take ((x :: r).length - 1) r) = r
    rw [List.length_cons, Nat.add_sub_cancel, List.take_length]
/-! ### subsets -/
def grow (f : List (List Nat)) (c : Nat) : List (List Nat) := f ++ f.map (· ++ [c])
def subAll (ks : List Nat) : List (List Nat) := ks.foldl grow [[]]
def subL (ks : List Nat) : List (List Nat) := (subAll ks).drop 1
theorem subAll_snoc (ks : List Nat) (c : Nat) : subAll (ks ++ [c]) = grow (subAll ks) c := by simp [subAll]
theorem subAll_take {ks : List Nat} {i c : Nat} (h : ks[i]? = some c) : subAll (ks.take (i + 1)) = grow (subAll (ks.take i)) c := by
  rw [List.take_add_one, h]
  exact subAll_snoc _ _
theorem grow_len (f : List (List Nat)) (c : Nat) : (grow f c).length = 2 * f.length := by
  unfold grow
  rw [List.length_append, List.length_map]
  omega
theorem foldG_len : ∀ (ks : List Nat) (f : List (List Nat)), (ks.foldl grow f).length = 2 ^ ks.length * f.length
  | [], f => by simp
  | c :: ks, f => by
    rw [List.foldl_cons, foldG_len ks, grow_len, List.length_cons, Nat.pow_succ, Nat.mul_assoc]
theorem subAll_len (ks : List Nat) : (subAll ks).length = 2 ^ ks.length := by
  unfold subAll
  rw [foldG_len]
  simp
theorem subAll_small {ks : List Nat} (h : ks.length ≤ 4) : (subAll ks).length ≤ 16 := by
  rw [subAll_len]
  have := Nat.pow_le_pow_right (show 0 < 2 by decide) h
  simpa using this
theorem subAll_each : ∀ {ks : List Nat} {f : List (List Nat)} {n : Nat}, (∀ t ∈ f, t.length ≤ n) → ∀ t ∈ ks.foldl grow f, t.length ≤ n + ks.length
  | [], f, n, h, t, ht => h t ht
  | c :: ks, f, n, h, t, ht => by
    have := subAll_each (ks := ks) (f := grow f c) (n := n + 1) (fun u hu => by
      rcases List.mem_append.mp hu with hu | hu
      · exact Nat.le_succ_of_le (h u hu)
      · obtain ⟨v, hv, rfl⟩ := List.mem_map.mp hu
        rw [List.length_append]
        exact Nat.add_le_add_right (h v hv) 1) t ht
    rw [List.length_cons]
    omega
theorem subAll_item {ks t : List Nat} (h : t ∈ subAll ks) : t.length ≤ ks.length := by
  have := subAll_each (f := [[]]) (n := 0) (fun t ht => by
    have : t = [] := by simpa using ht
    rw [this]
    exact Nat.le_refl 0) t h
  omega
section
variable {P : Program} {w : World} {K : PySem.W.Frag} {mg : Str → Option Value} {base : Heap}
theorem paired_dL {K : PySem.W.Frag} {H : Hp} (ks : List Nat) : Paired (fun v b => v = vL b ∧ Dp K H v (dL b)) (ks.map vL) ks := paired_map (fun b => ⟨rfl, .str _⟩) ks
theorem alike_allL (ks : List Nat) : PySem.W.AllAlike (ks.map dL) := fun d hd e he => by
  obtain ⟨a, _, rfl⟩ := List.mem_map.mp hd
  obtain ⟨b, _, rfl⟩ := List.mem_map.mp he
  simp [PySem.W.alike]
theorem sortable_L (ks : List Nat) : PySem.W.Sortable (ks.map dL) := .inr fun d hd => by
  obtain ⟨a, _, rfl⟩ := List.mem_map.mp hd
  exact ⟨fun z => (by cases z), fun xs z => by cases z⟩
def spSubs : Sp := fun vs H Q _ => ∃ (a : Addr) (ks : List Nat), vs = [.ref a] ∧ H a = some (.lst (ks.map vL)) ∧ ks.length ≤ 4 ∧
  ∀ H' q xs, Same H H' → H q = none → H' q = some (.lst xs) → Paired (IsT H') xs (subL (msort ltN ks)) → Q (.ref q) H'
theorem ok_subs {f : Addr} {fd : FuncData} {k : Nat} (F : Fun K "subsets" "subsets" sSubs f fd) (mS : mg "sorted" = none) : FnOk P w K mg base CX0 (k + 1) f fd ["kinds"] spSubs := by
  refine F.ok scSubs (fun vs H Q E h => ?_) (fun cdv A outer s H vs Q E hr h => ?_)
  · obtain ⟨a, ks, rfl, _⟩ := h
    rfl
  · obtain ⟨a, ks, rfl, ha, lk, q⟩ := h
    refine ⟨_, pss_cons (ps_set (i := 1) scSubs.nd rfl (.inl rfl) (pe_lst (pa_cons (pe_tup pa_nil) pa_nil)))
      (pss_cons (ps_for PassesOwn.never rfl (pi_list (pe_callB (cr_sortedD hr.units) (by rfl) mS (by decide +kernel) (pa_cons (pv 0) pa_nil))) (pg_name (i := 2) scSubs.nd rfl (.inr rfl))
        (pss_one (ps_set (i := 1) scSubs.nd rfl (.inl rfl) (pe_op op_cat (pv 1)
          (pe_lc (own := [("told", 3)]) (g := gName 3) (te := tTup (StX.tStar K (tVar 3) (tCons (tVar 2) tNil))) rfl scSubs.nd (pi_list (pv 1)) (blkOk_by (N := ["kinds", "found", "sign", "told"]) (sc := defScope sSubs) (by decide +kernel))
            (fun _ _ _ _ _ => pg_name (i := 3) scSubs.nd rfl (Or.inl rfl)) (fun _ _ _ _ _ => pts_nil)
            (fun _ _ _ _ _ => by exact pe_tup (StX.pa_star (pv 3) (pa_cons (pv 2) pa_nil))))))))
      (pss_one (ps_ret (pe_slice sl_list (pv 1) (po_some pe_int) po_none)))), ?_⟩
    refine ⟨Nat.zero_le _, fun T nT => ⟨Nat.le_of_lt (small1000 (show 1 ≤ 1000 by decide)), fun l nl => ?_⟩⟩
    have lm : (msort ltN ks).length ≤ 4 := by rw [(msort_perm ks).length_eq]; exact lk
    have ha2 := un (u := .lst [.ref T]) nl (un (u := .tup []) nT ha)
    refine ⟨.ref a, rfl, a, ks.map vL, Nat, ks, dL, fun v b => v = vL b, rfl, SqL.of ha2, paired_dL ks, alike_allL ks, sortable_L ks, fun b _ => by simp [PyData.depth], fun ys o hy no => ?_⟩
    rw [sortL] at hy
    have ey := paired_eq_map hy
    subst ey
    generalize hL : msort ltN ks = L at lm q no ⊢
    have sm0 : Same H (upd (upd (upd H T (.tup [])) l (.lst [.ref T])) o (.lst (L.map vL))) := sn (sn (same_new nT) nl) no
    have eT : (upd (upd (upd H T (.tup [])) l (.lst [.ref T])) o (.lst (L.map vL))) T = some (.tup []) := un no (un nl upd_same)
    have el : (upd (upd (upd H T (.tup [])) l (.lst [.ref T])) o (.lst (L.map vL))) l = some (.lst [.ref T]) := un no upd_same
    have eo : (upd (upd (upd H T (.tup [])) l (.lst [.ref T])) o (.lst (L.map vL))) o = some (.lst (L.map vL)) := upd_same
    generalize upd (upd (upd H T (.tup [])) l (.lst [.ref T])) o (.lst (L.map vL)) = H1 at sm0 eT el eo ⊢
    refine ⟨o, rfl, ⟨_, SqL.of eo⟩, ?_⟩
    refine for_it walk_list (fun i σ H' => ∃ l xs y2 y3, σ = [some (.ref a), some (.ref l), y2, y3] ∧ Same H1 H' ∧ H' l = some (.lst xs) ∧ Paired (IsT H') xs (subAll (L.take i)))
      ⟨l, _, none, none, rfl, fun _ _ h => h, el, .cons ⟨T, rfl, eT⟩ .nil⟩ (fun i σ H' _ ⟨_, _, _, _, _, sm, _⟩ => SqL.of (sm _ _ eo)) ?_ ?_
    · rintro i x σ H3 H2 hi ⟨l2, xs, y2, y3, rfl, sm, hl, pr⟩ ⟨rfl, hx⟩
      obtain ⟨c, hc, rfl⟩ := map_get hx
      have lx : xs.length ≤ 16 := by
        rw [Paired.length pr]
        exact subAll_small (by rw [List.length_take]; omega)
      refine ⟨.ref l2, rfl, .ref l2, rfl, l2, rfl, ⟨_, SqL.of hl⟩, fun D nD => ?_⟩
      refine lc_it walk_list (fun j H' => Same H2 H' ∧ ∃ zs, H' D = some (.lst zs) ∧ Paired (IsT H') zs (((subAll (L.take i)).take j).map (· ++ [c]))) ⟨same_new nD, [], upd_same, .nil⟩ (fun i H' _ h => SqL.of (h.1 _ _ hl)) ?_ ?_
      · rintro j x H4 H3 hj ⟨sm2, zs, hz, pz⟩ ⟨rfl, hx⟩
        obtain ⟨t, ht, b, rfl, hb⟩ := paired_fwd pr hx
        refine ⟨rfl, ?_⟩
        have lt2 : t.length ≤ 4 := by
          have h1 := subAll_item (List.mem_of_getElem? ht)
          rw [List.length_take] at h1
          omega
        refine ⟨.ref b, rfl, b, t.map vL, rfl, .inl (SqT.of (sm2 _ _ hb)), vL c, rfl, ?_, fun T2 nT2 => ?_⟩
        · rw [List.length_append, List.length_map]
          exact Nat.le_of_lt (small1000 (show t.length + 1 ≤ 1000 by omega))
        have lz : zs.length ≤ 16 := by
          rw [Paired.length pz, List.length_map, List.length_take, ← Paired.length pr]
          omega
        refine ⟨zs, un nT2 hz, small1000 (by omega), su nD (sn sm2 nT2), _, upd_same, ?_⟩
        rw [List.take_add_one, ht, List.map_append]
        have k1 : TK H3 (upd (upd H3 T2 (.tup (t.map vL ++ [vL c]))) D (.lst (zs ++ [.ref T2]))) := (tk_new nT2).trans (tk_upd (un nT2 hz) fun xs z => by cases z)
        refine paired_snoc (isTs_keep k1 pz) ⟨T2, rfl, ?_⟩
        rw [upd_ne (fun z => by rw [z, hz] at nT2; cases nT2), upd_same, List.map_append]
        rfl
      · rintro H3 ⟨sm2, zs, hz, pz⟩
        rw [show xs.length = (subAll (L.take i)).length from Paired.length pr, List.take_length] at pz
        have lz : zs.length ≤ 16 := by
          rw [Paired.length pz, List.length_map, ← Paired.length pr]
          exact lx
        refine ⟨l2, D, xs, zs, rfl, rfl, sm2 _ _ hl, hz, Nat.le_of_lt (small1000 (by omega)), fun l3 nl3 => ⟨l3, _, _, _, rfl, sn (sm.trans sm2) nl3, upd_same, ?_⟩⟩
        rw [subAll_take hc]
        exact isTs_keep (tk_same (same_new nl3)) (paired_app (isTs_keep (tk_same sm2) pr) pz)
    · rintro σ H3 ⟨l2, xs, y2, y3, rfl, sm, hl, pr⟩
      rw [List.length_map, List.take_length] at pr
      refine ⟨.ref l2, rfl, 1, rfl, l2, xs, rfl, SqL.of hl, fun p np => q _ p _ (sn (sm0.trans sm) np) ?_ upd_same ?_⟩
      · cases e : H p with
        | none => rfl
        | some u => rw [sm _ _ (sm0 _ _ e)] at np; cases np
      · rw [cut1']
        exact isTs_keep (tk_same (same_new np)) (paired_drop1 pr)
end
end Av
namespace Av
open PySem PySem.Spec PyProof.Rows L2
theorem nodup_sub_len {α : Type} [DecidableEq α] : ∀ {l m : List α}, l.Nodup → (∀ x ∈ l, x ∈ m) → l.length ≤ m.length
  | [], m, _, _ => Nat.zero_le _
  | x :: l, m, nd, h => by
    obtain ⟨h1, h2⟩ := List.nodup_cons.mp nd
    have mx := h x List.mem_cons_self
    have ih := nodup_sub_len (l := l) (m := m.erase x) h2 fun y hy => (List.mem_erase_of_ne (fun e : y = x => h1 (e ▸ hy))).mpr (h y (List.mem_cons_of_mem _ hy))
    rw [List.length_erase_of_mem mx] at ih
    have := List.length_pos_of_mem mx
    rw [List.length_cons]
    omega
theorem kTo_four {p : List Nat} (h : Let p) : (kTo p).length ≤ 4 :=
  nodup_sub_len (m := [65, 66, 67, 68]) (nodup_kTo p) fun x hx => by
    have := h x (mem_kTo.mp hx)
    have : x = 65 ∨ x = 66 ∨ x = 67 ∨ x = 68 := by omega
    rcases this with e | e | e | e <;> simp [e]
theorem let_kTo {p : List Nat} (h : Let p) : Let (kTo p) := fun c hc => h c (mem_kTo.mp hc)
theorem foldG_sub {S : List Nat} : ∀ {ks : List Nat} {f : List (List Nat)}, (∀ c ∈ ks, c ∈ S) → (∀ t ∈ f, ∀ c ∈ t, c ∈ S) → ∀ t ∈ ks.foldl grow f, ∀ c ∈ t, c ∈ S
  | [], f, _, h => h
  | d :: ks, f, hk, h => foldG_sub (ks := ks) (f := grow f d) (fun c hc => hk c (List.mem_cons_of_mem _ hc)) fun t ht c hc => by
    rcases List.mem_append.mp ht with ht | ht
    · exact h t ht c hc
    · obtain ⟨v, hv, rfl⟩ := List.mem_map.mp ht
      rcases List.mem_append.mp hc with hc | hc
      · exact h v hv c hc
      · rw [List.mem_singleton.mp hc]
        exact hk d List.mem_cons_self
theorem subL_sub {ks t : List Nat} (h : t ∈ subL ks) : ∀ c ∈ t, c ∈ ks :=
  foldG_sub (f := [[]]) (fun _ q => q) (fun t ht c hc => by
    rw [List.mem_singleton.mp ht] at hc
    cases hc) t (List.mem_of_mem_drop h)
theorem foldG_ne : ∀ {ks : List Nat} {r : List (List Nat)}, (∀ t ∈ r, t ≠ []) → ∃ r2, ks.foldl grow ([] :: r) = [] :: r2 ∧ ∀ t ∈ r2, t ≠ []
  | [], r, h => ⟨r, rfl, h⟩
  | d :: ks, r, h => foldG_ne (ks := ks) (r := r ++ ([] :: r).map (· ++ [d])) fun t ht => by
    rcases List.mem_append.mp ht with ht | ht
    · exact h t ht
    · obtain ⟨v, hv, rfl⟩ := List.mem_map.mp ht
      simp
theorem subL_ne {ks t : List Nat} (h : t ∈ subL ks) : t ≠ [] := by
  obtain ⟨r, e, hr⟩ := foldG_ne (ks := ks) (r := []) fun t ht => by cases ht
  unfold subL subAll at h
  rw [e] at h
  exact hr t h
def freeOf (p : List Nat) : List (List Nat) := msort ltT ((subL (msort ltN (kTo p))).filter (freeB (marksOf (adj p))))
theorem mem_freeOf {p t : List Nat} (h : t ∈ freeOf p) : t ∈ subL (msort ltN (kTo p)) ∧ freeB (marksOf (adj p)) t = true := List.mem_filter.mp ((msort_perm _).mem_iff.mp h)
theorem freeOf_sub {p t : List Nat} (h : t ∈ freeOf p) : ∀ c ∈ t, c ∈ p := fun c hc => mem_kTo.mp ((msort_perm _).mem_iff.mp (subL_sub (mem_freeOf h).1 c hc))
theorem freeOf_ne {p t : List Nat} (h : t ∈ freeOf p) : t ≠ [] := subL_ne (mem_freeOf h).1
theorem freeOf_len {p : List Nat} (h : Let p) : (freeOf p).length ≤ 16 := by
  unfold freeOf
  rw [(msort_perm _).length_eq]
  refine Nat.le_trans (List.length_filter_le _ _) ?_
  unfold subL
  rw [List.length_drop]
  have h1 : (msort ltN (kTo p)).length ≤ 4 := by rw [(msort_perm _).length_eq]; exact kTo_four h
  have := subAll_small h1
  omega
theorem item_len {p t : List Nat} (h : Let p) (ht : t ∈ subL (msort ltN (kTo p))) : t.length ≤ 4 := by
  have h1 : (msort ltN (kTo p)).length ≤ 4 := by rw [(msort_perm _).length_eq]; exact kTo_four h
  have := subAll_item (List.mem_of_mem_drop ht)
  omega
theorem alike_allT (ks : List (List Nat)) : PySem.W.AllAlike (ks.map dT) := fun d hd e he => by
  obtain ⟨a, _, rfl⟩ := List.mem_map.mp hd
  obtain ⟨b, _, rfl⟩ := List.mem_map.mp he
  exact alike_T a b
theorem sortable_T {ks : List (List Nat)} (h : ∀ t ∈ ks, t ≠ []) : PySem.W.Sortable (ks.map dT) := .inl fun d hd => by
  obtain ⟨a, ha, rfl⟩ := List.mem_map.mp hd
  cases a with
  | nil => exact absurd rfl (h _ ha)
  | cons x r => exact ⟨dL x, r.map dL, rfl⟩
theorem paired_and {α β : Type} {F G : α → β → Prop} : ∀ {xs : List α} {ys : List β}, Paired F xs ys → (∀ x y, F x y → G x y) → Paired G xs ys
  | _, _, .nil, _ => .nil
  | _, _, .cons h t, q => .cons (q _ _ h) (paired_and t q)
section
variable {P : Program} {w : World} {K : PySem.W.Frag} {mg : Str → Option Value} {base : Heap}
def spFreeOf : Sp := fun vs H Q _ => ∃ p : List Nat, vs = [.str (tx p)] ∧ p.length ≤ 12 ∧ Let p ∧ ∀ H' q xs, Same H H' → H q = none → H' q = some (.lst xs) → Paired (IsT H') xs (freeOf p) → Q (.ref q) H'
theorem ok_freeOf {f fK fS fB fI : Addr} {fd fdK fdS fdB fdI : FuncData} (F : Fun K "free_of" "free_of" sFreeOf f fd)
    (FK : Fun K "kinds_of" "kinds_of" sKinds fK fdK) (bK : Binds K fdK ["pattern"] []) (gK : mg "kinds_of" = some (.ref fK))
    (FS : Fun K "sides" "sides" sSides fS fdS) (bS : Binds K fdS ["pattern"] []) (gS : mg "sides" = some (.ref fS))
    (FB : Fun K "subsets" "subsets" sSubs fB fdB) (bB : Binds K fdB ["kinds"] []) (gB : mg "subsets" = some (.ref fB))
    (FI : Fun K "is_free" "is_free" sFree fI fdI) (bI : Binds K fdI ["marks", "told"] []) (gI : mg "is_free" = some (.ref fI))
    (mE : mg "enumerate" = none) (mZ : mg "zip" = none) (mL : mg "list" = none) (mA : mg "any" = none) (mS : mg "sorted" = none) : FnOk P w K mg base CX0 3 f fd ["pattern"] spFreeOf := by
  have GK : FnOk P w K mg base CX0 1 fK fdK ["pattern"] spKinds := ok_kinds FK mE
  have GS : FnOk P w K mg base CX0 2 fS fdS ["pattern"] spSides := ok_sides FS FK bK gK mE mZ mL
  have GB : FnOk P w K mg base CX0 1 fB fdB ["kinds"] spSubs := ok_subs FB mS
  have GI : FnOk P w K mg base CX0 1 fI fdI ["marks", "told"] spFree := ok_free FI mA
  refine F.ok scFreeOf (fun vs H Q E h => ?_) (fun cdv A outer s H vs Q E hr h => ?_)
  · obtain ⟨p, rfl, _⟩ := h
    rfl
  · obtain ⟨p, rfl, lp, letp, q⟩ := h
    have hr1 := hr.mono (show 1 ≤ 2 by decide)
    refine ⟨_, pss_cons (ps_set (i := 1) scFreeOf.nd rfl (.inr rfl) (pe_call GS hr (by rfl) gS FS.kp bS .nil pass0 (pa_cons (pv 0) pa_nil)))
      (pss_one (ps_ret (pe_callB (cr_sortedD hr.units) (by rfl) mS (by decide +kernel) (pa_cons
        (pe_lc (own := [("told", 2)]) (g := gName 2) rfl scFreeOf.nd (pi_list (pe_call GB hr1 (by rfl) gB FB.kp bB .nil pass0 (pa_cons (pe_call GK hr1 (by rfl) gK FK.kp bK .nil pass0 (pa_cons (pv 0) pa_nil)) pa_nil)))
          (blkOk_by (N := ["pattern", "marks", "told"]) (sc := defScope sFreeOf) (by decide +kernel))
          (fun _ _ _ _ _ => pg_name (i := 2) scFreeOf.nd rfl (Or.inl rfl))
          (fun _ _ _ _ _ => pts_one (pt_val (pe_call GI hr1 (by rfl) gI FI.kp bI .nil pass0 (pa_cons (pv 1) (pa_cons (pv 2) pa_nil)))))
          (fun _ _ _ _ _ => pv 2)) pa_nil)))), ?_⟩
    refine ⟨.str (tx p), rfl, p, rfl, lp, letp, fun H1 a α sm1 n1 hM => ?_⟩
    refine ⟨.str (tx p), rfl, p, rfl, lp, fun H2 b sm2 n2 hb => ?_⟩
    refine ⟨b, kTo p, rfl, hb, kTo_four letp, fun H3 c xs sm3 n3 hc pr => ?_⟩
    refine ⟨c, rfl, ⟨_, SqL.of hc⟩, fun D nD => ?_⟩
    have lS : (subL (msort ltN (kTo p))).length ≤ 16 := by
      unfold subL
      rw [List.length_drop]
      have h1 : (msort ltN (kTo p)).length ≤ 4 := by rw [(msort_perm _).length_eq]; exact kTo_four letp
      have := subAll_small h1
      omega
    refine lc_it walk_list (fun i H' => Same H3 H' ∧ ∃ zs, H' D = some (.lst zs) ∧ Paired (IsT H') zs (((subL (msort ltN (kTo p))).take i).filter (freeB (marksOf (adj p))))) ⟨same_new nD, [], upd_same, .nil⟩ (fun i H' _ h => SqL.of (h.1 _ _ hc)) ?_ ?_
    · rintro i x H5 H4 hi ⟨sm, zs, hz, pz⟩ ⟨rfl, hx⟩
      obtain ⟨t, ht, it⟩ := paired_fwd pr hx
      have mt := List.mem_of_getElem? ht
      refine ⟨rfl, ?_⟩
      have s4 := (sm2.trans sm3).trans sm
      refine ⟨.ref a, rfl, x, rfl, a, x, kTo p, α, marksOf (adj p), t, rfl, ⟨s4 _ _ hM.1, fun n hn => s4 _ _ (hM.2 n hn)⟩, fun n hn => marksOf_in (fun e he => he) hn, let_kTo letp, it.keep (tk_same sm),
        fun c hc => (msort_perm _).mem_iff.mp (subL_sub mt c hc), Nat.le_trans (item_len letp mt) (by decide), fun H6 sm6 => ?_⟩
      refine ⟨_, rfl, ?_⟩
      rw [List.take_add_one, ht, List.filter_append]
      have pz6 := isTs_keep (tk_same sm6) pz
      by_cases e : freeB (marksOf (adj p)) t = true
      · simp only [e, if_true]
        refine ⟨x, rfl, zs, sm6 _ _ hz, ?_, su nD (sm.trans sm6), _, upd_same, ?_⟩
        · rw [Paired.length pz]
          have := List.length_filter_le (freeB (marksOf (adj p))) ((subL (msort ltN (kTo p))).take i)
          rw [List.length_take] at this
          exact small1000 (by omega)
        · have k1 : TK H6 (upd H6 D (.lst (zs ++ [x]))) := tk_upd (sm6 _ _ hz) fun xs z => by cases z
          rw [show (some t).toList.filter (freeB (marksOf (adj p))) = [t] by simp [e]]
          exact paired_snoc (isTs_keep k1 pz6) ((it.keep (tk_same (sm.trans sm6))).keep k1)
      · have e' : freeB (marksOf (adj p)) t = false := by simpa using e
        simp only [e', Bool.false_eq_true, if_false]
        rw [show (some t).toList.filter (freeB (marksOf (adj p))) = [] by simp [e'], List.append_nil]
        exact ⟨sm.trans sm6, zs, sm6 _ _ hz, pz6⟩
    · rintro H4 ⟨sm, zs, hz, pz⟩
      rw [Paired.length pr, List.take_length] at pz
      refine ⟨D, zs, List Nat, _, dT, IsT H4, rfl, SqL.of hz, paired_and pz fun v b h => ⟨h, h.dp⟩, alike_allT _, sortable_T fun t ht => subL_ne (List.mem_filter.mp ht).1, fun b _ => by rw [depth_T]; decide, fun ys o hy no => ?_⟩
      rw [sortT] at hy
      refine q _ o ys (sn (((sm1.trans sm2).trans sm3).trans sm) no) ?_ upd_same (isTs_keep (tk_same (same_new no)) hy)
      cases e : H o with
      | none => rfl
      | some u => rw [sm _ _ (sm3 _ _ (sm2 _ _ (sm1 _ _ e)))] at no; cases no
def spSets : Sp := fun vs H Q _ => ∃ p : List Nat, vs = [.str (tx p)] ∧ Pat p ∧ ∀ H' q xs, Same H H' → H q = none → H' q = some (.lst xs) → Paired (IsT H') xs (freeOf p) → Q (.ref q) H'
theorem ok_sets {f fN fO : Addr} {fd fdN fdO : FuncData} (F : Fun K "free_sets" "free_sets" sSets f fd)
    (FN : Fun K "need_pattern" "need_pattern" sNeed fN fdN) (bN : Binds K fdN ["value"] []) (gN : mg "need_pattern" = some (.ref fN)) (GN : FnOk P w K mg base CX0 1 fN fdN ["value"] spNeed)
    (FO : Fun K "free_of" "free_of" sFreeOf fO fdO) (bO : Binds K fdO ["pattern"] []) (gO : mg "free_of" = some (.ref fO)) (GO : FnOk P w K mg base CX0 3 fO fdO ["pattern"] spFreeOf) : FnOk P w K mg base CX0 4 f fd ["pattern"] spSets := by
  refine F.ok scSets (fun vs H Q E h => ?_) (fun cdv A outer s H vs Q E hr h => ?_)
  · obtain ⟨p, rfl, _⟩ := h
    rfl
  · obtain ⟨p, rfl, hp, q⟩ := h
    refine ⟨_, pss_cons (ps_expr (pe_call GN (hr.mono (show 1 ≤ 3 by decide)) (by rfl) gN FN.kp bN .nil pass0 (pa_cons (pv 0) pa_nil)))
      (pss_one (ps_ret (pe_call GO hr (by rfl) gO FO.kp bO .nil pass0 (pa_cons (pv 0) pa_nil)))), ?_⟩
    refine ⟨.str (tx p), rfl, p, rfl, hp, fun H1 sm1 => ?_⟩
    refine ⟨.str (tx p), rfl, p, rfl, by have := hp.2.1; omega, hp.2.2, fun H2 a xs sm2 n2 ha pr => q H2 a xs (sm1.trans sm2) ?_ ha pr⟩
    cases e : H a with
    | none => rfl
    | some u => rw [sm1 _ _ e] at n2; cases n2
end
end Av
/-! The rows of free sets, the least shortest one; the search by rounds. -/
namespace Av
open PySem PySem.Spec PyProof.Rows L2
abbrev Pt := List Nat
abbrev Rw := List (List Nat)
def okRow : Pt → Rw → Prop
  | _, [] => True
  | p, t :: r => t ∈ freeOf p ∧ okRow (drop' t p) r
def after : Pt → Rw → Pt
  | p, [] => p
  | p, t :: r => after (drop' t p) r
theorem after_snoc : ∀ (p : Pt) (r : Rw) (t : List Nat), after p (r ++ [t]) = drop' t (after p r)
  | p, [], t => rfl
  | p, u :: r, t => after_snoc (drop' u p) r t
theorem okRow_snoc : ∀ (p : Pt) (r : Rw) (t : List Nat), okRow p (r ++ [t]) ↔ okRow p r ∧ t ∈ freeOf (after p r)
  | p, [], t => by simp [okRow, after]
  | p, u :: r, t => by
    show (u ∈ freeOf p ∧ okRow (drop' u p) (r ++ [t])) ↔ (u ∈ freeOf p ∧ okRow (drop' u p) r) ∧ t ∈ freeOf (after (drop' u p) r)
    rw [okRow_snoc (drop' u p) r t, and_assoc]
/-! ### kinds grow fewer -/
theorem drop_sub {t p : Pt} {c : Nat} (h : c ∈ drop' t p) : c ∈ p ∧ c ∉ t := by
  unfold drop' at h
  rw [List.mem_filter] at h
  exact ⟨h.1, by simpa using h.2⟩
theorem let_drop {t p : Pt} (h : Let p) : Let (drop' t p) := fun c hc => h c (drop_sub hc).1
theorem drop_len (t p : Pt) : (drop' t p).length ≤ p.length := List.length_filter_le _ _
theorem kinds_drop {t p : Pt} (ht : t ∈ freeOf p) : (kTo (drop' t p)).length + 1 ≤ (kTo p).length := by
  obtain ⟨c, r, rfl⟩ : ∃ c r, t = c :: r := by
    cases t with
    | nil => exact absurd rfl (freeOf_ne ht)
    | cons c r => exact ⟨c, r, rfl⟩
  have mc : c ∈ kTo p := mem_kTo.mpr (freeOf_sub ht c List.mem_cons_self)
  have h := nodup_sub_len (m := (kTo p).erase c) (nodup_kTo (drop' (c :: r) p)) fun x hx => by
    have q := drop_sub (mem_kTo.mp hx)
    exact (List.mem_erase_of_ne (fun e : x = c => q.2 (e ▸ List.mem_cons_self))).mpr (mem_kTo.mpr q.1)
  rw [List.length_erase_of_mem mc] at h
  have := List.length_pos_of_mem mc
  omega
theorem row_kinds : ∀ {r : Rw} {p : Pt}, okRow p r → (kTo (after p r)).length + r.length ≤ (kTo p).length
  | [], p, _ => Nat.le_refl _
  | t :: r, p, h => by
    have h1 := row_kinds (r := r) (p := drop' t p) h.2
    have h2 := kinds_drop h.1
    show (kTo (after (drop' t p) r)).length + (r.length + 1) ≤ _
    omega
theorem let_after : ∀ {r : Rw} {p : Pt}, Let p → Let (after p r)
  | [], _, h => h
  | t :: r, p, h => let_after (r := r) (p := drop' t p) (let_drop h)
theorem len_after : ∀ {r : Rw} {p : Pt}, (after p r).length ≤ p.length
  | [], _ => Nat.le_refl _
  | t :: r, p => Nat.le_trans (len_after (r := r) (p := drop' t p)) (drop_len t p)
theorem row_four {r : Rw} {p : Pt} (h : Let p) (o : okRow p r) : r.length ≤ 4 := by
  have h1 := row_kinds o
  have h2 := kTo_four h
  omega
/-! ### the least row -/
def Least (p q : Pt) (r : Rw) : Prop := okRow p r ∧ after p r = q ∧ ∀ r2, okRow p r2 → after p r2 = q → r.length ≤ r2.length ∧ (r2.length = r.length → ltR r2 r = false)
theorem least_uniq {p q : Pt} {r s : Rw} (a : Least p q r) (b : Least p q s) : r = s := by
  have h1 := a.2.2 s b.1 b.2.1
  have h2 := b.2.2 r a.1 a.2.1
  have e : r.length = s.length := by omega
  exact stoR.tot r s (h2.2 e) (h1.2 e.symm)
def Res (p : Pt) : Option Rw → Prop
  | none => ∀ r, okRow p r → after p r ≠ []
  | some r => Least p [] r
theorem res_uniq {p : Pt} : ∀ {a b : Option Rw}, Res p a → Res p b → a = b
  | none, none, _, _ => rfl
  | none, some r, h, k => absurd k.2.1 (h r k.1)
  | some r, none, h, k => absurd h.2.1 (k r h.1)
  | some r, some s, h, k => by rw [least_uniq h k]
/-! ### the rounds -/
structure BS where
  kn : List Pt
  r : Pt → Rw
  rim : List Pt
def setP (f : Pt → Rw) (q : Pt) (row : Rw) : Pt → Rw := fun x => if x = q then row else f x
def stepB (kn : List Pt) (r : Pt → Rw) (acc : List Pt × (Pt → Rw)) (now : Pt) (t : List Nat) : List Pt × (Pt → Rw) :=
  if drop' t now ∉ kn ∧ (drop' t now ∉ acc.1 ∨ ltR (r now ++ [t]) (acc.2 (drop' t now)) = true) then
    ((if drop' t now ∈ acc.1 then acc.1 else acc.1 ++ [drop' t now]), setP acc.2 (drop' t now) (r now ++ [t])) else acc
def turnB (kn : List Pt) (r : Pt → Rw) (acc : List Pt × (Pt → Rw)) (now : Pt) : List Pt × (Pt → Rw) := (freeOf now).foldl (fun a t => stepB kn r a now t) acc
def laterB (s : BS) : List Pt × (Pt → Rw) := s.rim.foldl (turnB s.kn s.r) ([], fun _ => [])
def roundB (s : BS) : BS := ⟨s.kn ++ (laterB s).1, fun q => if q ∈ (laterB s).1 then (laterB s).2 q else s.r q, (laterB s).1⟩
/-- what stands after the pairs es -/
structure After (kn : List Pt) (r : Pt → Rw) (es : List (Pt × List Nat)) (acc : List Pt × (Pt → Rw)) : Prop where
  nd : acc.1.Nodup
  mem : ∀ q, q ∈ acc.1 ↔ q ∉ kn ∧ ∃ e ∈ es, drop' e.2 e.1 = q
  has : ∀ q ∈ acc.1, ∃ e ∈ es, drop' e.2 e.1 = q ∧ acc.2 q = r e.1 ++ [e.2]
  least : ∀ q ∈ acc.1, ∀ e ∈ es, drop' e.2 e.1 = q → ltR (r e.1 ++ [e.2]) (acc.2 q) = false
theorem after_nil (kn : List Pt) (r : Pt → Rw) (f : Pt → Rw) : After kn r [] ([], f) := ⟨List.nodup_nil, fun q => by simp, fun q h => by simp at h, fun q h => by simp at h⟩
theorem after_step {kn : List Pt} {r : Pt → Rw} {es : List (Pt × List Nat)} {acc : List Pt × (Pt → Rw)} (h : After kn r es acc) (now : Pt) (t : List Nat) : After kn r (es ++ [(now, t)]) (stepB kn r acc now t) := by
  unfold stepB
  generalize hq : drop' t now = q0
  generalize hr : r now ++ [t] = row
  by_cases c : q0 ∉ kn ∧ (q0 ∉ acc.1 ∨ ltR row (acc.2 q0) = true)
  · rw [if_pos c]
    have memq : ∀ q, q ∈ (if q0 ∈ acc.1 then acc.1 else acc.1 ++ [q0]) ↔ q ∈ acc.1 ∨ q = q0 := fun q => by
      split
      · next m => exact ⟨.inl, fun z => z.elim id fun e => e ▸ m⟩
      · simp
    refine ⟨?_, fun q => ?_, fun q hm => ?_, fun q hm e he eq => ?_⟩
    · show (if q0 ∈ acc.1 then acc.1 else acc.1 ++ [q0]).Nodup
      split
      · exact h.nd
      · next m =>
        rw [List.nodup_append]
        refine ⟨h.nd, by simp, fun a ha b hb => ?_⟩
        rw [List.mem_singleton] at hb
        subst hb
        exact fun e => m (e ▸ ha)
    · show q ∈ (if q0 ∈ acc.1 then acc.1 else acc.1 ++ [q0]) ↔ _
      rw [memq, h.mem]
      constructor
      · rintro (⟨h1, e, he, h2⟩ | rfl)
        · exact ⟨h1, e, List.mem_append_left _ he, h2⟩
        · exact ⟨c.1, (now, t), by simp, hq⟩
      · rintro ⟨h1, e, he, h2⟩
        rcases List.mem_append.mp he with he | he
        · exact .inl ⟨h1, e, he, h2⟩
        · rw [List.mem_singleton] at he
          subst he
          exact .inr (h2.symm.trans hq)
    · have hm := (memq q).mp hm
      show ∃ e ∈ _, _ ∧ setP acc.2 q0 row q = _
      unfold setP
      by_cases e0 : q = q0
      · rw [if_pos e0]
        exact ⟨(now, t), by simp, by rw [e0]; exact hq, hr.symm⟩
      · rw [if_neg e0]
        obtain ⟨e, he, h1, h2⟩ := h.has q (hm.resolve_right e0)
        exact ⟨e, List.mem_append_left _ he, h1, h2⟩
    · have hm := (memq q).mp hm
      show ltR _ (setP acc.2 q0 row q) = false
      unfold setP
      by_cases e0 : q = q0
      · rw [if_pos e0]
        rcases List.mem_append.mp he with he | he
        · rcases c.2 with n | l
          · exact absurd ((h.mem q0).mpr ⟨c.1, e, he, eq.trans e0⟩) n
          · by_cases m : q0 ∈ acc.1
            · have h1 := h.least q0 m e he (eq.trans e0)
              cases q2 : ltR (r e.1 ++ [e.2]) row with
              | false => rfl
              | true =>
                rw [stoR.tr _ _ _ q2 l] at h1
                cases h1
            · exact absurd ((h.mem q0).mpr ⟨c.1, e, he, eq.trans e0⟩) m
        · rw [List.mem_singleton] at he
          subst he
          show ltR (r now ++ [t]) row = false
          rw [hr]
          exact stoR.irr _
      · rw [if_neg e0]
        rcases List.mem_append.mp he with he | he
        · exact h.least q (hm.resolve_right e0) e he eq
        · rw [List.mem_singleton] at he
          subst he
          exact absurd (eq.symm.trans hq) e0
  · rw [if_neg c]
    refine ⟨h.nd, fun q => ?_, fun q hm => ?_, fun q hm e he eq => ?_⟩
    · rw [h.mem]
      constructor
      · rintro ⟨h1, e, he, h2⟩
        exact ⟨h1, e, List.mem_append_left _ he, h2⟩
      · rintro ⟨h1, e, he, h2⟩
        rcases List.mem_append.mp he with he | he
        · exact ⟨h1, e, he, h2⟩
        · rw [List.mem_singleton] at he
          subst he
          have e0 : q0 = q := hq.symm.trans h2
          subst e0
          by_cases m : q0 ∈ acc.1
          · exact (h.mem q0).mp m
          · exact absurd ⟨h1, .inl m⟩ c
    · obtain ⟨e, he, h1, h2⟩ := h.has q hm
      exact ⟨e, List.mem_append_left _ he, h1, h2⟩
    · rcases List.mem_append.mp he with he | he
      · exact h.least q hm e he eq
      · rw [List.mem_singleton] at he
        subst he
        have e0 : q0 = q := hq.symm.trans eq
        subst e0
        show ltR (r now ++ [t]) _ = false
        rw [hr]
        cases z : ltR row (acc.2 q0) with
        | false => rfl
        | true => exact absurd ⟨((h.mem q0).mp hm).1, .inr z⟩ c
theorem after_turn {kn : List Pt} {r : Pt → Rw} {now : Pt} : ∀ (ts : List (List Nat)) {es : List (Pt × List Nat)} {acc : List Pt × (Pt → Rw)}, After kn r es acc →
    After kn r (es ++ ts.map fun t => (now, t)) (ts.foldl (fun a t => stepB kn r a now t) acc)
  | [], es, acc, h => by simpa using h
  | t :: ts, es, acc, h => by
    have := after_turn (now := now) ts (after_step h now t)
    rw [List.append_assoc] at this
    exact this
def pairsB (rim : List Pt) : List (Pt × List Nat) := rim.flatMap fun now => (freeOf now).map fun t => (now, t)
theorem after_rim {kn : List Pt} {r : Pt → Rw} : ∀ (rim : List Pt) {es : List (Pt × List Nat)} {acc : List Pt × (Pt → Rw)}, After kn r es acc → After kn r (es ++ pairsB rim) (rim.foldl (turnB kn r) acc)
  | [], es, acc, h => by simpa [pairsB] using h
  | now :: rim, es, acc, h => by
    have := after_rim rim (after_turn (now := now) (freeOf now) h)
    rw [List.append_assoc] at this
    exact this
theorem after_later (s : BS) : After s.kn s.r (pairsB s.rim) (laterB s) := after_rim s.rim (after_nil s.kn s.r _)
theorem mem_pairs {rim : List Pt} {e : Pt × List Nat} : e ∈ pairsB rim ↔ e.1 ∈ rim ∧ e.2 ∈ freeOf e.1 := by
  obtain ⟨a, b⟩ := e
  unfold pairsB
  rw [List.mem_flatMap]
  constructor
  · rintro ⟨now, h1, h2⟩
    obtain ⟨t, ht, e⟩ := List.mem_map.mp h2
    obtain ⟨rfl, rfl⟩ := Prod.mk.inj e
    exact ⟨h1, ht⟩
  · rintro ⟨h1, h2⟩
    exact ⟨a, h1, List.mem_map.mpr ⟨b, h2, rfl⟩⟩
/-- what the rounds keep -/
structure Bi (p : Pt) (i : Nat) (s : BS) : Prop where
  known : ∀ q, q ∈ s.kn ↔ ∃ r, r.length ≤ i ∧ okRow p r ∧ after p r = q
  least : ∀ q ∈ s.kn, Least p q (s.r q)
  rim : ∀ q, q ∈ s.rim ↔ q ∈ s.kn ∧ (s.r q).length = i
theorem bi_zero (p : Pt) : Bi p 0 ⟨[p], fun _ => [], [p]⟩ := by
  refine ⟨fun q => ?_, fun q hq => ?_, fun q => ?_⟩
  · show q ∈ [p] ↔ _
    rw [List.mem_singleton]
    constructor
    · rintro rfl
      exact ⟨[], Nat.le_refl _, True.intro, rfl⟩
    · rintro ⟨r, h1, h2, h3⟩
      have : r = [] := List.eq_nil_of_length_eq_zero (by omega)
      subst this
      exact h3.symm
  · have : q = p := List.mem_singleton.mp hq
    subst this
    refine ⟨True.intro, rfl, fun r2 h1 h2 => ⟨Nat.zero_le _, fun e => ?_⟩⟩
    have : r2 = [] := List.eq_nil_of_length_eq_zero (by simpa using e)
    subst this
    exact lx_irr _
  · show q ∈ [p] ↔ q ∈ [p] ∧ ([] : Rw).length = 0
    simp
theorem bi_step {p : Pt} {i : Nat} {s : BS} (h : Bi p i s) : Bi p (i + 1) (roundB s) := by
  have A := after_later s
  generalize hl : laterB s = la at A
  have rimr : ∀ {q : Pt}, q ∈ s.rim → (s.r q).length = i ∧ okRow p (s.r q) ∧ after p (s.r q) = q := fun {q} hq =>
    have z := (h.rim q).mp hq
    have y := h.least q z.1
    ⟨z.2, y.1, y.2.1⟩
  -- the new ones
  have newl : ∀ q ∈ la.1, Least p q (la.2 q) ∧ (la.2 q).length = i + 1 := fun q hq => by
    obtain ⟨e, he, h1, h2⟩ := A.has q hq
    obtain ⟨m1, m2⟩ := mem_pairs.mp he
    obtain ⟨l1, l2, l3⟩ := rimr m1
    have len : (la.2 q).length = i + 1 := by
      rw [h2, List.length_append, l1]
      rfl
    refine ⟨⟨?_, ?_, fun r2 o2 a2 => ?_⟩, len⟩
    · rw [h2, okRow_snoc, l3]
      exact ⟨l2, m2⟩
    · rw [h2, after_snoc, l3]
      exact h1
    · have far : i + 1 ≤ r2.length := by
        rcases Nat.lt_or_ge r2.length (i + 1) with z | z
        · exact absurd ((h.known q).mpr ⟨r2, by omega, o2, a2⟩) ((A.mem q).mp hq).1
        · exact z
      refine ⟨by omega, fun el => ?_⟩
      rw [len] at el
      obtain ⟨r0, t, rfl⟩ : ∃ r0 t, r2 = r0 ++ [t] := by
        have ne : r2 ≠ [] := fun z => by rw [z] at el; simp at el
        exact ⟨r2.dropLast, r2.getLast ne, (List.dropLast_concat_getLast ne).symm⟩
      have l0 : r0.length = i := by simpa using el
      obtain ⟨o0, mt⟩ := (okRow_snoc p r0 t).mp o2
      rw [after_snoc] at a2
      have k0 : after p r0 ∈ s.kn := (h.known _).mpr ⟨r0, by omega, o0, rfl⟩
      have ls := h.least _ k0
      have le0 := (ls.2.2 r0 o0 rfl).1
      have ri : (s.r (after p r0)).length = i := by
        rcases Nat.lt_or_ge (s.r (after p r0)).length i with z | z
        · have k1 : q ∈ s.kn := (h.known q).mpr ⟨s.r (after p r0) ++ [t], by rw [List.length_append]; exact z, (okRow_snoc _ _ _).mpr ⟨ls.1, by rw [ls.2.1]; exact mt⟩, by rw [after_snoc, ls.2.1]; exact a2⟩
          exact absurd k1 ((A.mem q).mp hq).1
        · omega
      have m0 : after p r0 ∈ s.rim := (h.rim _).mpr ⟨k0, ri⟩
      have c1 := A.least q hq (after p r0, t) (mem_pairs.mpr ⟨m0, mt⟩) a2
      have c2 := (ls.2.2 r0 o0 rfl).2 (by omega)
      have c1 : ltR (s.r (after p r0) ++ [t]) (la.2 q) = false := c1
      cases z : ltR (r0 ++ [t]) (la.2 q) with
      | false => rfl
      | true =>
        by_cases er : s.r (after p r0) = r0
        · rw [er] at c1
          rw [c1] at z
          cases z
        · have c3 : ltR (s.r (after p r0) ++ [t]) (r0 ++ [t]) = true := by
            show lx ltT (s.r (after p r0) ++ [t]) (r0 ++ [t]) = true
            rw [lx_snoc stoT (s.r (after p r0)) r0 t t (by omega), if_neg er]
            cases y : lx ltT (s.r (after p r0)) r0 with
            | true => rfl
            | false => exact absurd (stoR.tot _ _ y c2) er
          rw [stoR.tr _ _ _ c3 z] at c1
          cases c1
  have dis : ∀ q ∈ la.1, q ∉ s.kn := fun q hq => ((A.mem q).mp hq).1
  have ro : roundB s = ⟨s.kn ++ la.1, fun q => if q ∈ la.1 then la.2 q else s.r q, la.1⟩ := by
    unfold roundB
    rw [hl]
  rw [ro]
  refine ⟨fun q => ?_, fun q hq => ?_, fun q => ?_⟩
  · show q ∈ s.kn ++ la.1 ↔ _
    rw [List.mem_append]
    constructor
    · rintro (m | m)
      · obtain ⟨r, h1, h2, h3⟩ := (h.known q).mp m
        exact ⟨r, by omega, h2, h3⟩
      · obtain ⟨z, l⟩ := newl q m
        exact ⟨_, by omega, z.1, z.2.1⟩
    · rintro ⟨r, h1, h2, h3⟩
      rcases Nat.lt_or_ge r.length (i + 1) with z | z
      · exact .inl ((h.known q).mpr ⟨r, by omega, h2, h3⟩)
      · by_cases k : q ∈ s.kn
        · exact .inl k
        · refine .inr ((A.mem q).mpr ⟨k, ?_⟩)
          obtain ⟨r0, t, rfl⟩ : ∃ r0 t, r = r0 ++ [t] := by
            have ne : r ≠ [] := fun z2 => by rw [z2] at z; simp at z
            exact ⟨r.dropLast, r.getLast ne, (List.dropLast_concat_getLast ne).symm⟩
          have l0 : r0.length = i := by rw [List.length_append, List.length_singleton] at z h1; omega
          obtain ⟨o0, mt⟩ := (okRow_snoc p r0 t).mp h2
          rw [after_snoc] at h3
          have k0 : after p r0 ∈ s.kn := (h.known _).mpr ⟨r0, by omega, o0, rfl⟩
          have ls := h.least _ k0
          have le0 := (ls.2.2 r0 o0 rfl).1
          have ri : (s.r (after p r0)).length = i := by
            rcases Nat.lt_or_ge (s.r (after p r0)).length i with z | z
            · have k1 : q ∈ s.kn := (h.known q).mpr ⟨s.r (after p r0) ++ [t], by rw [List.length_append]; exact z, (okRow_snoc _ _ _).mpr ⟨ls.1, by rw [ls.2.1]; exact mt⟩, by rw [after_snoc, ls.2.1]; exact h3⟩
              exact absurd k1 k
            · omega
          exact ⟨(after p r0, t), mem_pairs.mpr ⟨(h.rim _).mpr ⟨k0, ri⟩, mt⟩, h3⟩
  · show Least p q (if q ∈ la.1 then la.2 q else s.r q)
    by_cases m : q ∈ la.1
    · rw [if_pos m]
      exact (newl q m).1
    · rw [if_neg m]
      exact h.least q ((List.mem_append.mp hq).resolve_right m)
  · show q ∈ la.1 ↔ q ∈ s.kn ++ la.1 ∧ (if q ∈ la.1 then la.2 q else s.r q).length = i + 1
    constructor
    · intro m
      rw [if_pos m]
      exact ⟨List.mem_append_right _ m, (newl q m).2⟩
    · rintro ⟨m, l⟩
      by_cases k : q ∈ la.1
      · exact k
      · rw [if_neg k] at l
        have kn := (List.mem_append.mp m).resolve_right k
        obtain ⟨r, h1, h2, h3⟩ := (h.known q).mp kn
        have := ((h.least q kn).2.2 r h2 h3).1
        omega
def stB (p : Pt) : Nat → BS
  | 0 => ⟨[p], fun _ => [], [p]⟩
  | i + 1 => roundB (stB p i)
theorem bi_st (p : Pt) : ∀ i, Bi p i (stB p i)
  | 0 => bi_zero p
  | i + 1 => bi_step (bi_st p i)
theorem rim_kinds {p q : Pt} {i : Nat} (h : q ∈ (stB p i).rim) : (kTo q).length + i ≤ (kTo p).length := by
  have b := bi_st p i
  have z := (b.rim q).mp h
  have y := b.least q z.1
  have := row_kinds y.1
  rw [y.2.1, z.2] at this
  exact this
theorem kn_len {p q : Pt} {i : Nat} (h : q ∈ (stB p i).kn) : ((stB p i).r q).length ≤ i ∧ q.length ≤ p.length ∧ (Let p → Let q) := by
  have b := bi_st p i
  have y := b.least q h
  obtain ⟨r, h1, h2, h3⟩ := (b.known q).mp h
  refine ⟨Nat.le_trans ((y.2.2 r h2 h3).1) h1, ?_, fun l => ?_⟩
  · rw [← y.2.1]
    exact len_after
  · rw [← y.2.1]
    exact let_after l
theorem rim_kn {p q : Pt} {i : Nat} (h : q ∈ (stB p i).rim) : q ∈ (stB p i).kn := (((bi_st p i).rim q).mp h).1
/-- where the rounds stop, the answer stands -/
theorem st_found {p : Pt} {i : Nat} (h : [] ∈ (stB p i).kn) : Res p (some ((stB p i).r [])) := (bi_st p i).least [] h
theorem st_none {p : Pt} {i : Nat} (e : (stB p i).rim = []) (n : [] ∉ (stB p i).kn) : Res p none := by
  intro r o a
  have b := bi_st p i
  -- every row's end is known
  have all : ∀ (n : Nat) (r : Rw), r.length = n → okRow p r → after p r ∈ (stB p i).kn := by
    intro n
    induction n with
    | zero =>
      intro r l o
      exact (b.known _).mpr ⟨r, by omega, o, rfl⟩
    | succ n ih =>
      intro r l o
      obtain ⟨r0, t, rfl⟩ : ∃ r0 t, r = r0 ++ [t] := by
        have ne : r ≠ [] := fun z2 => by rw [z2] at l; simp at l
        exact ⟨r.dropLast, r.getLast ne, (List.dropLast_concat_getLast ne).symm⟩
      obtain ⟨o0, mt⟩ := (okRow_snoc p r0 t).mp o
      have k0 := ih r0 (by simpa using l) o0
      have ls := b.least _ k0
      rw [after_snoc]
      have lt : ((stB p i).r (after p r0)).length < i := by
        obtain ⟨r2, h1, h2, h3⟩ := (b.known _).mp k0
        have := (ls.2.2 r2 h2 h3).1
        rcases Nat.lt_or_ge ((stB p i).r (after p r0)).length i with z | z
        · exact z
        · have m : after p r0 ∈ (stB p i).rim := (b.rim _).mpr ⟨k0, by omega⟩
          rw [e] at m
          cases m
      exact (b.known _).mpr ⟨(stB p i).r (after p r0) ++ [t], by rw [List.length_append]; exact lt, (okRow_snoc _ _ _).mpr ⟨ls.1, by rw [ls.2.1]; exact mt⟩, by rw [after_snoc, ls.2.1]⟩
  exact n (a ▸ all r.length r rfl o)
/-! ### sizes -/
theorem turn_len {kn : List Pt} {r : Pt → Rw} {now : Pt} : ∀ (ts : List (List Nat)) (acc : List Pt × (Pt → Rw)), (ts.foldl (fun a t => stepB kn r a now t) acc).1.length ≤ acc.1.length + ts.length
  | [], acc => Nat.le_refl _
  | t :: ts, acc => by
    have h1 := turn_len (kn := kn) (r := r) (now := now) ts (stepB kn r acc now t)
    have h2 : (stepB kn r acc now t).1.length ≤ acc.1.length + 1 := by
      unfold stepB
      split
      · show (if _ then _ else _ : List Pt).length ≤ _
        split
        · omega
        · simp
      · omega
    rw [List.foldl_cons, List.length_cons]
    omega
theorem rim_len16 {kn : List Pt} {r : Pt → Rw} : ∀ (rim : List Pt) (acc : List Pt × (Pt → Rw)), (∀ q ∈ rim, Let q) → (rim.foldl (turnB kn r) acc).1.length ≤ acc.1.length + 16 * rim.length
  | [], acc, _ => Nat.le_refl _
  | now :: rim, acc, h => by
    have h1 := rim_len16 (kn := kn) (r := r) rim (turnB kn r acc now) fun q hq => h q (List.mem_cons_of_mem _ hq)
    have h2 : (turnB kn r acc now).1.length ≤ acc.1.length + (freeOf now).length := turn_len _ _
    have h3 := freeOf_len (h now List.mem_cons_self)
    rw [List.foldl_cons, List.length_cons]
    omega
theorem st_sizes {p : Pt} (lp : Let p) : ∀ i, (stB p i).rim.length ≤ 16 ^ i ∧ (stB p i).kn.length ≤ 2 * 16 ^ i
  | 0 => ⟨Nat.le_refl _, by show 1 ≤ 2; decide⟩
  | i + 1 => by
    obtain ⟨h1, h2⟩ := st_sizes lp i
    have h3 : (laterB (stB p i)).1.length ≤ 0 + 16 * (stB p i).rim.length := rim_len16 _ _ fun q hq => (kn_len (rim_kn hq)).2.2 lp
    have e : 16 ^ (i + 1) = 16 * 16 ^ i := by rw [Nat.pow_succ, Nat.mul_comm]
    refine ⟨?_, ?_⟩
    · show (laterB (stB p i)).1.length ≤ _
      omega
    · show ((stB p i).kn ++ (laterB (stB p i)).1).length ≤ _
      rw [List.length_append]
      omega
end Av
namespace Av
open PySem PySem.Spec PyProof.Rows L2
/-! ### dicts of rows by patterns -/
def keyT (p : Pt) : L2.Key := .inr (tx p)
theorem keyT_inj (a b : Pt) (h : keyT a = keyT b) : a = b := tx_inj (Sum.inr.inj h)
def tV (p : Pt) : V := .str (tx p)
def KD (H : Hp) (a : Addr) (ns : List Pt) (f : Pt → V) (r : Pt → Rw) : Prop := H a = some (.dK (dOf keyT ns f)) ∧ ∀ q ∈ ns, IsR H (f q) (r q)
def optV (ns : List Pt) (f : Pt → V) (q : Pt) : Option V := if q ∈ ns then some (f q) else none
theorem optV_some {ns : List Pt} {f : Pt → V} {q : Pt} : (optV ns f q).isSome = decide (q ∈ ns) := by
  unfold optV
  by_cases h : q ∈ ns
  · simp [h]
  · simp [h]
theorem dget_o {H : Hp} {a : Addr} {ns : List Pt} {f : Pt → V} {q : Pt} (h : H a = some (.dK (dOf keyT ns f))) : DGet H a (tV q) (optV ns f q) := by
  have e : optV ns f q = valV (dOf keyT ns f) (keyT q) := by
    unfold optV
    by_cases m : q ∈ ns
    · rw [if_pos m, valV_dOf keyT_inj m]
    · rw [if_neg m, valV_dOf_none keyT_inj m]
  rw [e]
  exact DGet.k (k := keyT q) h
theorem dget_y {H : Hp} {a : Addr} {ns : List Pt} {f : Pt → V} {q : Pt} (h : H a = some (.dK (dOf keyT ns f))) (m : q ∈ ns) : DGet H a (tV q) (some (f q)) := by
  have z := dget_o (q := q) h
  unfold optV at z
  rw [if_pos m] at z
  exact z
theorem merge_dOf {f g : Pt → V} : ∀ {la kn : List Pt}, la.Nodup → (∀ q ∈ la, q ∉ kn) → mergeK (dOf keyT kn f) (dOf keyT la g) = dOf keyT (kn ++ la) fun q => if q ∈ la then g q else f q := by
  intro la
  induction la generalizing f with
  | nil =>
    intro kn _ _
    show dOf keyT kn f = _
    rw [List.append_nil]
    exact dOf_congr fun n _ => by simp
  | cons x la ih =>
    intro kn nd dis
    obtain ⟨n1, n2⟩ := List.nodup_cons.mp nd
    show mergeK (putK (dOf keyT kn f) (keyT x) (g x)) (dOf keyT la g) = _
    rw [putK_dOf_new keyT_inj (dis x List.mem_cons_self), ih n2 fun q hq z => by
      rcases List.mem_append.mp z with z | z
      · exact dis q (List.mem_cons_of_mem _ hq) z
      · rw [List.mem_singleton] at z
        exact n1 (z ▸ hq)]
    rw [List.append_assoc]
    refine dOf_congr fun n _ => ?_
    by_cases m : n ∈ la
    · rw [if_pos m, if_pos (List.mem_cons_of_mem _ m)]
    · rw [if_neg m]
      by_cases e : n = x
      · rw [if_pos e, if_pos (e ▸ List.mem_cons_self), e]
      · rw [if_neg e, if_neg fun z => (List.mem_cons.mp z).elim e m]
theorem kd_keep {H H' : Hp} {a : Addr} {ns : List Pt} {f : Pt → V} {r : Pt → Rw} (h : KD H a ns f r) (k : TK H H') (e : H' a = H a) : KD H' a ns f r := ⟨e.trans h.1, fun q hq => (h.2 q hq).keep k⟩
/-! ### lists of texts as data -/
theorem dp_txs {K : PySem.W.Frag} {H : Hp} : ∀ rim : List Pt, DpAll K H (rim.map tV) (rim.map fun q => PyData.str (tx q))
  | [] => .nil
  | q :: r => .cons (.str _) (dp_txs r)
theorem strOk_tx {p : Pt} (h : Let p) : PyData.strOk (tx p) = true := by
  unfold PyData.strOk tx
  simp only [List.all_toArray, List.all_eq_true, decide_eq_true_eq]
  intro c hc
  have := h c hc
  omega
theorem lay_txs : ∀ rim : List Pt, (∀ q ∈ rim, Let q) → PyData.canLayAll0 (rim.map fun q => PyData.str (tx q)) = true ∧ PyData.depthAll (rim.map fun q => PyData.str (tx q)) = 0
  | [], _ => by simp [PyData.canLayAll0, PyData.depthAll]
  | q :: r, h => by
    obtain ⟨h1, h2⟩ := lay_txs r fun q hq => h q (List.mem_cons_of_mem _ hq)
    have h3 := strOk_tx (h q List.mem_cons_self)
    rw [List.map_cons]
    simp [PyData.canLayAll0, PyData.canLay0, PyData.depthAll, PyData.depth, h1, h2, h3]
theorem shaped_txs {rim : List Pt} (h : ∀ q ∈ rim, Let q) : SeqAt.shaped (.list (rim.map fun q => PyData.str (tx q))) = true := by
  obtain ⟨h1, h2⟩ := lay_txs rim h
  simp [SeqAt.shaped, PyData.canLay0, PyData.depth, h1, h2]
theorem eqv_lnil (rim : List Pt) : PyData.eqv (.list (rim.map fun q => PyData.str (tx q))) (.list []) = decide (rim = []) := by
  cases rim with
  | nil => simp [PyData.eqv, PyData.eqvAll]
  | cons q r => simp [PyData.eqv, PyData.eqvAll]
theorem sb_tk {E : Addr} {H H' : Hp} {kv : List (L2.Key × V)} (h : SB E H H') (e : H E = some (.dK kv)) : TK H H' := fun b xs hb => h b _ (fun z => by
  rw [z, e] at hb
  cases hb) hb
theorem dOf_keys (la : List Pt) (g : Pt → V) : (dOf keyT la g).map (fun kv => kV kv.1) = la.map tV := by
  unfold dOf
  rw [List.map_map]
  rfl
theorem fold_take_succ {α β : Type} {f : β → α → β} {b : β} {l : List α} {i : Nat} {x : α} (h : l[i]? = some x) : (l.take (i + 1)).foldl f b = f ((l.take i).foldl f b) x := by
  rw [List.take_add_one, h, List.foldl_append]
  rfl
def IsO (H : Hp) (v : V) : Option Rw → Prop
  | none => v = .non
  | some r => IsR H v r
section
variable {P : Program} {w : World} {K : PySem.W.Frag} {mg : Str → Option Value} {base : Heap}
def spRed : Sp := fun vs H Q _ => ∃ p : List Nat, vs = [.str (tx p)] ∧ Pat p ∧ ∀ H' v o, Same H H' → Res p o → IsO H' v o → Q v H'
theorem ok_red {f fN fO fW : Addr} {fd fdN fdO fdW : FuncData} (F : Fun K "reduction" "reduction" sRed f fd)
    (FN : Fun K "need_pattern" "need_pattern" sNeed fN fdN) (bN : Binds K fdN ["value"] []) (gN : mg "need_pattern" = some (.ref fN)) (GN : FnOk P w K mg base CX0 1 fN fdN ["value"] spNeed)
    (FO : Fun K "free_of" "free_of" sFreeOf fO fdO) (bO : Binds K fdO ["pattern"] []) (gO : mg "free_of" = some (.ref fO)) (GO : FnOk P w K mg base CX0 3 fO fdO ["pattern"] spFreeOf)
    (FW : Fun K "without" "without" sWithout fW fdW) (bW : Binds K fdW ["pattern", "told"] []) (gW : mg "without" = some (.ref fW)) (GW : FnOk P w K mg base CX0 1 fW fdW ["pattern", "told"] spWithout)
    (mL : mg "list" = none) : FnOk P w K mg base CX0 4 f fd ["pattern"] spRed := by
  refine F.ok scRed (fun vs H Q E h => ?_) (fun cdv A outer s H vs Q E hr h => ?_)
  · obtain ⟨p, rfl, _⟩ := h
    rfl
  · obtain ⟨p, rfl, hp, q⟩ := h
    have hu1 : (A.deeper (envOfC "reduction" (defScope sRed) s.heap.objs.size f cdv)).units + 1 < cLine := by have := hr.units; omega
    have hr1 := hr.mono (show 1 ≤ 3 by decide)
    refine ⟨_, pss_cons (ps_expr (pe_call GN hr1 (by rfl) gN FN.kp bN .nil pass0 (pa_cons (pv 0) pa_nil)))
      (pss_cons (ps_par (i := 1) (j := 2) (by rfl) scRed.nd rfl rfl (by decide) rfl rfl (pa_cons (pe_disp (pps_cons (pv 0) (pe_tup pa_nil) pps_nil) (by rfl) (by rfl) (fun z => by cases z) (by decide)) (pa_cons (pe_lst (pa_cons (pv 0) pa_nil)) pa_nil)) (by rfl))
      (pss_cons (ps_while PassesOwn.never (PW.pt (pw_and (pt_cmpR (op_neD hr.units) (pv 2) (pe_lst pa_nil) rfl) (pw_and1 (pt_cmp (pc_dnotin hu1 pe_str (pv 1))))))
        (pss_cons (ps_set (i := 3) scRed.nd rfl (.inl rfl) pe_dnewK)
        (pss_cons (ps_for PassesOwn.never rfl (pi_list (pv 2)) (pg_name (i := 4) scRed.nd rfl (.inl rfl))
          (pss_one (ps_for PassesOwn.never rfl (pi_list (pe_call GO hr (by rfl) gO FO.kp bO .nil pass0 (pa_cons (pv 4) pa_nil))) (pg_name (i := 5) scRed.nd rfl (.inl rfl))
            (pss_cons (ps_par (i := 6) (j := 7) (by rfl) scRed.nd rfl rfl (by decide) rfl rfl (pa_cons (pe_call GW hr1 (by rfl) gW FW.kp bW .nil pass0 (pa_cons (pv 4) (pa_cons (pv 5) pa_nil))) (pa_cons (pe_tup (StX.pa_star (pe_dget hu1 (pv 1) (pv 4) (fun _ _ => rfl)) (pa_cons (pv 5) pa_nil))) pa_nil)) (by rfl))
            (pss_one (ps_if (PW.pt (pw_and (pt_cmp (pc_dnotin hu1 (pv 6) (pv 1))) (pw_and1 (PW.pt (pw_or (pt_cmp (pc_dnotin hu1 (pv 6) (pv 3))) (pw_or1 (pt_cmpR (op_ltD hr.units) (pv 7) (pe_dget hu1 (pv 3) (pv 6) (fun _ _ => rfl)) rfl)))))))
              (pss_one (ps_dput hu1 (pv 3) (pv 6) (pv 7) rfl)) pss_nil))))))
        (pss_cons (ps_expr (pe_bm PySem.F.plainAttrs_dict PySem.F.slot_dict_update PySem.F.type_dict_update mt_update (pv 1) (pa_cons (pv 3) pa_nil)))
        (pss_one (ps_set (i := 2) scRed.nd rfl (.inl rfl) (pe_callTy (call_listD rfl) (by rfl) mL (by decide +kernel) (pa_cons (pv 3) pa_nil))))))))
      (pss_one (ps_ret (pe_dget1 hu1 (pv 1) pe_str ⟨rfl, rfl, rfl, rfl⟩))))), ?_⟩
    have letp := hp.2.2
    refine ⟨.str (tx p), rfl, p, rfl, hp, fun H0 sm0 => ?_⟩
    -- known, rim
    refine fun D nD => ⟨.str (tx p), rfl, Nat.zero_le _, fun T0 nT0 => ⟨un nT0 upd_same, [(keyT p, .ref T0)], rfl, show 1 ≤ 15 by decide, ?_⟩⟩
    have smD : Same H0 (upd (upd (upd H0 D (.dK [])) T0 (.tup [])) D (.dK (dOf keyT [p] fun _ => .ref T0))) := su nD (sn (same_new nD) nT0)
    have eT0 : (upd (upd (upd H0 D (.dK [])) T0 (.tup [])) D (.dK (dOf keyT [p] fun _ => .ref T0))) T0 = some (.tup []) := by
      rw [upd_ne (fun z => by rw [z, upd_same] at nT0; cases nT0), upd_same]
    have eD : (upd (upd (upd H0 D (.dK [])) T0 (.tup [])) D (.dK (dOf keyT [p] fun _ => .ref T0))) D = some (.dK (dOf keyT [p] fun _ => .ref T0)) := upd_same
    have em : mergeK [] [(keyT p, V.ref T0)] = dOf keyT [p] (fun _ => .ref T0) := rfl
    rw [em]
    generalize upd (upd (upd H0 D (.dK [])) T0 (.tup [])) D (.dK (dOf keyT [p] fun _ => .ref T0)) = H1 at smD eT0 eD ⊢
    refine ⟨.str (tx p), rfl, Nat.le_of_lt (small1000 (show 1 ≤ 1000 by decide)), fun l nl => ⟨_, _, rfl, ?_⟩⟩
    -- while
    refine ⟨fun m σ H' => ∃ i l y3 y4 y5 y6 y7 f, m + i = 6 ∧ σ = [some (.str (tx p)), some (.ref D), some (.ref l), y3, y4, y5, y6, y7] ∧ Same H0 H' ∧ KD H' D (stB p i).kn f (stB p i).r ∧ H' l = some (.lst ((stB p i).rim.map tV)),
      ⟨6, 0, l, none, none, none, none, none, fun _ => .ref T0, rfl, rfl, sn smD nl, ⟨un nl eD, fun q _ => ⟨T0, [], rfl, un nl eT0, .nil⟩⟩, upd_same⟩, ?_⟩
    rintro m σ H2 ⟨i, l, y3, y4, y5, y6, y7, f, hmi, rfl, sm2, kd, hl⟩
    have rimLet : ∀ q ∈ (stB p i).rim, Let q := fun q hq => (kn_len (rim_kn hq)).2.2 letp
    -- rim != []
    refine ⟨.ref l, rfl, Nat.zero_le _, fun T1 nT1 => ?_⟩
    refine ⟨.list ((stB p i).rim.map fun q => .str (tx q)), .list [], .lst (SqL.of (un nT1 hl)) (dp_txs _), .lst (SqL.of upd_same) .nil, shaped_txs rimLet, by simp [SeqAt.shaped, PyData.canLay0, PyData.canLayAll0, PyData.depth, PyData.depthAll], _, rfl, ?_⟩
    rw [eqv_lnil]
    have smT := sn (o := .lst []) sm2 nT1
    have hlT := un (u := .lst []) nT1 hl
    have kdT : KD (upd H2 T1 (.lst [])) D (stB p i).kn f (stB p i).r := kd_keep kd (tk_new nT1) (by rw [un nT1 kd.1, kd.1])
    generalize upd H2 T1 (.lst []) = H3 at smT hlT kdT ⊢
    by_cases er : (stB p i).rim = []
    · simp only [er, decide_true, Bool.not_true, Bool.false_eq_true, if_false]
      -- return known.get("")
      refine ⟨.ref D, rfl, D, rfl, .inl ⟨_, .inl kdT.1⟩, optV (stB p i).kn f [], dget_o kdT.1, ?_⟩
      by_cases mn : [] ∈ (stB p i).kn
      · refine q _ _ _ (sm0.trans smT) (st_found mn) ?_
        show IsR H3 ((optV (stB p i).kn f []).getD .non) _
        unfold optV
        rw [if_pos mn]
        exact kdT.2 _ mn
      · refine q _ _ _ (sm0.trans smT) (st_none er mn) ?_
        show (optV (stB p i).kn f []).getD .non = .non
        unfold optV
        rw [if_neg mn]
        rfl
    simp only [er, decide_false, Bool.not_false, if_true]
    -- "" not in known
    refine ⟨.ref D, rfl, D, optV (stB p i).kn f [], rfl, dget_o kdT.1, _, rfl, ?_⟩
    rw [optV_some]
    by_cases mn : [] ∈ (stB p i).kn
    · simp only [mn, decide_true, Bool.not_true, Bool.false_eq_true, if_false]
      refine ⟨.ref D, rfl, D, rfl, .inl ⟨_, .inl kdT.1⟩, optV (stB p i).kn f [], dget_o kdT.1, ?_⟩
      refine q _ _ _ (sm0.trans smT) (st_found mn) ?_
      show IsR H3 ((optV (stB p i).kn f []).getD .non) _
      unfold optV
      rw [if_pos mn]
      exact kdT.2 _ mn
    simp only [mn, decide_false, Bool.not_false, if_true]
    -- a round
    have i3 : i ≤ 3 := by
      obtain ⟨q0, hq0⟩ : ∃ q0, q0 ∈ (stB p i).rim := by
        cases e : (stB p i).rim with
        | nil => exact absurd e er
        | cons a b => exact ⟨a, List.mem_cons_self⟩
      have h1 := rim_kinds hq0
      have h2 := kTo_four letp
      have h3 : 1 ≤ (kTo q0).length := by
        have ne : q0 ≠ [] := fun z => mn (z ▸ rim_kn hq0)
        cases q0 with
        | nil => exact absurd rfl ne
        | cons c r => exact List.length_pos_of_mem (mem_kTo.mpr List.mem_cons_self)
      omega
    have pw : 16 ^ i ≤ 4096 := Nat.pow_le_pow_right (n := 16) (by decide) i3
    obtain ⟨sz1, sz2⟩ := st_sizes letp i
    refine ⟨fun σ' H' => ∃ l y3 y4 y5 y6 y7 f, σ' = [some (.str (tx p)), some (.ref D), some (.ref l), y3, y4, y5, y6, y7] ∧ Same H0 H' ∧ KD H' D (stB p (i + 1)).kn f (stB p (i + 1)).r ∧ H' l = some (.lst ((stB p (i + 1)).rim.map tV)), ?_, ?_⟩
    · rintro σ' H' ⟨l, y3, y4, y5, y6, y7, f, rfl, h1, h2, h3⟩
      exact ⟨m - 1, by omega, i + 1, l, y3, y4, y5, y6, y7, f, by omega, rfl, h1, h2, h3⟩
    have hst : stB p (i + 1) = roundB (stB p i) := rfl
    rw [hst]
    have stk : ∀ q ∈ (stB p i).kn, q.length ≤ p.length ∧ Let q ∧ ((stB p i).r q).length ≤ i := fun q hq => ⟨(kn_len hq).2.1, (kn_len hq).2.2 letp, (kn_len hq).1⟩
    have strim : ∀ q ∈ (stB p i).rim, q ∈ (stB p i).kn := fun q hq => rim_kn hq
    generalize stB p i = st at *
    refine fun E nE => ⟨.ref l, rfl, l, rfl, ⟨_, SqL.of (un nE hlT)⟩, ?_⟩
    have DE : D ≠ E := ne_of_none kdT.1 nE
    refine for_it walk_list (fun j σ H' => ∃ y4 y5 y6 y7 g, σ = [some (.str (tx p)), some (.ref D), some (.ref l), some (.ref E), y4, y5, y6, y7] ∧ Same H3 H' ∧
        KD H' E ((st.rim.take j).foldl (turnB st.kn st.r) ([], fun _ => [])).1 g ((st.rim.take j).foldl (turnB st.kn st.r) ([], fun _ => [])).2)
      ⟨y4, y5, y6, y7, fun _ => .non, rfl, same_new nE, upd_same, fun q hq => by simp at hq⟩ (fun j σ H' _ ⟨_, _, _, _, _, _, sm, _⟩ => SqL.of (sm _ _ hlT)) ?_ ?_
    · rintro j x σ H6 H5 hj ⟨y4, y5, y6, y7, g, rfl, sm5, kd5⟩ ⟨rfl, hx⟩
      obtain ⟨now, hnow, rfl⟩ := map_get hx
      have mnow : now ∈ st.rim := List.mem_of_getElem? hnow
      obtain ⟨kl, kLet, krow⟩ := stk now (strim now mnow)
      have hturn := fold_take_succ (f := turnB st.kn st.r) (b := ([], fun _ => [])) hnow
      have lacc : ((st.rim.take j).foldl (turnB st.kn st.r) ([], fun _ => [])).1.length ≤ 65536 := by
        have h1 := rim_len16 (kn := st.kn) (r := st.r) (st.rim.take j) ([], fun _ => []) fun q hq => (stk q (strim q (List.mem_of_mem_take hq))).2.1
        have h2 : (st.rim.take j).length ≤ st.rim.length := by rw [List.length_take]; omega
        have h3 : (([], fun _ => []) : List Pt × (Pt → Rw)).1.length = 0 := rfl
        omega
      generalize (st.rim.take j).foldl (turnB st.kn st.r) ([], fun _ => []) = acc at kd5 hturn lacc
      refine ⟨tV now, rfl, now, rfl, by have := hp.2.1; omega, kLet, fun H6 a xs sm6 n6 ha pr => ?_⟩
      refine ⟨a, rfl, ⟨_, SqL.of ha⟩, ?_⟩
      have kd6 : KD H6 E acc.1 g acc.2 := kd_keep kd5 (tk_same sm6) ((sm6 _ _ kd5.1).trans kd5.1.symm)
      refine for_it walk_list (fun k σ H' => ∃ y5 y6 y7 g, σ = [some (.str (tx p)), some (.ref D), some (.ref l), some (.ref E), some (tV now), y5, y6, y7] ∧ SB E H6 H' ∧
          KD H' E (((freeOf now).take k).foldl (fun a t => stepB st.kn st.r a now t) acc).1 g (((freeOf now).take k).foldl (fun a t => stepB st.kn st.r a now t) acc).2)
        ⟨y5, y6, y7, g, rfl, fun _ _ _ h => h, kd6⟩ (fun k σ H' _ ⟨_, _, _, _, _, sb, _⟩ => SqL.of (sb _ _ (fun z => by rw [z, kd6.1] at ha; cases ha) ha)) ?_ ?_
      · rintro k x σ H8 H7 hk ⟨y5, y6, y7, g, rfl, sb7, kd7⟩ ⟨rfl, hx⟩
        obtain ⟨t, ht, it⟩ := paired_fwd pr hx
        have hstep := fold_take_succ (f := fun a t => stepB st.kn st.r a now t) (b := acc) ht
        have lac2 : (((freeOf now).take k).foldl (fun a t => stepB st.kn st.r a now t) acc).1.length ≤ 65552 := by
          have h1 := turn_len (kn := st.kn) (r := st.r) (now := now) ((freeOf now).take k) acc
          have h2 : ((freeOf now).take k).length ≤ 16 := by
            rw [List.length_take]
            have := freeOf_len kLet
            omega
          omega
        generalize ((freeOf now).take k).foldl (fun a t => stepB st.kn st.r a now t) acc = ac at kd7 hstep lac2
        have tk67 := sb_tk sb7 kd6.1
        have D6 : H6 D = some (.dK (dOf keyT st.kn f)) := sm6 _ _ (sm5 _ _ kdT.1)
        have kdD7 : KD H7 D st.kn f st.r := kd_keep kdT (((tk_same sm5).trans (tk_same sm6)).trans tk67) ((sb7 _ _ DE D6).trans kdT.1.symm)
        refine ⟨tV now, rfl, x, rfl, now, t, x, rfl, it.keep tk67, by have := hp.2.1; omega, fun H8 sm8 => ?_⟩
        have kdD8 : KD H8 D st.kn f st.r := kd_keep kdD7 (tk_same sm8) ((sm8 _ _ kdD7.1).trans kdD7.1.symm)
        have kdE8 : KD H8 E ac.1 g ac.2 := kd_keep kd7 (tk_same sm8) ((sm8 _ _ kd7.1).trans kd7.1.symm)
        obtain ⟨ra, rxs, efr, hra, prr⟩ := kdD8.2 now (strim now mnow)
        have lrx : rxs.length ≤ 3 := by rw [Paired.length prr]; omega
        refine ⟨.ref D, rfl, tV now, rfl, D, f now, rfl, dget_y kdD8.1 (strim now mnow), ra, rxs, efr, .inl (SqT.of hra), x, rfl, ?_, fun T nT => ⟨_, _, rfl, ?_⟩⟩
        · rw [List.length_append]
          exact Nat.le_of_lt (small1000 (show rxs.length + 1 ≤ 1000 by omega))
        have itT : IsT H8 x t := (it.keep tk67).keep (tk_same sm8)
        have isR : IsR (upd H8 T (.tup (rxs ++ [x]))) (.ref T) (st.r now ++ [t]) := ⟨T, _, rfl, upd_same, isTs_keep (tk_new nT) (paired_snoc prr itT)⟩
        have kdD9 : KD (upd H8 T (.tup (rxs ++ [x]))) D st.kn f st.r := kd_keep kdD8 (tk_new nT) ((un nT kdD8.1).trans kdD8.1.symm)
        have kdE9 : KD (upd H8 T (.tup (rxs ++ [x]))) E ac.1 g ac.2 := kd_keep kdE8 (tk_new nT) ((un nT kdE8.1).trans kdE8.1.symm)
        have sb9 : SB E H6 (upd H8 T (.tup (rxs ++ [x]))) := (sb7.trans (Av.Same.sb sm8)).trans (Av.Same.sb (same_new nT))
        generalize upd H8 T (.tup (rxs ++ [x])) = H9 at isR kdD9 kdE9 sb9 ⊢
        rw [hstep]
        -- what is put
        have putfin : drop' t now ∉ st.kn ∧ (drop' t now ∉ ac.1 ∨ ltR (st.r now ++ [t]) (ac.2 (drop' t now)) = true) →
            ∃ g', SB E H6 (upd H9 E (.dK (putK (dOf keyT ac.1 g) (keyT (drop' t now)) (.ref T)))) ∧ KD (upd H9 E (.dK (putK (dOf keyT ac.1 g) (keyT (drop' t now)) (.ref T)))) E (stepB st.kn st.r ac now t).1 g' (stepB st.kn st.r ac now t).2 := fun c => by
          have kt : TK H9 (upd H9 E (.dK (putK (dOf keyT ac.1 g) (keyT (drop' t now)) (.ref T)))) := tk_upd kdE9.1 fun xs z => by cases z
          unfold stepB
          rw [if_pos c]
          refine ⟨fun n => if n = drop' t now then .ref T else g n, sb9.trans sb_upd, ?_, fun q hq => ?_⟩
          · show upd H9 E _ E = some (.dK (dOf keyT (if drop' t now ∈ ac.1 then ac.1 else ac.1 ++ [drop' t now]) _))
            rw [upd_same]
            by_cases m2 : drop' t now ∈ ac.1
            · rw [if_pos m2, putK_dOf keyT_inj m2]
            · rw [if_neg m2, putK_dOf_new keyT_inj m2]
          · show IsR _ (if q = drop' t now then .ref T else g q) (if q = drop' t now then st.r now ++ [t] else ac.2 q)
            have hq : q ∈ (if drop' t now ∈ ac.1 then ac.1 else ac.1 ++ [drop' t now]) := hq
            by_cases e : q = drop' t now
            · rw [if_pos e, if_pos e]
              exact isR.keep kt
            · rw [if_neg e, if_neg e]
              refine (kdE9.2 q ?_).keep kt
              split at hq
              · exact hq
              · rcases List.mem_append.mp hq with z | z
                · exact z
                · exact absurd (List.mem_singleton.mp z) e
        have nofin : ¬ (drop' t now ∉ st.kn ∧ (drop' t now ∉ ac.1 ∨ ltR (st.r now ++ [t]) (ac.2 (drop' t now)) = true)) → KD H9 E (stepB st.kn st.r ac now t).1 g (stepB st.kn st.r ac now t).2 := fun c => by
          unfold stepB
          rw [if_neg c]
          exact kdE9
        have size : (dOf keyT ac.1 g).length < sizeLine := by
          rw [dOf_len]
          unfold sizeLine
          omega
        refine ⟨tV (drop' t now), rfl, .ref D, rfl, D, optV st.kn f (drop' t now), rfl, dget_o kdD9.1, _, rfl, ?_⟩
        rw [optV_some]
        by_cases m1 : drop' t now ∈ st.kn
        · simp only [m1, decide_true, Bool.not_true, Bool.false_eq_true, if_false]
          exact ⟨some x, some (tV (drop' t now)), some (.ref T), g, rfl, sb9, nofin fun c => c.1 m1⟩
        simp only [m1, decide_false, Bool.not_false, if_true]
        refine ⟨tV (drop' t now), rfl, .ref E, rfl, E, optV ac.1 g (drop' t now), rfl, dget_o kdE9.1, _, rfl, ?_⟩
        rw [optV_some]
        by_cases m2 : drop' t now ∈ ac.1
        · simp only [m2, decide_true, Bool.not_true, Bool.false_eq_true, if_false]
          refine ⟨.ref T, rfl, .ref E, rfl, tV (drop' t now), rfl, E, g (drop' t now), rfl, dget_y kdE9.1 m2, dR (st.r now ++ [t]), dR (ac.2 (drop' t now)), isR.dp, (kdE9.2 _ m2).dp, alike_R _ _, (fun z => by cases z), Nat.le_trans (depth_R _) (by decide), _, rfl, ?_⟩
          rw [dataLt_R]
          cases lt : ltR (st.r now ++ [t]) (ac.2 (drop' t now)) with
          | true =>
            obtain ⟨g', h1, h2⟩ := putfin ⟨m1, .inr lt⟩
            exact ⟨.ref T, rfl, .ref E, rfl, tV (drop' t now), rfl, E, _, rfl, DPut.k (k := keyT (drop' t now)) kdE9.1 size, some x, some (tV (drop' t now)), some (.ref T), g', rfl, h1, h2⟩
          | false => exact ⟨some x, some (tV (drop' t now)), some (.ref T), g, rfl, sb9, nofin fun c => c.2.elim (fun z => z m2) fun z => by rw [lt] at z; cases z⟩
        · simp only [m2, decide_false, Bool.not_false, if_true]
          obtain ⟨g', h1, h2⟩ := putfin ⟨m1, .inl m2⟩
          exact ⟨.ref T, rfl, .ref E, rfl, tV (drop' t now), rfl, E, _, rfl, DPut.k (k := keyT (drop' t now)) kdE9.1 size, some x, some (tV (drop' t now)), some (.ref T), g', rfl, h1, h2⟩
      · rintro σ H7 ⟨y5, y6, y7, g, rfl, sb7, kd7⟩
        rw [Paired.length pr, List.take_length] at kd7
        rw [hturn]
        exact ⟨_, _, _, _, g, rfl, sb_same nE (sm5.trans sm6) sb7, kd7⟩
    · rintro σ H5 ⟨y4, y5, y6, y7, g, rfl, sm5, kd5⟩
      rw [List.length_map, List.take_length] at kd5
      have kd5 : KD H5 E (laterB st).1 g (laterB st).2 := kd5
      have kdD5 : KD H5 D st.kn f st.r := kd_keep kdT (tk_same sm5) ((sm5 _ _ kdT.1).trans kdT.1.symm)
      have A := after_later st
      have lla : (laterB st).1.length ≤ 65536 := by
        have h1 := rim_len16 (kn := st.kn) (r := st.r) st.rim ([], fun _ => []) fun q hq => (stk q (strim q hq)).2.1
        have h3 : (([], fun _ => []) : List Pt × (Pt → Rw)).1.length = 0 := rfl
        have h1 : (laterB st).1.length ≤ (([], fun _ => []) : List Pt × (Pt → Rw)).1.length + 16 * st.rim.length := h1
        omega
      refine ⟨.ref D, rfl, .inr (.inr (.inl ⟨rfl, .inl ⟨_, kdD5.1⟩⟩)), .ref E, rfl, D, E, _, _, rfl, rfl, DE, kdD5.1, kd5.1, ?_, ?_⟩
      · rw [dOf_len, dOf_len]
        unfold sizeLine
        omega
      rw [merge_dOf A.nd fun q hq => ((A.mem q).mp hq).1]
      have kt : TK H5 (upd H5 D (.dK (dOf keyT (st.kn ++ (laterB st).1) fun q => if q ∈ (laterB st).1 then g q else f q))) := tk_upd kdD5.1 fun xs z => by cases z
      refine ⟨.ref E, rfl, E, _, rfl, .inl (show upd H5 D _ E = _ by rw [upd_ne (Ne.symm DE)]; exact kd5.1), fun l2 nl2 => ?_⟩
      rw [dOf_keys]
      refine ⟨l2, _, _, _, _, _, fun q => if q ∈ (laterB st).1 then g q else f q, rfl, sn (su nD (smT.trans sm5)) nl2, ⟨un nl2 upd_same, fun q hq => ?_⟩, upd_same⟩
      show IsR _ (if q ∈ (laterB st).1 then g q else f q) (if q ∈ (laterB st).1 then (laterB st).2 q else st.r q)
      have kt2 := kt.trans (tk_new (o := .lst ((laterB st).1.map tV)) nl2)
      by_cases m : q ∈ (laterB st).1
      · rw [if_pos m, if_pos m]
        exact (kd5.2 q m).keep kt2
      · rw [if_neg m, if_neg m]
        exact (kdD5.2 q ((List.mem_append.mp hq).resolve_right m)).keep kt2
end
end Av
namespace Av
open PySem PySem.Spec PyProof.Rows L2
theorem sq_sb {K : PySem.W.Frag} {E : Addr} {H H' : Hp} {a : Addr} {xs : List V} (e : SB E H H') (n : a ≠ E) (h : SqL K H a xs) : SqL K H' a xs := by
  rcases h with (h | ⟨o, h⟩) | h
  · exact .inl (.inl (e _ _ n h))
  · exact .inl (.inr ⟨o, e _ _ n h⟩)
  · exact .inr h
def rowO (sc : Addr) (n : Nat) (z rest : Int) : HO := .lst [.ref sc, .int n, .int z, .int rest]
section
variable {P : Program} {w : World} {K : PySem.W.Frag} {mg : Str → Option Value} {base : Heap}
def spTaken (K : PySem.W.Frag) : Sp := fun vs H Q _ => ∃ (r sc : Addr) (ns : List Int) (n : Nat) (z rest : Int) (m : Nat), vs = [.ref r, .int m] ∧ H r = some (rowO sc n z rest) ∧ (∀ H', SB r H H' → SqL K H' sc (ns.map V.int)) ∧ 1 ≤ m ∧ m ≤ 7 ∧
  ∀ H' (x n' : Nat) (z' rest' : Int), x < m → SB r H H' → H' r = some (rowO sc n' z' rest') → Q (.int x) H'
theorem emod_nat (i : Int) {m : Nat} (h : 1 ≤ m) : ∃ x : Nat, x < m ∧ i % (m : Int) = (x : Int) := by
  have h1 := Int.emod_nonneg i (show (m : Int) ≠ 0 by omega)
  have h2 := Int.emod_lt_of_pos i (show (0 : Int) < m by omega)
  exact ⟨(i % (m : Int)).toNat, by omega, by omega⟩
theorem ok_taken {f : Addr} {fd : FuncData} {k : Nat} (F : Fun K "_law_taken" "_law_taken" sTaken f fd) (mI : mg "int" = none) (mL : mg "len" = none) : FnOk P w K mg base CX0 (k + 1) f fd ["_law_row", "_law_many"] (spTaken K) := by
  refine F.ok scTaken (fun vs H Q E h => ?_) (fun cdv A outer s H vs Q E hr h => ?_)
  · obtain ⟨r, sc, ns, n, z, rest, m, rfl, _⟩ := h
    rfl
  · obtain ⟨r, sc, ns, n, z, rest, m, rfl, hR, hS, m1, m7, q⟩ := h
    refine ⟨_, pss_cons (ps_if (pt_cmpR op_gt (pe_ix ix_list (pv 0) pe_int (fun _ _ => rfl)) pe_int rfl)
        (pss_cons (ps_set (i := 2) scTaken.nd rfl (.inl rfl) (pe_op op_mod (pe_callTy call_int1 (by rfl) mI (by decide +kernel) (pa_cons (pe_ix ix_list (pv 0) pe_int (fun _ _ => rfl)) pa_nil)) (pv 1)))
        (pss_cons (ps_asg (pe_op op_fdiv (pe_ix ix_list (pv 0) pe_int (fun _ _ => rfl)) (pv 1)) (pg_sub (pv 0) pe_int set_list))
        (pss_one (ps_ret (pv 2))))) pss_nil)
      (pss_cons (ps_asg (pe_op op_add (pe_ix ix_list (pv 0) pe_int (fun _ _ => rfl)) pe_int) (pg_sub (pv 0) pe_int set_list))
      (pss_cons (ps_if (pt_cmpR op_gt (pe_ix ix_list (pv 0) pe_int (fun _ _ => rfl)) (pe_callB call_len_seq (by rfl) mL PySem.boot_len (pa_cons (pe_ix ix_list (pv 0) pe_int (fun _ _ => rfl)) pa_nil)) rfl)
        (pss_cons (ps_asg (pe_op op_mod (pe_callTy call_int1 (by rfl) mI (by decide +kernel) (pa_cons (pe_op op_add (pe_op op_mul (pe_ix ix_list (pv 0) pe_int (fun _ _ => rfl)) pe_int) pe_int) pa_nil)) pe_int) (pg_sub (pv 0) pe_int set_list))
        (pss_one (ps_ret (pe_op op_mod (pe_callTy call_int1 (by rfl) mI (by decide +kernel) (pa_cons (pe_op op_fdiv (pe_ix ix_list (pv 0) pe_int (fun _ _ => rfl)) pe_int) pa_nil)) (pv 1))))) pss_nil)
      (pss_cons (ps_set (i := 3) scTaken.nd rfl (.inl rfl) (pe_ix ix_list (pe_ix ix_list (pv 0) pe_int (fun _ _ => rfl)) (pe_op op_sub (pe_ix ix_list (pv 0) pe_int (fun _ _ => rfl)) pe_int) (fun _ _ => rfl)))
      (pss_cons (ps_asg (pe_op op_mod (pe_callTy call_int1 (by rfl) mI (by decide +kernel) (pa_cons (pe_op op_add (pe_op op_add (pe_op op_mul (pe_ix ix_list (pv 0) pe_int (fun _ _ => rfl)) pe_int) (pv 3)) pe_int) pa_nil)) pe_int) (pg_sub (pv 0) pe_int set_list))
      (pss_cons (ps_if (pt_cmpR op_ge (pv 3) (pe_op op_pow pe_int pe_int) rfl) (pss_one (ps_asg (pe_op op_fdiv (pv 3) (pv 1)) (pg_sub (pv 0) pe_int set_list))) pss_nil)
      (pss_one (ps_ret (pe_op op_mod (pe_callTy call_int1 (by rfl) mI (by decide +kernel) (pa_cons (pv 3) pa_nil)) (pv 1))))))))), ?_⟩
    have mp : (0 : Int) < (m : Int) := by omega
    have md : CDiv rest m := ⟨mp, by omega⟩
    have gr : ∀ {H : Hp} {n : Nat} {z rest : Int}, H r = some (rowO sc n z rest) → SqL K H r [.ref sc, .int n, .int z, .int rest] := fun h => SqL.of h
    refine ⟨.ref r, rfl, r, _, 3, .int rest, rfl, rfl, gr hR, rfl, rest, 0, rfl, rfl, _, rfl, ?_⟩
    by_cases h0 : (0 : Int) < rest
    · simp only [h0, decide_true, if_true]
      refine ⟨.ref r, rfl, r, _, 3, .int rest, rfl, rfl, gr hR, rfl, .inl ⟨rest, rfl, ?_⟩⟩
      obtain ⟨x, hx, ex⟩ := emod_nat rest m1
      refine ⟨.int m, rfl, rest, m, rfl, rfl, mp, ?_⟩
      refine ⟨.ref r, rfl, r, _, 3, .int rest, rfl, rfl, gr hR, rfl, .int m, rfl, rest, m, rfl, rfl, md, ?_⟩
      refine ⟨.ref r, rfl, r, _, 3, 3, rfl, rfl, hR, rfl, ?_⟩
      refine ⟨.int (rest % m), rfl, ?_⟩
      rw [ex]
      exact q _ x n z (rest / m) hx sb_upd upd_same
    · simp only [h0, decide_false, Bool.false_eq_true, if_false]
      refine ⟨.ref r, rfl, r, _, 1, .int n, rfl, rfl, gr hR, rfl, n, 1, rfl, rfl, .ref r, rfl, r, _, 1, 1, rfl, rfl, hR, rfl, ?_⟩
      have hR1 : (upd H r (rowO sc (n + 1) z rest)) r = some (rowO sc (n + 1) z rest) := upd_same
      have sb1 : SB r H (upd H r (rowO sc (n + 1) z rest)) := sb_upd
      have e1 : upd H r (.lst ([.ref sc, .int n, .int z, .int rest].set 1 (.int ((n : Int) + 1)))) = upd H r (rowO sc (n + 1) z rest) := by
        show upd H r (.lst [.ref sc, .int ((n : Int) + 1), .int z, .int rest]) = upd H r (.lst [.ref sc, .int ((n + 1 : Nat) : Int), .int z, .int rest])
        rw [show ((n + 1 : Nat) : Int) = (n : Int) + 1 by omega]
      rw [e1]
      generalize upd H r (rowO sc (n + 1) z rest) = H1 at hR1 sb1 ⊢
      have hS1 := hS _ sb1
      refine ⟨.ref r, rfl, r, _, 1, .int (n + 1 : Nat), rfl, rfl, gr hR1, rfl, .ref r, rfl, r, _, 0, .ref sc, rfl, rfl, gr hR1, rfl, sc, _, rfl, .inl hS1, (n + 1 : Nat), _, rfl, rfl, _, rfl, ?_⟩
      by_cases hn : ((ns.map V.int).length : Int) < ((n + 1 : Nat) : Int)
      · simp only [hn, decide_true, if_true]
        refine ⟨.ref r, rfl, r, _, 2, .int z, rfl, rfl, gr hR1, rfl, z, 48271, rfl, rfl, .inr (by decide), z * 48271, 11, rfl, rfl, .inl ⟨_, rfl, _, 2147483647, rfl, rfl, (show (0 : Int) < 2147483647 by decide), .ref r, rfl, r, _, 2, 2, rfl, rfl, hR1, rfl, ?_⟩⟩
        have hR2 : (upd H1 r (rowO sc (n + 1) ((z * 48271 + 11) % 2147483647) rest)) r = some (rowO sc (n + 1) ((z * 48271 + 11) % 2147483647) rest) := upd_same
        have sb2 : SB r H (upd H1 r (rowO sc (n + 1) ((z * 48271 + 11) % 2147483647) rest)) := sb1.trans sb_upd
        have e2 : upd H1 r (.lst ([.ref sc, .int (n + 1 : Nat), .int z, .int rest].set 2 (.int ((z * 48271 + 11) % 2147483647)))) = upd H1 r (rowO sc (n + 1) ((z * 48271 + 11) % 2147483647) rest) := rfl
        rw [e2]
        generalize upd H1 r (rowO sc (n + 1) ((z * 48271 + 11) % 2147483647) rest) = H2 at hR2 sb2 ⊢
        generalize (z * 48271 + 11) % 2147483647 = z2 at hR2
        obtain ⟨x, hx, ex⟩ := emod_nat (z2 / 7) m1
        refine ⟨.ref r, rfl, r, _, 2, .int z2, rfl, rfl, gr hR2, rfl, z2, 7, rfl, rfl, (show CDiv z2 7 from ⟨by decide, by decide⟩), .inl ⟨_, rfl, .int m, rfl, z2 / 7, m, rfl, rfl, mp, ?_⟩⟩
        show Q (.int (z2 / 7 % (m : Int))) H2
        rw [ex]
        exact q _ x _ _ _ hx sb2 hR2
      · simp only [hn, decide_false, Bool.false_eq_true, if_false]
        have hi : n < ns.length := by
          rw [List.length_map] at hn
          omega
        have at_ : atI (ns.map V.int) (n : Int) = some (.int ns[n]) := by
          have ix : ixN (ns.map V.int).length (n : Int) = some n := by
            unfold ixN
            rw [if_pos (by omega), if_pos (by rw [List.length_map]; omega)]
            rfl
          unfold atI
          rw [ix]
          show (ns.map V.int)[n]? = _
          rw [List.getElem?_map, List.getElem?_eq_getElem hi]
          rfl
        have en : ((n + 1 : Nat) : Int) - 1 = (n : Int) := by omega
        refine ⟨.ref r, rfl, r, _, 0, .ref sc, rfl, rfl, gr hR1, rfl, .ref r, rfl, r, _, 1, .int (n + 1 : Nat), rfl, rfl, gr hR1, rfl, (n + 1 : Nat), 1, rfl, rfl, sc, _, _, .int ns[n], rfl, rfl, hS1, by rw [en]; exact at_, ?_⟩
        generalize ns[n] = c
        refine ⟨.ref r, rfl, r, _, 2, .int z, rfl, rfl, gr hR1, rfl, z, 48271, rfl, rfl, .inr (by decide), .int c, rfl, z * 48271, c, rfl, rfl, _, 11, rfl, rfl, .inl ⟨_, rfl, _, 2147483647, rfl, rfl, (show (0 : Int) < 2147483647 by decide), .ref r, rfl, r, _, 2, 2, rfl, rfl, hR1, rfl, ?_⟩⟩
        have hR2 : (upd H1 r (rowO sc (n + 1) ((z * 48271 + c + 11) % 2147483647) rest)) r = some (rowO sc (n + 1) ((z * 48271 + c + 11) % 2147483647) rest) := upd_same
        have sb2 : SB r H (upd H1 r (rowO sc (n + 1) ((z * 48271 + c + 11) % 2147483647) rest)) := sb1.trans sb_upd
        have e2 : upd H1 r (.lst ([.ref sc, .int (n + 1 : Nat), .int z, .int rest].set 2 (.int ((z * 48271 + c + 11) % 2147483647)))) = upd H1 r (rowO sc (n + 1) ((z * 48271 + c + 11) % 2147483647) rest) := rfl
        rw [e2]
        generalize upd H1 r (rowO sc (n + 1) ((z * 48271 + c + 11) % 2147483647) rest) = H2 at hR2 sb2 ⊢
        generalize (z * 48271 + c + 11) % 2147483647 = z2 at hR2
        obtain ⟨x, hx, ex⟩ := emod_nat c m1
        refine ⟨.int c, rfl, 10, 18, rfl, rfl, (show CPow 10 18 from ⟨by decide, by decide, by decide⟩), c, _, rfl, rfl, _, rfl, ?_⟩
        by_cases hc : (10 : Int) ^ (18 : Int).toNat ≤ c
        · simp only [hc, decide_true, if_true]
          refine ⟨.int c, rfl, .int m, rfl, c, m, rfl, rfl, (show CDiv c m from ⟨mp, by omega⟩), .ref r, rfl, r, _, 3, 3, rfl, rfl, hR2, rfl, ?_⟩
          refine ⟨.int c, rfl, .inl ⟨c, rfl, .int m, rfl, c, m, rfl, rfl, mp, ?_⟩⟩
          show Q (.int (c % (m : Int))) _
          rw [ex]
          exact q _ x (n + 1) z2 (c / m) hx (sb2.trans sb_upd) upd_same
        · simp only [hc, decide_false, Bool.false_eq_true, if_false]
          refine ⟨.int c, rfl, .inl ⟨c, rfl, .int m, rfl, c, m, rfl, rfl, mp, ?_⟩⟩
          show Q (.int (c % (m : Int))) _
          rw [ex]
          exact q _ x _ _ _ hx sb2 hR2
end
end Av
/-! The law's own free sets: numbers as sets, marks as numbers. -/
namespace Av
open PySem PySem.Spec PyProof.Rows L2
/-! ### numbers as sets -/
def pick : Nat → List Nat → List Nat
  | _, [] => []
  | n, c :: ks => if n % 2 = 1 then c :: pick (n / 2) ks else pick (n / 2) ks
theorem pick_snoc : ∀ (ks : List Nat) (n c : Nat), pick n (ks ++ [c]) = pick n ks ++ (if n / 2 ^ ks.length % 2 = 1 then [c] else [])
  | [], n, c => by
    show (if n % 2 = 1 then c :: pick (n / 2) [] else pick (n / 2) []) = [] ++ (if n / 2 ^ 0 % 2 = 1 then [c] else [])
    rw [Nat.pow_zero, Nat.div_one]
    rfl
  | d :: ks, n, c => by
    have ih := pick_snoc ks (n / 2) c
    have e : n / 2 ^ (d :: ks).length = n / 2 / 2 ^ ks.length := by
      rw [List.length_cons, Nat.pow_succ, Nat.mul_comm, Nat.div_div_eq_div_mul]
    rw [e]
    show (if n % 2 = 1 then d :: pick (n / 2) (ks ++ [c]) else pick (n / 2) (ks ++ [c])) = (if n % 2 = 1 then d :: pick (n / 2) ks else pick (n / 2) ks) ++ _
    rw [ih]
    by_cases h : n % 2 = 1
    · rw [if_pos h, if_pos h]
      rfl
    · rw [if_neg h, if_neg h]
theorem pick_take {ks : List Nat} {i c : Nat} (h : ks[i]? = some c) (n : Nat) : pick n (ks.take (i + 1)) = pick n (ks.take i) ++ (if n / 2 ^ i % 2 = 1 then [c] else []) := by
  have hi : i < ks.length := lt_of_get h
  have e : ks.take (i + 1) = ks.take i ++ [c] := by rw [List.take_add_one, h]; rfl
  rw [e, pick_snoc, List.length_take, Nat.min_eq_left (by omega)]
theorem pick_add : ∀ (ks : List Nat) (n : Nat), pick (2 ^ ks.length + n) ks = pick n ks
  | [], _ => rfl
  | c :: ks, n => by
    have e : 2 ^ (c :: ks).length = 2 * 2 ^ ks.length := by rw [List.length_cons, Nat.pow_succ, Nat.mul_comm]
    have h1 : (2 * 2 ^ ks.length + n) % 2 = n % 2 := by omega
    have h2 : (2 * 2 ^ ks.length + n) / 2 = 2 ^ ks.length + n / 2 := by omega
    rw [e]
    show (if (2 * 2 ^ ks.length + n) % 2 = 1 then c :: pick ((2 * 2 ^ ks.length + n) / 2) ks else pick ((2 * 2 ^ ks.length + n) / 2) ks) = if n % 2 = 1 then c :: pick (n / 2) ks else pick (n / 2) ks
    rw [h1, h2, pick_add ks]
theorem sub_pick : ∀ (n : Nat) (ks : List Nat), ks.length = n → (List.range (2 ^ n)).map (fun i => pick i ks) = subAll ks
  | 0, ks, h => by
    have : ks = [] := List.eq_nil_of_length_eq_zero h
    subst this
    rfl
  | n + 1, ks, h => by
    obtain ⟨k0, c, rfl⟩ : ∃ k0 c, ks = k0 ++ [c] := by
      have ne : ks ≠ [] := fun z => by rw [z] at h; simp at h
      exact ⟨ks.dropLast, ks.getLast ne, (List.dropLast_concat_getLast ne).symm⟩
    have l0 : k0.length = n := by simpa using h
    have ih := sub_pick n k0 l0
    rw [subAll_snoc, ← ih]
    unfold grow
    have e : 2 ^ (n + 1) = 2 ^ n + 2 ^ n := by rw [Nat.pow_succ]; omega
    have pos : 0 < 2 ^ n := Nat.pow_pos (by decide)
    rw [e, List.range_add, List.map_append, List.map_map, List.map_map]
    congr 1
    · refine List.map_congr_left fun i hi => ?_
      have hi := List.mem_range.mp hi
      rw [pick_snoc, l0, Nat.div_eq_of_lt hi]
      simp
    · refine List.map_congr_left fun i hi => ?_
      have hi := List.mem_range.mp hi
      show pick (2 ^ n + i) (k0 ++ [c]) = pick i k0 ++ [c]
      have d : (2 ^ n + i) / 2 ^ n = 1 := by
        rw [Nat.add_comm, Nat.add_div_right _ pos, Nat.div_eq_of_lt hi]
      rw [pick_snoc, l0, d, ← l0, pick_add]
      rfl
theorem subL_get {ks : List Nat} {i : Nat} (h : i + 1 < 2 ^ ks.length) : (subL ks)[i]? = some (pick (i + 1) ks) := by
  unfold subL
  rw [← sub_pick ks.length ks rfl, List.getElem?_drop, Nat.add_comm 1 i, List.getElem?_map, List.getElem?_range h]
  rfl
theorem subL_len (ks : List Nat) : (subL ks).length = 2 ^ ks.length - 1 := by
  unfold subL
  rw [List.length_drop, subAll_len]
theorem pick_len : ∀ (ks : List Nat) (n : Nat), (pick n ks).length ≤ ks.length
  | [], _ => Nat.le_refl _
  | c :: ks, n => by
    have := pick_len ks (n / 2)
    show (if n % 2 = 1 then c :: pick (n / 2) ks else pick (n / 2) ks).length ≤ ks.length + 1
    split
    · rw [List.length_cons]
      omega
    · omega
/-! ### marks as numbers -/
def g0 (ks : List Nat) : Nd → Nat := fun n => 2 * ks.idxOf n.1 + n.2
def lowM (g : Nd → Nat) (x y : Nat) : Nd → Nat := fun n => if n = (x, 0) ∨ n = (y, 1) then min (g (x, 0)) (g (y, 1)) else g n
def lawRound (es : List (Nat × Nat)) (g : Nd → Nat) : Nd → Nat := es.foldl (fun g e => lowM g e.1 e.2) g
def roundsL (es : List (Nat × Nat)) : Nat → (Nd → Nat) → Nd → Nat
  | 0, g => g
  | n + 1, g => lawRound es (roundsL es n g)
def lawMarks (p : List Nat) : Nd → Nat := roundsL (adj p) (2 * (kTo p).length) (g0 (msort ltN (kTo p)))
def clashG (g : Nd → Nat) (t u : List Nat) : Bool := t.any fun a => u.any fun b => decide (g (a, 0) = g (b, 1))
def freeG (g : Nd → Nat) (t : List Nat) : Bool := !clashG g t t
def lawFree (p : List Nat) : List (List Nat) := msort ltT ((subL (msort ltN (kTo p))).filter (freeG (lawMarks p)))
def ivV (g : Nd → Nat) : Nd → V := fun n => .int (g n : Nat)
theorem idx_get : ∀ {ks : List Nat} {i c : Nat}, ks.Nodup → ks[i]? = some c → ks.idxOf c = i
  | [], i, c, _, h => by simp at h
  | d :: ks, 0, c, _, h => by
    have : d = c := by simpa using h
    subst this
    simp
  | d :: ks, i + 1, c, nd, h => by
    obtain ⟨n1, n2⟩ := List.nodup_cons.mp nd
    have h' : ks[i]? = some c := by simpa using h
    have ne : d ≠ c := fun e => n1 (e ▸ List.mem_of_getElem? h')
    rw [List.idxOf_cons, idx_get n2 h']
    have : (d == c) = false := beq_eq_false_iff_ne.mpr ne
    rw [this]
    rfl
theorem atI_nat {α : Type} {l : List α} {i : Nat} {v : α} (h : l[i]? = some v) : atI l (i : Int) = some v := by
  have hi : i < l.length := lt_of_get h
  have ix : ixN l.length (i : Int) = some i := by
    unfold ixN
    rw [if_pos (by omega), if_pos (by omega)]
    rfl
  unfold atI
  rw [ix]
  exact h
/-! ### sorted texts -/
def ltS (a b : Str) : Bool := decide (a.cps.toList < b.cps.toList)
theorem stoS : STO ltS := ⟨fun a => decide_eq_false (List.lt_irrefl _), fun a b c h1 h2 => decide_eq_true (List.lt_trans (of_decide_eq_true h1) (of_decide_eq_true h2)), fun a b h1 h2 => by
  have e1 : ¬ a.cps.toList < b.cps.toList := of_decide_eq_false h1
  have e2 : ¬ b.cps.toList < a.cps.toList := of_decide_eq_false h2
  have e : a.cps.toList = b.cps.toList := List.le_antisymm (List.not_lt.mp e2) (List.not_lt.mp e1)
  cases a
  cases b
  congr 1
  exact Array.toList_inj.mp e⟩
theorem sortS (l : List Str) : l.mergeSort (PySem.W.dataLe false PyData.str) = msort ltS l := by
  unfold msort
  congr 1
  funext a b
  show (!PySem.W.dataLt (.str b) (.str a)) = _
  rw [PySem.W.dataLt_str]
  rfl
theorem ltS_L (c d : Nat) : ltS (L c) (L d) = ltN c d := by
  show decide ([c] < [d]) = decide (c < d)
  exact decide_eq_decide.mpr (by simp [List.cons_lt_cons_iff])
theorem sorted_set {ks : List Str} {l : List Nat} (nd : ks.Nodup) (ndl : l.Nodup) (h : ∀ k, k ∈ ks ↔ ∃ c ∈ l, k = L c) : msort ltS ks = (msort ltN l).map L := by
  have ndm : (l.map L).Nodup := by
    rw [List.nodup_iff_pairwise_ne, List.pairwise_map]
    exact ndl.imp fun ne e => ne (L_inj e)
  have pm : ks.Perm (l.map L) := (List.perm_ext_iff_of_nodup nd ndm).mpr fun k => by
    rw [h, List.mem_map]
    exact ⟨fun ⟨c, hc, e⟩ => ⟨c, hc, e.symm⟩, fun ⟨c, hc, e⟩ => ⟨c, hc, e.symm⟩⟩
  rw [msort_congr stoS pm]
  refine sorted_perm_eq (le := fun a b => !ltS b a) (fun a b h1 h2 => stoS.tot a b (by simpa using h2) (by simpa using h1)) (msort_sorted stoS _) ?_ ((msort_perm _).trans ((msort_perm l).map L).symm)
  rw [List.pairwise_map]
  exact (msort_sorted stoN l).imp fun h => by rw [ltS_L]; exact h
end Av
namespace Av
open PySem PySem.Spec PyProof.Rows L2
def rOddN : R2 := fun x y H Q => ∃ n : Nat, x = .int (n : Int) ∧ y = .int 1 ∧ Q (.int ((n % 2 : Nat) : Int)) H
def rShrN : R2 := fun x y H Q => ∃ (i : Int) (k : Nat), x = .int i ∧ y = .int (k : Int) ∧ Q (.int (i / 2 ^ k)) H
def tBit (K : PySem.W.Frag) : TT := fun σ H Q => tOp rOddN (tOp rShrN (tVar 9) (tVar 3)) (tC (.int 1)) σ H fun x H' => ∃ k, TruV K x H' k ∧ Q k H'
theorem shaped_Ls : ∀ {l : List Nat}, Let l → SeqAt.shaped (.list (l.map dL)) = true := fun {l} h => by
  have h1 : ∀ l : List Nat, Let l → PyData.canLayAll0 (l.map dL) = true := fun l => by
    induction l with
    | nil => intro _; rfl
    | cons c r ih =>
      intro h
      have e1 := strOk_L (h c List.mem_cons_self)
      have e2 := ih fun d hd => h d (List.mem_cons_of_mem _ hd)
      show PyData.canLayAll0 (dL c :: r.map dL) = true
      simp [PyData.canLayAll0, PyData.canLay0, e1, e2]
  have e := h1 l h
  simp [SeqAt.shaped, PyData.canLay0, PyData.depth, depth_Ls, e]
theorem eqv_lnilL (l : List Nat) : PyData.eqv (.list (l.map dL)) (.list []) = decide (l = []) := by
  cases l with
  | nil => simp [PyData.eqv, PyData.eqvAll]
  | cons q r => simp [PyData.eqv, PyData.eqvAll]
theorem pick_sub : ∀ {ks : List Nat} {n c : Nat}, c ∈ pick n ks → c ∈ ks
  | [], n, c, h => by cases h
  | d :: ks, n, c, h => by
    have h : c ∈ (if n % 2 = 1 then d :: pick (n / 2) ks else pick (n / 2) ks) := h
    split at h
    · rcases List.mem_cons.mp h with e | h
      · rw [e]
        exact List.mem_cons_self
      · exact List.mem_cons_of_mem _ (pick_sub h)
    · exact List.mem_cons_of_mem _ (pick_sub h)
theorem clashG_succ {g : Nd → Nat} {t u : List Nat} {j c : Nat} (h : t[j]? = some c) : clashG g (t.take (j + 1)) u = (clashG g (t.take j) u || u.any fun b => decide (g (c, 0) = g (b, 1))) := by
  unfold clashG
  rw [List.take_add_one, h, List.any_append]
  simp
/-- what stands while the law's free sets are made -/
structure LSt (H0 H : Hp) (kq D : Addr) (ks : List Nat) (d : List (List L2.Key × V)) : Prop where
  sm : Same H0 H
  k : H kq = some (.lst (ks.map vL))
  d : H D = some (.dT d)
theorem LSt.new {H0 H : Hp} {kq D T : Addr} {ks : List Nat} {d : List (List L2.Key × V)} {o : HO} (h : LSt H0 H kq D ks d) (n : H T = none) : LSt H0 (upd H T o) kq D ks d := ⟨sn h.sm n, un n h.k, un n h.d⟩
theorem LSt.same {H0 H H1 : Hp} {kq D : Addr} {ks : List Nat} {d : List (List L2.Key × V)} (h : LSt H0 H kq D ks d) (n : Same H H1) : LSt H0 H1 kq D ks d := ⟨h.sm.trans n, n _ _ h.k, n _ _ h.d⟩
theorem LSt.ne {H0 H : Hp} {kq D : Addr} {ks : List Nat} {d : List (List L2.Key × V)} (h : LSt H0 H kq D ks d) : kq ≠ D := fun e => by
  have := h.k
  rw [e, h.d] at this
  cases this
theorem LSt.put {H0 H : Hp} {kq D : Addr} {ks : List Nat} {d d2 : List (List L2.Key × V)} (h : LSt H0 H kq D ks d) (nD : H0 D = none) : LSt H0 (upd H D (.dT d2)) kq D ks d2 :=
  ⟨su nD h.sm, by rw [upd_ne h.ne]; exact h.k, upd_same⟩
theorem g0_put {ks : List Nat} {i c : Nat} {j : Nat} (nd : ks.Nodup) (h : ks[i]? = some c) (hj : j < 2) :
    putK (dOf keyN ((nodes ks).take (2 * i + j)) (ivV (g0 ks))) (keyN (c, j)) (.int (2 * i + j : Nat)) = dOf keyN ((nodes ks).take (2 * i + j + 1)) (ivV (g0 ks)) := by
  have hg := nodes_get h hj
  rw [putK_dOf_new keyN_inj (not_mem_take (nodes_nodup nd) hg), List.take_add_one, hg]
  refine dOf_congr fun n _ => ?_
  by_cases e : n = (c, j)
  · rw [if_pos e, e]
    show _ = V.int ((2 * ks.idxOf c + j : Nat) : Int)
    rw [idx_get nd h]
  · rw [if_neg e]
section
variable {P : Program} {w : World} {K : PySem.W.Frag} {mg : Str → Option Value} {base : Heap}
def spLawSets : Sp := fun vs H Q _ => ∃ p : List Nat, vs = [.str (tx p)] ∧ 1 ≤ p.length ∧ p.length ≤ 12 ∧ Let p ∧ ∀ H' q xs, Same H H' → H q = none → H' q = some (.lst xs) → Paired (IsT H') xs (lawFree p) → Q (.ref q) H'
theorem ok_lawSets {f : Addr} {fd : FuncData} {k : Nat} (F : Fun K "_law_free_sets" "_law_free_sets" sLawSets f fd) (mS : mg "sorted" = none) (mSet : mg "set" = none) (mR : mg "range" = none) (mLen : mg "len" = none) (mMin : mg "min" = none) (mT : mg "tuple" = none) :
    FnOk P w K mg base CX0 (k + 1) f fd ["_law_pattern"] spLawSets := by
  refine F.ok scLawSets (fun vs H Q E h => ?_) (fun cdv A outer s H vs Q E hr h => ?_)
  · obtain ⟨p, rfl, _⟩ := h
    rfl
  · obtain ⟨p, rfl, l1, lp, letp, q⟩ := h
    have hu1 : (A.deeper (envOfC "_law_free_sets" (defScope sLawSets) s.heap.objs.size f cdv)).units + 1 < cLine := by have := hr.units; omega
    refine ⟨_, (pss_cons (ps_set (i := 1) scLawSets.nd rfl (.inr rfl) (pe_callB (cr_sortedSx rfl hr.units) (by rfl) mS (by decide +kernel) (pa_cons (pe_callTy (cr_setTx rfl) (by rfl) mSet (by decide +kernel) (pa_cons (pv 0) pa_nil)) pa_nil)))
      (pss_cons (ps_set (i := 2) scLawSets.nd rfl (.inr rfl) pe_dnewT)
      (pss_cons (ps_for PassesOwn.never rfl (pi_range1 (by rfl) mR (pa_cons (pe_callB call_len_seq (by rfl) mLen PySem.boot_len (pa_cons (pv 1) pa_nil)) pa_nil)) (pg_name (i := 3) scLawSets.nd rfl (.inl rfl))
        (pss_one (ps_asg (pe_tup (pa_cons (pe_op op_mul pe_int (pv 3)) (pa_cons (pe_op op_add (pe_op op_mul pe_int (pv 3)) pe_int) pa_nil))) (pg_tup rfl (pgs_cons (pg_sub (pv 2) (pe_tup (pa_cons (pe_ix ix_list (pv 1) (pv 3) (fun _ _ => rfl)) (pa_cons pe_int pa_nil))) (set_dict hu1)) (pgs_cons (pg_sub (pv 2) (pe_tup (pa_cons (pe_ix ix_list (pv 1) (pv 3) (fun _ _ => rfl)) (pa_cons pe_int pa_nil))) (set_dict hu1)) pgs_nil))))))
      (pss_cons (ps_for PassesOwn.never rfl (pi_range1 (by rfl) mR (pa_cons (pe_op op_mul pe_int (pe_callB call_len_seq (by rfl) mLen PySem.boot_len (pa_cons (pv 1) pa_nil))) pa_nil)) (pg_name (i := 4) scLawSets.nd rfl (.inl rfl))
        (pss_one (ps_for PassesOwn.never rfl (pi_range1 (by rfl) mR (pa_cons (pe_op op_sub (pe_callB call_len_str (by rfl) mLen PySem.boot_len (pa_cons (pv 0) pa_nil)) pe_int) pa_nil)) (pg_name (i := 3) scLawSets.nd rfl (.inl rfl))
        (pss_cons (ps_par (i := 5) (j := 6) (by rfl) scLawSets.nd rfl rfl (by decide) rfl rfl (pa_cons (pe_tup (pa_cons (pe_ix ix_str (pv 0) (pv 3) (fun _ _ => rfl)) (pa_cons pe_int pa_nil))) (pa_cons (pe_tup (pa_cons (pe_ix ix_str (pv 0) (pe_op op_add (pv 3) pe_int) (fun _ _ => rfl)) (pa_cons pe_int pa_nil))) pa_nil)) (by rfl))
      (pss_cons (ps_set (i := 7) scLawSets.nd rfl (.inl rfl) (pe_callB (call_min2 rfl) (by rfl) mMin (by decide +kernel) (pa_cons (pe_dget hu1 (pv 2) (pv 5) (fun _ _ => rfl)) (pa_cons (pe_dget hu1 (pv 2) (pv 6) (fun _ _ => rfl)) pa_nil))))
      (pss_one (ps_asg (pe_tup (pa_cons (pv 7) (pa_cons (pv 7) pa_nil))) (pg_tup rfl (pgs_cons (pg_sub (pv 2) (pv 5) (set_dict hu1)) (pgs_cons (pg_sub (pv 2) (pv 6) (set_dict hu1)) pgs_nil))))))))))
      (pss_cons (ps_set (i := 8) scLawSets.nd rfl (.inl rfl) (pe_lst pa_nil))
      (pss_cons (ps_for PassesOwn.never rfl (pi_range2 (by rfl) mR (pa_cons pe_int (pa_cons (pe_op op_oneShl pe_int (pe_callB call_len_seq (by rfl) mLen PySem.boot_len (pa_cons (pv 1) pa_nil))) pa_nil))) (pg_name (i := 9) scLawSets.nd rfl (.inr rfl))
        (pss_cons (ps_set (i := 10) scLawSets.nd rfl (.inl rfl) (pe_callTy call_tuple_of (by rfl) mT (by decide +kernel) (pa_cons (pe_lc (own := [("_law_at", 3)]) (g := gName 3) (tt := tBit K) (te := tOp (rIxL K) (tVar 1) (tVar 3)) rfl scLawSets.nd (pi_range1 (by rfl) mR (pa_cons (pe_callB call_len_seq (by rfl) mLen PySem.boot_len (pa_cons (pv 1) pa_nil)) pa_nil))
            (blkOk_by (N := ["_law_pattern", "_law_kinds", "_law_marks", "_law_at", "_law_turn", "_law_left", "_law_right", "_law_least", "_law_found", "_law_number", "_law_told", "_law_joined", "_law_one", "_law_other"]) (sc := defScope sLawSets) (by decide +kernel))
            (fun _ _ _ _ _ => pg_name (i := 3) scLawSets.nd rfl (Or.inl rfl))
            (fun _ _ _ _ _ => by exact pts_one (pt_truth (pe_op op_odd (pe_op op_shrN (pv 9) (pv 3)) pe_int) (fun _ => rfl)))
            (fun _ _ _ _ _ => by exact pe_ix ix_list (pv 1) (pv 3) (fun _ _ => rfl))) pa_nil)))
      (pss_cons (ps_set (i := 11) scLawSets.nd rfl (.inl rfl) pe_bl)
      (pss_cons (ps_for PassesOwn.never rfl (pi_tup (pv 10)) (pg_name (i := 12) scLawSets.nd rfl (.inr rfl))
        (pss_one (ps_if (pt_cmpR (op_neD hr.units) (pe_lc (own := [("_law_other", 13)]) (g := gName 13) rfl scLawSets.nd (pi_tup (pv 10))
              (blkOk_by (N := ["_law_pattern", "_law_kinds", "_law_marks", "_law_at", "_law_turn", "_law_left", "_law_right", "_law_least", "_law_found", "_law_number", "_law_told", "_law_joined", "_law_one", "_law_other"]) (sc := defScope sLawSets) (by decide +kernel))
              (fun _ _ _ _ _ => pg_name (i := 13) scLawSets.nd rfl (Or.inl rfl))
              (fun _ _ _ _ _ => pts_one (pt_cmpR op_eq (pe_dget hu1 (pv 2) (pe_tup (pa_cons (pv 12) (pa_cons pe_int pa_nil))) (fun _ _ => rfl)) (pe_dget hu1 (pv 2) (pe_tup (pa_cons (pv 13) (pa_cons pe_int pa_nil))) (fun _ _ => rfl)) rfl))
              (fun _ _ _ _ _ => pv 13)) (pe_lst pa_nil) rfl) (pss_one (ps_set (i := 11) scLawSets.nd rfl (.inl rfl) pe_bl)) pss_nil)))
      (pss_one (ps_if (pt_not (pt_val (pv 11))) (pss_one (ps_expr (pe_bm PySem.F.plainAttrs_list PySem.F.slot_list_append PySem.F.type_list_append mt_append (pv 8) (pa_cons (pv 10) pa_nil)))) pss_nil))))))
      (pss_one (ps_ret (pe_callB (cr_sortedD hr.units) (by rfl) mS (by decide +kernel) (pa_cons (pv 8) pa_nil)))))))))), ?_⟩
    -- sorted(set(pattern))
    refine ⟨.str (tx p), rfl, tx p, rfl, by rw [tx_size]; omega, fun sq cn hcn nsq => ?_⟩
    generalize hO : SetXO _ sq (sgnIn (tx p) (tx p).cps.size) cn = O
    refine ⟨sq, sgnIn (tx p) (tx p).cps.size, cn, rfl, upd_same.trans (congrArg some hO.symm), by rw [tx_size] at hcn; omega, fun ks kq nd hk lk nkq => ?_⟩
    have eks : (ks.mergeSort (PySem.W.dataLe false PyData.str)).map V.str = (msort ltN (kTo p)).map vL := by
      rw [sortS, sorted_set nd (nodup_kTo p) fun k => ?_, List.map_map]
      · rfl
      · rw [hk]
        unfold sgnIn
        rw [tx_size]
        have e : (tx p).cps.toList = p := by simp [tx]
        rw [e, List.take_length, List.any_eq_true]
        exact ⟨fun ⟨c, hc, e⟩ => ⟨c, mem_kTo.mpr hc, of_decide_eq_true e⟩, fun ⟨c, hc, e⟩ => ⟨c, mem_kTo.mp hc, decide_eq_true e⟩⟩
    rw [eks]
    have lL : (msort ltN (kTo p)).length ≤ 4 := by rw [(msort_perm _).length_eq]; exact kTo_four letp
    have ndL : (msort ltN (kTo p)).Nodup := (msort_perm _).nodup_iff.mpr (nodup_kTo p)
    have memL : ∀ c, c ∈ msort ltN (kTo p) ↔ c ∈ p := fun c => (msort_perm _).mem_iff.trans mem_kTo
    have hLaw : lawMarks p = roundsL (adj p) (2 * (msort ltN (kTo p)).length) (g0 (msort ltN (kTo p))) := by
      unfold lawMarks
      rw [(msort_perm _).length_eq]
    have hFree : lawFree p = msort ltT ((subL (msort ltN (kTo p))).filter (freeG (lawMarks p))) := rfl
    generalize msort ltN (kTo p) = Lk at lL ndL memL hLaw hFree ⊢
    -- {}
    refine fun D nD0 => ?_
    have ls : LSt H (upd (upd (upd H sq O) kq (.lst (Lk.map vL))) D (.dT [])) kq D Lk [] := ⟨sn (sn (same_new nsq) nkq) nD0, un nD0 upd_same, upd_same⟩
    have nD : H D = none := by
      cases e : H D with
      | none => rfl
      | some u => rw [un nkq (un nsq e)] at nD0; cases nD0
    generalize upd (upd (upd H sq O) kq (.lst (Lk.map vL))) D (.dT []) = H2 at ls ⊢
    have small : ∀ n : Nat, n ≤ 1000 → -(2 ^ 62) ≤ ((n : Nat) : Int) ∧ ((n : Nat) : Int) < 2 ^ 62 := fun n h => by omega
    -- the first marks
    refine ⟨.ref kq, rfl, kq, _, rfl, .inl (SqL.of ls.k), (((Lk.map vL).length : Nat) : Int), rfl, (small _ (by rw [List.length_map]; omega)).1, (small _ (by rw [List.length_map]; omega)).2, ?_⟩
    rw [Int.toNat_natCast, List.length_map]
    refine for_it walk_range (fun i σ H' => ∃ y3 y4 y5 y6 y7 y8 y9 y10 y11 y12 y13, σ = [some (.str (tx p)), some (.ref kq), some (.ref D), y3, y4, y5, y6, y7, y8, y9, y10, y11, y12, y13] ∧ LSt H H' kq D Lk (dOf keyN ((nodes Lk).take (2 * i)) (ivV (g0 Lk))))
      ⟨none, none, none, none, none, none, none, none, none, none, none, rfl, ls⟩ (fun _ _ _ _ _ => True.intro) ?_ ?_
    · rintro i x σ H9 H3 hi ⟨y3, y4, y5, y6, y7, y8, y9, y10, y11, y12, y13, rfl, ls3⟩ ⟨rfl, hx⟩
      obtain rfl : x = .int (i : Int) := hx.trans (congrArg V.int (Int.zero_add _))
      obtain ⟨c, hc⟩ : ∃ c, Lk[i]? = some c := ⟨_, List.getElem?_eq_getElem hi⟩
      have hcv : atI (Lk.map vL) (i : Int) = some (vL c) := atI_nat (by rw [List.getElem?_map, hc]; rfl)
      have two : CMul 2 (i : Int) := .inl ⟨by decide, by decide⟩
      refine ⟨.int i, rfl, 2, i, rfl, rfl, two, .int i, rfl, 2, i, rfl, rfl, two, 2 * (i : Int), 1, rfl, rfl, Nat.le_of_lt (small1000 (show 2 ≤ 1000 by decide)), fun V0 nV0 => ?_⟩
      have ls4 := ls3.new (o := .tup [.int (2 * (i : Int)), .int (2 * (i : Int) + 1)]) nV0
      refine ⟨V0, _, rfl, SqT.of upd_same, rfl, .int (2 * (i : Int)), _, rfl, .ref D, rfl, .ref kq, rfl, .int i, rfl, kq, _, i, vL c, rfl, rfl, SqL.of ls4.k, hcv, Nat.le_of_lt (small1000 (show 2 ≤ 1000 by decide)), fun B nB => ?_⟩
      generalize upd H3 V0 (.tup [.int (2 * (i : Int)), .int (2 * (i : Int) + 1)]) = H4 at ls4 nB ⊢
      have ls5 := ls4.new (o := .tup [vL c, .int 0]) nB
      have hB : (upd H4 B (.tup [vL c, .int 0])) B = some (.tup ((keyN (c, 0)).map kV)) := upd_same
      have dl : ∀ {m : Nat}, (dOf keyN ((nodes Lk).take m) (ivV (g0 Lk))).length < sizeLine := fun {m} => by
        rw [dOf_len, List.length_take, nodes_len]
        exact small1000 (by omega)
      refine ⟨D, _, rfl, DPut.t ls5.d hB dl, ?_⟩
      have ls6 := ls5.put (d2 := putK (dOf keyN ((nodes Lk).take (2 * i)) (ivV (g0 Lk))) (keyN (c, 0)) (.int (2 * (i : Int)))) nD
      have e6 : putK (dOf keyN ((nodes Lk).take (2 * i)) (ivV (g0 Lk))) (keyN (c, 0)) (.int (2 * (i : Int))) = dOf keyN ((nodes Lk).take (2 * i + 1)) (ivV (g0 Lk)) := by
        have := g0_put (j := 0) ndL hc (by decide)
        rw [show ((2 * i + 0 : Nat) : Int) = 2 * (i : Int) by omega] at this
        exact this
      rw [e6] at ls6 ⊢
      generalize upd (upd H4 B (.tup [vL c, .int 0])) D (.dT (dOf keyN ((nodes Lk).take (2 * i + 1)) (ivV (g0 Lk)))) = H6 at ls6 ⊢
      refine ⟨.int (2 * (i : Int) + 1), _, rfl, .ref D, rfl, .ref kq, rfl, .int i, rfl, kq, _, i, vL c, rfl, rfl, SqL.of ls6.k, hcv, Nat.le_of_lt (small1000 (show 2 ≤ 1000 by decide)), fun B2 nB2 => ?_⟩
      have ls7 := ls6.new (o := .tup [vL c, .int 1]) nB2
      have hB2 : (upd H6 B2 (.tup [vL c, .int 1])) B2 = some (.tup ((keyN (c, 1)).map kV)) := upd_same
      refine ⟨D, _, rfl, DPut.t ls7.d hB2 dl, rfl, _, _, _, _, _, _, _, _, _, _, _, rfl, ?_⟩
      have e8 : putK (dOf keyN ((nodes Lk).take (2 * i + 1)) (ivV (g0 Lk))) (keyN (c, 1)) (.int (2 * (i : Int) + 1)) = dOf keyN ((nodes Lk).take (2 * (i + 1))) (ivV (g0 Lk)) := by
        have := g0_put (j := 1) ndL hc (by decide)
        rw [show ((2 * i + 1 : Nat) : Int) = 2 * (i : Int) + 1 by omega, show 2 * i + 1 + 1 = 2 * (i + 1) by omega] at this
        exact this
      rw [e8]
      exact ls7.put nD
    · rintro σ H3 ⟨y3, y4, y5, y6, y7, y8, y9, y10, y11, y12, y13, rfl, ls3⟩
      rw [← nodes_len, List.take_length] at ls3
      -- the rounds
      refine ⟨.ref kq, rfl, kq, _, rfl, .inl (SqL.of ls3.k), 2, (((Lk.map vL).length : Nat) : Int), rfl, rfl, .inl ⟨by decide, by decide⟩, 2 * (((Lk.map vL).length : Nat) : Int), rfl, ?_, ?_, ?_⟩
      · rw [List.length_map]; omega
      · rw [List.length_map]; omega
      rw [show (2 * (((Lk.map vL).length : Nat) : Int)).toNat = 2 * Lk.length by rw [List.length_map]; omega]
      have dl : ∀ {g : Nd → V}, (dOf keyN (nodes Lk) g).length < sizeLine := fun {g} => by
        rw [dOf_len, nodes_len]
        exact small1000 (by omega)
      refine for_it walk_range (fun i σ H' => ∃ y3 y4 y5 y6 y7 y8 y9 y10 y11 y12 y13, σ = [some (.str (tx p)), some (.ref kq), some (.ref D), y3, y4, y5, y6, y7, y8, y9, y10, y11, y12, y13] ∧ LSt H H' kq D Lk (dOf keyN (nodes Lk) (ivV (roundsL (adj p) i (g0 Lk)))))
        ⟨_, _, _, _, _, _, _, _, _, _, _, rfl, ls3⟩ (fun _ _ _ _ _ => True.intro) ?_ ?_
      · rintro i x σ H9 H4 hi ⟨y3, y4, y5, y6, y7, y8, y9, y10, y11, y12, y13, rfl, ls4⟩ ⟨rfl, hx⟩
        have ltx : (tx p).length ≤ sizeLine := by rw [tx_len]; exact Nat.le_of_lt (small1000 (by omega))
        have ladj : (adj p).length = p.length - 1 := by
          unfold adj
          rw [List.length_zip, List.length_drop]
          omega
        refine ⟨.str (tx p), rfl, tx p, rfl, ltx, ((tx p).length : Nat), 1, rfl, rfl, (((tx p).length : Nat) : Int) - 1, rfl, ?_, ?_, ?_⟩
        · rw [tx_len]; omega
        · rw [tx_len]; omega
        rw [show ((((tx p).length : Nat) : Int) - 1).toNat = (adj p).length by rw [tx_len, ladj]; omega]
        generalize hG : roundsL (adj p) i (g0 Lk) = G at ls4
        have hG2 : roundsL (adj p) (i + 1) (g0 Lk) = lawRound (adj p) G := by rw [← hG]; rfl
        rw [hG2]
        refine for_it walk_range (fun j σ H' => ∃ y3 y4 y5 y6 y7 y8 y9 y10 y11 y12 y13, σ = [some (.str (tx p)), some (.ref kq), some (.ref D), y3, y4, y5, y6, y7, y8, y9, y10, y11, y12, y13] ∧ LSt H H' kq D Lk (dOf keyN (nodes Lk) (ivV (lawRound ((adj p).take j) G))))
          ⟨_, _, _, _, _, _, _, _, _, _, _, rfl, ls4⟩ (fun _ _ _ _ _ => True.intro) ?_ ?_
        · rintro j x σ H9 H5 hj ⟨y3, y4, y5, y6, y7, y8, y9, y10, y11, y12, y13, rfl, ls5⟩ ⟨rfl, hx⟩
          obtain rfl : x = .int (j : Int) := hx.trans (congrArg V.int (Int.zero_add _))
          have hj1 : j + 1 < p.length := by omega
          obtain ⟨c, hc⟩ : ∃ c, p[j]? = some c := ⟨_, List.getElem?_eq_getElem (by omega)⟩
          obtain ⟨d, hd⟩ : ∃ d, p[j + 1]? = some d := ⟨_, List.getElem?_eq_getElem hj1⟩
          have ecps : (tx p).cps.toList = p := by simp [tx]
          have ac : atI (tx p).cps.toList (j : Int) = some c := by rw [ecps]; exact atI_nat hc
          have ad : atI (tx p).cps.toList ((j : Int) + 1) = some d := by
            rw [ecps, show (j : Int) + 1 = ((j + 1 : Nat) : Int) by omega]
            exact atI_nat hd
          have mc : (c, 0) ∈ nodes Lk := mem_nodes.mpr ⟨(memL c).mpr (List.mem_of_getElem? hc), Nat.zero_lt_two⟩
          have md : (d, 1) ∈ nodes Lk := mem_nodes.mpr ⟨(memL d).mpr (List.mem_of_getElem? hd), Nat.one_lt_two⟩
          have hround : lawRound ((adj p).take (j + 1)) G = lowM (lawRound ((adj p).take j) G) c d := by
            unfold lawRound
            exact fold_take_succ (f := fun g e => lowM g e.1 e.2) (adj_get hc (by rw [List.getElem?_drop, Nat.add_comm]; exact hd))
          rw [hround]
          generalize lawRound ((adj p).take j) G = g at ls5
          refine ⟨.str (tx p), rfl, .int j, rfl, tx p, j, c, rfl, rfl, ltx, ac, Nat.le_of_lt (small1000 (show 2 ≤ 1000 by decide)), fun T1 nT1 => ?_⟩
          have ls6 := ls5.new (o := .tup [vL c, .int 0]) nT1
          have hT1 : (upd H5 T1 (.tup [vL c, .int 0])) T1 = some (.tup ((keyN (c, 0)).map kV)) := upd_same
          refine ⟨.str (tx p), rfl, .int j, rfl, j, 1, rfl, rfl, tx p, (j : Int) + 1, d, rfl, rfl, ltx, ad, Nat.le_of_lt (small1000 (show 2 ≤ 1000 by decide)), fun T2 nT2 => ⟨_, _, rfl, ?_⟩⟩
          have ls7 := ls6.new (o := .tup [vL d, .int 1]) nT2
          have hT1' := un (u := .tup [vL d, .int 1]) nT2 hT1
          have hT2 : (upd (upd H5 T1 (.tup [vL c, .int 0])) T2 (.tup [vL d, .int 1])) T2 = some (.tup ((keyN (d, 1)).map kV)) := upd_same
          generalize upd (upd H5 T1 (.tup [vL c, .int 0])) T2 (.tup [vL d, .int 1]) = H7 at ls7 hT1' hT2 ⊢
          have gc : DGet H7 D (.ref T1) (some (.int (g (c, 0) : Nat))) := by
            rw [← show valV (dOf keyN (nodes Lk) (ivV g)) (keyN (c, 0)) = some (.int (g (c, 0) : Nat)) from valV_dOf keyN_inj mc]
            exact DGet.t ls7.d hT1'
          have gd : DGet H7 D (.ref T2) (some (.int (g (d, 1) : Nat))) := by
            rw [← show valV (dOf keyN (nodes Lk) (ivV g)) (keyN (d, 1)) = some (.int (g (d, 1) : Nat)) from valV_dOf keyN_inj md]
            exact DGet.t ls7.d hT2
          refine ⟨.ref D, rfl, .ref T1, rfl, D, _, rfl, gc, .ref D, rfl, .ref T2, rfl, D, _, rfl, gd, _, _, rfl, ?_⟩
          have em : (if ((g (d, 1) : Nat) : Int) < ((g (c, 0) : Nat) : Int) then ((g (d, 1) : Nat) : Int) else ((g (c, 0) : Nat) : Int)) = ((min (g (c, 0)) (g (d, 1)) : Nat) : Int) := by
            split <;> omega
          rw [em]
          refine ⟨_, rfl, _, rfl, Nat.le_of_lt (small1000 (show 2 ≤ 1000 by decide)), fun T3 nT3 => ?_⟩
          have ls8 := ls7.new (o := .tup [.int (min (g (c, 0)) (g (d, 1)) : Nat), .int (min (g (c, 0)) (g (d, 1)) : Nat)]) nT3
          have h1 := un (u := .tup [.int (min (g (c, 0)) (g (d, 1)) : Nat), .int (min (g (c, 0)) (g (d, 1)) : Nat)]) nT3 hT1'
          have h2 := un (u := .tup [.int (min (g (c, 0)) (g (d, 1)) : Nat), .int (min (g (c, 0)) (g (d, 1)) : Nat)]) nT3 hT2
          refine ⟨T3, _, rfl, SqT.of upd_same, rfl, _, _, rfl, .ref D, rfl, .ref T1, rfl, D, _, rfl, DPut.t ls8.d h1 dl, ?_⟩
          rw [putK_dOf keyN_inj mc]
          have ls9 := ls8.put (d2 := dOf keyN (nodes Lk) fun n => if n = (c, 0) then .int (min (g (c, 0)) (g (d, 1)) : Nat) else ivV g n) nD
          have h3 : upd (upd H7 T3 (.tup [.int (min (g (c, 0)) (g (d, 1)) : Nat), .int (min (g (c, 0)) (g (d, 1)) : Nat)])) D (.dT (dOf keyN (nodes Lk) fun n => if n = (c, 0) then .int (min (g (c, 0)) (g (d, 1)) : Nat) else ivV g n)) T2 = some (.tup ((keyN (d, 1)).map kV)) := by
            rw [upd_ne fun z => by rw [z, ls8.d] at h2; cases h2]
            exact h2
          refine ⟨_, _, rfl, .ref D, rfl, .ref T2, rfl, D, _, rfl, DPut.t ls9.d h3 dl, rfl, _, _, _, _, _, _, _, _, _, _, _, rfl, ?_⟩
          rw [putK_dOf keyN_inj md]
          have ls10 := ls9.put (d2 := dOf keyN (nodes Lk) (ivV (lowM g c d))) nD
          have ef : (fun n => if n = (d, 1) then V.int (min (g (c, 0)) (g (d, 1)) : Nat) else (fun n => if n = (c, 0) then V.int (min (g (c, 0)) (g (d, 1)) : Nat) else ivV g n) n) = ivV (lowM g c d) := by
            funext n
            show (if n = (d, 1) then V.int (min (g (c, 0)) (g (d, 1)) : Nat) else if n = (c, 0) then V.int (min (g (c, 0)) (g (d, 1)) : Nat) else V.int (g n : Nat)) = V.int ((if n = (c, 0) ∨ n = (d, 1) then min (g (c, 0)) (g (d, 1)) else g n : Nat) : Int)
            by_cases z1 : n = (d, 1)
            · rw [if_pos z1, if_pos (.inr z1)]
            · rw [if_neg z1]
              by_cases z2 : n = (c, 0)
              · rw [if_pos z2, if_pos (.inl z2)]
              · rw [if_neg z2, if_neg fun z => z.elim z2 z1]
          rw [ef]
          exact ls10
        · rintro σ H5 ⟨y3, y4, y5, y6, y7, y8, y9, y10, y11, y12, y13, rfl, ls5⟩
          rw [List.take_length] at ls5
          exact ⟨_, _, _, _, _, _, _, _, _, _, _, rfl, ls5⟩
      · rintro σ H4 ⟨y3, y4, y5, y6, y7, y8, y9, y10, y11, y12, y13, rfl, ls4⟩
        rw [← hLaw] at ls4
        generalize lawMarks p = g at ls4 hFree
        -- found = []
        refine ⟨Nat.zero_le _, fun fl nfl => ?_⟩
        have lsf := ls4.new (o := .lst []) nfl
        have hfl : (upd H4 fl (.lst [])) fl = some (.lst []) := upd_same
        have nkf : kq ≠ fl := ne_of_none ls4.k nfl
        have nDf : D ≠ fl := ne_of_none ls4.d nfl
        have nHf : H fl = none := by
          cases e : H fl with
          | none => rfl
          | some u => rw [ls4.sm _ _ e] at nfl; cases nfl
        generalize upd H4 fl (.lst []) = H5 at lsf hfl ⊢
        have hp2 : (2 : Int) ^ (Lk.map vL).length = ((2 ^ Lk.length : Nat) : Int) := by
          rw [List.length_map]
          simp
        have p16 : 2 ^ Lk.length ≤ 16 := Nat.pow_le_pow_right (n := 2) (by decide) lL
        have ppos : 1 ≤ 2 ^ Lk.length := Nat.pow_pos (by decide)
        refine ⟨.ref kq, rfl, kq, _, rfl, .inl (SqL.of lsf.k), (Lk.map vL).length, rfl, rfl, by rw [List.length_map]; omega, 1, _, rfl, ⟨by decide, by decide, ?_, ?_⟩, ?_⟩
        · rw [hp2]; omega
        · rw [hp2]; omega
        rw [hp2, show (((2 ^ Lk.length : Nat) : Int) - 1).toNat = (subL Lk).length by rw [subL_len]; omega]
        refine for_it walk_range (fun i σ H' => ∃ y3 y4 y5 y6 y7 y9 y10 y11 y12 y13, σ = [some (.str (tx p)), some (.ref kq), some (.ref D), y3, y4, y5, y6, y7, some (.ref fl), y9, y10, y11, y12, y13] ∧ LSt H H' kq D Lk (dOf keyN (nodes Lk) (ivV g)) ∧
            ∃ zs, H' fl = some (.lst zs) ∧ Paired (IsT H') zs (((subL Lk).take i).filter (freeG g)))
          ⟨_, _, _, _, _, _, _, _, _, _, rfl, lsf, [], hfl, .nil⟩ (fun _ _ _ _ _ => True.intro) ?_ ?_
        · rintro i x σ H9 H6 hi ⟨y3, y4, y5, y6, y7, y9, y10, y11, y12, y13, rfl, ls6, zs, hz, pz⟩ ⟨rfl, hx⟩
          obtain rfl : x = .int ((i + 1 : Nat) : Int) := hx.trans (congrArg V.int (by omega))
          have hi2 : i + 1 < 2 ^ Lk.length := by rw [subL_len] at hi; omega
          have hti := subL_get hi2
          refine ⟨.ref kq, rfl, kq, _, rfl, .inl (SqL.of ls6.k), (((Lk.map vL).length : Nat) : Int), rfl, (small _ (by rw [List.length_map]; omega)).1, (small _ (by rw [List.length_map]; omega)).2, fun C nC => ?_⟩
          rw [Int.toNat_natCast, List.length_map]
          refine lc_it walk_range (fun j H' => Same H6 H' ∧ H' C = some (.lst ((pick (i + 1) (Lk.take j)).map vL))) ⟨same_new nC, upd_same⟩ (fun _ _ _ _ => True.intro) ?_ ?_
          · rintro j x H9 H7 hj ⟨sm7, hC⟩ ⟨rfl, hx⟩
            obtain rfl : x = .int (j : Int) := hx.trans (congrArg V.int (Int.zero_add _))
            obtain ⟨c, hc⟩ : ∃ c, Lk[j]? = some c := ⟨_, List.getElem?_eq_getElem hj⟩
            have hcv : atI (Lk.map vL) (j : Int) = some (vL c) := atI_nat (by rw [List.getElem?_map, hc]; rfl)
            refine ⟨rfl, ?_⟩
            refine ⟨.int ((i + 1 : Nat) : Int), rfl, .int j, rfl, ((i + 1 : Nat) : Int), j, rfl, rfl, (i + 1) / 2 ^ j, congrArg V.int (by simp), rfl, _, rfl, ?_⟩
            rw [pick_take hc]
            by_cases e : (i + 1) / 2 ^ j % 2 = 1
            · rw [if_pos e, e]
              show tOp (rIxL K) (tVar 1) (tVar 3) _ _ _
              refine ⟨.ref kq, rfl, .int j, rfl, kq, _, j, vL c, rfl, rfl, SqL.of (sm7 _ _ ls6.k), hcv, _, hC, ?_, su nC sm7, ?_⟩
              · rw [List.length_map]
                have := pick_len (Lk.take j) (i + 1)
                rw [List.length_take] at this
                exact small1000 (by omega)
              · rw [upd_same, List.map_append]
                rfl
            · have e0 : (i + 1) / 2 ^ j % 2 = 0 := by omega
              rw [if_neg e, e0, List.append_nil]
              exact ⟨sm7, hC⟩
          · rintro H7 ⟨sm7, hC⟩
            rw [List.take_length] at hC
            refine ⟨C, _, rfl, .inl ⟨SqL.of hC, fun T nT => ?_⟩⟩
            have lt4 : (pick (i + 1) Lk).length ≤ 4 := Nat.le_trans (pick_len _ _) lL
            have tsub : ∀ c ∈ pick (i + 1) Lk, c ∈ Lk := fun c h => pick_sub h
            generalize pick (i + 1) Lk = t at hti nT lt4 tsub
            have ls8 := (ls6.same sm7).new (o := .tup (t.map vL)) nT
            have hz8 := un (u := .tup (t.map vL)) nT (sm7 _ _ hz)
            have pz8 : Paired (IsT (upd H7 T (.tup (t.map vL)))) zs (((subL Lk).take i).filter (freeG g)) := isTs_keep ((tk_same sm7).trans (tk_new nT)) pz
            have hT8 : (upd H7 T (.tup (t.map vL))) T = some (.tup (t.map vL)) := upd_same
            generalize upd H7 T (.tup (t.map vL)) = H8 at ls8 hz8 pz8 hT8 ⊢
            refine ⟨.ref T, rfl, T, rfl, ⟨_, SqT.of hT8⟩, ?_⟩
            refine for_it walk_tup (fun j σ H' => ∃ y12 y13, σ = [some (.str (tx p)), some (.ref kq), some (.ref D), y3, y4, y5, y6, y7, some (.ref fl), some (.int ((i + 1 : Nat) : Int)), some (.ref T), some (.bl (clashG g (t.take j) t)), y12, y13] ∧ Same H8 H')
              ⟨_, _, rfl, fun _ _ h => h⟩ (fun j σ H' _ ⟨_, _, _, sm⟩ => SqT.of (sm _ _ hT8)) ?_ ?_
            · rintro j x σ H10 H9 hj ⟨y12, y13, rfl, sm9⟩ ⟨rfl, hx⟩
              obtain ⟨c, hc, rfl⟩ := map_get hx
              have mc : (c, 0) ∈ nodes Lk := mem_nodes.mpr ⟨tsub c (List.mem_of_getElem? hc), Nat.zero_lt_two⟩
              refine ⟨.ref T, rfl, T, rfl, ⟨_, SqT.of (sm9 _ _ hT8)⟩, fun C2 nC2 => ?_⟩
              refine lc_it walk_tup (fun k H' => Same H9 H' ∧ H' C2 = some (.lst (((t.take k).filter fun b => decide (g (c, 0) = g (b, 1))).map vL))) ⟨same_new nC2, upd_same⟩ (fun k H' _ h => SqT.of (h.1 _ _ (sm9 _ _ hT8))) ?_ ?_
              · rintro k x H11 H10 hk ⟨sm10, hC2⟩ ⟨rfl, hx⟩
                obtain ⟨d, hd, rfl⟩ := map_get hx
                have md : (d, 1) ∈ nodes Lk := mem_nodes.mpr ⟨tsub d (List.mem_of_getElem? hd), Nat.one_lt_two⟩
                have hD10 := sm10 _ _ (sm9 _ _ ls8.d)
                refine ⟨rfl, ?_⟩
                refine ⟨.ref D, rfl, vL c, rfl, Nat.le_of_lt (small1000 (show 2 ≤ 1000 by decide)), fun B1 nB1 => ⟨D, .int (g (c, 0) : Nat), rfl, ?_, ?_⟩⟩
                · rw [← show valV (dOf keyN (nodes Lk) (ivV g)) (keyN (c, 0)) = some (.int (g (c, 0) : Nat)) from valV_dOf keyN_inj mc]
                  exact DGet.t (un nB1 hD10) upd_same
                refine ⟨.ref D, rfl, vL d, rfl, Nat.le_of_lt (small1000 (show 2 ≤ 1000 by decide)), fun B2 nB2 => ⟨D, .int (g (d, 1) : Nat), rfl, ?_, ?_⟩⟩
                · rw [← show valV (dOf keyN (nodes Lk) (ivV g)) (keyN (d, 1)) = some (.int (g (d, 1) : Nat)) from valV_dOf keyN_inj md]
                  exact DGet.t (un nB2 (un nB1 hD10)) upd_same
                refine ⟨rfl, _, rfl, ?_⟩
                have sm12 := sn (o := .tup [vL d, .int 1]) (sn (o := .tup [vL c, .int 0]) sm10 nB1) nB2
                have hC12 := un (u := .tup [vL d, .int 1]) nB2 (un (u := .tup [vL c, .int 0]) nB1 hC2)
                have ed : decide (V.int (g (c, 0) : Nat) = V.int (g (d, 1) : Nat)) = decide (g (c, 0) = g (d, 1)) := by
                  rw [Bool.eq_iff_iff]
                  simp
                  omega
                rw [ed, List.take_add_one, hd, List.filter_append]
                by_cases e : g (c, 0) = g (d, 1)
                · simp only [e, decide_true, if_true]
                  refine ⟨vL d, rfl, _, hC12, ?_, su nC2 sm12, ?_⟩
                  · rw [List.length_map]
                    have h1 := List.length_filter_le (fun b => decide (g (c, 0) = g (b, 1))) (t.take k)
                    rw [List.length_take] at h1
                    exact small1000 (by omega)
                  · rw [upd_same, List.map_append]
                    simp [e]
                · simp only [e, decide_false, Bool.false_eq_true, if_false]
                  refine ⟨sm12, ?_⟩
                  rw [hC12]
                  simp [e]
              · rintro H10 ⟨sm10, hC2⟩
                rw [List.length_map, List.take_length] at hC2
                have ll : Let (t.filter fun b => decide (g (c, 0) = g (b, 1))) := fun b hb => letp b ((memL b).mp (tsub b (List.mem_filter.mp hb).1))
                refine ⟨Nat.zero_le _, fun E2 nE2 => ?_⟩
                refine ⟨.list ((t.filter fun b => decide (g (c, 0) = g (b, 1))).map dL), .list [], .lst (SqL.of (un nE2 hC2)) (dp_Ls _), .lst (SqL.of upd_same) .nil, shaped_Ls ll, shaped_Ls (l := []) (fun c h => by cases h), _, rfl, ?_⟩
                have hsucc := clashG_succ (g := g) (u := t) hc
                have hany : (t.any fun b => decide (g (c, 0) = g (b, 1))) = !decide ((t.filter fun b => decide (g (c, 0) = g (b, 1))) = []) := by
                  rw [Bool.eq_iff_iff]
                  simp
                rw [eqv_lnilL]
                rw [hany] at hsucc
                by_cases e : (t.filter fun b => decide (g (c, 0) = g (b, 1))) = []
                · simp only [e, decide_true, Bool.not_true, Bool.false_eq_true, if_false]
                  rw [e] at hsucc
                  simp only [decide_true, Bool.not_true, Bool.or_false] at hsucc
                  rw [hsucc]
                  exact ⟨_, _, rfl, sn (sm9.trans sm10) nE2⟩
                · simp only [e, decide_false, Bool.not_false, if_true]
                  simp only [e, decide_false, Bool.not_false, Bool.or_true] at hsucc
                  rw [hsucc]
                  exact ⟨_, _, rfl, sn (sm9.trans sm10) nE2⟩
            · rintro σ H9 ⟨y12, y13, rfl, sm9⟩
              rw [List.length_map, List.take_length]
              refine ⟨.bl (clashG g t t), rfl, clashG g t t, rfl, ?_⟩
              have ls9 := ls8.same sm9
              have hz9 := sm9 _ _ hz8
              have pz9 := isTs_keep (tk_same sm9) pz8
              rw [List.take_add_one, hti, List.filter_append]
              have lz : zs.length ≤ 16 := by
                rw [Paired.length pz]
                have h1 := List.length_filter_le (freeG g) ((subL Lk).take i)
                rw [List.length_take, subL_len] at h1
                omega
              cases e : clashG g t t with
              | true =>
                have ef : freeG g t = false := by unfold freeG; rw [e]; rfl
                refine iteF ?_
                refine ⟨_, _, _, _, _, _, _, _, _, _, rfl, ls9, zs, hz9, ?_⟩
                rw [show (some t).toList.filter (freeG g) = [] by simp [ef], List.append_nil]
                exact pz9
              | false =>
                have ef : freeG g t = true := by unfold freeG; rw [e]; rfl
                refine iteT ?_
                refine ⟨.ref fl, rfl, .inl ⟨rfl, _, SqL.of hz9⟩, .ref T, rfl, fl, zs, _, rfl, rfl, hz9, small1000 (by omega), ?_⟩
                have kt : TK H9 (upd H9 fl (.lst (zs ++ [.ref T]))) := tk_upd hz9 fun xs z => by cases z
                refine ⟨_, _, _, _, _, _, _, _, _, _, rfl, ⟨su nHf ls9.sm, by rw [upd_ne nkf]; exact ls9.k, by rw [upd_ne nDf]; exact ls9.d⟩, _, upd_same, ?_⟩
                rw [show (some t).toList.filter (freeG g) = [t] by simp [ef]]
                exact paired_snoc (isTs_keep kt pz9) ⟨T, rfl, kt _ _ (sm9 _ _ hT8)⟩
        · rintro σ H6 ⟨y3, y4, y5, y6, y7, y9, y10, y11, y12, y13, rfl, ls6, zs, hz, pz⟩
          rw [List.take_length] at pz
          refine ⟨.ref fl, rfl, fl, zs, List Nat, _, dT, IsT H6, rfl, SqL.of hz, paired_and pz fun v b h => ⟨h, h.dp⟩, alike_allT _, sortable_T fun t ht => subL_ne (List.mem_filter.mp ht).1, fun b _ => by rw [depth_T]; decide, fun ys o hy no => ?_⟩
          rw [sortT, ← hFree] at hy
          refine q _ o ys (sn ls6.sm no) ?_ upd_same (isTs_keep (tk_same (same_new no)) hy)
          cases e : H o with
          | none => rfl
          | some u => rw [ls6.sm _ _ e] at no; cases no
end
end Av
namespace Av
open PySem PySem.Spec PyProof.Rows L2
def Flat (x y : V) : Prop := (x = .non ∧ y = .non) ∨ ∃ s, x = .str s ∧ y = .str s
/-- the same data, of one structure, no deeper than n -/
def At (H : Hp) : Nat → V → V → Prop
  | 0, x, y => Flat x y
  | n + 1, x, y => Flat x y ∨ ∃ (a b : Addr) (xs ys : List V), x = .ref a ∧ y = .ref b ∧ ((H a = some (.lst xs) ∧ H b = some (.lst ys)) ∨ (H a = some (.tup xs) ∧ H b = some (.tup ys))) ∧ xs.length = ys.length ∧ xs.length ≤ 1000 ∧
      ∀ (i : Nat) (x y : V), xs[i]? = some x → ys[i]? = some y → At H n x y
theorem At.keep {H H' : Hp} (k : Same H H') : ∀ {n : Nat} {x y : V}, At H n x y → At H' n x y := by
  intro n
  induction n with
  | zero => exact fun h => h
  | succ n ih =>
    intro x y h
    rcases h with h | ⟨a, b, xs, ys, e1, e2, h, l, l2, r⟩
    · exact .inl h
    · exact .inr ⟨a, b, xs, ys, e1, e2, h.elim (fun z => .inl ⟨k _ _ z.1, k _ _ z.2⟩) (fun z => .inr ⟨k _ _ z.1, k _ _ z.2⟩), l, l2, fun i x y e1 e2 => ih (r i x y e1 e2)⟩
section
variable {P : Program} {w : World} {K : PySem.W.Frag} {mg : Str → Option Value} {base : Heap}
def spAlike (n : Nat) : Sp := fun vs H Q _ => ∃ x y, vs = [x, y] ∧ At H n x y ∧ ∀ H', Same H H' → Q (.bl true) H'
theorem kitTL (t : String) {b1 b2 : Bool} (h1 : kitB t "tuple" = some b1) (h2 : kitB t "list" = some b2) : PySem.W.kitAny K (.type t) [.type "tuple", .type "list"] = some (b1 || b2) := by
  cases b1 with
  | true => exact kitAny_cons (kit_ty h1) (fun z => by cases z) fun _ => rfl
  | false =>
    cases b2 with
    | true => exact kitAny_cons (kit_ty h1) (fun _ => kitAny_cons (kit_ty h2) (fun z => by cases z) fun _ => rfl) fun z => by cases z
    | false => exact kitAny_cons (kit_ty h1) (fun _ => kitAny_cons (kit_ty h2) (fun _ => kitAny_nil) fun z => by cases z) fun z => by cases z
theorem clsTL : Paired ClsV [V.ty "tuple", V.ty "list"] [.type "tuple", .type "list"] := .cons (.ty _) (.cons (.ty _) .nil)
theorem ok_alike0 {f : Addr} {fd : FuncData} {k : Nat} (F : Fun K "_law_alike" "_law_alike" sAlike f fd) (mI : mg "isinstance" = none) (mT : mg "tuple" = none) (mL : mg "list" = none) (mS : mg "str" = none) : FnOk P w K mg base CX0 (k + 1) f fd ["_law_found", "_law_due"] (spAlike 0) := by
  refine F.ok scAlike (fun vs H Q E h => ?_) (fun cdv A outer s H vs Q E hr h => ?_)
  · obtain ⟨x, y, rfl, _⟩ := h
    rfl
  · obtain ⟨x, y, rfl, hf, q⟩ := h
    refine ⟨_, pss_cons (ps_if (pt_val (pe_callB call_isiT (by rfl) mI (by decide +kernel) (pa_cons (pv 1) (pa_cons (pe_tup (pa_cons (pe_bltn (v := .ty "tuple") (by rfl) mT (by decide +kernel) rfl) (pa_cons (pe_bltn (v := .ty "list") (by rfl) mL (by decide +kernel) rfl) pa_nil))) pa_nil)))) pss_never pss_nil)
      (pss_cons (ps_if (PW.pt (pw_or (pt_cmp (pc_isN (pv 1))) (pw_or1 (pt_val (pe_callB call_isi (by rfl) mI (by decide +kernel) (pa_cons (pv 1) (pa_cons (pe_bltn (v := .ty "str") (by rfl) mS (by decide +kernel) rfl) pa_nil)))))))
        (pss_one (ps_ret (pe_and (pe_cmpR op_eq (pv 0) (pv 1) rfl) (pe_one (pe_cmpR op_eq (pe_callB call_isi (by rfl) mI (by decide +kernel) (pa_cons (pv 0) (pa_cons (pe_bltn (v := .ty "str") (by rfl) mS (by decide +kernel) rfl) pa_nil))) (pe_callB call_isi (by rfl) mI (by decide +kernel) (pa_cons (pv 1) (pa_cons (pe_bltn (v := .ty "str") (by rfl) mS (by decide +kernel) rfl) pa_nil))) rfl))))) pss_nil)
      (pss_one ps_never)), ?_⟩
    refine ⟨y, rfl, Nat.le_of_lt (small1000 (show 2 ≤ 1000 by decide)), fun T nT => ?_⟩
    have sm := same_new (o := .tup [.ty "tuple", .ty "list"]) nT
    have hT : (upd H T (.tup [.ty "tuple", .ty "list"])) T = some (.tup [.ty "tuple", .ty "list"]) := upd_same
    generalize upd H T (.tup [.ty "tuple", .ty "list"]) = H1 at sm hT ⊢
    rcases hf with ⟨rfl, rfl⟩ | ⟨z, rfl, rfl⟩
    · refine ⟨.non, T, _, .type "NoneType", _, _, rfl, hT, clsTL, .base .non, kitTL (b1 := false) (b2 := false) "NoneType" (by decide +kernel) (by decide +kernel), _, rfl, iteF ?_⟩
      refine ⟨.non, rfl, _, rfl, iteT (iteT ?_)⟩
      refine ⟨.non, rfl, .non, rfl, rfl, _, rfl, iteT ?_⟩
      refine ⟨.non, rfl, .non, .ty "str", .type "NoneType", .type "str", false, rfl, .ty "str", .base .non, kit_ty (by decide +kernel), .non, rfl, .non, .ty "str", .type "NoneType", .type "str", false, rfl, .ty "str", .base .non, kit_ty (by decide +kernel), rfl, q _ sm⟩
    · refine ⟨.str z, T, _, .type "str", _, _, rfl, hT, clsTL, .base (.str _), kitTL (b1 := false) (b2 := false) "str" (by decide +kernel) (by decide +kernel), _, rfl, iteF ?_⟩
      refine ⟨.str z, rfl, _, rfl, iteF ?_⟩
      refine ⟨.str z, rfl, .str z, .ty "str", .type "str", .type "str", true, rfl, .ty "str", .base (.str _), kit_ty (by decide +kernel), _, rfl, iteT ?_⟩
      refine ⟨.str z, rfl, .str z, rfl, rfl, _, rfl, ?_⟩
      rw [decide_eq_true (show V.str z = V.str z from rfl)]
      refine iteT ?_
      refine ⟨.str z, rfl, .str z, .ty "str", .type "str", .type "str", true, rfl, .ty "str", .base (.str _), kit_ty (by decide +kernel), .str z, rfl, .str z, .ty "str", .type "str", .type "str", true, rfl, .ty "str", .base (.str _), kit_ty (by decide +kernel), rfl, q _ sm⟩
theorem ok_alikeS {f : Addr} {fd : FuncData} {n : Nat} (F : Fun K "_law_alike" "_law_alike" sAlike f fd) (bF : Binds K fd ["_law_found", "_law_due"] []) (gF : mg "_law_alike" = some (.ref f)) (mI : mg "isinstance" = none) (mT : mg "tuple" = none) (mL : mg "list" = none) (mS : mg "str" = none) (mR : mg "range" = none) (mLen : mg "len" = none)
    (G : FnOk P w K mg base CX0 (n + 1) f fd ["_law_found", "_law_due"] (spAlike n)) : FnOk P w K mg base CX0 (n + 2) f fd ["_law_found", "_law_due"] (spAlike (n + 1)) := by
  refine F.ok scAlike (fun vs H Q E h => ?_) (fun cdv A outer s H vs Q E hr h => ?_)
  · obtain ⟨x, y, rfl, _⟩ := h
    rfl
  · obtain ⟨x, y, rfl, hf, q⟩ := h
    refine ⟨_, pss_cons (ps_if (pt_val (pe_callB call_isiT (by rfl) mI (by decide +kernel) (pa_cons (pv 1) (pa_cons (pe_tup (pa_cons (pe_bltn (v := .ty "tuple") (by rfl) mT (by decide +kernel) rfl) (pa_cons (pe_bltn (v := .ty "list") (by rfl) mL (by decide +kernel) rfl) pa_nil))) pa_nil))))
        (pss_cons (ps_if (PW.pt (pw_or (pt_not (pt_val (pe_callB call_isiT (by rfl) mI (by decide +kernel) (pa_cons (pv 0) (pa_cons (pe_tup (pa_cons (pe_bltn (v := .ty "tuple") (by rfl) mT (by decide +kernel) rfl) (pa_cons (pe_bltn (v := .ty "list") (by rfl) mL (by decide +kernel) rfl) pa_nil))) pa_nil)))))
            (pw_or1 (pt_cmpR op_ne (pe_callB call_isi (by rfl) mI (by decide +kernel) (pa_cons (pv 0) (pa_cons (pe_bltn (v := .ty "list") (by rfl) mL (by decide +kernel) rfl) pa_nil))) (pe_callB call_isi (by rfl) mI (by decide +kernel) (pa_cons (pv 1) (pa_cons (pe_bltn (v := .ty "list") (by rfl) mL (by decide +kernel) rfl) pa_nil))) rfl)))) pss_never pss_nil)
        (pss_cons (ps_if (pt_cmpR op_ne (pe_callB call_len_seq (by rfl) mLen PySem.boot_len (pa_cons (pv 0) pa_nil)) (pe_callB call_len_seq (by rfl) mLen PySem.boot_len (pa_cons (pv 1) pa_nil)) rfl) pss_never pss_nil)
        (pss_one (ps_ret (pe_cmpR (op_eqD hr.units) (pe_lc (own := [("_law_k", 2)]) (g := gName 2) (tt := tNot (tB (tCall (spAlike n) [] E (tCons (tOp (rIx K) (tVar 0) (tVar 2)) (tCons (tOp (rIx K) (tVar 1) (tVar 2)) tNil))))) rfl scAlike.nd (pi_range1 (by rfl) mR (pa_cons (pe_callB call_len_seq (by rfl) mLen PySem.boot_len (pa_cons (pv 1) pa_nil)) pa_nil))
            (blkOk_by (N := ["_law_found", "_law_due", "_law_k"]) (sc := defScope sAlike) (by decide +kernel))
            (fun _ _ _ _ _ => pg_name (i := 2) scAlike.nd rfl (Or.inl rfl))
            (fun _ _ _ _ _ => by exact pts_one (pt_not (pt_val (pe_call G hr (by rfl) gF F.kp bF .nil pass0 (pa_cons (pe_ix ix_seq (pv 0) (pv 2) (fun _ _ => rfl)) (pa_cons (pe_ix ix_seq (pv 1) (pv 2) (fun _ _ => rfl)) pa_nil))))))
            (fun _ _ _ _ _ => pv 2)) (pe_lst pa_nil) rfl))))) pss_nil)
      (pss_cons (ps_if (PW.pt (pw_or (pt_cmp (pc_isN (pv 1))) (pw_or1 (pt_val (pe_callB call_isi (by rfl) mI (by decide +kernel) (pa_cons (pv 1) (pa_cons (pe_bltn (v := .ty "str") (by rfl) mS (by decide +kernel) rfl) pa_nil)))))))
        (pss_one (ps_ret (pe_and (pe_cmpR op_eq (pv 0) (pv 1) rfl) (pe_one (pe_cmpR op_eq (pe_callB call_isi (by rfl) mI (by decide +kernel) (pa_cons (pv 0) (pa_cons (pe_bltn (v := .ty "str") (by rfl) mS (by decide +kernel) rfl) pa_nil))) (pe_callB call_isi (by rfl) mI (by decide +kernel) (pa_cons (pv 1) (pa_cons (pe_bltn (v := .ty "str") (by rfl) mS (by decide +kernel) rfl) pa_nil))) rfl))))) pss_nil)
      (pss_one ps_never)), ?_⟩
    refine ⟨y, rfl, Nat.le_of_lt (small1000 (show 2 ≤ 1000 by decide)), fun T nT => ?_⟩
    have sm := same_new (o := .tup [.ty "tuple", .ty "list"]) nT
    have hT : (upd H T (.tup [.ty "tuple", .ty "list"])) T = some (.tup [.ty "tuple", .ty "list"]) := upd_same
    generalize upd H T (.tup [.ty "tuple", .ty "list"]) = H1 at sm hT ⊢
    rcases hf with (⟨rfl, rfl⟩ | ⟨z, rfl, rfl⟩) | ⟨a, b, xs, ys, rfl, rfl, hab, le, l1000, each⟩
    · refine ⟨.non, T, _, .type "NoneType", _, _, rfl, hT, clsTL, .base .non, kitTL (b1 := false) (b2 := false) "NoneType" (by decide +kernel) (by decide +kernel), _, rfl, iteF ?_⟩
      refine ⟨.non, rfl, _, rfl, iteT (iteT ?_)⟩
      refine ⟨.non, rfl, .non, rfl, rfl, _, rfl, iteT ?_⟩
      refine ⟨.non, rfl, .non, .ty "str", .type "NoneType", .type "str", false, rfl, .ty "str", .base .non, kit_ty (by decide +kernel), .non, rfl, .non, .ty "str", .type "NoneType", .type "str", false, rfl, .ty "str", .base .non, kit_ty (by decide +kernel), rfl, q _ sm⟩
    · refine ⟨.str z, T, _, .type "str", _, _, rfl, hT, clsTL, .base (.str _), kitTL (b1 := false) (b2 := false) "str" (by decide +kernel) (by decide +kernel), _, rfl, iteF ?_⟩
      refine ⟨.str z, rfl, _, rfl, iteF ?_⟩
      refine ⟨.str z, rfl, .str z, .ty "str", .type "str", .type "str", true, rfl, .ty "str", .base (.str _), kit_ty (by decide +kernel), _, rfl, iteT ?_⟩
      refine ⟨.str z, rfl, .str z, rfl, rfl, _, rfl, ?_⟩
      rw [decide_eq_true (show V.str z = V.str z from rfl)]
      refine iteT ?_
      refine ⟨.str z, rfl, .str z, .ty "str", .type "str", .type "str", true, rfl, .ty "str", .base (.str _), kit_ty (by decide +kernel), .str z, rfl, .str z, .ty "str", .type "str", .type "str", true, rfl, .ty "str", .base (.str _), kit_ty (by decide +kernel), rfl, q _ sm⟩
    · obtain ⟨t, isL, hty, hk, hl⟩ : ∃ (t : String) (isL : Bool), (∀ H', Same H H' → TyX K H' (.ref a) (.type t) ∧ TyX K H' (.ref b) (.type t) ∧ ((SqL K H' a xs ∧ SqL K H' b ys) ∨ (SqT K H' a xs ∧ SqT K H' b ys))) ∧
          PySem.W.kitAny K (.type t) [.type "tuple", .type "list"] = some true ∧ PySem.W.kitOne K (.type t) (.type "list") = some isL := by
        rcases hab with ⟨ha, hb⟩ | ⟨ha, hb⟩
        · exact ⟨"list", true, fun H' k => ⟨.base (.lst (k _ _ ha)), .base (.lst (k _ _ hb)), .inl ⟨SqL.of (k _ _ ha), SqL.of (k _ _ hb)⟩⟩, kitTL (b1 := false) (b2 := true) "list" (by decide +kernel) (by decide +kernel), kit_ty (by decide +kernel)⟩
        · exact ⟨"tuple", false, fun H' k => ⟨.base (.tup (k _ _ ha)), .base (.tup (k _ _ hb)), .inr ⟨SqT.of (k _ _ ha), SqT.of (k _ _ hb)⟩⟩, kitTL (b1 := true) (b2 := false) "tuple" (by decide +kernel) (by decide +kernel), kit_ty (by decide +kernel)⟩
      refine ⟨.ref b, T, _, .type t, _, _, rfl, hT, clsTL, (hty H1 sm).2.1, hk, _, rfl, iteT ?_⟩
      refine ⟨.ref a, rfl, Nat.le_of_lt (small1000 (show 2 ≤ 1000 by decide)), fun T2 nT2 => ?_⟩
      have sm2 := sn (o := .tup [.ty "tuple", .ty "list"]) sm nT2
      have hT2 : (upd H1 T2 (.tup [.ty "tuple", .ty "list"])) T2 = some (.tup [.ty "tuple", .ty "list"]) := upd_same
      generalize upd H1 T2 (.tup [.ty "tuple", .ty "list"]) = H2 at sm2 hT2 ⊢
      refine ⟨.ref a, T2, _, .type t, _, _, rfl, hT2, clsTL, (hty H2 sm2).1, hk, _, rfl, iteF ?_⟩
      refine ⟨.ref a, rfl, .ref a, .ty "list", .type t, .type "list", isL, rfl, .ty "list", (hty H2 sm2).1, hl, .ref b, rfl, .ref b, .ty "list", .type t, .type "list", isL, rfl, .ty "list", (hty H2 sm2).2.1, hl, rfl, _, rfl, ?_⟩
      rw [decide_eq_true (show V.bl isL = V.bl isL from rfl)]
      refine iteF ?_
      have sq := (hty H2 sm2).2.2
      refine ⟨.ref a, rfl, a, xs, rfl, sq.elim (fun z => .inl z.1) (fun z => .inr z.1), .ref b, rfl, b, ys, rfl, sq.elim (fun z => .inl z.2) (fun z => .inr z.2), rfl, _, rfl, ?_⟩
      rw [le, decide_eq_true (show V.int (ys.length : Int) = V.int (ys.length : Int) from rfl)]
      refine iteF ?_
      refine ⟨.ref b, rfl, b, ys, rfl, sq.elim (fun z => .inl z.2) (fun z => .inr z.2), ((ys.length : Nat) : Int), rfl, by omega, by omega, fun C nC => ?_⟩
      rw [Int.toNat_natCast]
      refine lc_it walk_range (tt := tNot (tB (tCall (spAlike n) [] E (tCons (tOp (rIx K) (tVar 0) (tVar 2)) (tCons (tOp (rIx K) (tVar 1) (tVar 2)) tNil))))) (fun j H' => Same H H' ∧ H' C = some (.lst [])) ⟨sn sm2 nC, upd_same⟩ (fun _ _ _ _ => True.intro) ?_ ?_
      · rintro j x H5 H4 hj ⟨sm4, hC⟩ ⟨rfl, hx⟩
        obtain rfl : x = .int (j : Int) := hx.trans (congrArg V.int (Int.zero_add _))
        have hj1 : j < xs.length := by omega
        obtain ⟨x, hx⟩ : ∃ x, xs[j]? = some x := ⟨_, List.getElem?_eq_getElem hj1⟩
        obtain ⟨y, hy⟩ : ∃ y, ys[j]? = some y := ⟨_, List.getElem?_eq_getElem hj⟩
        refine ⟨rfl, ?_⟩
        have sq4 := (hty H4 sm4).2.2
        refine ⟨.ref a, rfl, .int j, rfl, sq4.elim (fun z => .inl ⟨a, xs, j, x, rfl, rfl, z.1, atI_nat hx, ?_⟩) (fun z => .inr (.inl ⟨a, xs, j, x, rfl, rfl, z.1, atI_nat hx, ?_⟩))⟩
        all_goals
          refine ⟨.ref b, rfl, .int j, rfl, sq4.elim (fun z => .inl ⟨b, ys, j, y, rfl, rfl, z.2, atI_nat hy, ?_⟩) (fun z => .inr (.inl ⟨b, ys, j, y, rfl, rfl, z.2, atI_nat hy, ?_⟩))⟩
        all_goals
          refine ⟨x, y, rfl, (each j x y hx hy).keep sm4, fun H5 sm5 => ⟨_, rfl, ?_⟩⟩
          exact iteF ⟨sm4.trans sm5, sm5 _ _ hC⟩
      · rintro H4 ⟨sm4, hC⟩
        refine ⟨Nat.zero_le _, fun E2 nE2 => ?_⟩
        refine ⟨.list [], .list [], .lst (SqL.of (un nE2 hC)) .nil, .lst (SqL.of upd_same) .nil, shaped_Ls (l := []) (fun c h => by cases h), shaped_Ls (l := []) (fun c h => by cases h), ?_⟩
        rw [show PyData.eqv (.list []) (.list []) = true from eqv_lnilL []]
        exact q _ (sn sm4 nE2)
end
end Av
/-! Both ways to join the sides join the same sides. -/
namespace Av
open PySem PySem.Spec PyProof.Rows L2
/-- constant on the edges -/
def Flats {β : Type} (es : List (Nat × Nat)) (h : Nd → β) : Prop := ∀ e ∈ es, h (e.1, 0) = h (e.2, 1)
theorem marks_h {β : Type} {h : Nd → β} : ∀ {es : List (Nat × Nat)} {m : Nd → Nd}, Flats es h → (∀ n, h (m n) = h n) → ∀ n, h ((es.foldl (fun m e => stepM m e.1 e.2) m) n) = h n
  | [], _, _, hm, n => hm n
  | e :: es, m, hf, hm, n => by
    refine marks_h (es := es) (m := stepM m e.1 e.2) (fun x hx => hf x (List.mem_cons_of_mem _ hx)) (fun n => ?_) n
    show h (if m n = m (e.2, 1) then m (e.1, 0) else m n) = h n
    by_cases q : m n = m (e.2, 1)
    · rw [if_pos q, hm, hf e List.mem_cons_self, ← hm (e.2, 1), ← q, hm]
    · rw [if_neg q, hm]
theorem marks_eq_keep : ∀ {es : List (Nat × Nat)} {m : Nd → Nd} {u v : Nd}, m u = m v → (es.foldl (fun m e => stepM m e.1 e.2) m) u = (es.foldl (fun m e => stepM m e.1 e.2) m) v
  | [], _, _, _, h => h
  | e :: es, m, u, v, h => marks_eq_keep (es := es) (m := stepM m e.1 e.2) (by
    show (if m u = m (e.2, 1) then m (e.1, 0) else m u) = (if m v = m (e.2, 1) then m (e.1, 0) else m v)
    rw [h])
theorem marks_edge : ∀ {es : List (Nat × Nat)} {m : Nd → Nd}, Flats es (es.foldl (fun m e => stepM m e.1 e.2) m)
  | [], _, e, he => by cases he
  | e0 :: es, m, e, he => by
    show (es.foldl (fun m e => stepM m e.1 e.2) (stepM m e0.1 e0.2)) _ = (es.foldl (fun m e => stepM m e.1 e.2) (stepM m e0.1 e0.2)) _
    rcases List.mem_cons.mp he with rfl | he
    · refine marks_eq_keep ?_
      show (if m (e.1, 0) = m (e.2, 1) then m (e.1, 0) else m (e.1, 0)) = (if m (e.2, 1) = m (e.2, 1) then m (e.1, 0) else m (e.2, 1))
      rw [if_pos rfl]
      split <;> rfl
    · exact marks_edge e he
/-- equal marks: equal under whatever is constant on the edges -/
theorem marks_least {β : Type} {es : List (Nat × Nat)} {h : Nd → β} (hf : Flats es h) {u v : Nd} (e : marksOf es u = marksOf es v) : h u = h v := by
  rw [← marks_h (m := id) hf (fun _ => rfl) u, ← marks_h (m := id) hf (fun _ => rfl) v]
  show h (marksOf es u) = h (marksOf es v)
  rw [e]
theorem marks_edges (es : List (Nat × Nat)) : Flats es (marksOf es) := marks_edge
/-! ### the law's labels -/
theorem low_le (g : Nd → Nat) (x y : Nat) (n : Nd) : lowM g x y n ≤ g n := by
  unfold lowM
  split
  · next h =>
    rcases h with rfl | rfl
    · exact Nat.min_le_left _ _
    · exact Nat.min_le_right _ _
  · exact Nat.le_refl _
theorem round_le : ∀ (es : List (Nat × Nat)) (g : Nd → Nat) (n : Nd), lawRound es g n ≤ g n
  | [], g, n => Nat.le_refl _
  | e :: es, g, n => Nat.le_trans (round_le es (lowM g e.1 e.2) n) (low_le g e.1 e.2 n)
theorem min_ex {α : Type} (f : α → Nat) : ∀ {l : List α}, l ≠ [] → ∃ x ∈ l, ∀ y ∈ l, f x ≤ f y
  | [x], _ => ⟨x, List.mem_cons_self, fun y hy => by rw [List.mem_singleton.mp hy]; exact Nat.le_refl _⟩
  | x :: z :: l, _ => by
    obtain ⟨w, hw, h⟩ := min_ex f (l := z :: l) (by simp)
    by_cases c : f x ≤ f w
    · refine ⟨x, List.mem_cons_self, fun y hy => ?_⟩
      rcases List.mem_cons.mp hy with e | hy
      · rw [e]; exact Nat.le_refl _
      · exact Nat.le_trans c (h y hy)
    · refine ⟨w, List.mem_cons_of_mem _ hw, fun y hy => ?_⟩
      rcases List.mem_cons.mp hy with e | hy
      · rw [e]; omega
      · exact h y hy
theorem filter_lt {α : Type} {p q : α → Bool} (h : ∀ x, q x = true → p x = true) : ∀ {l : List α}, (l.filter q).length ≤ (l.filter p).length ∧ ((∃ x ∈ l, p x = true ∧ q x = false) → (l.filter q).length < (l.filter p).length)
  | [] => ⟨Nat.le_refl _, fun ⟨x, hx, _⟩ => by cases hx⟩
  | a :: l => by
    obtain ⟨h1, h2⟩ := filter_lt h (l := l)
    by_cases qa : q a = true
    · have pa := h a qa
      rw [List.filter_cons_of_pos qa, List.filter_cons_of_pos pa, List.length_cons, List.length_cons]
      refine ⟨by omega, fun ⟨x, hx, px, qx⟩ => ?_⟩
      rcases List.mem_cons.mp hx with e | hx
      · rw [e, qa] at qx
        cases qx
      · have := h2 ⟨x, hx, px, qx⟩
        omega
    · rw [List.filter_cons_of_neg qa]
      by_cases pa : p a = true
      · rw [List.filter_cons_of_pos pa, List.length_cons]
        exact ⟨by omega, fun _ => by omega⟩
      · rw [List.filter_cons_of_neg pa]
        refine ⟨h1, fun ⟨x, hx, px, qx⟩ => ?_⟩
        rcases List.mem_cons.mp hx with e | hx
        · rw [e] at px
          exact absurd px pa
        · exact h2 ⟨x, hx, px, qx⟩
section
variable {es : List (Nat × Nat)} {N : List Nd} {l0 : Nd → Nat}
/-- no label of the class is less -/
def good (es : List (Nat × Nat)) (N : List Nd) (l0 g : Nd → Nat) (n : Nd) : Bool := N.all fun x => !decide (marksOf es x = marksOf es n) || decide (g n ≤ l0 x)
theorem good_iff {g : Nd → Nat} {n : Nd} : good es N l0 g n = true ↔ ∀ x ∈ N, marksOf es x = marksOf es n → g n ≤ l0 x := by
  unfold good
  rw [List.all_eq_true]
  refine ⟨fun h x hx e => ?_, fun h x hx => ?_⟩
  · have := h x hx
    simp only [e, decide_true, Bool.not_true, Bool.false_or, decide_eq_true_eq] at this
    exact this
  · by_cases e : marksOf es x = marksOf es n
    · simp only [e, decide_true, Bool.not_true, Bool.false_or, decide_eq_true_eq]
      exact h x hx e
    · simp [e]
theorem good_le {g h : Nd → Nat} {n : Nd} (le : h n ≤ g n) (k : good es N l0 g n = true) : good es N l0 h n = true := good_iff.mpr fun x hx e => Nat.le_trans le (good_iff.mp k x hx e)
/-- labels come from the class -/
def from0 (es : List (Nat × Nat)) (N : List Nd) (l0 g : Nd → Nat) : Prop := ∀ n ∈ N, ∃ x ∈ N, marksOf es x = marksOf es n ∧ g n = l0 x
theorem from_low {g : Nd → Nat} {x y : Nat} (hx : (x, 0) ∈ N) (hy : (y, 1) ∈ N) (e : marksOf es (x, 0) = marksOf es (y, 1)) (h : from0 es N l0 g) : from0 es N l0 (lowM g x y) := fun n hn => by
  unfold lowM
  by_cases c : n = (x, 0) ∨ n = (y, 1)
  · rw [if_pos c]
    have en : marksOf es n = marksOf es (x, 0) := by
      rcases c with rfl | rfl
      · rfl
      · exact e.symm
    rcases Nat.le_total (g (x, 0)) (g (y, 1)) with z | z
    · rw [Nat.min_eq_left z]
      obtain ⟨w, hw, e1, e2⟩ := h _ hx
      exact ⟨w, hw, e1.trans en.symm, e2⟩
    · rw [Nat.min_eq_right z]
      obtain ⟨w, hw, e1, e2⟩ := h _ hy
      exact ⟨w, hw, e1.trans (e.symm.trans en.symm), e2⟩
  · rw [if_neg c]
    exact h n hn
theorem from_round (hN : ∀ e ∈ es, (e.1, 0) ∈ N ∧ (e.2, 1) ∈ N) : ∀ (fs : List (Nat × Nat)) {g : Nd → Nat}, (∀ e ∈ fs, e ∈ es) → from0 es N l0 g → from0 es N l0 (lawRound fs g)
  | [], _, _, h => h
  | e :: fs, g, sub, h => by
    have me := sub e List.mem_cons_self
    exact from_round hN fs (fun x hx => sub x (List.mem_cons_of_mem _ hx)) (from_low (hN e me).1 (hN e me).2 (marks_edges es e me) h)
/-- an edge with one good side makes both good -/
theorem good_edge {g : Nd → Nat} {x y : Nat} (e : marksOf es (x, 0) = marksOf es (y, 1)) (h : good es N l0 g (x, 0) = true ∨ good es N l0 g (y, 1) = true) : good es N l0 (lowM g x y) (x, 0) = true ∧ good es N l0 (lowM g x y) (y, 1) = true := by
  have e1 : lowM g x y (x, 0) = min (g (x, 0)) (g (y, 1)) := by unfold lowM; rw [if_pos (.inl rfl)]
  have e2 : lowM g x y (y, 1) = min (g (x, 0)) (g (y, 1)) := by unfold lowM; rw [if_pos (.inr rfl)]
  have key : ∀ z ∈ N, marksOf es z = marksOf es (x, 0) → min (g (x, 0)) (g (y, 1)) ≤ l0 z := fun z hz ez => by
    rcases h with h | h
    · exact Nat.le_trans (Nat.min_le_left _ _) (good_iff.mp h z hz ez)
    · exact Nat.le_trans (Nat.min_le_right _ _) (good_iff.mp h z hz (ez.trans e))
  exact ⟨good_iff.mpr fun z hz ez => by rw [e1]; exact key z hz ez, good_iff.mpr fun z hz ez => by rw [e2]; exact key z hz (ez.trans e.symm)⟩
theorem good_round : ∀ (fs : List (Nat × Nat)) {g : Nd → Nat} {e : Nat × Nat}, e ∈ fs → e ∈ es → (good es N l0 g (e.1, 0) = true ∨ good es N l0 g (e.2, 1) = true) →
    good es N l0 (lawRound fs g) (e.1, 0) = true ∧ good es N l0 (lawRound fs g) (e.2, 1) = true
  | f :: fs, g, e, he, me, h => by
    show good es N l0 (lawRound fs (lowM g f.1 f.2)) _ = true ∧ good es N l0 (lawRound fs (lowM g f.1 f.2)) _ = true
    rcases List.mem_cons.mp he with rfl | he
    · obtain ⟨h1, h2⟩ := good_edge (marks_edges es e me) h
      exact ⟨good_le (round_le fs _ _) h1, good_le (round_le fs _ _) h2⟩
    · exact good_round fs he me (h.elim (fun z => .inl (good_le (low_le _ _ _ _) z)) fun z => .inr (good_le (low_le _ _ _ _) z))
def bads (es : List (Nat × Nat)) (N : List Nd) (l0 g : Nd → Nat) : Nat := (N.filter fun n => !good es N l0 g n).length
theorem bads_round (hN : ∀ e ∈ es, (e.1, 0) ∈ N ∧ (e.2, 1) ∈ N) {g : Nd → Nat} (le : ∀ n, g n ≤ l0 n) : bads es N l0 (lawRound es g) ≤ bads es N l0 g ∧ (bads es N l0 g ≠ 0 → bads es N l0 (lawRound es g) < bads es N l0 g) := by
  have mono : ∀ n, (!good es N l0 (lawRound es g) n) = true → (!good es N l0 g n) = true := fun n h => by
    cases q : good es N l0 g n with
    | false => rfl
    | true =>
      rw [good_le (round_le es g n) q] at h
      cases h
  obtain ⟨h1, h2⟩ := filter_lt mono (l := N)
  refine ⟨h1, fun nz => h2 ?_⟩
  -- a bad one
  obtain ⟨n, hn, bn⟩ : ∃ n ∈ N, good es N l0 g n = false := by
    obtain ⟨n, hn⟩ := List.exists_mem_of_length_pos (Nat.pos_of_ne_zero nz)
    obtain ⟨m1, m2⟩ := List.mem_filter.mp hn
    exact ⟨n, m1, by simpa using m2⟩
  -- an edge between good and bad
  by_cases ed : ∃ e ∈ es, good es N l0 g (e.1, 0) ≠ good es N l0 g (e.2, 1)
  · obtain ⟨e, he, ne⟩ := ed
    obtain ⟨a, b⟩ := hN e he
    cases qx : good es N l0 g (e.1, 0) with
    | true =>
      have qy : good es N l0 g (e.2, 1) = false := by
        cases z : good es N l0 g (e.2, 1) with
        | false => rfl
        | true => rw [qx, z] at ne; exact absurd rfl ne
      have := (good_round es he he (.inl qx)).2
      exact ⟨_, b, by rw [qy]; rfl, by rw [this]; rfl⟩
    | false =>
      have qy : good es N l0 g (e.2, 1) = true := by
        cases z : good es N l0 g (e.2, 1) with
        | true => rfl
        | false => rw [qx, z] at ne; exact absurd rfl ne
      have := (good_round es he he (.inr qy)).1
      exact ⟨_, a, by rw [qx]; rfl, by rw [this]; rfl⟩
  · exfalso
    have hf : Flats es (good es N l0 g) := fun e he => by
      by_cases c : good es N l0 g (e.1, 0) = good es N l0 g (e.2, 1)
      · exact c
      · exact absurd ⟨e, he, c⟩ ed
    obtain ⟨r, hr, least⟩ := min_ex l0 (l := N.filter fun x => decide (marksOf es x = marksOf es n)) (fun z => by
      have : n ∈ N.filter fun x => decide (marksOf es x = marksOf es n) := List.mem_filter.mpr ⟨hn, by simp⟩
      rw [z] at this
      cases this)
    obtain ⟨mr, er⟩ := List.mem_filter.mp hr
    have er : marksOf es r = marksOf es n := of_decide_eq_true er
    have gr : good es N l0 g r = true := good_iff.mpr fun x hx ex => Nat.le_trans (le r) (least x (List.mem_filter.mpr ⟨hx, decide_eq_true (ex.trans er)⟩))
    have := marks_least hf er
    rw [gr, bn] at this
    cases this
theorem rounds_le (le : ∀ (n : Nat), True) : ∀ (i : Nat) (n : Nd), roundsL es i l0 n ≤ l0 n
  | 0, n => Nat.le_refl _
  | i + 1, n => Nat.le_trans (round_le es _ n) (rounds_le le i n)
theorem bads_rounds (hN : ∀ e ∈ es, (e.1, 0) ∈ N ∧ (e.2, 1) ∈ N) : ∀ i, bads es N l0 (roundsL es i l0) ≤ N.length - i
  | 0 => List.length_filter_le _ _
  | i + 1 => by
    have ih := bads_rounds hN i
    obtain ⟨h1, h2⟩ := bads_round (l0 := l0) (g := roundsL es i l0) hN (rounds_le (fun _ => True.intro) i)
    show bads es N l0 (lawRound es (roundsL es i l0)) ≤ _
    by_cases z : bads es N l0 (roundsL es i l0) = 0
    · omega
    · have := h2 z
      omega
theorem from_rounds (hN : ∀ e ∈ es, (e.1, 0) ∈ N ∧ (e.2, 1) ∈ N) : ∀ i, from0 es N l0 (roundsL es i l0)
  | 0 => fun n hn => ⟨n, hn, rfl, rfl⟩
  | i + 1 => from_round hN es (fun _ h => h) (from_rounds hN i)
/-- after as many rounds as there are nodes, labels are equal where marks are -/
theorem labels_iff (hN : ∀ e ∈ es, (e.1, 0) ∈ N ∧ (e.2, 1) ∈ N) (inj : ∀ u ∈ N, ∀ v ∈ N, l0 u = l0 v → u = v) {u v : Nd} (hu : u ∈ N) (hv : v ∈ N) :
    marksOf es u = marksOf es v ↔ roundsL es N.length l0 u = roundsL es N.length l0 v := by
  have fr := from_rounds (l0 := l0) hN N.length
  have bd := bads_rounds (l0 := l0) hN N.length
  generalize roundsL es N.length l0 = g at fr bd
  have allg : ∀ n ∈ N, good es N l0 g n = true := fun n hn => by
    cases q : good es N l0 g n with
    | true => rfl
    | false =>
      have : n ∈ N.filter fun n => !good es N l0 g n := List.mem_filter.mpr ⟨hn, by rw [q]; rfl⟩
      have := List.length_pos_of_mem this
      have bd : (N.filter fun n => !good es N l0 g n).length ≤ N.length - N.length := bd
      omega
  constructor
  · intro e
    obtain ⟨x, hx, ex, gx⟩ := fr u hu
    obtain ⟨y, hy, ey, gy⟩ := fr v hv
    have h1 := good_iff.mp (allg u hu) y hy (ey.trans e.symm)
    have h2 := good_iff.mp (allg v hv) x hx (ex.trans e)
    omega
  · intro e
    obtain ⟨x, hx, ex, gx⟩ := fr u hu
    obtain ⟨y, hy, ey, gy⟩ := fr v hv
    have : x = y := inj x hx y hy (by omega)
    subst this
    exact ex.symm.trans ey
end
theorem g0_inj {ks : List Nat} {u v : Nd} (hu : u ∈ nodes ks) (hv : v ∈ nodes ks) (e : g0 ks u = g0 ks v) : u = v := by
  obtain ⟨u1, u2⟩ := mem_nodes.mp hu
  obtain ⟨v1, v2⟩ := mem_nodes.mp hv
  have e : 2 * ks.idxOf u.1 + u.2 = 2 * ks.idxOf v.1 + v.2 := e
  have e1 : ks.idxOf u.1 = ks.idxOf v.1 := by omega
  have e2 : u.2 = v.2 := by omega
  refine Prod.ext ?_ e2
  have i1 := List.idxOf_lt_length_of_mem u1
  have i2 := List.idxOf_lt_length_of_mem v1
  have a := List.getElem_idxOf i1
  have b := List.getElem_idxOf i2
  rw [← a, ← b]
  simp only [e1]
theorem law_marks {p : List Nat} {u v : Nd} (hu : u ∈ nodes (msort ltN (kTo p))) (hv : v ∈ nodes (msort ltN (kTo p))) : marksOf (adj p) u = marksOf (adj p) v ↔ lawMarks p u = lawMarks p v := by
  have h := labels_iff (es := adj p) (N := nodes (msort ltN (kTo p))) (l0 := g0 (msort ltN (kTo p))) (fun e he => ?_) (fun u hu v hv => g0_inj hu hv) hu hv
  · rw [nodes_len, (msort_perm _).length_eq] at h
    exact h
  · obtain ⟨h1, h2⟩ := adj_mem he
    exact ⟨mem_nodes.mpr ⟨(msort_perm _).mem_iff.mpr (mem_kTo.mpr h1), Nat.zero_lt_two⟩, mem_nodes.mpr ⟨(msort_perm _).mem_iff.mpr (mem_kTo.mpr h2), Nat.one_lt_two⟩⟩
theorem clash_iff {m : Nd → Nd} {t u : List Nat} : (clashL m t u).any id = t.any fun a => u.any fun b => decide (m (a, 0) = m (b, 1)) := by
  unfold clashL
  rw [Bool.eq_iff_iff]
  simp only [List.any_eq_true, List.mem_flatMap, List.mem_map, id]
  constructor
  · rintro ⟨x, ⟨a, ha, b, hb, rfl⟩, h⟩
    exact ⟨a, ha, b, hb, h⟩
  · rintro ⟨a, ha, b, hb, h⟩
    exact ⟨_, ⟨a, ha, b, hb, rfl⟩, h⟩
theorem law_free (p : List Nat) : lawFree p = freeOf p := by
  unfold lawFree freeOf
  congr 1
  refine List.filter_congr fun t ht => ?_
  have sub := subL_sub ht
  unfold freeG freeB
  rw [clash_iff]
  congr 1
  unfold clashG
  rw [Bool.eq_iff_iff]
  simp only [List.any_eq_true, decide_eq_true_eq]
  constructor
  · rintro ⟨a, ha, b, hb, h⟩
    exact ⟨a, ha, b, hb, (law_marks (mem_nodes.mpr ⟨sub a ha, Nat.zero_lt_two⟩) (mem_nodes.mpr ⟨sub b hb, Nat.one_lt_two⟩)).mpr h⟩
  · rintro ⟨a, ha, b, hb, h⟩
    exact ⟨a, ha, b, hb, (law_marks (mem_nodes.mpr ⟨sub a ha, Nat.zero_lt_two⟩) (mem_nodes.mpr ⟨sub b hb, Nat.one_lt_two⟩)).mp h⟩
end Av
/-! All rows, turn by turn. -/
namespace Av
open PySem PySem.Spec PyProof.Rows L2
def nextR (e : Rw × Pt) : List (Rw × Pt) := (freeOf e.2).map fun t => (e.1 ++ [t], drop' t e.2)
def laterR (rs : List (Rw × Pt)) : List (Rw × Pt) := rs.flatMap nextR
def doneR (ls : List (Rw × Pt)) : List Rw := (ls.filter fun e => decide (e.2 = [])).map (·.1)
def restR (ls : List (Rw × Pt)) : List (Rw × Pt) := ls.filter fun e => !decide (e.2 = [])
def RowsOk (p : Pt) (i : Nat) (rs : List (Rw × Pt)) : Prop := ∀ r q, (r, q) ∈ rs ↔ okRow p r ∧ r.length = i ∧ after p r = q ∧ q ≠ []
theorem rows_zero {p : Pt} (h : p ≠ []) : RowsOk p 0 [([], p)] := fun r q => by
  rw [List.mem_singleton]
  constructor
  · intro e
    obtain ⟨rfl, rfl⟩ := Prod.mk.inj e
    exact ⟨True.intro, rfl, rfl, h⟩
  · rintro ⟨h1, h2, h3, h4⟩
    have : r = [] := List.eq_nil_of_length_eq_zero h2
    subst this
    rw [← h3]
    rfl
theorem free_nil {t : List Nat} : t ∉ freeOf [] := fun h => by
  have := kinds_drop h
  simp [kTo] at this
theorem later_mem {p : Pt} {i : Nat} {rs : List (Rw × Pt)} (h : RowsOk p i rs) (r : Rw) (q : Pt) : (r, q) ∈ laterR rs ↔ okRow p r ∧ r.length = i + 1 ∧ after p r = q := by
  unfold laterR nextR
  rw [List.mem_flatMap]
  constructor
  · rintro ⟨⟨r0, q0⟩, h1, h2⟩
    obtain ⟨t, ht, e⟩ := List.mem_map.mp h2
    obtain ⟨rfl, rfl⟩ := Prod.mk.inj e
    obtain ⟨o, l, a, _⟩ := (h r0 q0).mp h1
    refine ⟨(okRow_snoc _ _ _).mpr ⟨o, by rw [a]; exact ht⟩, ?_, ?_⟩
    · show (r0 ++ [t]).length = i + 1
      rw [List.length_append, l]
      rfl
    · show after p (r0 ++ [t]) = drop' t q0
      rw [after_snoc, a]
  · rintro ⟨o, l, a⟩
    obtain ⟨r0, t, rfl⟩ : ∃ r0 t, r = r0 ++ [t] := by
      have ne : r ≠ [] := fun z2 => by rw [z2] at l; simp at l
      exact ⟨r.dropLast, r.getLast ne, (List.dropLast_concat_getLast ne).symm⟩
    obtain ⟨o0, mt⟩ := (okRow_snoc p r0 t).mp o
    rw [after_snoc] at a
    have ne : after p r0 ≠ [] := fun z => by rw [z] at mt; exact free_nil mt
    refine ⟨(r0, after p r0), (h _ _).mpr ⟨o0, by simpa using l, rfl, ne⟩, List.mem_map.mpr ⟨t, mt, ?_⟩⟩
    rw [a]
theorem rows_step {p : Pt} {i : Nat} {rs : List (Rw × Pt)} (h : RowsOk p i rs) : RowsOk p (i + 1) (restR (laterR rs)) := fun r q => by
  unfold restR
  rw [List.mem_filter, later_mem h]
  simp only [Bool.not_eq_true', decide_eq_false_iff_not]
  exact ⟨fun ⟨⟨a, b, c⟩, d⟩ => ⟨a, b, c, d⟩, fun ⟨a, b, c, d⟩ => ⟨⟨a, b, c⟩, d⟩⟩
theorem done_mem {p : Pt} {i : Nat} {rs : List (Rw × Pt)} (h : RowsOk p i rs) (r : Rw) : r ∈ doneR (laterR rs) ↔ okRow p r ∧ r.length = i + 1 ∧ after p r = [] := by
  unfold doneR
  rw [List.mem_map]
  constructor
  · rintro ⟨⟨r, q⟩, h1, rfl⟩
    obtain ⟨h2, h3⟩ := List.mem_filter.mp h1
    have e : q = [] := of_decide_eq_true h3
    obtain ⟨a, b, c⟩ := (later_mem h r q).mp h2
    exact ⟨a, b, c.trans e⟩
  · rintro ⟨a, b, c⟩
    exact ⟨(r, []), List.mem_filter.mpr ⟨(later_mem h r []).mpr ⟨a, b, c⟩, by simp⟩, rfl⟩
def DueOk (p : Pt) (i : Nat) : Option Rw → Prop
  | none => ∀ r, okRow p r → r.length ≤ i → after p r ≠ []
  | some r => Least p [] r
theorem due_zero {p : Pt} (h : p ≠ []) : DueOk p 0 none := fun r o l => by
  have : r = [] := List.eq_nil_of_length_eq_zero (by omega)
  subst this
  exact h
theorem due_none {p : Pt} {i : Nat} {rs : List (Rw × Pt)} (h : RowsOk p i rs) (d : DueOk p i none) (e : doneR (laterR rs) = []) : DueOk p (i + 1) none := fun r o l a => by
  rcases Nat.lt_or_ge i r.length with z | z
  · have : r ∈ doneR (laterR rs) := (done_mem h r).mpr ⟨o, by omega, a⟩
    rw [e] at this
    cases this
  · exact d r o z a
theorem due_min {p : Pt} {i : Nat} {rs : List (Rw × Pt)} (h : RowsOk p i rs) (d : DueOk p i none) {r0 : Rw} (m : r0 ∈ doneR (laterR rs)) (least : ∀ r ∈ doneR (laterR rs), ltR r r0 = false) : DueOk p (i + 1) (some r0) := by
  obtain ⟨o, l, a⟩ := (done_mem h r0).mp m
  refine ⟨o, a, fun r2 o2 a2 => ?_⟩
  have far : i + 1 ≤ r2.length := by
    rcases Nat.lt_or_ge r2.length (i + 1) with z | z
    · exact absurd a2 (d r2 o2 (by omega))
    · exact z
  exact ⟨by omega, fun e => least r2 ((done_mem h r2).mpr ⟨o2, by omega, a2⟩)⟩
theorem due_res {p : Pt} (lp : Let p) : ∀ {o : Option Rw}, DueOk p 4 o → Res p o
  | none, d => fun r o a => d r o (row_four lp o) a
  | some _, d => d
theorem later_take {rs : List (Rw × Pt)} {j : Nat} {e : Rw × Pt} (h : rs[j]? = some e) : laterR (rs.take (j + 1)) = laterR (rs.take j) ++ nextR e := by
  unfold laterR
  rw [List.take_add_one, h, List.flatMap_append]
  simp
theorem later_len : ∀ (rs : List (Rw × Pt)), (∀ e ∈ rs, Let e.2) → (laterR rs).length ≤ 16 * rs.length
  | [], _ => Nat.le_refl _
  | e :: rs, h => by
    have h1 := later_len rs fun x hx => h x (List.mem_cons_of_mem _ hx)
    have h2 := freeOf_len (h e List.mem_cons_self)
    have : laterR (e :: rs) = nextR e ++ laterR rs := rfl
    rw [this, List.length_append, List.length_cons]
    unfold nextR
    rw [List.length_map]
    omega
/-! ### in the heap -/
def IsPr (H : Hp) (v : V) (e : Rw × Pt) : Prop := ∃ a vr, v = .ref a ∧ H a = some (.tup [vr, .str (tx e.2)]) ∧ IsR H vr e.1
theorem IsPr.keep {H H' : Hp} {v : V} {e : Rw × Pt} (k : TK H H') (h : IsPr H v e) : IsPr H' v e := by
  obtain ⟨a, vr, e, h, r⟩ := h
  exact ⟨a, vr, e, k _ _ h, r.keep k⟩
theorem isPrs_keep {H H' : Hp} {xs : List V} {rs : List (Rw × Pt)} (k : TK H H') (h : Paired (IsPr H) xs rs) : Paired (IsPr H') xs rs := L2.Paired.mapP h fun _ _ q => q.keep k
/-- rows of letters are shaped -/
def LetR (r : Rw) : Prop := ∀ t ∈ r, Let t
theorem lay_T {t : List Nat} (h : Let t) : PyData.canLay0 (dT t) = true := by
  have h1 : ∀ l : List Nat, Let l → PyData.canLayAll0 (l.map dL) = true := fun l => by
    induction l with
    | nil => intro _; rfl
    | cons c r ih =>
      intro h
      have e1 := strOk_L (h c List.mem_cons_self)
      have e2 := ih fun d hd => h d (List.mem_cons_of_mem _ hd)
      show PyData.canLayAll0 (dL c :: r.map dL) = true
      simp [PyData.canLayAll0, PyData.canLay0, e1, e2]
  have e := h1 t h
  unfold dT
  rw [PyData.canLay0]
  exact e
theorem lay_R {r : Rw} (h : LetR r) : PyData.canLay0 (dR r) = true := by
  have h1 : ∀ l : Rw, LetR l → PyData.canLayAll0 (l.map dT) = true := fun l => by
    induction l with
    | nil => intro _; rfl
    | cons c r ih =>
      intro h
      have e1 := lay_T (h c List.mem_cons_self)
      have e2 := ih fun d hd => h d (List.mem_cons_of_mem _ hd)
      show PyData.canLayAll0 (dT c :: r.map dT) = true
      simp [PyData.canLayAll0, e1, e2]
  have e := h1 r h
  unfold dR
  rw [PyData.canLay0]
  exact e
theorem shaped_Rs {l : List Rw} (h : ∀ r ∈ l, LetR r) : SeqAt.shaped (.list (l.map dR)) = true := by
  have h1 : ∀ l : List Rw, (∀ r ∈ l, LetR r) → PyData.canLayAll0 (l.map dR) = true ∧ PyData.depthAll (l.map dR) ≤ 2 := fun l => by
    induction l with
    | nil => intro _; exact ⟨rfl, by simp [PyData.depthAll]⟩
    | cons c r ih =>
      intro h
      have e1 := lay_R (h c List.mem_cons_self)
      obtain ⟨e2, e3⟩ := ih fun d hd => h d (List.mem_cons_of_mem _ hd)
      have e4 := depth_R c
      show PyData.canLayAll0 (dR c :: r.map dR) = true ∧ PyData.depthAll (dR c :: r.map dR) ≤ 2
      rw [PyData.canLayAll0, PyData.depthAll, e1, e2]
      exact ⟨rfl, by omega⟩
  obtain ⟨e1, e2⟩ := h1 l h
  unfold SeqAt.shaped
  rw [PyData.canLay0, PyData.depth, e1, Bool.true_and]
  exact decide_eq_true (by omega)
theorem eqv_lnilR (l : List Rw) : PyData.eqv (.list (l.map dR)) (.list []) = decide (l = []) := by
  cases l with
  | nil => simp [PyData.eqv, PyData.eqvAll]
  | cons q r => simp [PyData.eqv, PyData.eqvAll]
theorem letR_ok : ∀ {r : Rw} {p : Pt}, Let p → okRow p r → LetR r
  | [], _, _, _, t, ht => by cases ht
  | u :: r, p, lp, h, t, ht => by
    rcases List.mem_cons.mp ht with e | ht
    · rw [e]
      exact fun c hc => lp c (freeOf_sub h.1 c hc)
    · exact letR_ok (let_drop lp) h.2 t ht
/-! ### what is alike -/
theorem at_T {H : Hp} {v u : V} {t : List Nat} {n : Nat} (l : t.length ≤ 1000) (h1 : IsT H v t) (h2 : IsT H u t) : At H (n + 1) v u := by
  obtain ⟨a, rfl, ha⟩ := h1
  obtain ⟨b, rfl, hb⟩ := h2
  refine .inr ⟨a, b, _, _, rfl, rfl, .inr ⟨ha, hb⟩, rfl, by rw [List.length_map]; exact l, fun i x y e1 e2 => ?_⟩
  obtain ⟨c, hc, rfl⟩ := map_get e1
  obtain ⟨d, hd, rfl⟩ := map_get e2
  have : c = d := Option.some.inj (hc.symm.trans hd)
  subst this
  have fl : Flat (vL c) (vL c) := .inr ⟨_, rfl, rfl⟩
  cases n with
  | zero => exact fl
  | succ n => exact .inl fl
theorem at_Ts {H : Hp} {xs ys : List V} {ts : List (List Nat)} (small : ∀ t ∈ ts, t.length ≤ 1000) (h1 : Paired (IsT H) xs ts) (h2 : Paired (IsT H) ys ts) (i : Nat) (x y : V) (e1 : xs[i]? = some x) (e2 : ys[i]? = some y) : At H 1 x y := by
  obtain ⟨t, ht, i1⟩ := paired_fwd h1 e1
  obtain ⟨u, hu, i2⟩ := paired_fwd h2 e2
  have : t = u := Option.some.inj (ht.symm.trans hu)
  subst this
  exact at_T (small t (List.mem_of_getElem? ht)) i1 i2
end Av
namespace Av
open PySem PySem.Spec PyProof.Rows L2
theorem sb_tkL {E : Addr} {H H' : Hp} {xs : List V} (h : SB E H H') (e : H E = some (.lst xs)) : TK H H' := fun b ys hb => h b _ (fun z => by
  rw [z, e] at hb
  cases hb) hb
theorem IsO.keep {H H' : Hp} {v : V} (k : TK H H') : ∀ {o : Option Rw}, IsO H v o → IsO H' v o
  | none, h => h
  | some _, h => IsR.keep k h
/-- a + b of tuples, b not empty -/
def rCatN : R2 := fun x y H Q => ∃ (a b : Addr) (xs ys : List V), x = .ref a ∧ y = .ref b ∧ H a = some (.tup xs) ∧ H b = some (.tup ys) ∧ ys ≠ [] ∧ xs.length + ys.length ≤ sizeLine ∧ ∀ p Hn, Same H Hn → Hn p = some (.tup (xs ++ ys)) → Q (.ref p) Hn
theorem op_catN {X : Cx} : OpR X (binaryOp .Add) rCatN := by
  intro pins s σ H x y v u Q I rx ry h
  obtain ⟨a, b, xs, ys, rfl, rfl, ha, hb, ne, hz, q⟩ := h
  exact op_catA pins s σ H _ _ v u Q I rx ry ⟨a, b, xs, ys, rfl, rfl, SqT.of ha, SqT.of hb, hz, fun e => q b H (Same.refl H) (by rw [hb, e]; rfl), fun _ e => absurd e ne, fun _ _ p np => q p _ (same_new np) upd_same⟩
theorem done_take {ls : List (Rw × Pt)} {j : Nat} {e : Rw × Pt} (h : ls[j]? = some e) : doneR (ls.take (j + 1)) = doneR (ls.take j) ++ (if e.2 = [] then [e.1] else []) := by
  unfold doneR
  rw [List.take_add_one, h, List.filter_append, List.map_append]
  by_cases q : e.2 = []
  · simp [q]
  · simp [q]
theorem rest_take {ls : List (Rw × Pt)} {j : Nat} {e : Rw × Pt} (h : ls[j]? = some e) : restR (ls.take (j + 1)) = restR (ls.take j) ++ (if e.2 = [] then [] else [e]) := by
  unfold restR
  rw [List.take_add_one, h, List.filter_append]
  by_cases q : e.2 = []
  · simp [q]
  · simp [q]
theorem okRow_items : ∀ {r : Rw} {p : Pt}, Let p → okRow p r → ∀ t ∈ r, t.length ≤ 4
  | [], _, _, _, t, ht => by cases ht
  | u :: r, p, lp, h, t, ht => by
    rcases List.mem_cons.mp ht with e | ht
    · rw [e]
      exact item_len lp (mem_freeOf h.1).1
    · exact okRow_items (let_drop lp) h.2 t ht
theorem tx_empty (q : Pt) : decide (V.str (tx q) = V.str (Str.ofString "")) = decide (q = []) := by
  have e : Str.ofString "" = tx [] := by decide
  rw [e, Bool.eq_iff_iff]
  simp only [decide_eq_true_eq]
  exact ⟨fun h => tx_inj (V.str.inj h), fun h => by rw [h]⟩
section
variable {P : Program} {w : World} {K : PySem.W.Frag} {mg : Str → Option Value} {base : Heap}
def spLaw (K : PySem.W.Frag) : Sp := fun vs H Q _ => ∃ (a : Addr) (ns : List Int), vs = [.ref a] ∧ SqL K H a (ns.map V.int) ∧ ∀ H', Q (.bl true) H'
theorem ok_law {f fT fA fF fL fR : Addr} {fd fdT fdA fdF fdL fdR : FuncData} (F : Fun K "law" "law" sLaw f fd)
    (GT : FnOk P w K mg base CX0 1 fT fdT ["_law_row", "_law_many"] (spTaken K)) (kT : PySem.W.keepIn K (.ref fT) = true) (bT : Binds K fdT ["_law_row", "_law_many"] []) (gT : mg "_law_taken" = some (.ref fT))
    (GA : FnOk P w K mg base CX0 3 fA fdA ["_law_found", "_law_due"] (spAlike 2)) (kA : PySem.W.keepIn K (.ref fA) = true) (bA : Binds K fdA ["_law_found", "_law_due"] []) (gA : mg "_law_alike" = some (.ref fA))
    (GF : FnOk P w K mg base CX0 4 fF fdF ["pattern"] spSets) (kF : PySem.W.keepIn K (.ref fF) = true) (bF : Binds K fdF ["pattern"] []) (gF : mg "free_sets" = some (.ref fF))
    (GL : FnOk P w K mg base CX0 1 fL fdL ["_law_pattern"] spLawSets) (kL : PySem.W.keepIn K (.ref fL) = true) (bL : Binds K fdL ["_law_pattern"] []) (gL : mg "_law_free_sets" = some (.ref fL))
    (GR : FnOk P w K mg base CX0 4 fR fdR ["pattern"] spRed) (kR : PySem.W.keepIn K (.ref fR) = true) (bR : Binds K fdR ["pattern"] []) (gR : mg "reduction" = some (.ref fR))
    (mR : mg "range" = none) (mMin : mg "min" = none) : FnOk P w K mg base CX0 5 f fd ["_law_script"] (spLaw K) := by
  refine F.ok scLaw (fun vs H Q E h => ?_) (fun cdv A outer s H vs Q E hr h => ?_)
  · obtain ⟨a, ns, rfl, _⟩ := h
    rfl
  · obtain ⟨sc, ns, rfl, hS, q⟩ := h
    have hu1 : (A.deeper (envOfC "law" (defScope sLaw) s.heap.objs.size f cdv)).units + 1 < cLine := by have := hr.units; omega
    have hr1 := hr.mono (show 1 ≤ 4 by decide)
    have hr3 := hr.mono (show 3 ≤ 4 by decide)
    refine ⟨_, (pss_cons (ps_set (i := 1) scLaw.nd rfl (.inr rfl) (pe_lst (pa_cons (pv 0) (pa_cons pe_int (pa_cons pe_int (pa_cons pe_int pa_nil))))))
      (pss_cons (ps_set (i := 2) scLaw.nd rfl (.inr rfl) (pe_op op_addN pe_int (pe_call GT hr1 (by rfl) gT kT bT .nil pass0 (pa_cons (pv 1) (pa_cons pe_int pa_nil)))))
      (pss_cons (ps_set (i := 3) scLaw.nd rfl (.inl rfl) (pe_join pe_str (pe_lc (own := [("_law_at", 12)]) (g := gName 12) (te := tOp rIxS (tC (.str "ABCD")) (tCall (spTaken K) [] E (tCons (tVar 1) (tCons (tVar 2) tNil)))) rfl scLaw.nd (pi_range1 (by rfl) mR (pa_cons (pe_op op_addN pe_int (pe_call GT hr1 (by rfl) gT kT bT .nil pass0 (pa_cons (pv 1) (pa_cons pe_int pa_nil)))) pa_nil))
            (blkOk_by (N := ["_law_script", "_law_row", "_law_kinds", "_law_pattern", "_law_rows", "_law_due", "_law_turn", "_law_later", "_law_told", "_law_rest", "_law_some", "_law_done", "_law_at", "_law_sign", "_law_pair"]) (sc := defScope sLaw) (by decide +kernel))
            (fun _ _ _ _ _ => pg_name (i := 12) scLaw.nd rfl (Or.inl rfl)) (fun _ _ _ _ _ => pts_nil)
            (fun _ _ _ _ _ => by exact (pe_ix ix_str pe_str (pe_call GT hr1 (by rfl) gT kT bT .nil pass0 (pa_cons (pv 1) (pa_cons (pv 2) pa_nil))) (fun _ _ => rfl))))))
      (pss_cons (ps_if (pt_not (pt_val (pe_call GA hr3 (by rfl) gA kA bA .nil pass0 (pa_cons (pe_call GF hr (by rfl) gF kF bF .nil pass0 (pa_cons (pv 3) pa_nil)) (pa_cons (pe_call GL hr1 (by rfl) gL kL bL .nil pass0 (pa_cons (pv 3) pa_nil)) pa_nil))))) pss_never pss_nil)
      (pss_cons (ps_par (i := 4) (j := 5) (by rfl) scLaw.nd rfl rfl (by decide) rfl rfl (pa_cons (pe_lst (pa_cons (pe_tup (pa_cons (pe_tup pa_nil) (pa_cons (pv 3) pa_nil))) pa_nil)) (pa_cons pe_non pa_nil)) (by rfl))
      (pss_cons (ps_for PassesOwn.never rfl (pi_range1 (by rfl) mR (pa_cons pe_int pa_nil)) (pg_name (i := 6) scLaw.nd rfl (.inl rfl))
        (pss_cons (ps_set (i := 7) scLaw.nd rfl (.inl rfl) (pe_lst pa_nil))
      (pss_cons (ps_for PassesOwn.never rfl (pi_list (pv 4)) (pg_tup rfl (pgs_cons (pg_name (i := 8) scLaw.nd rfl (.inl rfl)) (pgs_cons (pg_name (i := 9) scLaw.nd rfl (.inl rfl)) pgs_nil)))
        (pss_one (ps_for PassesOwn.never rfl (pi_list (pe_call GL hr1 (by rfl) gL kL bL .nil pass0 (pa_cons (pv 9) pa_nil))) (pg_name (i := 10) scLaw.nd rfl (.inr rfl))
        (pss_one (ps_expr (pe_bm PySem.F.plainAttrs_list PySem.F.slot_list_append PySem.F.type_list_append mt_append (pv 7) (pa_cons (pe_tup (pa_cons (pe_op op_catN (pv 8) (pe_tup (pa_cons (pv 10) pa_nil))) (pa_cons (pe_join pe_str (pe_lc (own := [("_law_sign", 13)]) (g := gName 13) rfl scLaw.nd (pi_str (pv 9))
              (blkOk_by (N := ["_law_script", "_law_row", "_law_kinds", "_law_pattern", "_law_rows", "_law_due", "_law_turn", "_law_later", "_law_told", "_law_rest", "_law_some", "_law_done", "_law_at", "_law_sign", "_law_pair"]) (sc := defScope sLaw) (by decide +kernel))
              (fun _ _ _ _ _ => pg_name (i := 13) scLaw.nd rfl (Or.inl rfl))
              (fun _ _ _ _ _ => pts_one (pt_cmpR (r := rIn K true) op_notIn_seq (pv 13) (pv 10) rfl)) (fun _ _ _ _ _ => pv 13))) pa_nil))) pa_nil)))))))
      (pss_cons (ps_setLc (i := 11) (own := [("_law_told", 8), ("_law_rest", 9)]) (g := gTup K 2 (gCons (gName 8) (gCons (gName 9) gNil))) rfl scLaw.nd rfl rfl (sw_true rfl rfl rfl rfl) (pi_list (pv 7))
              (blkOk_by (N := ["_law_script", "_law_row", "_law_kinds", "_law_pattern", "_law_rows", "_law_due", "_law_turn", "_law_later", "_law_told", "_law_rest", "_law_some", "_law_done", "_law_at", "_law_sign", "_law_pair"]) (sc := defScope sLaw) (by decide +kernel))
              (fun _ _ _ _ _ => by exact pg_tup rfl (pgs_cons (pg_name (i := 8) scLaw.nd rfl (Or.inl rfl) (hf := .inr rfl)) (pgs_cons (pg_name (i := 9) scLaw.nd rfl (Or.inl rfl) (hf := .inr rfl)) pgs_nil)))
              (fun _ _ _ _ _ => pts_one (pt_cmpR op_eq (pv 9) pe_str rfl)) (fun _ _ _ _ _ => pv 8))
      (C8.pss_cut (ps_if (PW.pt (pw_and (pt_cmp (pc_isN (pv 5))) (pw_and1 (pt_cmpR (op_neD hr.units) (pv 11) (pe_lst pa_nil) rfl)))) (pss_one (ps_set (i := 5) scLaw.nd rfl (.inl rfl) (pe_callB (cr_minD rfl hr.units) (by rfl) mMin (by decide +kernel) (pa_cons (pv 11) pa_nil)))) pss_nil)
      (pss_one (ps_setLc (i := 4) (own := [("_law_pair", 14)]) (g := gName 14) rfl scLaw.nd rfl rfl (sw_true rfl rfl rfl rfl) (pi_list (pv 7))
              (blkOk_by (N := ["_law_script", "_law_row", "_law_kinds", "_law_pattern", "_law_rows", "_law_due", "_law_turn", "_law_later", "_law_told", "_law_rest", "_law_some", "_law_done", "_law_at", "_law_sign", "_law_pair"]) (sc := defScope sLaw) (by decide +kernel))
              (fun _ _ _ _ _ => pg_name (i := 14) scLaw.nd rfl (Or.inl rfl))
              (fun _ _ _ _ _ => pts_one (pt_cmpR op_ne (pe_ix (r := rIxT K) ix_tup (pv 14) pe_int (fun _ _ => rfl)) pe_str rfl)) (fun _ _ _ _ _ => pv 14))))))))
      (pss_one (ps_ret (pe_call GA hr3 (by rfl) gA kA bA .nil pass0 (pa_cons (pe_call GR hr (by rfl) gR kR bR .nil pass0 (pa_cons (pv 3) pa_nil)) (pa_cons (pv 5) pa_nil))))))))))), ?_⟩
    -- the script's list stands
    obtain ⟨oo, hC, hSq⟩ : ∃ oo : Option HO, (∀ o, oo = some o → H sc = some o) ∧ ∀ H', (∀ o, oo = some o → H' sc = some o) → SqL K H' sc (ns.map V.int) := by
      rcases hS with (h | ⟨o, h⟩) | h
      · exact ⟨some _, fun o e => by cases e; exact h, fun H' k => .inl (.inl (k _ rfl))⟩
      · exact ⟨some _, fun u e => by cases e; exact h, fun H' k => .inl (.inr ⟨o, k _ rfl⟩)⟩
      · exact ⟨none, (fun o e => nomatch e), fun H' _ => .inr h⟩
    refine ⟨.ref sc, rfl, Nat.le_of_lt (small1000 (show 4 ≤ 1000 by decide)), fun r nr => ?_⟩
    have e1 : upd H r (.lst [.ref sc, .int 0, .int 4474, .int 0]) = upd H r (rowO sc 0 4474 0) := rfl
    rw [e1]
    have hR1 : (upd H r (rowO sc 0 4474 0)) r = some (rowO sc 0 4474 0) := upd_same
    have hne : ∀ o, oo = some o → sc ≠ r := fun o e => ne_of_none (hC o e) nr
    have hC1 : ∀ o, oo = some o → (upd H r (rowO sc 0 4474 0)) sc = some o := fun o e => un nr (hC o e)
    generalize upd H r (rowO sc 0 4474 0) = H1 at hR1 hC1 ⊢
    have sq : ∀ {H : Hp}, (∀ o, oo = some o → H sc = some o) → ∀ H', SB r H H' → SqL K H' sc (ns.map V.int) := fun k H' sb => hSq H' fun o e => sb _ _ (hne o e) (k o e)
    -- kinds
    refine ⟨.ref r, rfl, r, sc, ns, 0, 4474, 0, 4, rfl, hR1, sq hC1, by decide, by decide, fun H2 x n2 z2 r2 hx sb2 hR2 => ?_⟩
    have hC2 : ∀ o, oo = some o → H2 sc = some o := fun o e => sb2 _ _ (hne o e) (hC1 o e)
    refine ⟨1, x, rfl, rfl, ?_⟩
    -- pattern
    refine ⟨⟨_, rfl⟩, ?_⟩
    refine ⟨.ref r, rfl, r, sc, ns, n2, z2, r2, 7, rfl, hR2, sq hC2, by decide, by decide, fun H3 y n3 z3 r3 hy sb3 hR3 => ?_⟩
    have hC3 : ∀ o, oo = some o → H3 sc = some o := fun o e => sb3 _ _ (hne o e) (hC2 o e)
    refine ⟨1, y, rfl, rfl, ((1 + y : Nat) : Int), rfl, by omega, by omega, fun D nD => ?_⟩
    rw [Int.toNat_natCast]
    have hneD : ∀ o, oo = some o → sc ≠ D := fun o e => ne_of_none (hC3 o e) nD
    have hDr : r ≠ D := ne_of_none hR3 nD
    refine lc_it walk_range (fun i H' => ∃ (p : List Nat) (n : Nat) (z rest : Int), p.length = i ∧ Let p ∧ (∀ o, oo = some o → H' sc = some o) ∧ H' r = some (rowO sc n z rest) ∧ H' D = some (.lst (p.map vL)))
      ⟨[], n3, z3, r3, rfl, (fun c h => by cases h), fun o e => un nD (hC3 o e), un nD hR3, upd_same⟩ (fun _ _ _ _ => True.intro) ?_ ?_
    · rintro i xi H5 H4 hi ⟨p, n, z, rest, lp, letp, hC4, hR4, hD4⟩ ⟨rfl, hxi⟩
      refine ⟨rfl, ?_⟩
      refine ⟨.ref r, rfl, .int ((1 + x : Nat) : Int), rfl, r, sc, ns, n, z, rest, 1 + x, rfl, hR4, sq hC4, by omega, by omega, fun H5 w5 n5 z5 r5 hw sb5 hR5 => ?_⟩
      have eABCD : (Str.ofString "ABCD").cps.toList = [65, 66, 67, 68] := by decide
      refine ⟨Str.ofString "ABCD", w5, 65 + w5, rfl, rfl, (show 4 ≤ sizeLine by decide), ?_, ?_⟩
      · rw [eABCD]
        refine atI_nat ?_
        have : w5 = 0 ∨ w5 = 1 ∨ w5 = 2 ∨ w5 = 3 := by omega
        rcases this with e | e | e | e <;> subst e <;> rfl
      · refine ⟨_, sb5 _ _ (Ne.symm hDr) hD4, ?_, p ++ [65 + w5], n5, z5, r5, ?_, ?_, fun o e => ?_, ?_, ?_⟩
        · rw [List.length_map]
          exact small1000 (by omega)
        · rw [List.length_append, lp]
          rfl
        · intro c hc
          rcases List.mem_append.mp hc with h | h
          · exact letp c h
          · rw [List.mem_singleton.mp h]
            omega
        · rw [upd_ne (hneD o e)]
          exact sb5 _ _ (hne o e) (hC4 o e)
        · rw [upd_ne hDr]
          exact hR5
        · rw [upd_same, List.map_append]
          rfl
    · rintro H4 ⟨p, n4, z4, r4, lp, letp, hC4, hR4, hD4⟩
      have pos : 1 ≤ p.length := by omega
      have l7 : p.length ≤ 7 := by omega
      have patp : Pat p := ⟨pos, l7, letp⟩
      have pne : p ≠ [] := fun z => by rw [z] at pos; exact absurd pos (by decide)
      refine ⟨Str.ofString "", D, p.map L, rfl, rfl, .inl (SqL.of (by rw [List.map_map]; exact hD4)), ?_, ?_⟩
      · have h2 : ∀ l : List Nat, ((l.map L).map (·.length)).sum = l.length := by
          intro l
          induction l with
          | nil => rfl
          | cons c r ih =>
            rw [List.map_cons, List.map_cons, List.sum_cons, ih, List.length_cons]
            show 1 + r.length = _
            omega
        have h3 : (Str.ofString "").length = 0 := by decide
        rw [h2, h3]
        omega
      rw [join_letters]
      -- the free sets
      refine ⟨tV p, rfl, p, rfl, patp, fun H5 q1 xs sm5 n5 h5 pr5 => ?_⟩
      refine ⟨tV p, rfl, p, rfl, pos, by omega, letp, fun H6 q2 ys sm6 n6 h6 pr6 => ?_⟩
      rw [law_free] at pr6
      have fl := freeOf_len letp
      have lx := Paired.length pr5
      have ly := Paired.length pr6
      have small : ∀ t ∈ freeOf p, t.length ≤ 1000 := fun t ht => Nat.le_trans (item_len letp (mem_freeOf ht).1) (by decide)
      have atq : At H6 2 (.ref q1) (.ref q2) := .inr ⟨q1, q2, xs, ys, rfl, rfl, .inl ⟨sm6 _ _ h5, h6⟩, lx.trans ly.symm, by omega, at_Ts small (isTs_keep (tk_same sm6) pr5) pr6⟩
      refine ⟨.ref q1, .ref q2, rfl, atq, fun H7 sm7 => ⟨true, rfl, iteF ?_⟩⟩
      -- rows, due
      refine ⟨Nat.zero_le _, fun T0 nT0 => ⟨tV p, rfl, Nat.le_of_lt (small1000 (show 2 ≤ 1000 by decide)), fun T1 nT1 => ⟨Nat.le_of_lt (small1000 (show 1 ≤ 1000 by decide)), fun lr nlr => ⟨_, _, rfl, ?_⟩⟩⟩⟩
      have hlr : (upd (upd (upd H7 T0 (.tup [])) T1 (.tup [.ref T0, tV p])) lr (.lst [.ref T1])) lr = some (.lst [.ref T1]) := upd_same
      have hT1 : (upd (upd (upd H7 T0 (.tup [])) T1 (.tup [.ref T0, tV p])) lr (.lst [.ref T1])) T1 = some (.tup [.ref T0, tV p]) := un nlr upd_same
      have hT0 : (upd (upd (upd H7 T0 (.tup [])) T1 (.tup [.ref T0, tV p])) lr (.lst [.ref T1])) T0 = some (.tup []) := un nlr (un nT1 upd_same)
      have hpr : Paired (IsPr (upd (upd (upd H7 T0 (.tup [])) T1 (.tup [.ref T0, tV p])) lr (.lst [.ref T1]))) [.ref T1] [([], p)] := .cons ⟨T1, .ref T0, rfl, hT1, T0, [], rfl, hT0, .nil⟩ .nil
      refine ⟨4, rfl, by decide, by decide, ?_⟩
      rw [show (4 : Int).toNat = 4 from rfl]
      generalize upd (upd (upd H7 T0 (.tup [])) T1 (.tup [.ref T0, tV p])) lr (.lst [.ref T1]) = H8 at hlr hpr ⊢
      refine for_it walk_range (fun i σ H' => ∃ y6 y7 y8 y9 y10 y11 y12 y13 y14 lr xs rs dv o, σ = [some (.ref sc), some (.ref r), some (.int ((1 + x : Nat) : Int)), some (tV p), some (.ref lr), some dv, y6, y7, y8, y9, y10, y11, y12, y13, y14] ∧
          H' lr = some (.lst xs) ∧ Paired (IsPr H') xs rs ∧ RowsOk p i rs ∧ rs.length ≤ 16 ^ i ∧ IsO H' dv o ∧ DueOk p i o)
        ⟨_, _, _, _, _, _, _, _, _, lr, _, _, .non, none, rfl, hlr, hpr, rows_zero pne, Nat.le_refl _, rfl, due_zero pne⟩ (fun _ _ _ _ _ => True.intro) ?_ ?_
      · rintro i xi σ H9 H10 hi ⟨y6, y7, y8, y9, y10, y11, y12, y13, y14, lr, xs, rs, dv, o, rfl, hlr, hpr, hrows, lrs, iso, hdue⟩ ⟨rfl, hxi⟩
        have hi3 : i ≤ 3 := by omega
        have pw : 16 ^ i ≤ 4096 := Nat.pow_le_pow_right (n := 16) (by decide) hi3
        have elLet : ∀ e ∈ rs, Let e.2 ∧ e.2.length ≤ p.length ∧ e.2 ≠ [] ∧ e.1.length = i ∧ okRow p e.1 := fun e he => by
          obtain ⟨a, b, c, d⟩ := (hrows e.1 e.2).mp he
          exact ⟨by rw [← c]; exact let_after letp, by rw [← c]; exact len_after, d, b, a⟩
        have lla : (laterR rs).length ≤ 65536 := by
          have := later_len rs fun e he => (elLet e he).1
          omega
        have llt : ∀ j, (laterR (rs.take j)).length ≤ 65536 := fun j => by
          have := later_len (rs.take j) fun e he => (elLet e (List.mem_of_mem_take he)).1
          rw [List.length_take] at this
          omega
        -- later = []
        refine ⟨Nat.zero_le _, fun Lb nL => ?_⟩
        have hlr1 := un (u := .lst []) nL hlr
        have hpr1 := isPrs_keep (tk_new (o := .lst []) nL) hpr
        have iso1 := iso.keep (tk_new (o := .lst []) nL)
        have hL1 : (upd H10 Lb (.lst [])) Lb = some (.lst []) := upd_same
        have lrL : lr ≠ Lb := ne_of_none hlr nL
        generalize upd H10 Lb (.lst []) = H11 at hlr1 hpr1 iso1 hL1 ⊢
        refine ⟨.ref lr, rfl, lr, rfl, ⟨_, SqL.of hlr1⟩, ?_⟩
        refine for_it walk_list (fun j σ H' => ∃ y8 y9 y10 y11 y12 y13 y14, σ = [some (.ref sc), some (.ref r), some (.int ((1 + x : Nat) : Int)), some (tV p), some (.ref lr), some dv, some xi, some (.ref Lb), y8, y9, y10, y11, y12, y13, y14] ∧
            SB Lb H11 H' ∧ ∃ zs, H' Lb = some (.lst zs) ∧ Paired (IsPr H') zs (laterR (rs.take j)))
          ⟨_, _, _, _, _, _, _, rfl, fun _ _ _ h => h, [], hL1, .nil⟩ (fun j σ H' _ ⟨_, _, _, _, _, _, _, _, sb, _⟩ => SqL.of (sb _ _ lrL hlr1)) ?_ ?_
        · rintro j xe σ H13 H12 hj ⟨y8, y9, y10, y11, y12, y13, y14, rfl, sb12, zs, hz, pz⟩ ⟨rfl, hxe⟩
          obtain ⟨⟨r0, q0⟩, he, a, vr, rfl, ha, hvr⟩ := paired_fwd hpr1 hxe
          obtain ⟨eLet, eLen, eNe, eLenR, eOk⟩ := elLet _ (List.mem_of_getElem? he)
          have tk12 := sb_tkL sb12 hL1
          have hvr : IsR H11 vr r0 := hvr
          have eNe : q0 ≠ [] := eNe
          have eLenR : r0.length = i := eLenR
          have qpos : 1 ≤ q0.length := by
            cases q0 with
            | nil => exact absurd rfl eNe
            | cons c t => exact Nat.succ_le_succ (Nat.zero_le _)
          have qlen : q0.length ≤ 7 := Nat.le_trans eLen l7
          refine ⟨a, _, rfl, SqT.of (tk12 _ _ ha), rfl, vr, _, rfl, tV q0, _, rfl, rfl, ?_⟩
          refine ⟨tV q0, rfl, q0, rfl, qpos, by omega, eLet, fun H13 fq ts sm13 n13 h13 pr13 => ?_⟩
          rw [law_free] at pr13
          have fq16 := freeOf_len (show Let q0 from eLet)
          have tk13 := tk12.trans (tk_same sm13)
          have hz13 := sm13 _ _ hz
          have pz13 := isPrs_keep (tk_same sm13) pz
          have hfL : fq ≠ Lb := fun z => by rw [z, hz] at n13; cases n13
          refine ⟨fq, rfl, ⟨_, SqL.of h13⟩, ?_⟩
          rw [later_take he]
          refine for_it walk_list (fun k σ H' => ∃ y10 y11 y12 y13 y14, σ = [some (.ref sc), some (.ref r), some (.int ((1 + x : Nat) : Int)), some (tV p), some (.ref lr), some dv, some xi, some (.ref Lb), some vr, some (tV q0), y10, y11, y12, y13, y14] ∧
              SB Lb H13 H' ∧ ∃ zs, H' Lb = some (.lst zs) ∧ Paired (IsPr H') zs (laterR (rs.take j) ++ ((freeOf q0).take k).map fun t => (r0 ++ [t], drop' t q0)))
            ⟨_, _, _, _, _, rfl, fun _ _ _ h => h, zs, hz13, by rw [List.take_zero, List.map_nil, List.append_nil]; exact pz13⟩ (fun k σ H' _ ⟨_, _, _, _, _, _, sb, _⟩ => SqL.of (sb _ _ hfL h13)) ?_ ?_
          · rintro k xt σ H15 H14 hk ⟨y10, y11, y12, y13, y14, rfl, sb14, zs, hz, pz⟩ ⟨rfl, hxt⟩
            obtain ⟨t, ht, it⟩ := paired_fwd pr13 hxt
            have mt := List.mem_of_getElem? ht
            have tk14 := sb_tkL sb14 hz13
            have it14 := it.keep tk14
            obtain ⟨ta, rfl, hta⟩ := it14
            obtain ⟨ra, rxs, rfl, hra, prr⟩ := hvr.keep (tk13.trans tk14)
            have lrx : rxs.length ≤ 4 := by rw [Paired.length prr]; omega
            have lt4 : t.length ≤ 4 := item_len eLet (mem_freeOf mt).1
            have lzs : zs.length ≤ 65552 := by
              rw [Paired.length pz, List.length_append, List.length_map, List.length_take]
              have := llt j
              omega
            refine ⟨.ref Lb, rfl, .inl ⟨rfl, _, SqL.of hz⟩, ?_⟩
            refine ⟨.ref ra, rfl, .ref ta, rfl, Nat.le_of_lt (small1000 (show 1 ≤ 1000 by decide)), fun T nT => ?_⟩
            refine ⟨ra, T, rxs, [.ref ta], rfl, rfl, un nT hra, upd_same, (fun z => by cases z), Nat.le_of_lt (small1000 (show rxs.length + 1 ≤ 1000 by omega)), fun w H15 sm15 hw => ?_⟩
            have sm15 := (same_new nT).trans sm15
            have isr : IsR H15 (.ref w) (r0 ++ [t]) := ⟨w, _, rfl, hw, paired_snoc (isTs_keep (tk_same sm15) prr) ⟨ta, rfl, sm15 _ _ hta⟩⟩
            have hta15 := sm15 _ _ hta
            refine ⟨⟨_, rfl⟩, ?_⟩
            refine ⟨tV q0, rfl, tx q0, rfl, fun D2 nD2 => lc_it walk_str (fun i H' => Same H15 H' ∧ H' D2 = some (.lst ((drop' t (q0.take i)).map vL))) ?_ (fun _ _ _ _ => True.intro) ?_ ?_⟩
            · exact ⟨same_new nD2, upd_same⟩
            · rintro i2 x2 H17 H16 hi2 ⟨sm, hD⟩ ⟨rfl, c, hc, rfl⟩
              rw [tx_get] at hc
              refine ⟨rfl, ?_⟩
              refine ⟨vL c, rfl, .ref ta, rfl, ?_⟩
              refine ⟨ta, t.map vL, rfl, .inr (SqT.of (sm _ _ hta15)), rfl, flat_letters t, _, rfl, ?_⟩
              simp only [if_true, mem_letters, drop_take t q0 i2 c hc]
              by_cases m : c ∈ t
              · simp only [m, decide_true, Bool.not_true, Bool.false_eq_true, if_false, if_true]
                exact ⟨sm, hD⟩
              · simp only [m, decide_false, Bool.not_false, if_true, if_false]
                refine ⟨vL c, rfl, _, hD, ?_, su nD2 sm, ?_⟩
                · have h1 : (drop' t (q0.take i2)).length ≤ (q0.take i2).length := List.length_filter_le _ _
                  rw [List.length_map]
                  have h2 : (q0.take i2).length ≤ q0.length := by rw [List.length_take]; omega
                  exact small1000 (by omega)
                · rw [upd_same, List.map_append]
                  rfl
            · rintro H16 ⟨sm16, hD2⟩
              rw [tx_size, List.take_length] at hD2
              have hdl := drop_len t q0
              refine ⟨Str.ofString "", D2, (drop' t q0).map L, rfl, rfl, .inl (SqL.of (by rw [List.map_map]; exact hD2)), ?_, ?_⟩
              · have h2 : ∀ l : List Nat, ((l.map L).map (·.length)).sum = l.length := by
                  intro l
                  induction l with
                  | nil => rfl
                  | cons c r ih =>
                    rw [List.map_cons, List.map_cons, List.sum_cons, ih, List.length_cons]
                    show 1 + r.length = _
                    omega
                have h3 : (Str.ofString "").length = 0 := by decide
                rw [h2, h3]
                omega
              rw [join_letters]
              refine ⟨Nat.le_of_lt (small1000 (show 2 ≤ 1000 by decide)), fun T2 nT2 => ?_⟩
              have sm17 := sn (o := .tup [.ref w, tV (drop' t q0)]) (sm15.trans sm16) nT2
              have hz17 := sm17 _ _ hz
              have pz17 := isPrs_keep (tk_same sm17) pz
              have ipr : IsPr (upd H16 T2 (.tup [.ref w, tV (drop' t q0)])) (.ref T2) (r0 ++ [t], drop' t q0) := ⟨T2, .ref w, rfl, upd_same, isr.keep ((tk_same sm16).trans (tk_new nT2))⟩
              refine ⟨Lb, zs, .ref T2, rfl, rfl, hz17, by unfold sizeLine; omega, ?_⟩
              have kt : TK (upd H16 T2 (.tup [.ref w, tV (drop' t q0)])) (upd (upd H16 T2 (.tup [.ref w, tV (drop' t q0)])) Lb (.lst (zs ++ [.ref T2]))) := tk_upd hz17 fun xs z => by cases z
              refine ⟨_, _, _, _, _, rfl, (sb14.trans (Av.Same.sb sm17)).trans sb_upd, _, upd_same, ?_⟩
              rw [List.take_add_one, ht, List.map_append, ← List.append_assoc]
              exact paired_snoc (isPrs_keep kt pz17) (ipr.keep kt)
          · rintro σ H14 ⟨y10, y11, y12, y13, y14, rfl, sb14, zs, hz, pz⟩
            rw [Paired.length pr13, List.take_length] at pz
            exact ⟨_, _, _, _, _, _, _, rfl, (sb12.trans (Av.Same.sb sm13)).trans sb14, zs, hz, pz⟩
        · rintro σ H12 ⟨y8, y9, y10, y11, y12, y13, y14, rfl, sb12, zs, hz, pz⟩
          rw [Paired.length hpr1, List.take_length] at pz
          have tk12 := sb_tkL sb12 hL1
          have iso2 := iso1.keep tk12
          -- done
          refine ⟨.ref Lb, rfl, Lb, rfl, ⟨_, SqL.of hz⟩, fun D2 nD2 => ?_⟩
          have hdone : ∀ m, m ∈ doneR (laterR rs) ↔ _ := done_mem hrows
          have hstep := rows_step hrows
          have ldone : (doneR (laterR rs)).length ≤ 65536 := by
            unfold doneR
            rw [List.length_map]
            exact Nat.le_trans (List.length_filter_le _ _) lla
          have lzs := Paired.length pz
          have dnone := fun d e => due_none (p := p) (i := i) hrows d e
          have dmin := fun (d : DueOk p i none) (r0 : Rw) m l => due_min (p := p) (i := i) hrows d (r0 := r0) m l
          have lrest : (restR (laterR rs)).length ≤ 16 ^ (i + 1) := by
            unfold restR
            refine Nat.le_trans (List.length_filter_le _ _) ?_
            have h1 := later_len rs fun e he => (elLet e he).1
            have e : 16 ^ (i + 1) = 16 * 16 ^ i := by rw [Nat.pow_succ, Nat.mul_comm]
            omega
          generalize laterR rs = ls at pz hstep hdone ldone lzs dnone dmin lrest lla
          refine lc_it walk_list (fun j H' => Same H12 H' ∧ ∃ ws, H' D2 = some (.lst ws) ∧ Paired (IsR H') ws (doneR (ls.take j))) ⟨same_new nD2, [], upd_same, .nil⟩ (fun j H' _ h => SqL.of (h.1 _ _ hz)) ?_ ?_
          · rintro j xe H14 H13 hj ⟨sm13, ws, hD, pw⟩ ⟨rfl, hxe⟩
            obtain ⟨⟨r0, q0⟩, he, a, vr, rfl, ha, hvr⟩ := paired_fwd pz hxe
            refine ⟨a, _, rfl, SqT.of (sm13 _ _ ha), rfl, vr, _, rfl, tV q0, _, rfl, rfl, rfl, ?_⟩
            refine ⟨tV q0, rfl, rfl, _, rfl, ?_⟩
            rw [show decide (tV q0 = V.str (Str.ofString "")) = decide (q0 = []) from tx_empty q0, done_take he]
            by_cases e : q0 = []
            · simp only [e, decide_true, if_true]
              refine ⟨vr, rfl, ws, hD, ?_, su nD2 sm13, _, upd_same, ?_⟩
              · rw [Paired.length pw]
                have h1 : (doneR (ls.take j)).length ≤ ls.length := by
                  unfold doneR
                  rw [List.length_map]
                  refine Nat.le_trans (List.length_filter_le _ _) ?_
                  rw [List.length_take]
                  omega
                unfold sizeLine
                omega
              · have kt : TK H13 (upd H13 D2 (.lst (ws ++ [vr]))) := tk_upd hD fun xs z => by cases z
                exact paired_snoc (isRs_keep kt pw) ((hvr.keep (tk_same sm13)).keep kt)
            · simp only [e, decide_false, Bool.false_eq_true, if_false, List.append_nil]
              exact ⟨sm13, ws, hD, pw⟩
          · rintro H13 ⟨sm13, ws, hD, pw⟩
            rw [lzs, List.take_length] at pw
            have letD : ∀ r ∈ doneR ls, LetR r := fun r hr => letR_ok letp ((hdone r).mp hr).1
            have iso3 := iso2.keep (tk_same sm13)
            have hz13 := sm13 _ _ hz
            have pz13 := isPrs_keep (tk_same sm13) pz
            refine ⟨fun σ' H' => ∃ dv2 o2, σ' = [some (.ref sc), some (.ref r), some (.int ((1 + x : Nat) : Int)), some (tV p), some (.ref lr), some dv2, some xi, some (.ref Lb), y8, y9, y10, some (.ref D2), y12, y13, y14] ∧ Same H13 H' ∧ IsO H' dv2 o2 ∧ DueOk p (i + 1) o2, ?_, ?_⟩
            · refine ⟨dv, rfl, _, rfl, ?_⟩
              cases o with
              | some row =>
                obtain ⟨ra, _, edv, _, _⟩ := (show IsR H13 dv row from iso3)
                have e : decide (dv = .non) = false := decide_eq_false fun z => by rw [edv] at z; cases z
                rw [e]
                exact iteF (iteF ⟨dv, some row, rfl, Same.refl H13, iso3, hdue⟩)
              | none =>
                obtain rfl : dv = .non := iso3
                rw [decide_eq_true (show V.non = V.non from rfl)]
                refine iteT ?_
                refine ⟨.ref D2, rfl, Nat.zero_le _, fun E2 nE2 => ?_⟩
                have sme := same_new (o := .lst []) nE2
                have hDe := sme _ _ hD
                have pwe := isRs_keep (tk_same sme) pw
                refine ⟨.list ((doneR ls).map dR), .list [], .lst (SqL.of hDe) (dp_Rs pwe), .lst (SqL.of upd_same) .nil, shaped_Rs letD, shaped_Rs (l := []) (fun r h => by cases h), _, rfl, ?_⟩
                generalize upd H13 E2 (.lst []) = H14 at sme hDe pwe ⊢
                rw [eqv_lnilR]
                by_cases e : doneR ls = []
                · simp only [e, decide_true, Bool.not_true, Bool.false_eq_true, if_false]
                  exact ⟨.non, none, rfl, sme, rfl, dnone hdue e⟩
                · simp only [e, decide_false, Bool.not_false, if_true]
                  refine ⟨.ref D2, rfl, D2, ws, (doneR ls).map dR, rfl, SqL.of hDe, ?_, dp_Rs pwe, fun d hd => ?_, fun i2 v d e1 e2 least => ?_⟩
                  · rw [Paired.length pwe]
                    exact List.length_pos_iff.mpr e
                  · obtain ⟨r1, _, rfl⟩ := List.mem_map.mp hd
                    refine ⟨(fun z => by cases z), Nat.le_trans (depth_R _) (by decide), fun e he => ?_⟩
                    obtain ⟨r2, _, rfl⟩ := List.mem_map.mp he
                    exact alike_R _ _
                  · obtain ⟨r1, hr1, i1⟩ := paired_fwd pwe e1
                    rw [List.getElem?_map, hr1] at e2
                    obtain rfl : dR r1 = d := Option.some.inj e2
                    refine ⟨v, some r1, rfl, sme, i1, dmin hdue r1 (List.mem_of_getElem? hr1) fun r2 hr2 => ?_⟩
                    rw [← dataLt_R]
                    exact least _ (List.mem_map.mpr ⟨r2, hr2, rfl⟩)
            · rintro σ' H14 ⟨dv2, o2, rfl, sm14, iso4, hdue4⟩
              have hz14 := sm14 _ _ hz13
              have pz14 := isPrs_keep (tk_same sm14) pz13
              refine ⟨.ref Lb, rfl, Lb, rfl, ⟨_, SqL.of hz14⟩, fun D3 nD3 => ?_⟩
              refine lc_it walk_list (fun j H' => Same H14 H' ∧ ∃ ws, H' D3 = some (.lst ws) ∧ Paired (IsPr H') ws (restR (ls.take j))) ⟨same_new nD3, [], upd_same, .nil⟩ (fun j H' _ h => SqL.of (h.1 _ _ hz14)) ?_ ?_
              · rintro j xe H16 H15 hj ⟨sm15, ws, hD, pw⟩ ⟨rfl, hxe⟩
                obtain ⟨⟨r0, q0⟩, he, ipr⟩ := paired_fwd pz14 hxe
                obtain ⟨a, vr, rfl, ha, hvr⟩ := ipr
                refine ⟨rfl, ?_⟩
                refine ⟨.ref a, rfl, a, _, 1, tV q0, rfl, rfl, SqT.of (sm15 _ _ ha), rfl, rfl, _, rfl, ?_⟩
                rw [show decide (tV q0 = V.str (Str.ofString "")) = decide (q0 = []) from tx_empty q0, rest_take he]
                by_cases e : q0 = []
                · simp only [e, decide_true, Bool.not_true, Bool.false_eq_true, if_false, if_true, List.append_nil]
                  exact ⟨sm15, ws, hD, pw⟩
                · simp only [e, decide_false, Bool.not_false, if_true, if_false]
                  refine ⟨.ref a, rfl, ws, hD, ?_, su nD3 sm15, _, upd_same, ?_⟩
                  · rw [Paired.length pw]
                    have h1 : (restR (ls.take j)).length ≤ ls.length := by
                      unfold restR
                      refine Nat.le_trans (List.length_filter_le _ _) ?_
                      rw [List.length_take]
                      omega
                    unfold sizeLine
                    omega
                  · have kt : TK H15 (upd H15 D3 (.lst (ws ++ [.ref a]))) := tk_upd hD fun xs z => by cases z
                    exact paired_snoc (isPrs_keep kt pw) ⟨a, vr, rfl, kt _ _ (sm15 _ _ ha), (hvr.keep (tk_same sm15)).keep kt⟩
              · rintro H15 ⟨sm15, ws, hD, pw⟩
                rw [lzs, List.take_length] at pw
                exact ⟨_, _, _, _, _, _, _, _, _, D3, ws, restR ls, dv2, o2, rfl, hD, pw, hstep, lrest, iso4.keep (tk_same sm15), hdue4⟩
      · rintro σ H9 ⟨y6, y7, y8, y9, y10, y11, y12, y13, y14, lr, xs, rs, dv, o, rfl, hlr, hpr, hrows, lrs, iso, hdue⟩
        refine ⟨tV p, rfl, p, rfl, patp, fun H11 v o2 sm11 res iso2 => ?_⟩
        obtain rfl := res_uniq res (due_res letp hdue)
        refine ⟨dv, rfl, v, dv, rfl, ?_, fun H12 _ => q H12⟩
        have iso3 := iso.keep (tk_same sm11)
        cases o2 with
        | none =>
          have e1 : v = .non := iso2
          have e2 : dv = .non := iso3
          exact .inl (.inl ⟨e1, e2⟩)
        | some row =>
          obtain ⟨a, us, rfl, ha, pa⟩ := (show IsR H11 v row from iso2)
          obtain ⟨b, vs, rfl, hb, pb⟩ := (show IsR H11 dv row from iso3)
          have lrow : row.length ≤ 4 := row_four letp hdue.1
          have tl : ∀ t ∈ row, t.length ≤ 1000 := fun t ht => Nat.le_trans (okRow_items letp hdue.1 t ht) (by decide)
          refine .inr ⟨a, b, us, vs, rfl, rfl, .inr ⟨ha, hb⟩, (Paired.length pa).trans (Paired.length pb).symm, by rw [Paired.length pa]; omega, at_Ts tl pa pb⟩
end
end Av
namespace Av
open PySem PySem.Spec PyProof.Rows L2
theorem all_mk {l : PySem.W.OpenLaw} {w : World} {K : PySem.W.Frag} {h : Heap} {mg : Str → Option Value} {fa f_need f_kinds f_sides f_free f_subs f_freeOf f_sets f_without f_red f_taken f_alike f_lawSets f_law : Addr} (X : K.In h) (G : h.Ns mainGlobals mg) (hfa : mg "law" = some (.ref fa))
    {od_need an_need od_kinds an_kinds od_sides an_sides od_free an_free od_subs an_subs od_freeOf an_freeOf od_sets an_sets od_without an_without od_red an_red od_taken an_taken od_alike an_alike od_lawSets an_lawSets od_law an_law : Option Addr} {sl_need sl_kinds sl_sides sl_free sl_subs sl_freeOf sl_sets sl_without sl_red sl_taken sl_alike sl_lawSets sl_law : Array (Option Value)} {oc_need kV_need dc_need pm_need cd_need ct_need oc_kinds kV_kinds dc_kinds pm_kinds cd_kinds ct_kinds oc_sides kV_sides dc_sides pm_sides cd_sides ct_sides oc_free kV_free dc_free pm_free cd_free ct_free oc_subs kV_subs dc_subs pm_subs cd_subs ct_subs oc_freeOf kV_freeOf dc_freeOf pm_freeOf cd_freeOf ct_freeOf oc_sets kV_sets dc_sets pm_sets cd_sets ct_sets oc_without kV_without dc_without pm_without cd_without ct_without oc_red kV_red dc_red pm_red cd_red ct_red oc_taken kV_taken dc_taken pm_taken cd_taken ct_taken oc_alike kV_alike dc_alike pm_alike cd_alike ct_alike oc_lawSets kV_lawSets dc_lawSets pm_lawSets cd_lawSets ct_lawSets oc_law kV_law dc_law pm_law cd_law ct_law : Value} {tV tM : Tok}
    (a_need : PySem.W.nsIn K mainGlobals "need_pattern" = some (some (.ref f_need))) (l_need : K.lookup f_need = some ⟨oc_need, od_need, .func (PySem.W.fnOf "need_pattern" "need_pattern" (defArgs sNeed) (defBody sNeed) (defScope sNeed) .none kV_need dc_need pm_need an_need cd_need ct_need), sl_need⟩) (c_need : PySem.W.codeIn K cd_need "need_pattern" = true) (k_need : PySem.W.keepIn K (.ref f_need) = true)
    (a_kinds : PySem.W.nsIn K mainGlobals "kinds_of" = some (some (.ref f_kinds))) (l_kinds : K.lookup f_kinds = some ⟨oc_kinds, od_kinds, .func (PySem.W.fnOf "kinds_of" "kinds_of" (defArgs sKinds) (defBody sKinds) (defScope sKinds) .none kV_kinds dc_kinds pm_kinds an_kinds cd_kinds ct_kinds), sl_kinds⟩) (c_kinds : PySem.W.codeIn K cd_kinds "kinds_of" = true) (k_kinds : PySem.W.keepIn K (.ref f_kinds) = true)
    (a_sides : PySem.W.nsIn K mainGlobals "sides" = some (some (.ref f_sides))) (l_sides : K.lookup f_sides = some ⟨oc_sides, od_sides, .func (PySem.W.fnOf "sides" "sides" (defArgs sSides) (defBody sSides) (defScope sSides) .none kV_sides dc_sides pm_sides an_sides cd_sides ct_sides), sl_sides⟩) (c_sides : PySem.W.codeIn K cd_sides "sides" = true) (k_sides : PySem.W.keepIn K (.ref f_sides) = true)
    (a_free : PySem.W.nsIn K mainGlobals "is_free" = some (some (.ref f_free))) (l_free : K.lookup f_free = some ⟨oc_free, od_free, .func (PySem.W.fnOf "is_free" "is_free" (defArgs sFree) (defBody sFree) (defScope sFree) .none kV_free dc_free pm_free an_free cd_free ct_free), sl_free⟩) (c_free : PySem.W.codeIn K cd_free "is_free" = true) (k_free : PySem.W.keepIn K (.ref f_free) = true)
    (a_subs : PySem.W.nsIn K mainGlobals "subsets" = some (some (.ref f_subs))) (l_subs : K.lookup f_subs = some ⟨oc_subs, od_subs, .func (PySem.W.fnOf "subsets" "subsets" (defArgs sSubs) (defBody sSubs) (defScope sSubs) .none kV_subs dc_subs pm_subs an_subs cd_subs ct_subs), sl_subs⟩) (c_subs : PySem.W.codeIn K cd_subs "subsets" = true) (k_subs : PySem.W.keepIn K (.ref f_subs) = true)
    (a_freeOf : PySem.W.nsIn K mainGlobals "free_of" = some (some (.ref f_freeOf))) (l_freeOf : K.lookup f_freeOf = some ⟨oc_freeOf, od_freeOf, .func (PySem.W.fnOf "free_of" "free_of" (defArgs sFreeOf) (defBody sFreeOf) (defScope sFreeOf) .none kV_freeOf dc_freeOf pm_freeOf an_freeOf cd_freeOf ct_freeOf), sl_freeOf⟩) (c_freeOf : PySem.W.codeIn K cd_freeOf "free_of" = true) (k_freeOf : PySem.W.keepIn K (.ref f_freeOf) = true)
    (a_sets : PySem.W.nsIn K mainGlobals "free_sets" = some (some (.ref f_sets))) (l_sets : K.lookup f_sets = some ⟨oc_sets, od_sets, .func (PySem.W.fnOf "free_sets" "free_sets" (defArgs sSets) (defBody sSets) (defScope sSets) .none kV_sets dc_sets pm_sets an_sets cd_sets ct_sets), sl_sets⟩) (c_sets : PySem.W.codeIn K cd_sets "free_sets" = true) (k_sets : PySem.W.keepIn K (.ref f_sets) = true)
    (a_without : PySem.W.nsIn K mainGlobals "without" = some (some (.ref f_without))) (l_without : K.lookup f_without = some ⟨oc_without, od_without, .func (PySem.W.fnOf "without" "without" (defArgs sWithout) (defBody sWithout) (defScope sWithout) .none kV_without dc_without pm_without an_without cd_without ct_without), sl_without⟩) (c_without : PySem.W.codeIn K cd_without "without" = true) (k_without : PySem.W.keepIn K (.ref f_without) = true)
    (a_red : PySem.W.nsIn K mainGlobals "reduction" = some (some (.ref f_red))) (l_red : K.lookup f_red = some ⟨oc_red, od_red, .func (PySem.W.fnOf "reduction" "reduction" (defArgs sRed) (defBody sRed) (defScope sRed) .none kV_red dc_red pm_red an_red cd_red ct_red), sl_red⟩) (c_red : PySem.W.codeIn K cd_red "reduction" = true) (k_red : PySem.W.keepIn K (.ref f_red) = true)
    (a_taken : PySem.W.nsIn K mainGlobals "_law_taken" = some (some (.ref f_taken))) (l_taken : K.lookup f_taken = some ⟨oc_taken, od_taken, .func (PySem.W.fnOf "_law_taken" "_law_taken" (defArgs sTaken) (defBody sTaken) (defScope sTaken) .none kV_taken dc_taken pm_taken an_taken cd_taken ct_taken), sl_taken⟩) (c_taken : PySem.W.codeIn K cd_taken "_law_taken" = true) (k_taken : PySem.W.keepIn K (.ref f_taken) = true)
    (a_alike : PySem.W.nsIn K mainGlobals "_law_alike" = some (some (.ref f_alike))) (l_alike : K.lookup f_alike = some ⟨oc_alike, od_alike, .func (PySem.W.fnOf "_law_alike" "_law_alike" (defArgs sAlike) (defBody sAlike) (defScope sAlike) .none kV_alike dc_alike pm_alike an_alike cd_alike ct_alike), sl_alike⟩) (c_alike : PySem.W.codeIn K cd_alike "_law_alike" = true) (k_alike : PySem.W.keepIn K (.ref f_alike) = true)
    (a_lawSets : PySem.W.nsIn K mainGlobals "_law_free_sets" = some (some (.ref f_lawSets))) (l_lawSets : K.lookup f_lawSets = some ⟨oc_lawSets, od_lawSets, .func (PySem.W.fnOf "_law_free_sets" "_law_free_sets" (defArgs sLawSets) (defBody sLawSets) (defScope sLawSets) .none kV_lawSets dc_lawSets pm_lawSets an_lawSets cd_lawSets ct_lawSets), sl_lawSets⟩) (c_lawSets : PySem.W.codeIn K cd_lawSets "_law_free_sets" = true) (k_lawSets : PySem.W.keepIn K (.ref f_lawSets) = true)
    (a_law : PySem.W.nsIn K mainGlobals "law" = some (some (.ref f_law))) (l_law : K.lookup f_law = some ⟨oc_law, od_law, .func (PySem.W.fnOf "law" "law" (defArgs sLaw) (defBody sLaw) (defScope sLaw) .none kV_law dc_law pm_law an_law cd_law ct_law), sl_law⟩) (c_law : PySem.W.codeIn K cd_law "law" = true) (k_law : PySem.W.keepIn K (.ref f_law) = true)
    (aV : PySem.W.nsIn K mainGlobals "VARIABLES" = some (some (.str "ABCDEF" tV))) (aM : PySem.W.nsIn K mainGlobals "MOST_PATTERN" = some (some (.int 12 tM)))
    (z_isinstance : PySem.W.nsIn K mainGlobals "isinstance" = some none) (z_str : PySem.W.nsIn K mainGlobals "str" = some none) (z_len : PySem.W.nsIn K mainGlobals "len" = some none) (z_all : PySem.W.nsIn K mainGlobals "all" = some none) (z_enumerate : PySem.W.nsIn K mainGlobals "enumerate" = some none) (z_zip : PySem.W.nsIn K mainGlobals "zip" = some none) (z_list : PySem.W.nsIn K mainGlobals "list" = some none) (z_any : PySem.W.nsIn K mainGlobals "any" = some none) (z_sorted : PySem.W.nsIn K mainGlobals "sorted" = some none) (z_int : PySem.W.nsIn K mainGlobals "int" = some none) (z_set : PySem.W.nsIn K mainGlobals "set" = some none) (z_range : PySem.W.nsIn K mainGlobals "range" = some none) (z_min : PySem.W.nsIn K mainGlobals "min" = some none) (z_tuple : PySem.W.nsIn K mainGlobals "tuple" = some none) :
    ∃ fd : FuncData, (∀ (s : Shared) (v : Value), BindsTo s fd ⟨[v], []⟩ [("_law_script", v)]) ∧ ∀ base : Heap, K.In base → base.Ns mainGlobals mg → FnOk l.prog w K mg base CX0 5 fa fd ["_law_script"] (spLaw K) := by
  have e := hfa.symm.trans (PySem.W.mg_of X G a_law)
  cases e
  have F_need := fun_mk (st := sNeed) l_need c_need k_need
  have F_kinds := fun_mk (st := sKinds) l_kinds c_kinds k_kinds
  have F_sides := fun_mk (st := sSides) l_sides c_sides k_sides
  have F_free := fun_mk (st := sFree) l_free c_free k_free
  have F_subs := fun_mk (st := sSubs) l_subs c_subs k_subs
  have F_freeOf := fun_mk (st := sFreeOf) l_freeOf c_freeOf k_freeOf
  have F_sets := fun_mk (st := sSets) l_sets c_sets k_sets
  have F_without := fun_mk (st := sWithout) l_without c_without k_without
  have F_red := fun_mk (st := sRed) l_red c_red k_red
  have F_taken := fun_mk (st := sTaken) l_taken c_taken k_taken
  have F_alike := fun_mk (st := sAlike) l_alike c_alike k_alike
  have F_lawSets := fun_mk (st := sLawSets) l_lawSets c_lawSets k_lawSets
  have F_law := fun_mk (st := sLaw) l_law c_law k_law
  have b_need := F_need.binds (ps := ["value"]) fun _ _ _ _ _ _ us hl => match us, hl with | [_], _ => rfl
  have b_kinds := F_kinds.binds (ps := ["pattern"]) fun _ _ _ _ _ _ us hl => match us, hl with | [_], _ => rfl
  have b_sides := F_sides.binds (ps := ["pattern"]) fun _ _ _ _ _ _ us hl => match us, hl with | [_], _ => rfl
  have b_free := F_free.binds (ps := ["marks", "told"]) fun _ _ _ _ _ _ us hl => match us, hl with | [_, _], _ => rfl
  have b_subs := F_subs.binds (ps := ["kinds"]) fun _ _ _ _ _ _ us hl => match us, hl with | [_], _ => rfl
  have b_freeOf := F_freeOf.binds (ps := ["pattern"]) fun _ _ _ _ _ _ us hl => match us, hl with | [_], _ => rfl
  have b_sets := F_sets.binds (ps := ["pattern"]) fun _ _ _ _ _ _ us hl => match us, hl with | [_], _ => rfl
  have b_without := F_without.binds (ps := ["pattern", "told"]) fun _ _ _ _ _ _ us hl => match us, hl with | [_, _], _ => rfl
  have b_red := F_red.binds (ps := ["pattern"]) fun _ _ _ _ _ _ us hl => match us, hl with | [_], _ => rfl
  have b_taken := F_taken.binds (ps := ["_law_row", "_law_many"]) fun _ _ _ _ _ _ us hl => match us, hl with | [_, _], _ => rfl
  have b_alike := F_alike.binds (ps := ["_law_found", "_law_due"]) fun _ _ _ _ _ _ us hl => match us, hl with | [_, _], _ => rfl
  have b_lawSets := F_lawSets.binds (ps := ["_law_pattern"]) fun _ _ _ _ _ _ us hl => match us, hl with | [_], _ => rfl
  have g_need := PySem.W.mg_of X G a_need
  have g_kinds := PySem.W.mg_of X G a_kinds
  have g_sides := PySem.W.mg_of X G a_sides
  have g_free := PySem.W.mg_of X G a_free
  have g_subs := PySem.W.mg_of X G a_subs
  have g_freeOf := PySem.W.mg_of X G a_freeOf
  have g_sets := PySem.W.mg_of X G a_sets
  have g_without := PySem.W.mg_of X G a_without
  have g_red := PySem.W.mg_of X G a_red
  have g_taken := PySem.W.mg_of X G a_taken
  have g_alike := PySem.W.mg_of X G a_alike
  have g_lawSets := PySem.W.mg_of X G a_lawSets
  have g_law := PySem.W.mg_of X G a_law
  have gV := PySem.W.mg_of X G aV
  have gM := PySem.W.mg_of X G aM
  have m_isinstance := PySem.W.mg_none_of X G z_isinstance
  have m_str := PySem.W.mg_none_of X G z_str
  have m_len := PySem.W.mg_none_of X G z_len
  have m_all := PySem.W.mg_none_of X G z_all
  have m_enumerate := PySem.W.mg_none_of X G z_enumerate
  have m_zip := PySem.W.mg_none_of X G z_zip
  have m_list := PySem.W.mg_none_of X G z_list
  have m_any := PySem.W.mg_none_of X G z_any
  have m_sorted := PySem.W.mg_none_of X G z_sorted
  have m_int := PySem.W.mg_none_of X G z_int
  have m_set := PySem.W.mg_none_of X G z_set
  have m_range := PySem.W.mg_none_of X G z_range
  have m_min := PySem.W.mg_none_of X G z_min
  have m_tuple := PySem.W.mg_none_of X G z_tuple
  refine ⟨PySem.W.fnOf "law" "law" (defArgs sLaw) (defBody sLaw) (defScope sLaw) .none kV_law dc_law pm_law an_law cd_law ct_law, fun s v => .of_eq rfl, fun base _ _ => ?_⟩
  have GN : FnOk l.prog w K mg base CX0 1 f_need _ ["value"] spNeed := ok_need F_need m_isinstance m_str m_len m_all ⟨_, gV⟩ ⟨_, gM⟩
  have GO : FnOk l.prog w K mg base CX0 3 f_freeOf _ ["pattern"] spFreeOf := ok_freeOf F_freeOf F_kinds b_kinds g_kinds F_sides b_sides g_sides F_subs b_subs g_subs F_free b_free g_free m_enumerate m_zip m_list m_any m_sorted
  have GF : FnOk l.prog w K mg base CX0 4 f_sets _ ["pattern"] spSets := ok_sets F_sets F_need b_need g_need GN F_freeOf b_freeOf g_freeOf GO
  have GW : FnOk l.prog w K mg base CX0 1 f_without _ ["pattern", "told"] spWithout := ok_without F_without
  have GR : FnOk l.prog w K mg base CX0 4 f_red _ ["pattern"] spRed := ok_red F_red F_need b_need g_need GN F_freeOf b_freeOf g_freeOf GO F_without b_without g_without GW m_list
  have GT : FnOk l.prog w K mg base CX0 1 f_taken _ ["_law_row", "_law_many"] (spTaken K) := ok_taken F_taken m_int m_len
  have A0 : FnOk l.prog w K mg base CX0 1 f_alike _ ["_law_found", "_law_due"] (spAlike 0) := ok_alike0 F_alike m_isinstance m_tuple m_list m_str
  have A1 := ok_alikeS F_alike b_alike g_alike m_isinstance m_tuple m_list m_str m_range m_len A0
  have A2 := ok_alikeS F_alike b_alike g_alike m_isinstance m_tuple m_list m_str m_range m_len A1
  have GL : FnOk l.prog w K mg base CX0 1 f_lawSets _ ["_law_pattern"] spLawSets := ok_lawSets F_lawSets m_sorted m_set m_range m_len m_min m_tuple
  exact ok_law F_law GT k_taken b_taken g_taken A2 k_alike b_alike g_alike GF k_sets b_sets g_sets GL k_lawSets b_lawSets g_lawSets GR k_red b_red g_red m_range m_min
end Av
namespace Av
open PySem PySem.Spec PyProof.Rows L2
end Av
open PySem PySem.W PyProof.Rows
set_option maxHeartbeats 0 in
theorem PySem.Challenge.cw_avoidwords_k74_whole_free_sets_holds : PySem.Challenge.rw_avoidwords_k74_whole_free_sets.Holds := by
  w_on; o_law; k_head; (case hw => w_witness2)
  k_fill
  refine L2.walk_of (l := PySem.Challenge.rw_avoidwords_k74_whole_free_sets) (n := 63) (k := 5) (x := "_law_script") (CX := fun _ => L2.CX0) (sp := fun w => Av.spLaw _) rfl (by decide) rfl ⟨rfl, by decide, by decide⟩ (fun w h Y => PySem.W.kIn_of Y) ?F (fun _ _ a ns hl _ hS => ⟨a, ns, rfl, hS, fun _ => rfl⟩) (fun _ _ _ _ _ h => h)
  case F =>
    intro w mg fa h KX G hmg
    refine' Av.all_mk KX G hmg ?a_need ?l_need ?c_need ?k_need ?a_kinds ?l_kinds ?c_kinds ?k_kinds ?a_sides ?l_sides ?c_sides ?k_sides ?a_free ?l_free ?c_free ?k_free ?a_subs ?l_subs ?c_subs ?k_subs ?a_freeOf ?l_freeOf ?c_freeOf ?k_freeOf ?a_sets ?l_sets ?c_sets ?k_sets ?a_without ?l_without ?c_without ?k_without ?a_red ?l_red ?c_red ?k_red ?a_taken ?l_taken ?c_taken ?k_taken ?a_alike ?l_alike ?c_alike ?k_alike ?a_lawSets ?l_lawSets ?c_lawSets ?k_lawSets ?a_law ?l_law ?c_law ?k_law ?aV ?aM ?z_isinstance ?z_str ?z_len ?z_all ?z_enumerate ?z_zip ?z_list ?z_any ?z_sorted ?z_int ?z_set ?z_range ?z_min ?z_tuple
    (case a_need => k_is); (case l_need => k_is); (case c_need => k_is); (case k_need => k_is); (case a_kinds => k_is); (case l_kinds => k_is); (case c_kinds => k_is); (case k_kinds => k_is); (case a_sides => k_is); (case l_sides => k_is); (case c_sides => k_is); (case k_sides => k_is); (case a_free => k_is); (case l_free => k_is); (case c_free => k_is); (case k_free => k_is); (case a_subs => k_is); (case l_subs => k_is); (case c_subs => k_is); (case k_subs => k_is); (case a_freeOf => k_is); (case l_freeOf => k_is); (case c_freeOf => k_is); (case k_freeOf => k_is); (case a_sets => k_is); (case l_sets => k_is); (case c_sets => k_is); (case k_sets => k_is); (case a_without => k_is); (case l_without => k_is); (case c_without => k_is); (case k_without => k_is); (case a_red => k_is); (case l_red => k_is); (case c_red => k_is); (case k_red => k_is); (case a_taken => k_is); (case l_taken => k_is); (case c_taken => k_is); (case k_taken => k_is); (case a_alike => k_is); (case l_alike => k_is); (case c_alike => k_is); (case k_alike => k_is); (case a_lawSets => k_is); (case l_lawSets => k_is); (case c_lawSets => k_is); (case k_lawSets => k_is); (case a_law => k_is); (case l_law => k_is); (case c_law => k_is); (case k_law => k_is); (case aV => k_is); (case aM => k_is); (case z_isinstance => k_is); (case z_str => k_is); (case z_len => k_is); (case z_all => k_is); (case z_enumerate => k_is); (case z_zip => k_is); (case z_list => k_is); (case z_any => k_is); (case z_sorted => k_is); (case z_int => k_is); (case z_set => k_is); (case z_range => k_is); (case z_min => k_is); (case z_tuple => k_is)
