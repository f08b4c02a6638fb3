import PyProof.Rows.All
import Wide.All
import OpenK.AllK
import Wide.FinOn
import HandS.ForMost
import HandS.Style
import HandS.IsInst
import HandS.Defaults
import HandS.Flow
import KE.SortData
import KE.GoesEnum
import HandS.Walk
import HandS.Codes
import PySem.Challenge.RW_avoidwords_k79_whole_trees
set_option Elab.async false
set_option linter.all false
set_option maxRecDepth 100000
set_option maxHeartbeats 8000000
/-! New rules for the hand layer: xs[-2::-1], xs[-1] op= e -/
namespace Aw
open PySem PySem.Spec PyProof.Rows L2

theorem cut_bounds (n : Nat) : sliceBounds (some (-2)) none (some (-1)) n = (((n - 1 : Nat) : Int) - 1, -1, -1) := by
  have h1 : ¬ ((-1 : Int) > 0) := by decide
  have h2 : ((-2 : Int) < 0) := by decide
  unfold sliceBounds
  simp only [Option.getD_some, h1, if_false, h2, if_true]
  refine Prod.ext ?_ rfl
  show max (-1) (min (-2 + (n : Int)) ((n : Int) - 1)) = ((n - 1 : Nat) : Int) - 1
  omega
theorem take_pick {α : Type} (xs : Array α) (k : Nat) (hk : k ≤ xs.size) : (List.range k).filterMap (xs[·]?) = xs.toList.take k := by
  have h := pick_run xs 0 k
  have e : (List.range k).map (0 + ·) = List.range k := by
    rw [show ((0 + ·) : Nat → Nat) = id from funext fun k => Nat.zero_add k, List.map_id]
  rw [e, List.drop_zero] at h
  exact h
theorem cut_pick (items : Array Value) : slicePick items (some (-2)) none (some (-1)) = items.toList.dropLast.reverse.toArray := by
  unfold slicePick
  rw [cut_bounds]
  show ((sliceRange (((items.size - 1 : Nat) : Int) - 1) (-1) (-1)).filterMap (items[·]?)).toArray = _
  rw [PySem.W.krv_sliceRange, PySem.W.krv_range, List.filterMap_reverse, take_pick _ _ (Nat.sub_le _ _), List.dropLast_eq_take, Array.length_toList]

section
variable {X : Cx}
/-- xs[-2::-1] -/
def tRevCut (K : PySem.W.Frag) (te : TE) : TE := fun σ H Q => te σ H fun x H1 => ∃ a xs, x = .ref a ∧ SqL K H1 a xs ∧ ∀ p, H1 p = none → Q (.ref p) (upd H1 p (.lst xs.dropLast.reverse))
theorem pe_revCut {e : Expr} {te : TE} {k k0 : Nat} {p0 p00 p1 p2 p3 pos : Pos} (he : PE X e te) :
    PE X (.Subscript e (.Slice (some (.UnaryOp .USub (.Constant (.int 2) k0 p0) p00)) none (some (.UnaryOp .USub (.Constant (.int 1) k p1) p2)) p3) pos) (tRevCut X.K te) := by
  refine ⟨fun pins s σ H Q I h => ?_⟩
  refine Subscript_ (thn (he.run pins s σ H _ I h) fun v s1 ⟨x, H1, I1, r1, q1⟩ => ?_)
  obtain ⟨a, xs, ex, hx, q⟩ := q1
  subst ex
  cases r1
  have hlo : PO X (some (.UnaryOp .USub (.Constant (.int 2) k0 p0) p00)) (tPart (tUn (rU fun i => .int (-i)) (tC (.int 2)))) := po_some (pe_un un_neg pe_int)
  have hst : PO X (some (.UnaryOp .USub (.Constant (.int 1) k p1) p2)) (tPart (tUn (rU fun i => .int (-i)) (tC (.int 1)))) := po_some (pe_un un_neg pe_int)
  refine wpAny_Slice (thn (hlo.run pins s1 σ H1 (fun o H2 => o = some (-2) ∧ H2 = H1) I1 ⟨2, rfl, -2, rfl, rfl, rfl⟩) fun vl s2 ⟨l, H2, I2, pl, el, e2⟩ => ?_)
  subst el e2
  refine thn (po_none.run pins s2 σ H2 (fun o H3 => o = none ∧ H3 = H2) I2 ⟨rfl, rfl⟩) fun vu s3 ⟨u, H3, I3, pu, eu, e3⟩ => ?_
  subst eu e3
  refine thn (hst.run pins s3 σ H3 (fun o H4 => o = some (-1) ∧ H4 = H3) I3 ⟨1, rfl, -1, rfl, rfl, rfl⟩) fun vs s4 ⟨o, H4, I4, ps, eo, e4⟩ => ?_
  subst eo e4
  have I5 : Inv X pins σ H4 { s4 with heap := s4.heap.push { cls := .type "slice", data := .fields #[vl, vu, vs] } } := I4.kept (t' := s4.toks) fun b ob q => Heap.get?_push_of_some _ q
  obtain ⟨its, r, ht, hz⟩ := I5.list hx
  have hlen := r.length
  show wpAny (model X.prog X.w) X.A (subscriptTail e (.Slice (some (.UnaryOp .USub (.Constant (.int 2) k0 p0) p00)) none (some (.UnaryOp .USub (.Constant (.int 1) k p1) p2)) p3) (.ref a) (.ref s4.heap.objs.size)) (EP X pins σ Q) X.xe { s4 with heap := s4.heap.push { cls := .type "slice", data := .fields #[vl, vu, vs] } }
  refine tail_any (ops := [.ref a, .ref s4.heap.objs.size]) ht.isList.typeIs (PySem.slot_list_getitem.lookup) ?_ (by with_unfolding_all rfl)
  refine wpAny_getItem_list_slice ht.isList (Heap.IsSliceOf.new _ vl vu vs) pl pu ps (by decide) ?_ (by rw [List.size_toArray]; omega)
  rw [cut_pick]
  refine ⟨.ref _, _, I5.laid (t' := s4.toks) (o := .lst xs.dropLast.reverse) (fun b ob q => Heap.get?_push_of_some _ q) (Nat.le_refl _) ?_, rfl, q _ (I5.hok.fresh (Nat.le_refl _))⟩
  exact ⟨by rw [List.length_reverse, List.length_dropLast]; omega, _, 0, r.dropLast.reverse, Heap.get?_push_size _ rfl⟩

/-- xs[i] below 0, read for op= -/
def rGetN (K : PySem.W.Frag) : V → V → Hp → VK → Prop := fun x y H Q => ∃ p xs i v, x = .ref p ∧ y = .int i ∧ i < 0 ∧ SqL K H p xs ∧ atI xs i = some v ∧ Q v H
theorem get_listN : PGet X (rGetN X.K) := by
  intro pins s σ H x y v u Q I rx ry h
  obtain ⟨p, xs, i, z, rfl, rfl, h0, hq, he, q⟩ := h
  cases rx
  obtain ⟨t, rfl⟩ := ry
  obtain ⟨its, r, pl, hz⟩ := I.list hq
  obtain ⟨j, h1, h2, h3, h4, h5⟩ := atI_get he
  obtain ⟨w, ew, rw'⟩ := r.get h2
  have hl := r.length
  have hn := line63
  have hj : (i + (its.toArray.size : Int)).toNat = j := by
    rw [seqIndex_neg h0 h4] at h1
    rw [List.size_toArray, ← hl]
    exact Option.some.inj h1
  exact wpAny_getItem_list_neg pl.isList h0 (by rw [List.size_toArray] <;> omega) (by omega) (by rw [hj]; simpa using ew) ⟨z, H, I, rw', q⟩
end
end Aw

/-! New rules: lists of tuples of whole numbers: sorted, min; enumerate of a tuple -/
namespace Aw
open PySem PySem.Spec PyProof.Rows L2

/-! ### tuples of numbers -/
def nV (n : Nat) : V := .int (n : Int)
def pV (p : List Nat) : List V := p.map nV
inductive TupsAt (H : Hp) : List Addr → List (List Nat) → Prop
  | nil : TupsAt H [] []
  | cons {t : Addr} {p : List Nat} {ts : List Addr} {ps : List (List Nat)} : H t = some (.tup (pV p)) → TupsAt H ts ps → TupsAt H (t :: ts) (p :: ps)
theorem TupsAt.length {H : Hp} : ∀ {ts : List Addr} {ps : List (List Nat)}, TupsAt H ts ps → ts.length = ps.length
  | _, _, .nil => rfl
  | _, _, .cons _ h => congrArg Nat.succ h.length
theorem TupsAt.mono {H H' : Hp} (s : ∀ b xs, H b = some (.tup xs) → H' b = some (.tup xs)) : ∀ {ts : List Addr} {ps : List (List Nat)}, TupsAt H ts ps → TupsAt H' ts ps
  | _, _, .nil => .nil
  | _, _, .cons h t => .cons (s _ _ h) (TupsAt.mono s t)
theorem TupsAt.same {H H' : Hp} (s : Same H H') {ts : List Addr} {ps : List (List Nat)} (h : TupsAt H ts ps) : TupsAt H' ts ps := h.mono fun b xs e => s b _ e
theorem TupsAt.get {H : Hp} : ∀ {ts : List Addr} {ps : List (List Nat)} {i : Nat} {t : Addr}, TupsAt H ts ps → ts[i]? = some t → ∃ p, ps[i]? = some p ∧ H t = some (.tup (pV p))
  | _, _, _, _, .nil, e => by simp at e
  | _, _, 0, _, .cons h _, e => by
    simp at e
    subst e
    exact ⟨_, rfl, h⟩
  | _, _, i + 1, t, .cons _ h, e => by
    obtain ⟨p, h1, h2⟩ := TupsAt.get (i := i) h (by simpa using e)
    exact ⟨p, by simpa using h1, h2⟩
theorem TupsAt.append {H : Hp} : ∀ {ts us : List Addr} {ps qs : List (List Nat)}, TupsAt H ts ps → TupsAt H us qs → TupsAt H (ts ++ us) (ps ++ qs)
  | _, _, _, _, .nil, h => h
  | _, _, _, _, .cons h t, k => .cons h (TupsAt.append t k)
theorem TupsAt.one {H : Hp} {t : Addr} {p : List Nat} (h : H t = some (.tup (pV p))) : TupsAt H [t] [p] := .cons h .nil
/-- the last one apart -/
theorem TupsAt.last {H : Hp} : ∀ {ts : List Addr} {ps : List (List Nat)}, TupsAt H ts ps → ps ≠ [] → ∃ ts' ps' t p, ts = ts' ++ [t] ∧ ps = ps' ++ [p] ∧ TupsAt H ts' ps' ∧ H t = some (.tup (pV p))
  | _, _, .nil, h => absurd rfl h
  | _, _, .cons (t := t) (p := p) (ts := ts) (ps := ps) h k, _ => by
    cases k with
    | nil => exact ⟨[], [], t, p, rfl, rfl, .nil, h⟩
    | cons h2 k2 =>
      obtain ⟨ts', ps', t', p', e1, e2, h3, h4⟩ := TupsAt.last (.cons h2 k2) (by simp)
      exact ⟨t :: ts', p :: ps', t', p', by rw [e1]; rfl, by rw [e2]; rfl, .cons h h3, h4⟩

/-! ### the order -/
theorem natLt_int : ∀ p q : List Nat, (p.map fun n : Nat => (n : Int)) < (q.map fun n : Nat => (n : Int)) ↔ p < q
  | [], [] => by simp
  | [], _ :: _ => by simp
  | _ :: _, [] => by simp
  | x :: p, y :: q => by
    have ih := natLt_int p q
    simp only [List.map_cons, List.cons_lt_cons_iff]
    constructor
    · rintro (h | ⟨h1, h2⟩)
      · exact .inl (by omega)
      · exact .inr ⟨by omega, ih.mp h2⟩
    · rintro (h | ⟨h1, h2⟩)
      · exact .inl (by omega)
      · exact .inr ⟨by omega, ih.mpr h2⟩
def encP (p : List Nat) : PyData := .tuple (p.map fun n : Nat => .int (n : Int))
theorem encP_ints (p : List Nat) : (p.map fun n : Nat => PyData.int (n : Int)) = (p.map fun n : Nat => (n : Int)).map .int := by rw [List.map_map]; rfl
theorem encP_lt (p q : List Nat) : PySem.W.dataLt (encP p) (encP q) = decide (p < q) := by
  unfold encP
  rw [PySem.W.dataLt_tuple, encP_ints, encP_ints]
  have e := PySem.W.dataLt_ints (p.map fun n : Nat => (n : Int)) (q.map fun n : Nat => (n : Int))
  refine Eq.trans e ?_
  exact decide_eq_decide.mpr (natLt_int p q)
def leP (p q : List Nat) : Bool := !decide (q < p)
theorem encP_le : PySem.W.dataLe false encP = leP := by
  funext p q
  show (!PySem.W.dataLt (encP q) (encP p)) = leP p q
  rw [encP_lt]
  rfl
theorem encP_alike (p q : List Nat) : PySem.W.alike (encP p) (encP q) = true := by
  unfold encP
  rw [encP_ints, encP_ints]
  simp only [PySem.W.alike]
  exact PySem.W.alike_ints _ _
theorem encP_depth (p : List Nat) : (encP p).depth ≤ 1 := by
  unfold encP
  rw [encP_ints]
  simp only [PyData.depth]
  rw [PySem.W.depth_ints]
  omega
section
variable {X : Cx} {pins : List (Addr × Obj)} {σ : L2.St} {H : Hp} {s : Shared}
theorem dp_ints {K : PySem.W.Frag} {H : Hp} : ∀ p : List Nat, DpAll K H (pV p) (p.map fun n : Nat => PyData.int (n : Int))
  | [] => .nil
  | n :: p => .cons (.int _) (dp_ints p)
theorem dp_path {K : PySem.W.Frag} {H : Hp} {t : Addr} {p : List Nat} (h : H t = some (.tup (pV p))) : Dp K H (.ref t) (encP p) := .tup (.inl (.inl h)) (dp_ints p)
theorem dp_paths {K : PySem.W.Frag} {H : Hp} : ∀ {ts : List Addr} {ps : List (List Nat)}, TupsAt H ts ps → DpAll K H (ts.map V.ref) (ps.map encP)
  | _, _, .nil => .nil
  | _, _, .cons h t => .cons (dp_path h) (dp_paths t)
/-- what an item stands for -/
def StandsP (H : Hp) (v : Value) (p : List Nat) : Prop := ∃ t, v = .ref t ∧ H t = some (.tup (pV p))
theorem each_paths : ∀ {ts : List Addr} {ps : List (List Nat)} {its : List Value}, TupsAt H ts ps → Vals (ts.map V.ref) its → PySem.W.EachIs (StandsP H) its ps
  | _, _, _, .nil, r => by
    cases r
    exact .nil
  | _, _, _, .cons h t, r => by
    cases r with
    | cons r1 r2 => exact .cons ⟨_, r1, h⟩ (each_paths t r2)
theorem each_reads (I : Inv X pins σ H s) : ∀ {vs : List Value} {ps : List (List Nat)}, PySem.W.EachIs (StandsP H) vs ps → PySem.W.EachIs (fun v b => ∃ as, Reads s.heap v (encP b) as) vs ps
  | _, _, .nil => .nil
  | _, _, .cons ⟨t, e, h⟩ k => .cons (Dp.reads I _ (.ref t) _ (dp_path (K := X.K) h) e) (each_reads I k)
theorem each_back : ∀ {vs : List Value} {ps : List (List Nat)}, PySem.W.EachIs (StandsP H) vs ps → ∃ ts : List Addr, Vals (ts.map V.ref) vs ∧ TupsAt H ts ps
  | _, _, .nil => ⟨[], .nil, .nil⟩
  | _, _, .cons ⟨t, e, h⟩ k => by
    obtain ⟨ts, h1, h2⟩ := each_back k
    exact ⟨t :: ts, .cons e h1, .cons h h2⟩
end
/-- sorted(xs), xs a list of tuples of numbers, none empty -/
def rSortedT (K : PySem.W.Frag) : List V → Hp → VK → Prop := fun vs H Q => ∃ (a : Addr) (ts : List Addr) (ps : List (List Nat)), vs = [V.ref a] ∧ SqL K H a (ts.map V.ref) ∧ TupsAt H ts ps ∧ (∀ p ∈ ps, p ≠ []) ∧
  ∀ (q : Addr) (ts' : List Addr), H q = none → TupsAt H ts' (ps.mergeSort leP) → Q (.ref q) (upd H q (.lst (ts'.map V.ref)))
section
variable {X : Cx}
theorem cr_sortedT (hu : X.A.units + 64 < cLine) : CallR X (.builtin "sorted") (rSortedT X.K) := by
  intro pins s σ H vs us Q I r h
  obtain ⟨a, ts, ps, rfl, hs, hP, hne, q⟩ := h
  obtain ⟨its, rv, hl, hz⟩ := I.list hs
  rw [Vals.ref1 r]
  have hlen : ts.length = ps.length := hP.length
  have e := each_paths hP rv
  refine PySem.W.sorted_data (enc := encP) (R := StandsP H) hl.isList e (each_reads I e) (PySem.W.AllAlike.of encP_alike) (.inl fun d hd => ?_) (by rw [← hlen]; simpa using hz) (fun b _ => ?_) fun out hlo he => ?_
  · obtain ⟨b, hb, rfl⟩ := List.mem_map.mp hd
    cases b with
    | nil => exact absurd rfl (hne _ hb)
    | cons x r => exact ⟨.int (x : Int), r.map fun n : Nat => .int (n : Int), rfl⟩
  · have := encP_depth b
    omega
  · rw [encP_le] at he
    obtain ⟨ts', h1, h2⟩ := each_back he
    obtain ⟨ep, he'⟩ := PyProof.Rows.sortedAll_at s.heap its (List.toArray out)
    have hl1 : (ts'.map V.ref).length ≤ sizeLine := by
      rw [h1.length, hlo, ← hlen]
      simpa using hz
    exact ⟨.ref _, upd H (s.heap.objs.size + 1) (.lst (ts'.map V.ref)), I.laid (t' := s.toks) (fun _ _ => PyProof.Rows.sortedAll_old) (Nat.le_succ _) ⟨hl1, out, ep, h1, by rw [he']⟩, rfl, q _ ts' (I.hok.fresh (Nat.le_succ _)) h2⟩
end

/-! ### min -/
section
variable {prog : Program} {w : World} {A : Around} {R : Result → Shared → Prop} {I ax S : Addr} {items : Array Value} {lt : Nat → Nat → Bool}
def KeepsAll (h h' : Heap) : Prop := ∀ b o, h.get? b = some o → h'.get? b = some o
/-- the comparison of two items wherever what stood at the begin stands -/
def CmpAt (prog : Program) (w : World) (A : Around) (h0 : Heap) (items : Array Value) (lt : Nat → Nat → Bool) : Prop :=
  ∀ (i j : Nat) (vi vj : Value) (s : Shared) (Q : Value → Shared → Prop) (E : Value → Shared → Prop), KeepsAll h0 s.heap → items[i]? = some vi → items[j]? = some vj → Q (.bool (lt i j)) s → wpAny (model prog w) A (richCompare .Lt vi vj) Q E s
theorem min_go {h0 : Heap} (hh : A.in1.handled = none) (hcmp : CmpAt prog w A.in1 h0 items lt) (hne : ax ≠ I) (hSI : S ≠ I) (hSa : S ≠ ax) (hI0 : h0.get? I = none) (hS0 : h0.get? S = none)
    (htr : ∀ i a b, lt i a = false → lt b a = true → lt i b = false) (hir : ∀ i, lt i i = false) :
    ∀ (k j m : Nat) (s : Shared) (vb : Value) (c : Nat), items.size - (j + 1) = k → j + 1 ≤ items.size → m ≤ j → (∀ i, i ≤ j → lt i m = false) → items[m]? = some vb →
      s.heap.IsListIter I ax (j + 1) → s.heap.IsList ax items → KeepsAll h0 s.heap → s.heap.get? S = some { cls := .type "list", dict := none, data := .seq #[vb, vb] c, slots := #[] } →
      (∀ m v h' tk, m < items.size → (∀ i, i < items.size → lt i m = false) → items[m]? = some v → KeepsAll h0 h' → R (.ok (.ret v)) { s with heap := h', toks := tk }) →
      codeAny (model prog w) A (.builtin "min.loop" ⟨[.ref I, .none, .ref S], []⟩) R s := by
  have hname : (toString "min" ++ toString ".loop" : String) = "min.loop" := by decide
  have W := Walks.list (prog := prog) (w := w) hh I ax hne items
  have notI : ∀ {b : Addr} {o : Obj}, h0.get? b = some o → b ≠ I := fun {b o} e z => by
    rw [z, hI0] at e
    cases e
  have notS : ∀ {b : Addr} {o : Obj}, h0.get? b = some o → S ≠ b := fun {b o} e z => by
    rw [← z, hS0] at e
    cases e
  intro k
  induction k with
  | zero =>
    intro j m s vb c hk hj hm hb hv hit hl kp hS hR
    have hin : j + 1 = items.size := by omega
    refine codeAny_builtin F.entry_min_loop ?_
    rw [Around.under_plainId F.plain_min_loop _]
    show wpAny _ A.in1 (seqItems? (.ref S) >>= _) _ _ s
    refine wpAny_bind (wpAny_seqItems hS rfl ?_)
    show wpAny _ A.in1 (tryCatch (pyNext (.ref I)) _ >>= _) _ _ s
    refine wpAny_bind (wpAny_tryCatch (W.done s _ _ ⟨hin ▸ hit, hl⟩ fun h' tk hk' => ?_))
    have hS' := hk' S _ (by simpa using hSI) hS
    show wpAny _ A.in1 (updateSeq S (fun _ => #[]) >>= _) _ _ _
    refine wpAny_bind (wpAny_updateSeq hS' rfl (wpAny_bind (wpAny_letGo (wpAny_pure ?_))))
    refine hR m vb _ tk (by omega) (fun i hi => hb i (by omega)) hv fun b o e => ?_
    exact (Heap.get?_update_other _ _ (notS e)).trans (hk' b o (by simpa using notI e) (kp b o e))
  | succ k ih =>
    intro j m s vb c hk hj hm hb hv hit hl kp hS hR
    have hlt : j + 1 < items.size := by omega
    refine codeAny_builtin F.entry_min_loop ?_
    rw [Around.under_plainId F.plain_min_loop _]
    show wpAny _ A.in1 (seqItems? (.ref S) >>= _) _ _ s
    refine wpAny_bind (wpAny_seqItems hS rfl ?_)
    show wpAny _ A.in1 (tryCatch (pyNext (.ref I)) _ >>= _) _ _ s
    refine wpAny_bind (wpAny_tryCatch (W.item (j + 1) s _ _ hlt ⟨hit, hl⟩ fun v h' tk hP hst' hk' => ?_))
    have hS' := hk' S _ (by simpa using hSI) hS
    have kp' : KeepsAll h0 h' := fun b o e => hk' b o (by simpa using notI e) (kp b o e)
    show wpAny _ A.in1 (tryCatch (holding [v, v] (richCompare .Lt v vb >>= _)) _ >>= _) _ _ _
    refine wpAny_bind (wpAny_tryCatch (wpAny_holding (wpAny_bind (hcmp (j + 1) m v vb _ _ _ kp' hP hv ?_))))
    refine wpAny_bind (wpAny_holding (wpAny_truthy_bool (wpAny_bind (wpAny_letGo (wpAny_pure ?_)))))
    cases hq : lt (j + 1) m with
    | true =>
      simp only [if_true]
      refine wpAny_bind (wpAny_updateSeq hS' rfl (wpAny_bind (wpAny_letGo ?_)))
      rw [hname]
      refine wpAny_pure ⟨plainId_quiet F.plain_min_loop _, ih (j + 1) (j + 1) _ v _ (by omega) hlt (Nat.le_refl _) (fun i hi => ?_) hP ?_ ?_ (fun b o e => ?_) (Heap.get?_update_self _ hS' rfl) fun m' v' h'' tk'' a1 a2 a3 a4 => hR m' v' h'' tk'' a1 a2 a3 a4⟩
      · by_cases e : i = j + 1
        · rw [e]; exact hir _
        · exact htr i m _ (hb i (by omega)) hq
      · exact hst'.1.at fun o e => (Heap.get?_update_other _ _ hSI).trans e
      · exact hst'.2.at fun o e => (Heap.get?_update_other _ _ hSa).trans e
      · exact (Heap.get?_update_other _ _ (notS e)).trans (kp' b o e)
    | false =>
      simp only [Bool.false_eq_true, if_false]
      refine wpAny_bind (wpAny_letGo ?_)
      rw [hname]
      refine wpAny_pure ⟨plainId_quiet F.plain_min_loop _, ih (j + 1) m _ vb c (by omega) hlt (by omega) (fun i hi => ?_) hv hst'.1 hst'.2 kp' hS' fun m' v' h'' tk'' a1 a2 a3 a4 => hR m' v' h'' tk'' a1 a2 a3 a4⟩
      by_cases e : i = j + 1
      · rw [e]; exact hq
      · exact hb i (by omega)
end
section
variable {prog : Program} {w : World} {A : Around} {E : Value → Shared → Prop} {s : Shared} {ax : Addr} {items : Array Value} {lt : Nat → Nat → Bool}
theorem aIneI {h : Heap} {b : Addr} {o : Obj} (e : h.get? b = some o) : b ≠ h.objs.size ∧ b ≠ h.objs.size + 1 := by
  have hb : (b : Nat) < h.objs.size := Heap.lt_size e
  exact ⟨Nat.ne_of_lt hb, Nat.ne_of_lt (Nat.lt_succ_of_lt hb)⟩
theorem noneAt (h : Heap) (b : Addr) (hb : h.objs.size ≤ b) : h.get? b = none := by
  cases e : h.get? b with
  | none => rfl
  | some o => exact absurd (Heap.lt_size e) (Nat.not_lt.mpr hb)
theorem min_call {Q : Value → Shared → Prop} (hh : A.handled = none) (hl : s.heap.IsList ax items) (h0 : 0 < items.size) (hcmp : CmpAt prog w A.in1.in1 s.heap items lt) (hcmp1 : CmpAt prog w A.in1 s.heap items lt)
    (htr : ∀ i a b, lt i a = false → lt b a = true → lt i b = false) (hir : ∀ i, lt i i = false)
    (hQ : ∀ m v h' tk, m < items.size → (∀ i, i < items.size → lt i m = false) → items[m]? = some v → KeepsAll s.heap h' → Q v { s with heap := h', toks := tk }) :
    wpAny (model prog w) A (call (.builtin "min") [.ref ax]) Q E s := by
  have hname : (toString "min" ++ toString ".loop" : String) = "min.loop" := by decide
  refine call_function_tree F.kind_min F.plain_min F.entry_min (F.args_min1 _) ?_
  show wpAny _ A.in1 (Builtin.Builtins.bindParams "min" ["key", "default"] 0 ⟨[], []⟩ >>= _) _ _ s
  refine wpAny_bind (wpAny_of_eq (show Builtin.Builtins.bindParams "min" ["key", "default"] 0 ⟨[], []⟩ = pure [none, none] from rfl) ?_)
  refine wpAny_bind (wpAny_pure (wpAny_bind (wpAny_pyIter_list hl ?_)))
  refine wpAny_bind (wpAny_newObj_type ?_)
  have hax : ax < s.heap.objs.size := by
    obtain ⟨o, e, _⟩ := hl
    exact Heap.lt_size e
  rw [hname]
  generalize hI : s.heap.objs.size = I at *
  generalize hh1 : s.heap.push { cls := .type "list_iterator", data := .fields #[.ref ax, .int 0 0] } = h1
  have hz1 : h1.objs.size = I + 1 := by rw [← hh1, Heap.size_push, hI]
  have k1 : KeepsAll s.heap h1 := fun b o e => by rw [← hh1]; exact Heap.get?_push_of_some _ e
  have hit1 : h1.IsListIter I ax 0 := by
    rw [← hh1, ← hI]
    exact ⟨_, Heap.get?_push_size _ rfl, rfl, rfl⟩
  have hl1 : h1.IsList ax items := hl.at fun o e => k1 _ _ e
  refine wpAny_pure ⟨plainId_quiet F.plain_min_loop _, ?_⟩
  rw [hz1]
  generalize hh2 : h1.push { cls := .type "list", data := .seq #[] } = h2
  have k2 : KeepsAll s.heap h2 := fun b o e => by rw [← hh2]; exact Heap.get?_push_of_some _ (k1 b o e)
  have hS2 : h2.get? (I + 1) = some { cls := .type "list", dict := none, data := .seq #[] 0, slots := #[] } := by
    rw [← hh2, ← hz1]
    exact Heap.get?_push_size _ rfl
  have hit2 : h2.IsListIter I ax 0 := hit1.at fun o e => by rw [← hh2]; exact Heap.get?_push_of_some _ e
  have hl2 : h2.IsList ax items := hl.at fun o e => k2 _ _ e
  have hI0 : s.heap.get? I = none := noneAt _ _ (by rw [hI]; exact Nat.le_refl _)
  have hS0 : s.heap.get? (I + 1) = none := noneAt _ _ (by rw [hI]; exact Nat.le_succ _)
  have W := Walks.list (prog := prog) (w := w) (A := A.in1) hh I ax (Nat.ne_of_lt hax) items
  refine codeAny_builtin F.entry_min_loop ?_
  rw [Around.under_plainId F.plain_min_loop _]
  show wpAny _ A.in1 (seqItems? (.ref (I + 1)) >>= _) _ _ _
  refine wpAny_bind (wpAny_seqItems hS2 rfl ?_)
  show wpAny _ A.in1 (tryCatch (pyNext (.ref I)) _ >>= _) _ _ _
  refine wpAny_bind (wpAny_tryCatch (W.item 0 _ _ _ h0 ⟨hit2, hl2⟩ fun v h' tk hP hst' hk' => ?_))
  have hS' := hk' (I + 1) _ (by simp) hS2
  show wpAny _ A.in1 (updateSeq (I + 1) (fun _ => #[v, v]) >>= _) _ _ _
  refine wpAny_bind (wpAny_updateSeq hS' rfl ?_)
  rw [hname]
  refine wpAny_pure ⟨plainId_quiet F.plain_min_loop _, min_go (h0 := s.heap) (lt := lt) hh hcmp1 (Nat.ne_of_lt hax) (Nat.succ_ne_self _) (Nat.ne_of_gt (Nat.lt_succ_of_lt hax)) hI0 hS0 htr hir _ 0 0 _ v _ rfl h0 (Nat.le_refl _) (fun i hi => ?_) hP ?_ ?_ (fun b o e => ?_) (Heap.get?_update_self _ hS' rfl) fun m v' h'' tk'' a1 a2 a3 a4 => hQ m v' h'' tk'' a1 a2 a3 a4⟩
  · have e : i = 0 := by omega
    rw [e]; exact hir _
  · exact hst'.1.at fun o e => (Heap.get?_update_other _ _ (Nat.succ_ne_self _)).trans e
  · exact hst'.2.at fun o e => (Heap.get?_update_other _ _ (Nat.ne_of_gt (Nat.lt_succ_of_lt hax))).trans e
  · have hb := aIneI e
    rw [hI] at hb
    exact (Heap.get?_update_other _ _ (Ne.symm hb.2)).trans (hk' b o (by simpa using hb.1) (k2 b o e))
end
end Aw

namespace Aw
open PySem PySem.Spec PyProof.Rows L2

/-- min(xs), xs a list of tuples of numbers -/
def rMinT (K : PySem.W.Frag) : List V → Hp → VK → Prop := fun vs H Q => ∃ (a : Addr) (ts : List Addr) (ps : List (List Nat)), vs = [V.ref a] ∧ SqL K H a (ts.map V.ref) ∧ TupsAt H ts ps ∧ ps ≠ [] ∧
  ∀ (t : Addr) (p : List Nat), p ∈ ps → (∀ q ∈ ps, ¬ q < p) → H t = some (.tup (pV p)) → Q (.ref t) H
section
variable {X : Cx}
theorem getD_of {α : Type} {l : List α} {i : Nat} {x d : α} (h : l[i]? = some x) : l.getD i d = x := by
  rw [List.getD_eq_getElem?_getD, h]
  rfl
theorem stands_get {H : Hp} : ∀ {vs : List Value} {ps : List (List Nat)} {i : Nat} {v : Value}, PySem.W.EachIs (StandsP H) vs ps → vs[i]? = some v → ∃ p, ps[i]? = some p ∧ StandsP H v p
  | _, _, _, _, .nil, e => by simp at e
  | _, _, 0, _, .cons h _, e => by
    simp at e
    subst e
    exact ⟨_, rfl, h⟩
  | _, _, i + 1, v, .cons _ h, e => by
    obtain ⟨p, h1, h2⟩ := stands_get (i := i) h (by simpa using e)
    exact ⟨p, by simpa using h1, h2⟩
theorem cr_minT (hc : X.calm = true) (hu : X.A.units + 64 < cLine) : CallR X (.builtin "min") (rMinT X.K) := by
  intro pins s σ H vs us Q I r h
  obtain ⟨a, ts, ps, rfl, hs, hP, hne, q⟩ := h
  obtain ⟨its, rv, hl, hz⟩ := I.list hs
  rw [Vals.ref1 r]
  have hlen : ts.length = ps.length := hP.length
  have hil : its.length = ps.length := by
    rw [← hlen, ← rv.length, List.length_map]
  have e := each_paths hP rv
  have hcmp : ∀ A' : Around, A'.units ≤ X.A.units + 2 → CmpAt X.prog X.w A' s.heap its.toArray fun i j => decide (ps.getD i [] < ps.getD j []) := by
    intro A' hA i j vi vj s' Q' E' kp hi hj hq
    obtain ⟨p, e1, t, rfl, h1⟩ := stands_get e (show its[i]? = some vi by simpa using hi)
    obtain ⟨p', e1', t', rfl, h1'⟩ := stands_get e (show its[j]? = some vj by simpa using hj)
    replace hq : Q' (.bool (decide (ps.getD i [] < ps.getD j []))) s' := hq
    rw [getD_of e1, getD_of e1', ← encP_lt] at hq
    obtain ⟨as, r1⟩ := Dp.reads I _ (.ref t) _ (dp_path (K := X.K) h1) rfl
    obtain ⟨as', r1'⟩ := Dp.reads I _ (.ref t') _ (dp_path (K := X.K) h1') rfl
    refine PySem.W.rcLt_alike _ _ A' s' _ _ _ _ (PyProof.Rows.Reads.keeps kp r1) (PyProof.Rows.Reads.keeps kp r1') (encP_alike p p') (fun z => nomatch z) ?_ _ _ _ _ hq
    have := encP_depth p
    omega
  refine min_call (lt := fun i j => decide (ps.getD i [] < ps.getD j [])) (I.ok.hd hc) hl.isList ?_ (hcmp _ ?_) (hcmp _ ?_) (fun i b c h1 h2 => ?_) (fun i => ?_) fun m v h' tk hm hb hv kp => ?_
  · rw [List.size_toArray, hil]
    exact List.length_pos_iff.mpr hne
  · simp only [Around.in1_units]; omega
  · simp only [Around.in1_units]; omega
  · simp only [decide_eq_false_iff_not, decide_eq_true_eq] at *
    exact fun h3 => h1 (List.lt_trans h3 h2)
  · simp only [decide_eq_false_iff_not]
    exact List.lt_irrefl _
  · obtain ⟨p, e1, t, rfl, h1⟩ := stands_get e (show its[m]? = some v by simpa using hv)
    refine ⟨.ref t, H, I.kept (t' := tk) kp, rfl, q t p (List.mem_of_getElem? e1) (fun p' hp' => ?_) h1⟩
    obtain ⟨i, hi, e2⟩ := List.getElem_of_mem hp'
    have := hb i (by rw [List.size_toArray, hil]; exact hi)
    rw [getD_of e1, getD_of (List.getElem?_eq_some_iff.mpr ⟨hi, e2⟩)] at this
    simpa using this
end

/-! ### enumerate(tuple) -/
set_option maxHeartbeats 4000000 in
theorem meets_enumerate_newT {v : Value} {o : Obj} {G : Heap → Prop} (B : Begins v o G) :
    Meets (Builtin.«enumerate.__new__» ⟨[.type "enumerate", v], []⟩) (fun _ R s => G s.heap ∧
      R (.ok (.ret (.ref (s.heap.push o).objs.size))) { s with heap := (s.heap.push o).push { cls := .type "enumerate", data := .fields #[.none, .bool false, .ref s.heap.objs.size, rawInt 0, .none, .none] } }) :=
  .of_wp fun prog w A R s h => by
    obtain ⟨hp, g, d, tk, os⟩ := s
    obtain ⟨h1, h⟩ := h
    have hsub := sub_enumerate
    have q1 : ∀ {A' : Around} {E : Value → Shared → Prop} {Q : Value → Shared → Prop}, Q (.ref hp.objs.size) ⟨hp.push o, g, d, tk, os⟩ → wpAny (model prog w) A' (pyIter v) Q E ⟨hp, g, d, tk, os⟩ :=
      fun q => B.iter prog w _ _ ⟨hp, g, d, tk, os⟩ _ h1 q
    wp_walk using q1
    refine wpAny_stack_any fun st => wpAny_pure ?_
    split
    · rename_i c _ _ _ _ _
      cases (c == Value.type "enumerate")
      · wp_walk using q1
        exact ⟨_, rfl, h⟩
      · wp_walk using q1
        exact ⟨_, rfl, h⟩
    · wp_walk using q1
      exact ⟨_, rfl, h⟩
section
variable {prog : Program} {w : World} {A : Around} {E : Value → Shared → Prop} {s : Shared}
theorem call_enumT {t : Addr} {items : Array Value} {Q : Value → Shared → Prop} (hL : s.heap.IsTuple t items)
    (h : ∀ h', IsEnum h' (s.heap.objs.size + 1) s.heap.objs.size 0 .none → h'.IsTupleIter s.heap.objs.size t 0 → KeepsAll s.heap h' → Q (.ref (s.heap.objs.size + 1)) { s with heap := h' }) :
    wpAny (model prog w) A (call (.type "enumerate") [.ref t]) Q E s := by
  refine callType_new F.called_enumerate (by decide) (F.typeCall_enumerate_1 _) (F.newCall_enumerate_1 _) (fun obj => F.args_object_init_2 obj _) F.entry_enumerate_new
    (meets_enumerate_newT (begins_tuple t items)) ⟨hL, ?_⟩
  generalize ho : ({ cls := .type "tuple_iterator", data := .fields #[.ref t, .int 0 0] } : Obj) = o
  have hf : o.isFreed = false := by rw [← ho]; rfl
  have hz : (s.heap.push o).objs.size = s.heap.objs.size + 1 := Heap.size_push ..
  show _ ∧ _
  rw [hz]
  have he : IsEnum ((s.heap.push o).push { cls := .type "enumerate", data := .fields #[.none, .bool false, .ref s.heap.objs.size, rawInt 0, .none, .none] }) (s.heap.objs.size + 1) s.heap.objs.size 0 .none := by
    have e1 := Heap.get?_push_size (s.heap.push o) (o := { cls := .type "enumerate", data := .fields #[.none, .bool false, .ref s.heap.objs.size, rawInt 0, .none, .none] }) rfl
    rw [hz] at e1
    exact e1
  refine ⟨⟨_, he, rfl⟩, h _ he ?_ fun b o x => Heap.get?_push_of_some _ (Heap.get?_push_of_some _ x)⟩
  exact ⟨_, Heap.get?_push_of_some _ (Heap.get?_push_size _ hf), by rw [← ho], by rw [← ho]; rfl⟩
end
/-- the tuple at a, each item in a new pair -/
def IteT (K : PySem.W.Frag) (a : Addr) : It :=
  ⟨fun i H => ∃ (xs : List V) (x : V), SqT K H a xs ∧ xs[i]? = some x, fun i H v H' => ∃ T x, v = .ref T ∧ H T = none ∧ H' = upd H T (.tup [.int (i : Nat), x]) ∧ ∀ xs, SqT K H a xs → xs[i]? = some x, fun i H => ∃ xs : List V, SqT K H a xs ∧ xs.length ≤ i⟩
theorem apartE {h : Heap} {e it a : Addr} {k : Int} {old : Value} {items : Array Value} (he : IsEnum h e it k old) (p : IsTup h a items) : a ≠ e := by
  intro z
  obtain ⟨o, q1, q2, _⟩ := p
  rw [z] at q1
  have q3 : h.get? e = some _ := he
  rw [q1] at q3
  have q4 := Option.some.inj q3
  rw [q4] at q2
  exact absurd (show Value.type "enumerate" = Value.type "tuple" from q2) (by decide)
theorem apartI {h : Heap} {it a : Addr} {i : Nat} {items : Array Value} (hi : h.IsTupleIter it a i) (p : IsTup h a items) : a ≠ it := by
  intro z
  obtain ⟨o, q1, q2, _⟩ := p
  obtain ⟨o', q3, q5, _⟩ := hi
  rw [← z, q1] at q3
  have q4 := Option.some.inj q3
  rw [← q4, q2] at q5
  exact absurd q5 (by decide)
theorem turn_enumT {P : Program} {w : World} {K : PySem.W.Frag} {elts : List Expr} {kk : Nat} {tpos : Pos} (a e it : Addr) :
    Turn P w K (.Tuple elts kk tpos) (IteT K a) [e, it] e (fun i h => (∃ old, IsEnum h e it ((i : Nat) : Int) old) ∧ h.IsTupleIter it a i ∧ e ≠ it) where
  mem := by simp
  obj := fun i h st b hb => by
    obtain ⟨⟨old, he⟩, ⟨o, ho, hc, hd⟩, _⟩ := st
    have e' : b = e ∨ b = it := by simpa using hb
    rcases e' with z | z
    · rw [z]
      exact ⟨_, he, fun v q => nomatch q⟩
    · rw [z]
      exact ⟨o, ho, fun v q => by rw [hd] at q; cases q⟩
  keep := fun i h h' st k => let ⟨⟨old, he⟩, hi, hne⟩ := st; ⟨⟨old, k e (by simp) _ he⟩, hi.at fun o q => k it (by simp) o q, hne⟩
  item := by
    intro X hP hw hK hc i pins s σ H E I hf st hg
    subst hP hw hK
    obtain ⟨⟨old, he⟩, hit, hne⟩ := st
    obtain ⟨xs, x, hq, hx⟩ := hg
    obtain ⟨its, rv, p, hz⟩ := I.tuple hq
    obtain ⟨u, hu, ru⟩ := rv.get hx
    have hel : e < s.heap.objs.size := Heap.lt_size he
    have hil : it < s.heap.objs.size := by
      obtain ⟨_, q, _⟩ := hit
      exact Heap.lt_size q
    have hlt : i < its.toArray.size := by
      rw [List.size_toArray]
      exact (List.getElem?_eq_some_iff.mp hu).1
    have nae := apartE he p
    have nai := apartI hit p
    refine wpAny_pyNext_enum_itemD (Draws.tuple (prog := X.prog) (w := X.w) (A := X.A.in1) (I.ok.hd hc) it a nai its.toArray) he ⟨hit, p⟩ hlt hne (by simp; exact ⟨hne, Ne.symm nae⟩) fun y h' tk hP ho hit' hT hsz hk => ?_
    have ey : y = u := by
      have hP' : its[i]? = some y := by simpa using hP
      rw [hu] at hP'
      exact (Option.some.inj hP').symm
    subst ey
    refine ⟨_, rfl, wpAny_letOwnedTupleGo_enum (s := { s with heap := h', toks := tk + 1 }) ho fun h'' he' sb => ?_⟩
    have hT2 : h''.get? s.heap.objs.size = some { cls := .type "tuple", data := .seq #[.int i tk, y] } := (sb.2 _ (Nat.ne_of_gt hel)).trans hT
    have new : ObjOk X.prog X.w (upd H s.heap.objs.size (.tup [.int (i : Nat), x])) h'' s.heap.objs.size (.tup [.int (i : Nat), x]) :=
      ⟨by show 2 ≤ sizeLine; decide, [.int i tk, y], .cons ⟨_, rfl⟩ (.cons ru .nil), ⟨_, hT2, rfl, _, rfl⟩⟩
    have I1 : Inv X pins σ (upd H s.heap.objs.size (.tup [.int (i : Nat), x])) { s with heap := h'', toks := tk + 1 } :=
      I.turnedNew (ch := [e, it]) (fun b ob hb q => (sb.2 b (fun z => hb (by simp [z]))).trans (hk b ob (fun z => hb (by simp [z])) (fun z => hb (by simp [z])) q)) hf (Nat.le_refl _) new
    refine ⟨.ref s.heap.objs.size, _, I1, rfl, ⟨_, x, rfl, I.hok.fresh (Nat.le_refl _), rfl, fun ys hy => by rw [I.tuple_inj hy hq]; exact hx⟩, ⟨⟨y, ?_⟩, hit'.1.at fun o q => (sb.2 it (Ne.symm hne)).trans q, hne⟩, fun b hb => ?_⟩
    · have e1 : ((i + 1 : Nat) : Int) = (i : Int) + 1 := by omega
      rw [e1]
      exact he'
    · have hb' : b < s.heap.objs.size := by
        have e' : b = e ∨ b = it := by simpa using hb
        rcases e' with z | z
        · rw [z]; exact hel
        · rw [z]; exact hil
      rw [upd_ne (Nat.ne_of_lt hb')]
      exact (hf b hb).1
  done := by
    intro X hP hw hK hc i pins s σ H E I hf st hg
    subst hP hw hK
    obtain ⟨⟨old, he⟩, hit, hne⟩ := st
    obtain ⟨xs, hq, hx⟩ := hg
    obtain ⟨its, rv, p, hz⟩ := I.tuple hq
    obtain ⟨f0, f1, f2, f3, f4, f5⟩ := hf it (by simp)
    have hl := rv.length
    have nae := apartE he p
    have nai := apartI hit p
    unfold pyNext
    have hT : s.TypeIs (.ref e) "enumerate" := ⟨_, he, rfl⟩
    refine wpAny_bind (wpAny_attempt (wpAny_callSpecial?_slot (name := Str.ofString "__next__") hT F.slot_enumerate_next
      (wpAny_call_entry F.slot_enumerate_next hT F.entry_enumerate_next ?_ (F.args_enumerate_next_1 _))))
    show wpAny _ _ (field (.ref e) 2 >>= _) _ _ _
    refine wpAny_bind (wpAny_field he rfl (x := .ref it) rfl ?_)
    refine wpAny_bind (wpAny_nextOf_tuple_end (I.ok.hd hc) hit p (by simp; omega) fun h' x he' hx' => ?_)
    obtain ⟨o, ho, hcl⟩ := hx'
    refine wpAny_bind (wpAny_isInstance (T := "StopIteration") (b := true) ⟨o, ho, hcl⟩ isSubtype_stop ?_)
    exact wpAny_pure ⟨rfl, I.turned (t' := s.toks) (fun b o hb q => he' b o hb q) f0 f1 f3 f4 f5⟩
  self := fun A i s Q E st h => let ⟨⟨_, he⟩, _⟩ := st; wpAny_pyIter_enum he h
def iEnumT (K : PySem.W.Frag) (ta : TA) : TI := fun σ H R => ta σ H fun vs H1 => ∃ a xs, vs = [.ref a] ∧ SqT K H1 a xs ∧ R (IteT K a) H1
theorem pi_enumT {X : Cx} {e : Expr} {ta : TA} {p pos tpos : Pos} {elts : List Expr} {kk : Nat} (hg : Gl X "enumerate") (hm : X.mg "enumerate" = none) (ha : PA X [e] ta) (hs : starEach [e] X.env = [(false, eval e X.env)] := by rfl) :
    PI X (.Tuple elts kk tpos) (.Call (.Name "enumerate" p) [e] [] pos) (iEnumT X.K ta) := by
  refine ⟨fun pins s σ H R I h => ?_⟩
  refine Call_ (ld_blt I hg hm boot_enumerate (PyProof.Rows.callWith_type1 (thn (ha.run pos pins s σ H _ I h) fun us s1 ⟨vs, H1, I1, r1, q1⟩ => ?_) hs rfl))
  obtain ⟨a, xs, ex, hq, q⟩ := q1
  subst ex
  cases r1 with
  | cons r rr =>
    cases rr
    cases r
    obtain ⟨its, rv, p', hz⟩ := I1.tuple hq
    refine call_enumT (show s1.heap.IsTuple a its.toArray from p') fun h' he hit hk => wpAny_pyIter_enum he ?_
    have I2 : Inv X pins σ H1 { s1 with heap := h' } := I1.kept (t' := s1.toks) hk
    refine ⟨s1.heap.objs.size + 1, [s1.heap.objs.size + 1, s1.heap.objs.size], _, _, H1, rfl, I2, turn_enumT a (s1.heap.objs.size + 1) s1.heap.objs.size, ⟨⟨.none, he⟩, hit, Nat.succ_ne_self _⟩, fun b hb => ?_, q⟩
    have e' : b = s1.heap.objs.size + 1 ∨ b = s1.heap.objs.size := by simpa using hb
    have hle : s1.heap.objs.size ≤ b := by
      rcases e' with z | z
      · rw [z]; exact Nat.le_add_right _ _
      · rw [z]; exact Nat.le_refl _
    exact I1.fpOk hle (I1.hok.fresh hle)
/-- a for over it -/
theorem for_enumT {K : PySem.W.Frag} {a : Addr} {xs : List V} {g : TG} {tb : TS} {D : Ends} {σ : L2.St} {H : Hp} (Pv : Nat → L2.St → Hp → Prop) (h0 : Pv 0 σ H) (hl : ∀ i σ H, i ≤ xs.length → Pv i σ H → SqT K H a xs)
    (hs : ∀ i x σ H T, xs[i]? = some x → Pv i σ H → H T = none → g (.ref T) σ (upd H T (.tup [.int (i : Nat), x])) fun σ2 H2 => tb { D with nx := Pv (i + 1), ct := Pv (i + 1), bk := D.nx } σ2 H2) (hd : ∀ σ H, Pv xs.length σ H → D.nx σ H) :
    ∃ W : Nat → Nat → L2.St → Hp → Prop, (∃ m, W 0 m σ H) ∧ ∀ i m σ H, W i m σ H →
      ((IteT K a).stop i H ∧ D.nx σ H) ∨ ((IteT K a).go i H ∧ ∃ N : L2.St → Hp → Prop, (∀ σ' H', N σ' H' → ∃ m', m' < m ∧ W (i + 1) m' σ' H') ∧ ∀ x H', (IteT K a).yld i H x H' → g x σ H' fun σ2 H2 => tb { D with nx := N, ct := N, bk := D.nx } σ2 H2) := by
  refine ⟨fun i m σ H => m = xs.length - i ∧ i ≤ xs.length ∧ Pv i σ H, ⟨xs.length, by simp, Nat.zero_le _, h0⟩, ?_⟩
  rintro i m σ H ⟨rfl, hi, p⟩
  have q := hl i σ H hi p
  by_cases hlt : i < xs.length
  · have hx : xs[i]? = some xs[i] := by simp [hlt]
    refine .inr ⟨⟨xs, xs[i], q, hx⟩, Pv (i + 1), fun σ' H' p' => ⟨xs.length - (i + 1), by omega, rfl, hlt, p'⟩, fun x H' y => ?_⟩
    obtain ⟨T, x', rfl, nT, rfl, f⟩ := y
    have ex := Option.some.inj ((f xs q).symm.trans hx)
    subst ex
    exact hs i _ σ _ T hx p nT
  · have e : i = xs.length := by omega
    subst e
    exact .inl ⟨⟨xs, q, Nat.le_refl _⟩, hd σ H p⟩
end Aw

/-! The mathematics: trees, paths, simple walks -/
namespace AwM

/-- the parent of x, made total -/
def pr (f : List Nat) (x : Nat) : Nat := min (f.getD (x - 1) 0) (x - 1)
theorem pr_lt (f : List Nat) {x : Nat} (h : 1 ≤ x) : pr f x < x := by
  unfold pr
  omega
/-- the parents of 1, 2, .. : each lesser -/
def Tree (f : List Nat) : Prop := ∀ (i x : Nat), f[i]? = some x → x ≤ i
theorem pr_eq {f : List Nat} (T : Tree f) {i x : Nat} (h : f[i]? = some x) : pr f (i + 1) = x := by
  have := T i x h
  unfold pr
  rw [Nat.add_sub_cancel, List.getD_eq_getElem?_getD, h]
  show min x i = x
  omega

/-- the path between two points -/
def pathB (f : List Nat) (i j : Nat) : List Nat :=
  if i = j then [i] else if h : j < i then i :: pathB f (pr f i) j else pathB f i (pr f j) ++ [j]
termination_by i + j
decreasing_by
  · have := pr_lt f (x := i) (by omega)
    omega
  · have := pr_lt f (x := j) (by omega)
    omega
theorem pathB_self (f : List Nat) (i : Nat) : pathB f i i = [i] := by
  rw [pathB, if_pos rfl]
theorem pathB_up {f : List Nat} {i j : Nat} (h : j < i) : pathB f i j = i :: pathB f (pr f i) j := by
  rw [pathB, if_neg (by omega), dif_pos h]
theorem pathB_down {f : List Nat} {i j : Nat} (h : i < j) : pathB f i j = pathB f i (pr f j) ++ [j] := by
  rw [pathB, if_neg (by omega), dif_neg (by omega)]
/-- by cases on the two ends -/
theorem pathB_ind {f : List Nat} {P : Nat → Nat → Prop} (h0 : ∀ i, P i i) (h1 : ∀ i j, j < i → P (pr f i) j → P i j) (h2 : ∀ i j, i < j → P i (pr f j) → P i j) : ∀ i j, P i j := by
  have key : ∀ n i j, i + j ≤ n → P i j := by
    intro n
    induction n with
    | zero =>
      intro i j h
      have e : i = j := by omega
      rw [e]
      exact h0 j
    | succ n ih =>
      intro i j h
      rcases Nat.lt_trichotomy i j with c | c | c
      · have := pr_lt f (x := j) (by omega)
        exact h2 i j c (ih _ _ (by omega))
      · rw [c]
        exact h0 j
      · have := pr_lt f (x := i) (by omega)
        exact h1 i j c (ih _ _ (by omega))
  exact fun i j => key (i + j) i j (Nat.le_refl _)
theorem pathB_ne (f : List Nat) : ∀ i j, pathB f i j ≠ [] :=
  pathB_ind (f := f) (fun i => by rw [pathB_self]; simp) (fun i j h _ => by rw [pathB_up h]; simp) (fun i j h _ => by rw [pathB_down h]; simp)
theorem pathB_head (f : List Nat) : ∀ i j, (pathB f i j).head? = some i :=
  pathB_ind (f := f) (fun i => by rw [pathB_self]; rfl) (fun i j h _ => by rw [pathB_up h]; rfl) fun i j h ih => by
    rw [pathB_down h, List.head?_append, ih]
    rfl
theorem pathB_last (f : List Nat) : ∀ i j, (pathB f i j).getLast? = some j :=
  pathB_ind (f := f) (fun i => by rw [pathB_self]; rfl) (fun i j h ih => by
    rw [pathB_up h, List.getLast?_cons, ih]
    rfl) fun i j h ih => by
    rw [pathB_down h, List.getLast?_append]
    rfl
theorem pathB_le (f : List Nat) : ∀ i j x, x ∈ pathB f i j → x ≤ i ∨ x ≤ j :=
  pathB_ind (f := f) (P := fun i j => ∀ x, x ∈ pathB f i j → x ≤ i ∨ x ≤ j) (fun i x h => by
    rw [pathB_self] at h
    simp at h
    omega) (fun i j h ih x hx => by
    have := pr_lt f (x := i) (by omega)
    rw [pathB_up h] at hx
    rcases List.mem_cons.mp hx with e | hx
    · omega
    · have := ih x hx
      omega) fun i j h ih x hx => by
    have := pr_lt f (x := j) (by omega)
    rw [pathB_down h] at hx
    rcases List.mem_append.mp hx with hx | hx
    · have := ih x hx
      omega
    · simp at hx
      omega
theorem pathB_rev (f : List Nat) : ∀ i j, (pathB f i j).reverse = pathB f j i :=
  pathB_ind (f := f) (fun i => by rw [pathB_self]; rfl) (fun i j h ih => by
    rw [pathB_up h, pathB_down h, List.reverse_cons, ih]) fun i j h ih => by
    rw [pathB_up h, pathB_down h, List.reverse_append, ih]
    rfl

/-! ### simple walks -/
def adj (f : List Nat) (x y : Nat) : Prop := (1 ≤ y ∧ pr f y = x) ∨ (1 ≤ x ∧ pr f x = y)
instance (f : List Nat) (x y : Nat) : Decidable (adj f x y) := by unfold adj; exact inferInstance
theorem adj_symm {f : List Nat} {x y : Nat} (h : adj f x y) : adj f y x := Or.symm h
def Chain (f : List Nat) : List Nat → Prop
  | [] => True
  | [_] => True
  | x :: y :: r => adj f x y ∧ Chain f (y :: r)
theorem Chain.tail {f : List Nat} {x : Nat} {r : List Nat} (h : Chain f (x :: r)) : Chain f r := by
  cases r with
  | nil => trivial
  | cons y r => exact h.2
theorem chain_append {f : List Nat} : ∀ {p q : List Nat} {x y : Nat}, Chain f p → Chain f q → p.getLast? = some x → q.head? = some y → adj f x y → Chain f (p ++ q)
  | [], q, x, y, _, _, e, _, _ => by simp at e
  | [a], q, x, y, _, hq, e, e2, h => by
    have e : a = x := by simpa using e
    subst e
    cases q with
    | nil => trivial
    | cons b q =>
      have e2 : b = y := by simpa using e2
      subst e2
      exact ⟨h, hq⟩
  | a :: b :: p, q, x, y, hp, hq, e, e2, h => by
    have e' : (b :: p).getLast? = some x := by
      rw [List.getLast?_cons_cons] at e
      exact e
    exact ⟨hp.1, chain_append (p := b :: p) hp.2 hq e' e2 h⟩
theorem chain_left {f : List Nat} : ∀ {p q : List Nat}, Chain f (p ++ q) → Chain f p
  | [], _, _ => trivial
  | [_], _, _ => trivial
  | a :: b :: p, q, h => ⟨h.1, chain_left (p := b :: p) (q := q) h.2⟩
theorem chain_next {f : List Nat} : ∀ {p : List Nat} {x y : Nat} {q : List Nat}, Chain f (p ++ y :: q) → p.getLast? = some x → adj f x y
  | [], _, _, _, _, e => by simp at e
  | [a], x, y, q, h, e => by
    have e : a = x := by simpa using e
    subst e
    exact h.1
  | a :: b :: p, x, y, q, h, e => by
    have e' : (b :: p).getLast? = some x := by
      rw [List.getLast?_cons_cons] at e
      exact e
    exact chain_next (p := b :: p) (q := q) h.2 e'
theorem chain_rev {f : List Nat} : ∀ {p : List Nat}, Chain f p → Chain f p.reverse
  | [], _ => trivial
  | [_], _ => trivial
  | a :: b :: p, h => by
    rw [List.reverse_cons]
    refine chain_append (x := b) (y := a) (chain_rev h.2) trivial ?_ rfl (adj_symm h.1)
    rw [List.getLast?_reverse]
    rfl
/-- a walk that goes to a child goes on to children -/
theorem chain_inc {f : List Nat} : ∀ (r : List Nat) (i c : Nat), Chain f (i :: c :: r) → (i :: c :: r).Nodup → 1 ≤ c → pr f c = i → ∃ j, (c :: r).getLast? = some j ∧ c ≤ j
  | [], i, c, _, _, _, _ => ⟨c, rfl, Nat.le_refl _⟩
  | d :: r, i, c, hc, hn, h1, h2 => by
    have hcd := hc.2.1
    have hne : i ≠ d := by
      intro e
      rw [List.nodup_cons] at hn
      exact hn.1 (by rw [e]; simp)
    rcases hcd with ⟨a1, a2⟩ | ⟨a1, a2⟩
    · obtain ⟨j, e1, e2⟩ := chain_inc r c d hc.2 (List.nodup_cons.mp hn).2 a1 a2
      have := pr_lt f a1
      refine ⟨j, ?_, by omega⟩
      rw [List.getLast?_cons_cons]
      exact e1
    · exact absurd (h2.symm.trans a2) hne
/-- the second of a walk to a lesser point is the parent -/
theorem chain_second {f : List Nat} {i c j : Nat} {r : List Nat} (h : Chain f (i :: c :: r)) (hn : (i :: c :: r).Nodup) (hl : (i :: c :: r).getLast? = some j) (hj : j < i) : 1 ≤ i ∧ pr f i = c := by
  rcases h.1 with ⟨a1, a2⟩ | a
  · obtain ⟨j', e1, e2⟩ := chain_inc r i c h hn a1 a2
    have e3 : j' = j := by
      rw [List.getLast?_cons_cons, e1] at hl
      exact Option.some.inj hl
    have := pr_lt f a1
    omega
  · exact a
theorem nodup_rev {p : List Nat} (h : p.Nodup) : p.reverse.Nodup := (List.reverse_perm p).nodup_iff.mpr h
theorem walk_path {f : List Nat} : ∀ (n : Nat) (p : List Nat) (i j : Nat), i + j ≤ n → Chain f p → p.Nodup → p.head? = some i → p.getLast? = some j → p = pathB f i j := by
  intro n
  induction n with
  | zero =>
    intro p i j hn hc hd h1 h2
    have e1 : i = 0 := by omega
    have e2 : j = 0 := by omega
    subst e1 e2
    cases p with
    | nil => simp at h1
    | cons a r =>
      have e : a = 0 := by simpa using h1
      subst e
      cases r with
      | nil => rw [pathB_self]
      | cons b r =>
        exfalso
        rw [List.getLast?_cons_cons] at h2
        exact (List.nodup_cons.mp hd).1 (List.mem_of_getLast? h2)
  | succ n ih =>
    intro p i j hn hc hd h1 h2
    rcases Nat.lt_trichotomy i j with c | c | c
    · have hc' := chain_rev hc
      have hd' : p.reverse.Nodup := nodup_rev hd
      have h1' : p.reverse.head? = some j := by rw [List.head?_reverse]; exact h2
      have h2' : p.reverse.getLast? = some i := by rw [List.getLast?_reverse]; exact h1
      cases e : p.reverse with
      | nil => rw [e] at h1'; simp at h1'
      | cons a r =>
        rw [e] at hc' hd' h1' h2'
        have ea : a = j := by simpa using h1'
        subst ea
        cases r with
        | nil =>
          have : a = i := by simpa using h2'
          omega
        | cons b r =>
          obtain ⟨k1, k2⟩ := chain_second hc' hd' h2' c
          have kl := pr_lt f k1
          have er := ih (b :: r).reverse i b (by omega) (chain_rev hc'.2) (nodup_rev (List.nodup_cons.mp hd').2) (by
            rw [List.head?_reverse]
            rw [List.getLast?_cons_cons] at h2'
            exact h2') (by rw [List.getLast?_reverse]; rfl)
          have ep : p = (b :: r).reverse ++ [a] := by
            rw [← List.reverse_reverse p, e, List.reverse_cons]
          rw [ep, er, pathB_down c, k2]
    · subst c
      cases p with
      | nil => simp at h1
      | cons a r =>
        have e : a = i := by simpa using h1
        subst e
        cases r with
        | nil => rw [pathB_self]
        | cons b r =>
          exfalso
          rw [List.getLast?_cons_cons] at h2
          exact (List.nodup_cons.mp hd).1 (List.mem_of_getLast? h2)
    · cases p with
      | nil => simp at h1
      | cons a r =>
        have e : a = i := by simpa using h1
        subst e
        cases r with
        | nil =>
          have : a = j := by simpa using h2
          omega
        | cons b r =>
          obtain ⟨k1, k2⟩ := chain_second hc hd h2 c
          have kl := pr_lt f k1
          have er := ih (b :: r) b j (by omega) hc.2 (List.nodup_cons.mp hd).2 rfl (by rw [List.getLast?_cons_cons] at h2; exact h2)
          rw [er, pathB_up c, k2]
theorem pathB_chain (f : List Nat) : ∀ i j, Chain f (pathB f i j) :=
  pathB_ind (f := f) (fun i => by rw [pathB_self]; trivial) (fun i j h ih => by
    rw [pathB_up h]
    exact chain_append (p := [i]) (x := i) (y := pr f i) trivial ih rfl (pathB_head _ _ _) (.inr ⟨by omega, rfl⟩)) fun i j h ih => by
    rw [pathB_down h]
    exact chain_append (q := [j]) (x := pr f j) (y := j) ih trivial (pathB_last _ _ _) rfl (.inl ⟨by omega, rfl⟩)
theorem pathB_nodup (f : List Nat) : ∀ i j, (pathB f i j).Nodup :=
  pathB_ind (f := f) (fun i => by rw [pathB_self]; simp) (fun i j h ih => by
    have := pr_lt f (x := i) (by omega)
    rw [pathB_up h, List.nodup_cons]
    refine ⟨fun hm => ?_, ih⟩
    have := pathB_le f _ _ _ hm
    omega) fun i j h ih => by
    have := pr_lt f (x := j) (by omega)
    rw [pathB_down h, List.nodup_append]
    refine ⟨ih, by simp, fun a ha b hb e => ?_⟩
    simp at hb
    have := pathB_le f _ _ _ ha
    omega
structure Simple (f : List Nat) (n : Nat) (p : List Nat) : Prop where
  ne : p ≠ []
  lt : ∀ x ∈ p, x < n
  ch : Chain f p
  nd : p.Nodup
theorem Simple.ends {f : List Nat} {n : Nat} {p : List Nat} (s : Simple f n p) : ∃ i j, i < n ∧ j < n ∧ p.head? = some i ∧ p.getLast? = some j ∧ p = pathB f i j := by
  cases e : p.head? with
  | none =>
    rw [List.head?_eq_none_iff] at e
    exact absurd e s.ne
  | some i =>
    cases e2 : p.getLast? with
    | none =>
      rw [List.getLast?_eq_none_iff] at e2
      exact absurd e2 s.ne
    | some j => exact ⟨i, j, s.lt i (List.mem_of_head? e), s.lt j (List.mem_of_getLast? e2), rfl, rfl, walk_path (i + j) p i j (Nat.le_refl _) s.ch s.nd e e2⟩
theorem pathB_simple (f : List Nat) {n i j : Nat} (hi : i < n) (hj : j < n) : Simple f n (pathB f i j) :=
  ⟨pathB_ne _ _ _, fun x hx => by have := pathB_le f _ _ _ hx; omega, pathB_chain _ _ _, pathB_nodup _ _ _⟩
/-- a row of different numbers below n is not longer than n -/
theorem nodup_len : ∀ (n : Nat) (p : List Nat), p.Nodup → (∀ x ∈ p, x < n) → p.length ≤ n := by
  intro n
  induction n with
  | zero =>
    intro p _ h
    cases p with
    | nil => exact Nat.le_refl _
    | cons a r => exact absurd (h a (by simp)) (Nat.not_lt_zero _)
  | succ n ih =>
    intro p hd h
    have h1 := ih (p.erase n) (hd.erase n) fun x hx => by
      have h2 := (List.Nodup.mem_erase_iff hd).mp hx
      have := h x h2.2
      omega
    rw [List.length_erase] at h1
    split at h1 <;> omega
end AwM

/-! Mathematics: all simple walks by a stack; squares on paths -/
namespace AwM

/-! ### the stack -/
def near (f : List Nat) (n : Nat) (r : List Nat) : List Nat := (List.range n).filter fun a => decide (adj f a (r.getLast?.getD 0))
def kids (f : List Nat) (n : Nat) (r : List Nat) : List (List Nat) := ((near f n r).filter fun a => decide (a ∉ r)).map fun a => r ++ [a]
theorem kid_simple {f : List Nat} {n : Nat} {r c : List Nat} (s : Simple f n r) (h : c ∈ kids f n r) : Simple f n c ∧ c.length = r.length + 1 ∧ c.head? = r.head? ∧ r <+: c := by
  obtain ⟨a, ha, rfl⟩ := List.mem_map.mp h
  obtain ⟨h1, h2⟩ := List.mem_filter.mp ha
  obtain ⟨h3, h4⟩ := List.mem_filter.mp h1
  have h3 := List.mem_range.mp h3
  have h2 : a ∉ r := by simpa using h2
  cases e : r.getLast? with
  | none => exact absurd (List.getLast?_eq_none_iff.mp e) s.ne
  | some l =>
    rw [e] at h4
    have h4 : adj f a l := by simpa using h4
    refine ⟨⟨by simp, fun x hx => ?_, chain_append s.ch trivial e rfl (adj_symm h4), ?_⟩, by simp, ?_, List.prefix_append _ _⟩
    · rcases List.mem_append.mp hx with hx | hx
      · exact s.lt x hx
      · simp at hx
        omega
    · rw [List.nodup_append]
      refine ⟨s.nd, by simp, fun x hx y hy e => ?_⟩
      simp at hy
      exact h2 (by rw [← hy, ← e]; exact hx)
    · rw [List.head?_append]
      cases q : r.head? with
      | none => exact absurd (List.head?_eq_none_iff.mp q) s.ne
      | some z => rfl
theorem kid_of {f : List Nat} {n : Nat} {r q : List Nat} {a : Nat} (s : Simple f n (r ++ a :: q)) (hr : r ≠ []) : r ++ [a] ∈ kids f n r := by
  have ha : a < n := s.lt a (by simp)
  have hn : a ∉ r := fun h => by
    have := s.nd
    rw [List.nodup_append] at this
    exact this.2.2 a h a (by simp) rfl
  cases e : r.getLast? with
  | none => exact absurd (List.getLast?_eq_none_iff.mp e) hr
  | some l =>
    have hadj := chain_next s.ch e
    refine List.mem_map.mpr ⟨a, List.mem_filter.mpr ⟨List.mem_filter.mpr ⟨List.mem_range.mpr ha, ?_⟩, by simpa using hn⟩, rfl⟩
    rw [e]
    simpa using adj_symm hadj
theorem kids_few {f : List Nat} {n : Nat} {r : List Nat} (s : Simple f n r) : (kids f n r).length + 1 ≤ n := by
  have h1 : (kids f n r).length ≤ ((List.range n).filter fun a => decide (a ∉ r)).length := by
    unfold kids near
    rw [List.length_map]
    exact List.Sublist.length_le (List.Sublist.filter _ List.filter_sublist)
  cases e : r with
  | nil => exact absurd e s.ne
  | cons a q =>
    have ha : a < n := s.lt a (by rw [e]; simp)
    have h2 : ((List.range n).filter fun a => decide (a ∉ r)).length < (List.range n).length := by
      refine List.length_filter_lt_length_iff_exists.mpr ⟨a, List.mem_range.mpr ha, ?_⟩
      rw [e]
      simp
    rw [List.length_range] at h2
    rw [← e]
    omega
theorem kids_none {f : List Nat} {n : Nat} {r : List Nat} (s : Simple f n r) (h : n ≤ r.length) : kids f n r = [] := by
  cases e : kids f n r with
  | nil => rfl
  | cons c t =>
    obtain ⟨h1, h2, _⟩ := kid_simple s (c := c) (by rw [e]; simp)
    have := nodup_len n c h1.nd h1.lt
    omega
/-- how many walks at most begin with one that lacks k points -/
def wgt : Nat → Nat
  | 0 => 1
  | k + 1 => 1 + 7 * wgt k
def wsum (n : Nat) (rim : List (List Nat)) : Nat := (rim.map fun r => wgt (n - r.length)).sum
theorem wsum_append (n : Nat) (a b : List (List Nat)) : wsum n (a ++ b) = wsum n a + wsum n b := by
  unfold wsum
  rw [List.map_append, List.sum_append]
theorem wsum_const {n k : Nat} : ∀ {l : List (List Nat)}, (∀ c ∈ l, c.length = k) → wsum n l = l.length * wgt (n - k)
  | [], _ => by simp [wsum]
  | c :: l, h => by
    have ih := wsum_const (n := n) (k := k) (l := l) fun c hc => h c (List.mem_cons_of_mem _ hc)
    show wgt (n - c.length) + wsum n l = (l.length + 1) * wgt (n - k)
    rw [ih, h c (by simp), Nat.add_mul]
    omega
theorem wgt_pos (k : Nat) : 1 ≤ wgt k := by
  cases k with
  | zero => exact Nat.le_refl _
  | succ k => unfold wgt; omega
theorem rim_le (n : Nat) : ∀ rim : List (List Nat), rim.length ≤ wsum n rim
  | [] => Nat.zero_le _
  | r :: rim => by
    have h1 := rim_le n rim
    have h2 := wgt_pos (n - r.length)
    show rim.length + 1 ≤ wgt (n - r.length) + wsum n rim
    omega
/-- a walk taken off the stack, its longer ones put on it -/
theorem wsum_step {f : List Nat} {n : Nat} {r : List Nat} (hn : n ≤ 8) (s : Simple f n r) : 1 + wsum n (kids f n r) ≤ wgt (n - r.length) := by
  by_cases h : n ≤ r.length
  · rw [kids_none s h]
    exact wgt_pos _
  · rw [wsum_const (k := r.length + 1) fun c hc => (kid_simple s hc).2.1]
    have e : n - r.length = (n - (r.length + 1)) + 1 := by omega
    rw [e]
    have h1 := kids_few s
    have h2 : (kids f n r).length * wgt (n - (r.length + 1)) ≤ 7 * wgt (n - (r.length + 1)) := Nat.mul_le_mul_right _ (by omega)
    show 1 + (kids f n r).length * wgt (n - (r.length + 1)) ≤ 1 + 7 * wgt (n - (r.length + 1))
    omega
/-- what holds between two turns: all walks from the start that are no more on the stack are found -/
structure Dfs (f : List Nat) (n st : Nat) (B : Nat) (found rim : List (List Nat)) : Prop where
  fs : ∀ p ∈ found, Simple f n p ∧ p.head?.getD 0 < st + 1
  rs : ∀ r ∈ rim, Simple f n r ∧ r.head? = some st
  old : ∀ p, Simple f n p → p.head?.getD 0 < st → p ∈ found
  all : ∀ p, Simple f n p → p.head? = some st → p ∈ found ∨ ∃ r ∈ rim, r <+: p
  few : found.length + wsum n rim ≤ B
theorem Dfs.step {f : List Nat} {n st B : Nat} {found rim : List (List Nat)} {r : List Nat} (hn : n ≤ 8) (d : Dfs f n st B found (rim ++ [r])) : Dfs f n st B (found ++ [r]) (rim ++ kids f n r) ∧ wsum n (rim ++ kids f n r) < wsum n (rim ++ [r]) := by
  obtain ⟨sr, hr⟩ := d.rs r (by simp)
  have hw := wsum_step hn sr
  have e1 : wsum n [r] = wgt (n - r.length) := by simp [wsum]
  have hf := d.few
  rw [wsum_append, e1] at hf
  refine ⟨⟨fun p hp => ?_, fun p hp => ?_, fun p s h => List.mem_append_left _ (d.old p s h), fun p s h => ?_, ?_⟩, ?_⟩
  · rcases List.mem_append.mp hp with hp | hp
    · exact d.fs p hp
    · have e : p = r := by simpa using hp
      rw [e, hr]
      exact ⟨sr, by simp⟩
  · rcases List.mem_append.mp hp with hp | hp
    · exact d.rs p (List.mem_append_left _ hp)
    · obtain ⟨h1, _, h3, _⟩ := kid_simple sr hp
      exact ⟨h1, h3.trans hr⟩
  · rcases d.all p s h with h1 | ⟨q, hq, hp⟩
    · exact .inl (List.mem_append_left _ h1)
    · rcases List.mem_append.mp hq with hq | hq
      · exact .inr ⟨q, List.mem_append_left _ hq, hp⟩
      · have e : q = r := by simpa using hq
        rw [e] at hp
        obtain ⟨t, rfl⟩ := hp
        cases t with
        | nil => exact .inl (by simp)
        | cons a t =>
          refine .inr ⟨r ++ [a], List.mem_append_right _ (kid_of s sr.ne), ⟨t, by simp⟩⟩
  · rw [wsum_append, List.length_append]
    simp only [List.length_singleton]
    omega
  · rw [wsum_append, wsum_append, e1]
    omega
theorem Dfs.start {f : List Nat} {n st B : Nat} {found : List (List Nat)} (hn : n ≤ 8) (hs : st < n) (h1 : ∀ p ∈ found, Simple f n p ∧ p.head?.getD 0 < st) (h2 : ∀ p, Simple f n p → p.head?.getD 0 < st → p ∈ found) (h3 : found.length ≤ B) : Dfs f n st (B + 960800) found [[st]] where
  fs := fun p hp => ⟨(h1 p hp).1, Nat.lt_succ_of_lt (h1 p hp).2⟩
  rs := fun r hr => by
    have e : r = [st] := by simpa using hr
    rw [e]
    exact ⟨⟨by simp, by simpa using hs, trivial, by simp⟩, rfl⟩
  old := h2
  all := fun p s h => by
    refine .inr ⟨[st], by simp, ?_⟩
    cases p with
    | nil => simp at h
    | cons a r =>
      have e : a = st := by simpa using h
      rw [e]
      exact ⟨r, rfl⟩
  few := by
    have e1 : wsum n [[st]] = wgt (n - 1) := by simp [wsum]
    rw [e1]
    have h4 : ∀ k, k ≤ 7 → wgt k ≤ 960800 := by decide
    have := h4 (n - 1) (by omega)
    omega
theorem Dfs.done {f : List Nat} {n st B : Nat} {found : List (List Nat)} (d : Dfs f n st B found []) : (∀ p ∈ found, Simple f n p ∧ p.head?.getD 0 < st + 1) ∧ (∀ p, Simple f n p → p.head?.getD 0 < st + 1 → p ∈ found) ∧ found.length ≤ B := by
  refine ⟨d.fs, fun p s h => ?_, ?_⟩
  · by_cases c : p.head?.getD 0 < st
    · exact d.old p s c
    · have e : p.head? = some st := by
        cases q : p.head? with
        | none => exact absurd (List.head?_eq_none_iff.mp q) s.ne
        | some z =>
          rw [q] at h c
          simp at h c
          congr 1
          omega
      rcases d.all p s e with h1 | ⟨r, hr, _⟩
      · exact h1
      · cases hr
  · have := d.few
    simpa [wsum] using this

/-! ### squares -/
def sqW (l : List Nat) : Bool := l.length % 2 == 0 && l.take (l.length / 2) == l.drop (l.length / 2)
def txt (w p : List Nat) : List Nat := p.map fun x => w.getD x 0
def sqAt (w p : List Nat) : Bool := sqW (txt w p)
theorem sqW_iff (l : List Nat) : sqW l = true ↔ ∃ a, l = a ++ a := by
  unfold sqW
  rw [Bool.and_eq_true, beq_iff_eq, beq_iff_eq]
  constructor
  · rintro ⟨h1, h2⟩
    refine ⟨l.take (l.length / 2), ?_⟩
    conv => lhs; rw [← List.take_append_drop (l.length / 2) l, ← h2]
  · rintro ⟨a, rfl⟩
    have e : (a ++ a).length / 2 = a.length := by rw [List.length_append]; omega
    refine ⟨by rw [List.length_append]; omega, ?_⟩
    rw [e, List.take_left, List.drop_left]
theorem sqW_rev (l : List Nat) : sqW l.reverse = sqW l := by
  rw [Bool.eq_iff_iff, sqW_iff, sqW_iff]
  constructor
  · rintro ⟨a, h⟩
    exact ⟨a.reverse, by rw [← List.reverse_append, ← h, List.reverse_reverse]⟩
  · rintro ⟨a, rfl⟩
    exact ⟨a.reverse, by rw [List.reverse_append]⟩
theorem sqAt_rev (w p : List Nat) : sqAt w p.reverse = sqAt w p := by
  unfold sqAt txt
  rw [List.map_reverse, sqW_rev]
theorem sqAt_swap (f w : List Nat) (i j : Nat) : sqAt w (pathB f i j) = sqAt w (pathB f j i) := by
  rw [← pathB_rev f i j, sqAt_rev]
theorem sqAt_self (f w : List Nat) (i : Nat) : sqAt w (pathB f i i) = false := by
  rw [pathB_self]
  rfl
/-- the least path with a square -/
def IsClash (f : List Nat) (n : Nat) (w : List Nat) : Option (List Nat) → Prop
  | none => ∀ i j, i < n → j < n → sqAt w (pathB f i j) = false
  | some p => (∃ i j, i < n ∧ j < n ∧ p = pathB f i j) ∧ sqAt w p = true ∧ ∀ i j, i < n → j < n → sqAt w (pathB f i j) = true → ¬ pathB f i j < p
theorem lt_same {p q : List Nat} (h1 : ¬ p < q) (h2 : ¬ q < p) : p = q := List.le_antisymm (List.not_lt.mp h2) (List.not_lt.mp h1)
theorem IsClash.one {f : List Nat} {n : Nat} {w : List Nat} : ∀ {o o' : Option (List Nat)}, IsClash f n w o → IsClash f n w o' → o = o'
  | none, none, _, _ => rfl
  | none, some p, h, h' => by
    obtain ⟨⟨i, j, hi, hj, rfl⟩, h2, _⟩ := h'
    rw [h i j hi hj] at h2
    cases h2
  | some p, none, h', h => by
    obtain ⟨⟨i, j, hi, hj, rfl⟩, h2, _⟩ := h'
    rw [h i j hi hj] at h2
    cases h2
  | some p, some q, h, h' => by
    obtain ⟨⟨i, j, hi, hj, e⟩, h2, h3⟩ := h
    obtain ⟨⟨i', j', hi', hj', e'⟩, h2', h3'⟩ := h'
    subst e e'
    exact congrArg some (lt_same (h3' i j hi hj h2) (h3 i' j' hi' hj' h2'))
/-- by the sorted row of all simple walks -/
theorem clash_find {f : List Nat} {n : Nat} {w : List Nat} {L : List (List Nat)} (hL : ∀ p, p ∈ L ↔ Simple f n p) (hs : L.Pairwise fun a b => ¬ b < a) :
    IsClash f n w (L.find? (sqAt w)) := by
  cases e : L.find? (sqAt w) with
  | none =>
    intro i j hi hj
    have := List.find?_eq_none.mp e _ ((hL _).mpr (pathB_simple f hi hj))
    simpa using this
  | some p =>
    obtain ⟨h1, as, bs, h2, h3⟩ := List.find?_eq_some_iff_append.mp e
    have hp : p ∈ L := by rw [h2]; simp
    obtain ⟨i, j, hi, hj, _, _, ep⟩ := ((hL p).mp hp).ends
    refine ⟨⟨i, j, hi, hj, ep⟩, h1, fun i' j' hi' hj' hsq => ?_⟩
    have hm : pathB f i' j' ∈ L := (hL _).mpr (pathB_simple f hi' hj')
    rw [h2] at hm hs
    rcases List.mem_append.mp hm with hm | hm
    · have := h3 _ hm
      rw [hsq] at this
      cases this
    · rcases List.mem_cons.mp hm with hm | hm
      · rw [hm]
        exact List.lt_irrefl _
      · rw [List.pairwise_append] at hs
        exact (List.pairwise_cons.mp hs.2.1).1 _ hm
/-- by the least of the paths with a square -/
theorem clash_min {f : List Nat} {n : Nat} {w : List Nat} {F : List (List Nat)} (hF : ∀ p, p ∈ F ↔ (∃ i j, i < n ∧ j < n ∧ p = pathB f i j) ∧ sqAt w p = true) {p : List Nat} (hp : p ∈ F) (hm : ∀ q ∈ F, ¬ q < p) : IsClash f n w (some p) :=
  ⟨((hF p).mp hp).1, ((hF p).mp hp).2, fun i j hi hj h => hm _ ((hF _).mpr ⟨⟨i, j, hi, hj, rfl⟩, h⟩)⟩
theorem clash_empty {f : List Nat} {n : Nat} {w : List Nat} {F : List (List Nat)} (hF : ∀ p, p ∈ F ↔ (∃ i j, i < n ∧ j < n ∧ p = pathB f i j) ∧ sqAt w p = true) (he : F = []) : IsClash f n w none := fun i j hi hj => by
  cases h : sqAt w (pathB f i j) with
  | false => rfl
  | true =>
    have := (hF _).mpr ⟨⟨i, j, hi, hj, rfl⟩, h⟩
    rw [he] at this
    cases this
end AwM

/-! Mathematics: the search for the least word -/
namespace AwM

def Letters (size : Nat) (w : List Nat) : Prop := ∀ x ∈ w, x < size
def okAt (f w : List Nat) (k : Nat) : Prop := ∀ one, one < k → sqAt w (pathB f one k) = false
def goodTo (f w : List Nat) : Prop := ∀ k, k < w.length → okAt f w k
theorem txt_ext {f w u : List Nat} {i j : Nat} (hi : i < w.length) (hj : j < w.length) : txt (w ++ u) (pathB f i j) = txt w (pathB f i j) := by
  unfold txt
  refine List.map_congr_left fun x hx => ?_
  have := pathB_le f _ _ _ hx
  rw [List.getD_eq_getElem?_getD, List.getD_eq_getElem?_getD, List.getElem?_append_left (by omega)]
theorem sqAt_ext {f w u : List Nat} {i j : Nat} (hi : i < w.length) (hj : j < w.length) : sqAt (w ++ u) (pathB f i j) = sqAt w (pathB f i j) := by
  unfold sqAt
  rw [txt_ext hi hj]
theorem good_iff {f w : List Nat} {n : Nat} (h : w.length = n) : goodTo f w ↔ IsClash f n w none := by
  constructor
  · intro g i j hi hj
    rcases Nat.lt_trichotomy i j with c | c | c
    · exact g j (by omega) i c
    · rw [c]
      exact sqAt_self _ _ _
    · rw [sqAt_swap]
      exact g i (by omega) j c
  · intro g k hk one ho
    exact g one k (by omega) (by omega)
theorem good_take {f v : List Nat} (g : goodTo f v) (k : Nat) : goodTo f (v.take k) := by
  intro m hm one ho
  have hm' : m < v.length := by
    rw [List.length_take] at hm
    omega
  have := g m hm' one ho
  rw [← List.take_append_drop k v, sqAt_ext (by omega) hm] at this
  exact this
/-- the steps below a point that lacks so many levels -/
def tt (size : Nat) : Nat → Nat
  | 0 => 0
  | k + 1 => size * (1 + tt size k) + 1
/-- the steps that are left at most -/
def pot (size : Nat) : Nat → List Nat → Nat → Nat
  | d, [], a => (size - a) * (1 + tt size (7 - d)) + 1
  | d, c :: r, a => (size - (c + 1)) * (1 + tt size (7 - d)) + 1 + pot size (d + 1) r a
theorem pot_pos (size : Nat) : ∀ (w : List Nat) (d a : Nat), 1 ≤ pot size d w a
  | [], d, a => by unfold pot; omega
  | c :: r, d, a => by unfold pot; omega
theorem pot_next {size a : Nat} (ha : a < size) : ∀ (w : List Nat) (d : Nat), pot size d w a = pot size d w (a + 1) + (1 + tt size (7 - (d + w.length)))
  | [], d => by
    show (size - a) * (1 + tt size (7 - d)) + 1 = (size - (a + 1)) * (1 + tt size (7 - d)) + 1 + (1 + tt size (7 - d))
    have e : size - a = (size - (a + 1)) + 1 := by omega
    rw [e, Nat.add_mul]
    omega
  | c :: r, d => by
    have ih := pot_next ha r (d + 1)
    have e : d + (c :: r).length = d + 1 + r.length := by rw [List.length_cons]; omega
    show (size - (c + 1)) * (1 + tt size (7 - d)) + 1 + pot size (d + 1) r a = (size - (c + 1)) * (1 + tt size (7 - d)) + 1 + pot size (d + 1) r (a + 1) + _
    rw [e, ih]
    omega
theorem pot_push {size a : Nat} : ∀ (w : List Nat) (d : Nat), d + w.length + 1 ≤ 7 → pot size d (w ++ [a]) 0 = pot size d w (a + 1) + tt size (7 - (d + w.length))
  | [], d, h => by
    have h : d + 1 ≤ 7 := by simpa using h
    show (size - (a + 1)) * (1 + tt size (7 - d)) + 1 + ((size - 0) * (1 + tt size (7 - (d + 1))) + 1) = (size - (a + 1)) * (1 + tt size (7 - d)) + 1 + tt size (7 - d)
    have e : 7 - d = (7 - (d + 1)) + 1 := by omega
    have e2 : tt size (7 - d) = size * (1 + tt size (7 - (d + 1))) + 1 := by
      rw [e]
      rfl
    rw [Nat.sub_zero, ← e2]
  | c :: r, d, h => by
    have h : d + (r.length + 1) + 1 ≤ 7 := h
    have ih := pot_push (size := size) (a := a) r (d + 1) (by omega)
    have e : d + (c :: r).length = d + 1 + r.length := by rw [List.length_cons]; omega
    show (size - (c + 1)) * (1 + tt size (7 - d)) + 1 + pot size (d + 1) (r ++ [a]) 0 = (size - (c + 1)) * (1 + tt size (7 - d)) + 1 + pot size (d + 1) r (a + 1) + _
    rw [e, ih]
    omega
theorem pot_pop {size c : Nat} : ∀ (w : List Nat) (d : Nat), pot size d (w ++ [c]) size = pot size d w (c + 1) + 1
  | [], d => by
    show (size - (c + 1)) * (1 + tt size (7 - d)) + 1 + ((size - size) * (1 + tt size (7 - (d + 1))) + 1) = (size - (c + 1)) * (1 + tt size (7 - d)) + 1 + 1
    rw [Nat.sub_self, Nat.zero_mul]
  | b :: r, d => by
    have ih := pot_pop (size := size) (c := c) r (d + 1)
    show (size - (b + 1)) * (1 + tt size (7 - d)) + 1 + pot size (d + 1) (r ++ [c]) size = (size - (b + 1)) * (1 + tt size (7 - d)) + 1 + pot size (d + 1) r (c + 1) + 1
    rw [ih]
    omega
/-- what holds between two steps -/
structure Srch (f : List Nat) (n size : Nat) (w : List Nat) (a looked : Nat) : Prop where
  wn : w.length ≤ n
  lw : Letters size w
  la : a ≤ size
  gd : goodTo f w
  lo : ∀ v, v.length = n → Letters size v → goodTo f v → ∀ k, k ≤ w.length → k < n → v.take k = w.take k → (w ++ [a]).getD k 0 ≤ v.getD k 0
  fw : w.length < n → looked + pot size 0 w a ≤ tt size 8
theorem Srch.start (f : List Nat) (n size : Nat) : Srch f n size [] 0 0 where
  wn := Nat.zero_le _
  lw := fun x h => by cases h
  la := Nat.zero_le _
  gd := fun k h => absurd h (Nat.not_lt_zero _)
  lo := fun v _ _ _ k hk _ _ => by
    have e : k = 0 := by simpa using hk
    rw [e]
    exact Nat.zero_le _
  fw := fun _ => by
    show 0 + ((size - 0) * (1 + tt size 7) + 1) ≤ size * (1 + tt size 7) + 1
    rw [Nat.sub_zero]
    omega
theorem getD_left {w u : List Nat} {k : Nat} (h : k < w.length) : (w ++ u).getD k 0 = w.getD k 0 := by
  rw [List.getD_eq_getElem?_getD, List.getD_eq_getElem?_getD, List.getElem?_append_left h]
theorem getD_at {w u : List Nat} {a : Nat} : (w ++ a :: u).getD w.length 0 = a := by
  rw [List.getD_eq_getElem?_getD, List.getElem?_append_right (Nat.le_refl _), Nat.sub_self]
  rfl
theorem take_next {v w : List Nat} {k a : Nat} (hv : k < v.length) (h : v.take k = w) (hw : w.length = k) (e : v.getD k 0 = a) : v.take (k + 1) = w ++ [a] := by
  rw [List.take_add_one, h, List.getElem?_eq_getElem hv]
  rw [List.getD_eq_getElem?_getD, List.getElem?_eq_getElem hv] at e
  have e : v[k] = a := e
  rw [e]
  rfl
theorem letters_getD {size : Nat} {v : List Nat} (l : Letters size v) {k : Nat} (h : k < v.length) : v.getD k 0 < size := by
  rw [List.getD_eq_getElem?_getD, List.getElem?_eq_getElem h]
  exact l _ (List.getElem_mem h)
theorem Srch.pop {f : List Nat} {n size c looked : Nat} {w : List Nat} (s : Srch f n size (w ++ [c]) size looked) (h : (w ++ [c]).length < n) : Srch f n size w (c + 1) (looked + 1) where
  wn := by
    rw [List.length_append] at h
    omega
  lw := fun x hx => s.lw x (List.mem_append_left _ hx)
  la := s.lw c (by simp)
  gd := by
    have := good_take s.gd w.length
    rw [List.take_left] at this
    exact this
  lo := fun v hv lv gv k hk hn ht => by
    rw [List.length_append] at h
    have h : w.length + 1 < n := h
    have ht' : v.take k = (w ++ [c]).take k := by rw [ht, List.take_append_of_le_length hk]
    have h1 := s.lo v hv lv gv k (by rw [List.length_append]; omega) hn ht'
    rw [getD_left (w := w ++ [c]) (by rw [List.length_append]; exact Nat.lt_succ_of_le hk)] at h1
    by_cases e : k = w.length
    · subst e
      rw [getD_at] at h1
      rw [getD_at]
      by_cases e2 : v.getD w.length 0 = c
      · have h2 := take_next (by omega) (ht.trans List.take_length) rfl e2
        have h3 := s.lo v hv lv gv (w.length + 1) (by rw [List.length_append]; exact Nat.le_refl _) (by omega) (by rw [h2, List.take_of_length_le (by rw [List.length_append]; exact Nat.le_refl _)])
        have e3 : (w ++ [c] ++ [size]).getD (w.length + 1) 0 = size := by
          have := getD_at (w := w ++ [c]) (a := size) (u := [])
          rw [List.length_append] at this
          exact this
        rw [e3] at h3
        have := letters_getD lv (k := w.length + 1) (by omega)
        omega
      · omega
    · have hk' : k < w.length := by omega
      rw [getD_left hk']
      rw [getD_left hk'] at h1
      exact h1
  fw := fun h' => by
    have h1 := s.fw h
    rw [pot_pop] at h1
    omega
theorem Srch.none {f : List Nat} {n size looked : Nat} (s : Srch f n size [] size looked) (h : 0 < n) {v : List Nat} (hv : v.length = n) (lv : Letters size v) : ¬ goodTo f v := fun gv => by
  have h1 := s.lo v hv lv gv 0 (Nat.le_refl _) h rfl
  have h2 := letters_getD lv (k := 0) (by omega)
  have h1 : size ≤ v.getD 0 0 := h1
  omega
theorem Srch.skip {f : List Nat} {n size a looked : Nat} {w : List Nat} (s : Srch f n size w a looked) (h : w.length < n) (ha : a < size) (hb : ¬ okAt f (w ++ [a]) w.length) : Srch f n size w (a + 1) (looked + 1) where
  wn := s.wn
  lw := s.lw
  la := ha
  gd := s.gd
  lo := fun v hv lv gv k hk hn ht => by
    have h1 := s.lo v hv lv gv k hk hn ht
    by_cases e : k = w.length
    · subst e
      rw [getD_at] at h1
      rw [getD_at]
      by_cases e2 : v.getD w.length 0 = a
      · exfalso
        have h2 := take_next (by omega) (ht.trans List.take_length) rfl e2
        have h3 := good_take gv (w.length + 1)
        rw [h2] at h3
        exact hb (h3 w.length (by rw [List.length_append]; exact Nat.lt_succ_self _))
      · omega
    · have hk' : k < w.length := by omega
      rw [getD_left hk']
      rw [getD_left hk'] at h1
      exact h1
  fw := fun h' => by
    have h1 := s.fw h
    rw [pot_next ha] at h1
    omega
theorem Srch.put {f : List Nat} {n size a looked : Nat} {w : List Nat} (hn : n ≤ 8) (s : Srch f n size w a looked) (h : w.length < n) (ha : a < size) (hb : okAt f (w ++ [a]) w.length) : Srch f n size (w ++ [a]) 0 (looked + 1) where
  wn := by
    rw [List.length_append]
    exact h
  lw := fun x hx => by
    rcases List.mem_append.mp hx with hx | hx
    · exact s.lw x hx
    · have e : x = a := by simpa using hx
      omega
  la := Nat.zero_le _
  gd := fun k hk one ho => by
    rw [List.length_append] at hk
    have hk : k < w.length + 1 := hk
    by_cases e : k = w.length
    · rw [e]
      exact hb one (by omega)
    · rw [sqAt_ext (by omega) (by omega)]
      exact s.gd k (by omega) one ho
  lo := fun v hv lv gv k hk hn ht => by
    rw [List.length_append] at hk
    have hk : k ≤ w.length + 1 := hk
    by_cases e : k = w.length + 1
    · have e3 : (w ++ [a] ++ [0]).getD k 0 = 0 := by
        have := getD_at (w := w ++ [a]) (a := 0) (u := [])
        rw [List.length_append] at this
        rw [e]
        exact this
      rw [e3]
      exact Nat.zero_le _
    · have h1 := s.lo v hv lv gv k (by omega) hn (by rw [ht, List.take_append_of_le_length (by omega)])
      rw [getD_left (by rw [List.length_append]; exact Nat.lt_of_le_of_ne hk e)]
      exact h1
  fw := fun h' => by
    rw [List.length_append] at h'
    have h' : w.length + 1 < n := h'
    have h1 := s.fw h
    rw [pot_next ha] at h1
    have h2 := pot_push (size := size) (a := a) w 0 (by omega)
    omega
theorem lt_first : ∀ {v w : List Nat}, v.length = w.length → v < w → ∃ k, k < w.length ∧ v.take k = w.take k ∧ v.getD k 0 < w.getD k 0
  | [], [], _, h => absurd h (List.lt_irrefl _)
  | [], _ :: _, e, _ => by simp at e
  | _ :: _, [], e, _ => by simp at e
  | x :: v, y :: w, e, h => by
    rcases List.cons_lt_cons_iff.mp h with h | ⟨h1, h2⟩
    · exact ⟨0, by simp, rfl, h⟩
    · obtain ⟨k, a, b, c⟩ := lt_first (v := v) (w := w) (by simpa using e) h2
      refine ⟨k + 1, by simpa using a, by rw [List.take_succ_cons, List.take_succ_cons, b, h1], by simpa using c⟩
theorem Srch.least {f : List Nat} {n size a looked : Nat} {w : List Nat} (s : Srch f n size w a looked) (h : w.length = n) {v : List Nat} (hv : v.length = n) (lv : Letters size v) (gv : goodTo f v) : ¬ v < w := fun c => by
  obtain ⟨k, h1, h2, h3⟩ := lt_first (hv.trans h.symm) c
  have h4 := s.lo v hv lv gv k (by omega) (by omega) h2
  rw [getD_left h1] at h4
  omega
/-- not too many steps, three letters -/
theorem Srch.few3 {f : List Nat} {n size a looked : Nat} {w : List Nat} (s : Srch f n size w a looked) (h : w.length < n) (hs : 1 ≤ size) (h3 : size ≤ 3) : looked + 1 ≤ 20000 := by
  have h1 := s.fw h
  have h2 := pot_pos size w 0 a
  have h4 : tt 1 8 ≤ 20000 ∧ tt 2 8 ≤ 20000 ∧ tt 3 8 ≤ 20000 := by decide
  have h5 : size = 1 ∨ size = 2 ∨ size = 3 := by omega
  rcases h5 with e | e | e <;> subst e <;> omega
theorem Srch.few4 {f : List Nat} {n a looked : Nat} {w : List Nat} (s : Srch f n 4 w a looked) (h : w.length < n) {v : List Nat} (hv : v.length = n) (lv : Letters 4 v) (gv : goodTo f v) (v0 : v.getD 0 0 = 0) (v1 : v.getD 1 0 ≤ 1) : looked + 1 ≤ 20000 := by
  have h1 := s.fw h
  have t8 : tt 4 8 = 109225 := by decide
  have t7 : tt 4 7 = 27305 := by decide
  have t6 : tt 4 6 = 6825 := by decide
  rw [t8] at h1
  match w, s, h, h1 with
  | [], s, h, h1 =>
    have h2 := s.lo v hv lv gv 0 (Nat.le_refl _) h rfl
    have h2 : a ≤ v.getD 0 0 := h2
    have e : a = 0 := by omega
    subst e
    have h1 : looked + ((4 - 0) * (1 + tt 4 7) + 1) ≤ 109225 := h1
    rw [t7] at h1
    omega
  | [c], s, h, h1 =>
    have h2 := s.lo v hv lv gv 0 (Nat.zero_le _) (by omega) rfl
    have h2 : c ≤ v.getD 0 0 := h2
    have e : c = 0 := by omega
    subst e
    have h3 := s.lo v hv lv gv 1 (Nat.le_refl _) h (take_next (w := []) (k := 0) (by omega) rfl rfl v0)
    have h3 : a ≤ v.getD 1 0 := h3
    have h1 : looked + ((4 - (0 + 1)) * (1 + tt 4 7) + 1 + ((4 - a) * (1 + tt 4 6) + 1)) ≤ 109225 := h1
    rw [t7, t6] at h1
    have : a = 0 ∨ a = 1 := by omega
    rcases this with e | e <;> subst e <;> omega
  | c :: d :: r, s, h, h1 =>
    have h : r.length + 2 < n := h
    have h2 := s.lo v hv lv gv 0 (Nat.zero_le _) (by omega) rfl
    have h2 : c ≤ v.getD 0 0 := h2
    have e : c = 0 := by omega
    subst e
    have h3 := s.lo v hv lv gv 1 (by simp) (by omega) (take_next (w := []) (k := 0) (by omega) rfl rfl v0)
    have h3 : d ≤ v.getD 1 0 := h3
    have h4 := pot_pos 4 r 2 a
    have h1 : looked + ((4 - (0 + 1)) * (1 + tt 4 7) + 1 + ((4 - (d + 1)) * (1 + tt 4 6) + 1 + pot 4 2 r a)) ≤ 109225 := h1
    rw [t7, t6] at h1
    have : d = 0 ∨ d = 1 := by omega
    rcases this with e | e <;> subst e <;> omega
end AwM

/-! Mathematics: four letters are enough; all words in order -/
namespace AwM

def dep (f : List Nat) (x : Nat) : Nat := if h : x = 0 then 0 else dep f (pr f x) + 1
termination_by x
decreasing_by exact pr_lt f (by omega)
theorem dep_pos {f : List Nat} {x : Nat} (h : 1 ≤ x) : dep f x = dep f (pr f x) + 1 := by
  rw [dep, dif_neg (by omega)]
theorem dep_zero (f : List Nat) : dep f 0 = 0 := by rw [dep, dif_pos rfl]
theorem dep_le (f : List Nat) : ∀ n x, x ≤ n → dep f x ≤ x := by
  intro n
  induction n with
  | zero =>
    intro x h
    have e : x = 0 := by omega
    rw [e, dep_zero]
    exact Nat.le_refl _
  | succ n ih =>
    intro x h
    by_cases e : x = 0
    · rw [e, dep_zero]
      exact Nat.le_refl _
    · have h1 := pr_lt f (x := x) (by omega)
      have := ih (pr f x) (by omega)
      rw [dep_pos (by omega)]
      omega
/-- levels from d down to m and up to e -/
def lv (d m e : Nat) : List Nat := (List.range' m (d + 1 - m)).reverse ++ List.range' (m + 1) (e - m)
theorem lv_self (d : Nat) : lv d d d = [d] := by
  unfold lv
  have e : d + 1 - d = 1 := by omega
  rw [e, Nat.sub_self]
  rfl
theorem lv_up {d m e : Nat} (h : m ≤ d) : lv (d + 1) m e = (d + 1) :: lv d m e := by
  unfold lv
  have e1 : d + 1 + 1 - m = (d + 1 - m) + 1 := by omega
  rw [e1, List.range'_concat, List.reverse_append]
  have e2 : m + 1 * (d + 1 - m) = d + 1 := by omega
  rw [e2]
  rfl
theorem lv_down {d m e : Nat} (h : m ≤ e) : lv d m (e + 1) = lv d m e ++ [e + 1] := by
  unfold lv
  have e1 : e + 1 - m = (e - m) + 1 := by omega
  rw [e1, List.range'_concat]
  have e2 : m + 1 + 1 * (e - m) = e + 1 := by omega
  rw [e2, List.append_assoc]
theorem path_lv (f : List Nat) : ∀ i j, ∃ m, m ≤ dep f i ∧ m ≤ dep f j ∧ (pathB f i j).map (dep f) = lv (dep f i) m (dep f j) :=
  pathB_ind (f := f) (fun i => ⟨dep f i, Nat.le_refl _, Nat.le_refl _, by rw [pathB_self, lv_self]; rfl⟩) (fun i j h ⟨m, h1, h2, h3⟩ => by
    refine ⟨m, ?_, h2, ?_⟩
    · rw [dep_pos (by omega)]
      omega
    · rw [pathB_up h, List.map_cons, h3, dep_pos (x := i) (by omega), lv_up h1]) fun i j h ⟨m, h1, h2, h3⟩ => by
    refine ⟨m, h1, ?_, ?_⟩
    · rw [dep_pos (by omega)]
      omega
    · rw [pathB_down h, List.map_append, h3, dep_pos (x := j) (by omega), lv_down h2, List.map_singleton, dep_pos (x := j) (by omega)]
def lev : List Nat := [0, 1, 2, 0, 1, 3, 0, 1]
theorem lev_free : ∀ d, d < 8 → ∀ m, m < 8 → ∀ e, e < 8 → m ≤ d → m ≤ e → sqW ((lv d m e).map fun x => lev.getD x 0) = false := by decide +kernel
def levW (f : List Nat) (n : Nat) : List Nat := (List.range n).map fun x => lev.getD (dep f x) 0
theorem levW_at {f : List Nat} {n x : Nat} (h : x < n) : (levW f n).getD x 0 = lev.getD (dep f x) 0 := by
  unfold levW
  rw [List.getD_eq_getElem?_getD, List.getElem?_map, List.getElem?_range h]
  rfl
theorem lev_lt : ∀ x, x < 8 → lev.getD x 0 < 4 := by decide
theorem levW_letters {f : List Nat} {n : Nat} (hn : n ≤ 8) : Letters 4 (levW f n) := fun c hc => by
  obtain ⟨x, hx, rfl⟩ := List.mem_map.mp hc
  have hx := List.mem_range.mp hx
  have := dep_le f x x (Nat.le_refl _)
  exact lev_lt _ (by omega)
theorem levW_len (f : List Nat) (n : Nat) : (levW f n).length = n := by
  unfold levW
  rw [List.length_map, List.length_range]
theorem levW_good {f : List Nat} {n : Nat} (hn : n ≤ 8) : goodTo f (levW f n) := by
  refine (good_iff (levW_len f n)).mpr fun i j hi hj => ?_
  obtain ⟨m, h1, h2, h3⟩ := path_lv f i j
  have d1 := dep_le f i i (Nat.le_refl _)
  have d2 := dep_le f j j (Nat.le_refl _)
  have e : txt (levW f n) (pathB f i j) = ((pathB f i j).map (dep f)).map fun x => lev.getD x 0 := by
    unfold txt
    rw [List.map_map]
    refine List.map_congr_left fun x hx => ?_
    have := pathB_le f _ _ _ hx
    exact levW_at (by omega)
  unfold sqAt
  rw [e, h3]
  exact lev_free _ (by omega) _ (by omega) _ (by omega) h1 h2
theorem levW_0 {f : List Nat} {n : Nat} (hn : 0 < n) : (levW f n).getD 0 0 = 0 := by
  rw [levW_at hn, dep_zero]
  rfl
theorem levW_1 {f : List Nat} {n : Nat} : (levW f n).getD 1 0 ≤ 1 := by
  by_cases h : 1 < n
  · rw [levW_at h, dep_pos (Nat.le_refl _)]
    have := pr_lt f (Nat.le_refl 1)
    have e : pr f 1 = 0 := by omega
    rw [e, dep_zero]
    exact Nat.le_refl _
  · rw [List.getD_eq_getElem?_getD, List.getElem?_eq_none (by rw [levW_len]; omega)]
    exact Nat.zero_le _
theorem Srch.few {f : List Nat} {n size a looked : Nat} {w : List Nat} (hn : n ≤ 8) (s : Srch f n size w a looked) (h : w.length < n) (hs : 1 ≤ size) (h4 : size ≤ 4) : looked + 1 ≤ 20000 := by
  by_cases e : size = 4
  · subst e
    exact s.few4 h (levW_len f n) (levW_letters hn) (levW_good hn) (levW_0 (by omega)) levW_1
  · exact s.few3 h hs (by omega)

/-! ### what the search answers -/
def IsTree (f : List Nat) (n size : Nat) : Option (List Nat) → Prop
  | none => ∀ v : List Nat, v.length = n → Letters size v → ¬ goodTo f v
  | some w => w.length = n ∧ Letters size w ∧ goodTo f w ∧ ∀ v : List Nat, v.length = n → Letters size v → goodTo f v → ¬ v < w

/-! ### all words -/
def allW (size : Nat) : Nat → List (List Nat)
  | 0 => [[]]
  | k + 1 => (allW size k).flatMap fun w => (List.range size).map fun c => w ++ [c]
theorem mem_allW {size : Nat} : ∀ {n : Nat} {w : List Nat}, w ∈ allW size n ↔ w.length = n ∧ Letters size w
  | 0, w => by
    show w ∈ [[]] ↔ _
    rw [List.mem_singleton]
    constructor
    · rintro rfl
      exact ⟨rfl, fun x h => by cases h⟩
    · rintro ⟨h, _⟩
      exact List.length_eq_zero_iff.mp h
  | n + 1, w => by
    show w ∈ (allW size n).flatMap _ ↔ _
    rw [List.mem_flatMap]
    constructor
    · rintro ⟨v, hv, h⟩
      obtain ⟨c, hc, rfl⟩ := List.mem_map.mp h
      obtain ⟨h1, h2⟩ := mem_allW.mp hv
      have hc := List.mem_range.mp hc
      refine ⟨by rw [List.length_append, h1]; rfl, fun x hx => ?_⟩
      rcases List.mem_append.mp hx with hx | hx
      · exact h2 x hx
      · have e : x = c := by simpa using hx
        omega
    · rintro ⟨h1, h2⟩
      have hne : w ≠ [] := by
        intro e
        rw [e] at h1
        simp at h1
      refine ⟨w.dropLast, mem_allW.mpr ⟨by rw [List.length_dropLast, h1]; rfl, fun x hx => h2 x (List.dropLast_subset _ hx)⟩, List.mem_map.mpr ⟨w.getLast hne, List.mem_range.mpr (h2 _ (List.getLast_mem hne)), List.dropLast_concat_getLast hne⟩⟩
theorem lt_concat {a b : Nat} : ∀ {v w : List Nat}, v.length = w.length → v < w → v ++ [a] < w ++ [b]
  | [], [], _, h => absurd h (List.lt_irrefl _)
  | [], _ :: _, e, _ => by simp at e
  | _ :: _, [], e, _ => by simp at e
  | x :: v, y :: w, e, h => by
    rw [List.cons_append, List.cons_append]
    rcases List.cons_lt_cons_iff.mp h with h | ⟨h1, h2⟩
    · exact List.cons_lt_cons_iff.mpr (.inl h)
    · exact List.cons_lt_cons_iff.mpr (.inr ⟨h1, lt_concat (by simpa using e) h2⟩)
theorem lt_self {a b : Nat} (h : a < b) : ∀ w : List Nat, w ++ [a] < w ++ [b]
  | [] => List.cons_lt_cons_iff.mpr (.inl h)
  | x :: w => List.cons_lt_cons_iff.mpr (.inr ⟨rfl, lt_self h w⟩)
theorem allW_up (size : Nat) : ∀ n, (allW size n).Pairwise (· < ·)
  | 0 => List.pairwise_singleton _ _
  | n + 1 => by
    show ((allW size n).flatMap _).Pairwise _
    rw [List.pairwise_flatMap]
    refine ⟨fun w _ => ?_, ?_⟩
    · rw [List.pairwise_map]
      exact List.pairwise_lt_range.imp fun h => lt_self h w
    · have ih := allW_up size n
      refine List.Pairwise.imp_of_mem (fun {v w} hv hw h x hx y hy => ?_) ih
      obtain ⟨a, _, rfl⟩ := List.mem_map.mp hx
      obtain ⟨b, _, rfl⟩ := List.mem_map.mp hy
      exact lt_concat ((mem_allW.mp hv).1.trans (mem_allW.mp hw).1.symm) h
/-- the first good word of all is the least -/
theorem first_good {f : List Nat} {n size : Nat} {P : List Nat → Bool} (hP : ∀ w, w.length = n → (P w = true ↔ goodTo f w)) {o : Option (List Nat)} (h : IsTree f n size o) : ((allW size n).filter P).head? = o := by
  have up := (allW_up size n).filter P
  cases o with
  | none =>
    rw [List.head?_eq_none_iff, List.filter_eq_nil_iff]
    intro w hw
    obtain ⟨h1, h2⟩ := mem_allW.mp hw
    exact fun hp => h w h1 h2 ((hP w h1).mp hp)
  | some w =>
    obtain ⟨h1, h2, h3, h4⟩ := h
    have hm : w ∈ (allW size n).filter P := List.mem_filter.mpr ⟨mem_allW.mpr ⟨h1, h2⟩, (hP w h1).mpr h3⟩
    cases e : (allW size n).filter P with
    | nil =>
      rw [e] at hm
      cases hm
    | cons v r =>
      rw [e] at hm up
      have hv : v ∈ (allW size n).filter P := by rw [e]; simp
      obtain ⟨v1, v2⟩ := List.mem_filter.mp hv
      obtain ⟨v3, v4⟩ := mem_allW.mp v1
      have hno := h4 v v3 v4 ((hP v v3).mp v2)
      rcases List.mem_cons.mp hm with e2 | e2
      · rw [e2]
        rfl
      · exact absurd ((List.pairwise_cons.mp up).1 w e2) hno
end AwM

/-! The defs: is_int, is_in, is_word, need_size, need_parents -/
namespace Aw
open PySem PySem.Spec PyProof.Rows L2 AwM

/-! ### the text by places -/
def top (i : Nat) : Stmt := PySem.Challenge.pw_avoidwords_k79_whole_trees.main.body.getD i (.Pass ⟨0, 0, 0, 0⟩)
abbrev sIsInt : Stmt := top 10
abbrev sIsIn : Stmt := top 11
abbrev sIsWord : Stmt := top 12
abbrev sSize : Stmt := top 13
abbrev sPar : Stmt := top 17
/-- the built-ins stand -/
structure Bi (mg : Str → Option Value) : Prop where
  isi : mg "isinstance" = none
  int : mg "int" = none
  bool : mg "bool" = none
  str : mg "str" = none
  len : mg "len" = none
  all : mg "all" = none
  any : mg "any" = none
  tuple : mg "tuple" = none
  list : mg "list" = none
  range : mg "range" = none
  enum : mg "enumerate" = none
  min : mg "min" = none
  sorted : mg "sorted" = none
/-! ### data -/
/-- a word by its letters' numbers -/
def W (w : List Nat) : Str := ⟨(w.map fun c => c + 97).toArray⟩
theorem tl_W (w : List Nat) : (W w).cps.toList = w.map fun c => c + 97 := rfl
theorem len_W (w : List Nat) : (W w).length = w.length := by
  show (w.map fun c => c + 97).toArray.size = w.length
  simp
theorem W_append (v w : List Nat) : W v ++ W w = W (v ++ w) := by
  refine Str.ext' (Array.toList_inj.mp ?_)
  show ((W v).cps ++ (W w).cps).toList = _
  rw [Array.toList_append, tl_W, tl_W, tl_W, List.map_append]
theorem W_inj {v w : List Nat} (h : W v = W w) : v = w := by
  have e := congrArg (fun z : Str => z.cps.toList) h
  simp only [tl_W] at e
  exact List.map_inj_right (fun a b h => by omega) |>.mp e
/-- the parents' tuple -/
def parV (f : List Nat) : List V := .int (-1) :: pV f
theorem parV_len (f : List Nat) : (parV f).length = f.length + 1 := by simp [parV, pV]
theorem same_upd {H : Hp} {p : Addr} {o : HO} (h : H p = none) : Same H (upd H p o) := fun b x e => by
  rw [upd_ne (ne_of_none e h)]
  exact e
theorem sameUpd {H H' : Hp} {p : Addr} {o : HO} (s : Same H H') (h : H' p = none) : Same H (upd H' p o) := s.trans (same_upd h)
/-- what stood stands while a new object changes -/
theorem sameWrite {H H' : Hp} {p : Addr} {o : HO} (s : Same H H') (h : H p = none) : Same H (L2.upd H' p o) := fun b x e => by
  rw [upd_ne (ne_of_none e h)]
  exact s b x e
theorem none_of_new {H H' : Hp} {p : Addr} (s : Same H H') (h : H' p = none) : H p = none := s.free h

section
variable {P : Program} {w : World} {K : PySem.W.Frag} {mg : Str → Option Value} {base : Heap}
/-! ### is_int -/
def spIsInt : Sp := fun vs H Q _ => ∃ i : Int, vs = [.int i] ∧ Q (.bl true) H
theorem scInt : FnScope ["value"] ["value"] (defScope sIsInt) := ⟨rfl, rfl, rfl, by decide +kernel, rfl, by decide +kernel, by decide +kernel⟩
theorem ok_isInt {f : Addr} {fd : FuncData} (F : Fun K "is_int" "is_int" sIsInt f fd) (B : Bi mg) : FnOk P w K mg base CX0 1 f fd ["value"] spIsInt := by
  refine F.ok scInt (fun vs H Q E h => ?_) (fun cdv A outer s H vs Q E hr h => ?_)
  · obtain ⟨i, rfl, _⟩ := h
    rfl
  · obtain ⟨i, rfl, k⟩ := h
    refine ⟨_, pss_one (ps_ret (pe_and
      (pe_callB call_isi (by rfl) B.isi (by decide +kernel) (pa_cons (pv 0) (pa_cons (pe_bltn (v := .ty "int") (u := .type "int") (by rfl) B.int (by decide +kernel) rfl) pa_nil)))
      (pe_one (pe_not (pe_callB call_isi (by rfl) B.isi (by decide +kernel) (pa_cons (pv 0) (pa_cons (pe_bltn (v := .ty "bool") (u := .type "bool") (by rfl) B.bool (by decide +kernel) rfl) pa_nil))))))), ?_⟩
    refine ⟨.int i, rfl, .int i, .ty "int", .type "int", .type "int", true, rfl, .ty "int", .base (.int i), kit_ty (by decide +kernel), true, rfl, iteT ?_⟩
    exact ⟨.int i, rfl, .int i, .ty "bool", .type "int", .type "bool", false, rfl, .ty "bool", .base (.int i), kit_ty (by decide +kernel), false, rfl, k⟩
/-! ### is_in -/
def spIsIn : Sp := fun vs H Q _ => ∃ v lo hi : Int, vs = [.int v, .int lo, .int hi] ∧ lo ≤ v ∧ v ≤ hi ∧ Q (.bl true) H
theorem scIn : FnScope ["value", "least", "most"] ["value", "least", "most"] (defScope sIsIn) := ⟨rfl, rfl, rfl, by decide +kernel, rfl, by decide +kernel, by decide +kernel⟩
theorem ok_isIn {f f1 : Addr} {fd fd1 : FuncData} (F : Fun K "is_in" "is_in" sIsIn f fd) (F1 : Fun K "is_int" "is_int" sIsInt f1 fd1) (b1 : Binds K fd1 ["value"] []) (g1 : mg "is_int" = some (.ref f1)) (B : Bi mg) :
    FnOk P w K mg base CX0 2 f fd ["value", "least", "most"] spIsIn := by
  have G1 : FnOk P w K mg base CX0 1 f1 fd1 ["value"] spIsInt := ok_isInt F1 B
  refine F.ok scIn (fun vs H Q E h => ?_) (fun cdv A outer s H vs Q E hr h => ?_)
  · obtain ⟨v, lo, hi, rfl, _⟩ := h
    rfl
  · obtain ⟨v, lo, hi, rfl, h1, h2, k⟩ := h
    refine ⟨_, pss_one (ps_ret (pe_and (pe_call G1 hr (by rfl) g1 F1.kp b1 .nil pass0 (pa_cons (pv 0) pa_nil)) (pe_one (pe_chain op_le op_le (pv 1) (pv 0) (pv 2))))), ?_⟩
    refine ⟨.int v, rfl, v, rfl, true, rfl, iteT ?_⟩
    refine ⟨.int lo, rfl, .int v, rfl, lo, v, rfl, rfl, _, rfl, ?_⟩
    rw [decide_eq_true h1]
    refine iteT ⟨.int hi, rfl, v, hi, rfl, rfl, ?_⟩
    show Q (.bl (decide (v ≤ hi))) H
    rw [decide_eq_true h2]
    exact k
/-! ### need_size -/
def spSize : Sp := fun vs H Q _ => ∃ v : Int, vs = [.int v] ∧ 1 ≤ v ∧ v ≤ 6 ∧ Q .non H
theorem scSize : FnScope ["value"] ["value"] (defScope sSize) := ⟨rfl, rfl, rfl, by decide +kernel, rfl, by decide +kernel, by decide +kernel⟩
theorem ok_size {f f2 : Addr} {fd fd2 : FuncData} {t : Tok} (F : Fun K "need_size" "need_size" sSize f fd) (F2 : Fun K "is_in" "is_in" sIsIn f2 fd2) (G2 : FnOk P w K mg base CX0 2 f2 fd2 ["value", "least", "most"] spIsIn) (b2 : Binds K fd2 ["value", "least", "most"] []) (g2 : mg "is_in" = some (.ref f2)) (gm : mg "MOST_SIZE" = some (.int 6 t)) :
    FnOk P w K mg base CX0 3 f fd ["value"] spSize := by
  refine F.ok scSize (fun vs H Q E h => ?_) (fun cdv A outer s H vs Q E hr h => ?_)
  · obtain ⟨v, rfl, _⟩ := h
    rfl
  · obtain ⟨v, rfl, h1, h2, k⟩ := h
    refine ⟨_, pss_one (ps_if (pt_not (pt_val (pe_call G2 hr (by rfl) g2 F2.kp b2 .nil pass0 (pa_cons (pv 0) (pa_cons pe_int (pa_cons (pe_glob (v := .int 6) rfl gm ⟨_, rfl⟩) pa_nil)))))) (pss_one ps_never) pss_nil), ?_⟩
    exact ⟨.int v, rfl, v, 1, 6, rfl, h1, h2, true, rfl, iteF k⟩
/-! ### is_word -/
def LET : Str := "abcdefghijklmnopqrstuvwxyz"
theorem let_mem : ∀ c, c < 26 → c + 97 ∈ LET.cps.toList := by decide +kernel
def spIsWord : Sp := fun vs H Q _ => ∃ x : List Nat, vs = [.str (W x), .int 200] ∧ x.length ≤ 200 ∧ Letters 26 x ∧ ∀ H', Same H H' → Q (.bl true) H'
theorem scWord : FnScope ["value", "most", "sign"] ["value", "most"] (defScope sIsWord) := ⟨rfl, rfl, rfl, by decide +kernel, rfl, by decide +kernel, by decide +kernel⟩
theorem ok_isWord {f : Addr} {fd : FuncData} {t : Tok} (F : FunD K "is_word" "is_word" (defArgs sIsWord) (defBody sIsWord) (defScope sIsWord) [.int 200] [] f fd) (B : Bi mg) (gl : mg "LETTERS" = some (.str LET t)) :
    FnOk P w K mg base CX0 1 f fd ["value", "most"] spIsWord := by
  refine F.ok scWord (fun vs H Q E h => ?_) (fun cdv A outer s H vs Q E hr h => ?_)
  · obtain ⟨x, rfl, _⟩ := h
    rfl
  · obtain ⟨x, rfl, h1, h2, k⟩ := h
    refine ⟨_, PSs.nox (pss_one (ps_ret (pe_and
      (pe_callB call_isi (by rfl) B.isi (by decide +kernel) (pa_cons (pv 0) (pa_cons (pe_bltn (v := .ty "str") (u := .type "str") (by rfl) B.str (by decide +kernel) rfl) pa_nil)))
      (pe_and (pe_cmpR op_le (pe_callB call_len (by rfl) B.len (by decide +kernel) (pa_cons (pv 0) pa_nil)) (pv 1) (nomark _))
      (pe_one (pe_callB (cr_all rfl) (by rfl) B.all (by decide +kernel) (pa_cons
        (pe_lc (own := [("sign", 2)]) (g := gName 2) (tt := tYes) rfl scWord.nd (pi_str (pv 0)) (blkOk_by (N := ["value", "most", "sign"]) (sc := defScope sIsWord) (by decide +kernel))
          (fun _ _ _ _ _ => pg_name (i := 2) scWord.nd rfl (Or.inl rfl)) (fun _ _ _ _ _ => pts_nil) (fun _ _ _ _ _ => pe_cmpR op_in_sign (pv 2) (pe_glob (v := .str LET) rfl gl ⟨_, rfl⟩) (by rfl)))
        pa_nil))))))), ?_⟩
    have hw : (W x).cps.size = x.length := len_W x
    refine ⟨.str (W x), rfl, .str (W x), .ty "str", .type "str", .type "str", true, rfl, .ty "str", .base (.str _), kit_ty (by decide +kernel), true, rfl, iteT ?_⟩
    refine ⟨.str (W x), rfl, _, (W x).length, rfl, ⟨?_, rfl⟩, .int 200, rfl, _, _, rfl, rfl, true, ?_, iteT ?_⟩
    · rw [len_W]
      exact Nat.le_trans h1 (by decide)
    · show V.bl (decide (((W x).length : Int) ≤ 200)) = .bl true
      rw [len_W, decide_eq_true (show (x.length : Int) ≤ 200 by omega)]
    · refine ⟨.str (W x), rfl, W x, rfl, fun D hD => ?_⟩
      refine lc_it (walk_str (z := W x)) (fun i H' => Same H H' ∧ H' D = some (.lst ((List.replicate i true).map V.bl))) ⟨same_upd hD, upd_same⟩ (fun _ _ _ _ => trivial) ?_ ?_
      · rintro i v H1 H2 hi ⟨s1, e1⟩ ⟨rfl, c, hc, rfl⟩
        refine ⟨rfl, ?_⟩
        have hm : c ∈ LET.cps.toList := by
          have hc' : (x.map fun c => c + 97)[i]? = some c := by
            have : (W x).cps.toList[i]? = some c := by simpa using hc
            exact this
          rw [List.getElem?_map] at hc'
          cases e : x[i]? with
          | none =>
            rw [e] at hc'
            cases hc'
          | some d =>
            rw [e] at hc'
            have e2 : d + 97 = c := Option.some.inj hc'
            rw [← e2]
            exact let_mem d (h2 d (List.mem_of_getElem? e))
        refine ⟨_, rfl, c, LET, rfl, rfl, _, e1, ?_, sameWrite s1 hD, ?_⟩
        · rw [List.length_map, List.length_replicate]
          exact small1000 (by omega)
        · rw [upd_same, decide_eq_true hm, List.replicate_succ', List.map_append]
          rfl
      · rintro H' ⟨s1, e1⟩
        refine ⟨D, _, rfl, SqL.of e1, ?_⟩
        have e2 : (List.replicate (W x).cps.size true).all id = true := by simp
        rw [e2]
        exact k _ s1
/-! ### need_parents -/
def spPar : Sp := fun vs H Q _ => ∃ (a : Addr) (f : List Nat), vs = [.ref a] ∧ H a = some (.tup (parV f)) ∧ Tree f ∧ f.length ≤ 13 ∧ ∀ H', Same H H' → Q .non H'
theorem scPar : FnScope ["value", "index", "parent"] ["value"] (defScope sPar) := ⟨rfl, rfl, rfl, by decide +kernel, rfl, by decide +kernel, by decide +kernel⟩
theorem ok_par {f f2 : Addr} {fd fd2 : FuncData} {t : Tok} (F : Fun K "need_parents" "need_parents" sPar f fd) (F2 : Fun K "is_in" "is_in" sIsIn f2 fd2) (G2 : FnOk P w K mg base CX0 2 f2 fd2 ["value", "least", "most"] spIsIn) (b2 : Binds K fd2 ["value", "least", "most"] []) (g2 : mg "is_in" = some (.ref f2))
    (B : Bi mg) (gm : mg "MOST_TREE" = some (.int 14 t)) : FnOk P w K mg base CX0 3 f fd ["value"] spPar := by
  refine F.ok scPar (fun vs H Q E h => ?_) (fun cdv A outer s H vs Q E hr h => ?_)
  · obtain ⟨a, g, rfl, _⟩ := h
    rfl
  · obtain ⟨a, g, rfl, hA, hT, hl, k⟩ := h
    refine ⟨_, pss_cons (ps_if (PW.pt (pw_or
        (pt_not (pt_val (pe_callB call_isi (by rfl) B.isi (by decide +kernel) (pa_cons (pv 0) (pa_cons (pe_bltn (v := .ty "tuple") (u := .type "tuple") (by rfl) B.tuple (by decide +kernel) rfl) pa_nil)))))
        (pw_or1 (pt_not (pt_chain op_le op_le pe_int (pe_callB call_len_seq (by rfl) B.len PySem.boot_len (pa_cons (pv 0) pa_nil)) (pe_glob (v := .int 14) rfl gm ⟨_, rfl⟩)))))) (pss_one ps_never) pss_nil)
      (pss_one (ps_for PassesOwn.never rfl (pi_enumT (by rfl) B.enum (pa_cons (pv 0) pa_nil)) (pg_tup rfl (pgs_cons (pg_name (i := 1) scPar.nd rfl (Or.inl rfl)) (pgs_cons (pg_name (i := 2) scPar.nd rfl (Or.inl rfl)) pgs_nil)))
        (pss_one (ps_if (pt_not (pt_val (pe_call G2 hr (by rfl) g2 F2.kp b2 .nil pass0 (pa_cons (pv 2) (pa_cons (pe_ifExp (pt_cmpR op_gt (pv 1) pe_int (nomark _)) pe_int (pe_un un_neg pe_int)) (pa_cons (pe_op op_sub (pv 1) pe_int) pa_nil)))))) (pss_one ps_never) pss_nil)))), ?_⟩
    refine ⟨.ref a, rfl, .ref a, .ty "tuple", .type "tuple", .type "tuple", true, rfl, .ty "tuple", .base (.tup hA), kit_ty (by decide +kernel), true, rfl, iteF ?_⟩
    refine ⟨.ref a, rfl, a, parV g, rfl, .inr (SqT.of hA), _, _, rfl, rfl, true, ?_, iteT ?_⟩
    · show V.bl (decide ((1 : Int) ≤ ((parV g).length : Nat))) = .bl true
      rw [parV_len, decide_eq_true (by omega)]
    refine ⟨_, _, rfl, rfl, true, ?_, iteF ?_⟩
    · show V.bl (decide (((parV g).length : Int) ≤ 14)) = .bl true
      rw [parV_len, decide_eq_true (by omega)]
    refine ⟨.ref a, rfl, a, parV g, rfl, SqT.of hA, for_enumT (K := K) (a := a) (xs := parV g) (fun i σ H' => ∃ v1 v2, σ = [some (.ref a), v1, v2] ∧ Same H H') ⟨none, none, rfl, Same.refl H⟩ (fun i σ H' _ ⟨_, _, _, s1⟩ => SqT.of (s1 _ _ hA)) ?_ ?_⟩
    · rintro i x σ H1 T hx ⟨v1, v2, rfl, s1⟩ hT0
      refine ⟨T, [.int i, x], rfl, .inl (.inl upd_same), rfl, .int i, [x], rfl, x, [], rfl, rfl, ?_⟩
      have s2 : Same H (upd H1 T (.tup [.int i, x])) := sameUpd s1 hT0
      have hend : ∃ w1 w2, ([some (.ref a), some (.int i), some x] : L2.St) = [some (.ref a), w1, w2] ∧ Same H (upd H1 T (.tup [.int i, x])) := ⟨_, _, rfl, s2⟩
      cases i with
      | zero =>
        have ex : x = .int (-1) := by simpa [parV] using hx.symm
        subst ex
        refine ⟨_, rfl, _, rfl, _, _, rfl, rfl, false, rfl, iteF ?_⟩
        exact ⟨_, rfl, _, rfl, _, _, rfl, rfl, -1, -1, -1, rfl, by decide, by decide, true, rfl, iteF hend⟩
      | succ i =>
        obtain ⟨d, hd, rfl⟩ : ∃ d, g[i]? = some d ∧ x = nV d := by
          have hx' : (g.map nV)[i]? = some x := by simpa [parV, pV] using hx
          rw [List.getElem?_map] at hx'
          cases e : g[i]? with
          | none =>
            rw [e] at hx'
            cases hx'
          | some d =>
            rw [e] at hx'
            exact ⟨d, rfl, (Option.some.inj hx').symm⟩
        have hdi := hT i d hd
        refine ⟨_, rfl, _, rfl, _, _, rfl, rfl, true, ?_, iteT ?_⟩
        · show V.bl (decide ((0 : Int) < ((i + 1 : Nat) : Int))) = .bl true
          rw [decide_eq_true (by omega)]
        exact ⟨_, rfl, _, _, rfl, rfl, (d : Int), 0, (((i + 1 : Nat) : Int) - 1), rfl, by omega, by omega, true, rfl, iteF hend⟩
    · rintro σ H' ⟨v1, v2, rfl, s1⟩
      exact k _ s1
end
end Aw

/-! Readings that come often: a text read off a path; lists compared with [] -/
namespace Aw
open PySem PySem.Spec PyProof.Rows L2 AwM
open TL (tl joinL join_eq tl_join ext_tl)

/-! ### texts -/
theorem tl_W' (w : List Nat) : tl (W w) = w.map fun c => c + 97 := rfl
theorem joinL_nil : ∀ l : List Nat, joinL [] ((l.map fun c => W [c]).map tl) = l.map fun c => c + 97
  | [] => rfl
  | [c] => rfl
  | c :: d :: r => by
    have ih := joinL_nil (d :: r)
    show tl (W [c]) ++ ([] ++ joinL [] (((d :: r).map fun c => W [c]).map tl)) = _
    rw [ih]
    rfl
theorem join_W (l : List Nat) : Txt.join (Str.ofString "") (l.map fun c => W [c]) = W l := by
  rw [join_eq]
  refine ext_tl ?_
  rw [tl_join, show tl (Str.ofString "") = [] by decide +kernel, joinL_nil, tl_W']
theorem sum_ones : ∀ l : List Nat, ((l.map fun c => W [c]).map (·.length)).sum = l.length
  | [] => rfl
  | c :: l => by
    have ih := sum_ones l
    show (W [c]).length + ((l.map fun c => W [c]).map (·.length)).sum = l.length + 1
    rw [ih, len_W]
    exact Nat.add_comm _ _
theorem W_at {w : List Nat} {x : Nat} (h : x < w.length) : atI (W w).cps.toList ((x : Nat) : Int) = some (w.getD x 0 + 97) := by
  refine atI_nat ?_
  rw [tl_W, List.getElem?_map, List.getElem?_eq_getElem h, List.getD_eq_getElem?_getD, List.getElem?_eq_getElem h]
  rfl
/-! ### the slots of a block -/
theorem wipe_one {σ : L2.St} {ix : Nat} {v : V} : wipe ((wipe σ [ix]).set ix (some v)) [ix] = wipe σ [ix] := by
  show (((σ.set ix none).set ix (some v)).set ix none) = σ.set ix none
  rw [List.set_set, List.set_set]
theorem blk_own {σ : L2.St} {ix : Nat} {v : V} (h : ix < σ.length) : ((wipe σ [ix]).set ix (some v))[ix]? = some (some v) := by
  show ((σ.set ix none).set ix (some v))[ix]? = _
  rw [List.set_set, List.getElem?_set_self h]
theorem blk_other {σ : L2.St} {ix i : Nat} {v : V} (h : ix ≠ i) : ((wipe σ [ix]).set ix (some v))[i]? = σ[i]? := by
  show ((σ.set ix none).set ix (some v))[i]? = _
  rw [List.set_set, List.getElem?_set_ne h]
theorem lt_of_slot {σ : L2.St} {i : Nat} {v : Option V} (h : σ[i]? = some v) : i < σ.length := (List.getElem?_eq_some_iff.mp h).1
/-- [word[x] for x in path] -/
theorem lc_txt {K : PySem.W.Frag} {ip iw ix : Nat} {σ : L2.St} {H : Hp} {Q : VK} {t : Addr} {w p : List Nat} (h1 : σ[ip]? = some (some (.ref t))) (h2 : H t = some (.tup (pV p))) (h3 : σ[iw]? = some (some (.str (W w)))) (hx : ix < σ.length) (hne : ix ≠ iw)
    (hp : ∀ x ∈ p, x < w.length) (hw : w.length ≤ 200) (hl : p.length ≤ 1000)
    (k : ∀ H' D, Same H H' → H D = none → H' D = some (.lst ((txt w p).map fun c => .str (W [c]))) → Q (.ref D) H') :
    tLc (iTup K (tVar ip)) (gName ix) tYes (tOp rIxS (tVar iw) (tVar ix)) [ix] σ H Q := by
  refine ⟨_, h1, t, rfl, ⟨_, SqT.of h2⟩, fun D hD => ?_⟩
  refine lc_tup (K := K) (a := t) (xs := pV p) (fun i H' => Same H H' ∧ H' D = some (.lst ((txt w (p.take i)).map fun c => .str (W [c])))) ⟨same_upd hD, upd_same⟩ (fun i H' _ s => SqT.of (s.1 _ _ h2)) ?_ ?_
  · rintro i v H1 hi ⟨s1, e1⟩
    obtain ⟨x, hxp, rfl⟩ : ∃ x, p[i]? = some x ∧ v = nV x := by
      have hi' : (p.map nV)[i]? = some v := hi
      rw [List.getElem?_map] at hi'
      cases e : p[i]? with
      | none =>
        rw [e] at hi'
        cases hi'
      | some d =>
        rw [e] at hi'
        exact ⟨d, rfl, (Option.some.inj hi').symm⟩
    have hxw := hp x (List.mem_of_getElem? hxp)
    refine ⟨wipe_one, ?_⟩
    refine ⟨_, (blk_other hne).trans h3, _, blk_own hx, W w, (x : Int), w.getD x 0 + 97, rfl, rfl, ?_, W_at hxw, _, e1, ?_, sameWrite s1 hD, ?_⟩
    · rw [len_W]
      exact Nat.le_trans hw (by decide)
    · rw [List.length_map, txt, List.length_map, List.length_take]
      exact small1000 (by omega)
    · rw [upd_same, List.take_add_one, hxp]
      simp only [txt, List.map_append, Option.toList]
      rfl
  · rintro H' ⟨s1, e1⟩
    have e2 : p.take (pV p).length = p := by
      rw [pV, List.length_map, List.take_length]
    rw [e2] at e1
    exact k H' D s1 hD e1
/-- "".join(..) of it: what is asked of the list, of the lengths -/
theorem join_a {H : Hp} {D : Addr} {l : List Nat} (h : H D = some (.lst (l.map fun c => .str (W [c])))) : H D = some (.lst ((l.map fun c => W [c]).map V.str)) := by
  rw [h, List.map_map]
  rfl
theorem join_b {l : List Nat} (h : l.length ≤ 1000) : ((l.map fun c => W [c]).map (·.length)).sum + (l.map fun c => W [c]).length * (Str.ofString "").length ≤ 16777216 := by
  rw [sum_ones, show (Str.ofString "").length = 0 by decide +kernel, Nat.mul_zero, Nat.add_zero]
  omega
theorem txt_length (w p : List Nat) : (txt w p).length = p.length := by rw [txt, List.length_map]
/-! ### lists against [] -/
theorem shaped_paths (ps : List (List Nat)) : SeqAt.shaped (.list (ps.map encP)) = true := by
  unfold SeqAt.shaped
  rw [Bool.and_eq_true]
  constructor
  · have h1 : ∀ p : List Nat, PyData.canLayAll0 (p.map fun n : Nat => PyData.int (n : Int)) = true := fun p => by
      induction p with
      | nil => rfl
      | cons x p ih =>
        show PyData.canLayAll0 (PyData.int x :: p.map fun n : Nat => PyData.int (n : Int)) = true
        simp only [PyData.canLayAll0, ih, PyData.canLay0, Bool.and_self]
    have h2 : PyData.canLayAll0 (ps.map encP) = true := by
      induction ps with
      | nil => rfl
      | cons p ps ih =>
        show PyData.canLayAll0 (encP p :: ps.map encP) = true
        simp only [PyData.canLayAll0, ih, Bool.and_true]
        unfold encP
        simp only [PyData.canLay0, h1]
    simp only [PyData.canLay0, h2]
  · have h3 : PyData.depthAll (ps.map encP) ≤ 1 := by
      induction ps with
      | nil => simp [PyData.depthAll]
      | cons p ps ih =>
        show PyData.depthAll (encP p :: ps.map encP) ≤ 1
        have := encP_depth p
        simp only [PyData.depthAll]
        omega
    have h4 : (PyData.list (ps.map encP)).depth ≤ 64 := by
      simp only [PyData.depth]
      omega
    exact decide_eq_true h4
theorem ne_nil {K : PySem.W.Frag} {H : Hp} {Q : VK} {q e : Addr} {ts : List Addr} {ps : List (List Nat)} (h1 : H q = some (.lst (ts.map V.ref))) (h2 : TupsAt H ts ps) (h3 : H e = some (.lst [])) (k : Q (.bl (!ps.isEmpty)) H) : rNeD K (.ref q) (.ref e) H Q := by
  refine ⟨.list (ps.map encP), .list [], .lst (SqL.of h1) (dp_paths h2), .lst (SqL.of h3) .nil, shaped_paths ps, shaped_paths [], ?_⟩
  have e1 : PyData.eqv (.list (ps.map encP)) (.list []) = ps.isEmpty := by
    cases ps with
    | nil => simp [PyData.eqv, PyData.eqvAll]
    | cons p ps => simp [PyData.eqv, PyData.eqvAll]
  rw [e1]
  exact k
theorem par_at {f : List Nat} {u : Nat} (T : Tree f) (h1 : 1 ≤ u) (h2 : u ≤ f.length) : (parV f)[u]? = some (nV (pr f u)) := by
  obtain ⟨v, rfl⟩ : ∃ v, u = v + 1 := ⟨u - 1, by omega⟩
  have hv : v < f.length := by omega
  rw [pr_eq T (List.getElem?_eq_getElem hv)]
  show (f.map nV)[v]? = _
  rw [List.getElem?_map, List.getElem?_eq_getElem hv]
  rfl
theorem last_at (p : List Nat) (u : Nat) : atI (pV (p ++ [u])) (-1) = some (nV u) := by
  rw [pV, List.map_append]
  exact atI_last _ _
end Aw

/-! The defs: path_between, is_square -/
namespace Aw
open PySem PySem.Spec PyProof.Rows L2 AwM
abbrev sPath : Stmt := top 18
abbrev sSq : Stmt := top 19
section
variable {P : Program} {w : World} {K : PySem.W.Frag} {mg : Str → Option Value} {base : Heap}
/-! ### path_between -/
def spPath : Sp := fun vs H Q _ => ∃ (a : Addr) (f : List Nat) (i j : Nat), vs = [.ref a, nV i, nV j] ∧ H a = some (.tup (parV f)) ∧ Tree f ∧ f.length ≤ 13 ∧ i ≤ f.length ∧ j ≤ f.length ∧
  ∀ H' p, Same H H' → H p = none → H' p = some (.tup (pV (pathB f i j))) → Q (.ref p) H'
theorem scPath : FnScope ["parents", "one", "other", "up", "down"] ["parents", "one", "other"] (defScope sPath) := ⟨rfl, rfl, rfl, by decide +kernel, rfl, by decide +kernel, by decide +kernel⟩
theorem pV_append (p q : List Nat) : pV (p ++ q) = pV p ++ pV q := by
  unfold pV
  rw [List.map_append]
theorem dropLast_one {α : Type} (l : List α) (x : α) : (l ++ [x]).dropLast = l := by simp
theorem pV_length (p : List Nat) : (pV p).length = p.length := by
  unfold pV
  rw [List.length_map]
/-- the loop's word: what is on both rows, and the path between their last ones -/
def PInv (a : Addr) (i j : Nat) (g : List Nat) (pu pd : Addr) (H : Hp) : Nat → L2.St → Hp → Prop := fun m σ H' => ∃ (us ds : List Nat) (u d : Nat),
  σ = [some (.ref a), some (nV i), some (nV j), some (.ref pu), some (.ref pd)] ∧ H' pu = some (.lst (pV (us ++ [u]))) ∧ H' pd = some (.lst (pV (ds ++ [d]))) ∧ Same H H' ∧
  m = u + d ∧ u + us.length ≤ i ∧ d + ds.length ≤ j ∧ us ++ pathB g u d ++ ds.reverse = pathB g i j
theorem ok_path {f : Addr} {fd : FuncData} (F : Fun K "path_between" "path_between" sPath f fd) (B : Bi mg) : FnOk P w K mg base CX0 1 f fd ["parents", "one", "other"] spPath := by
  refine F.ok scPath (fun vs H Q E h => ?_) (fun cdv A outer s H vs Q E hr h => ?_)
  · obtain ⟨a, g, i, j, rfl, _⟩ := h
    rfl
  · obtain ⟨a, g, i, j, rfl, hA, hT, hl, hi, hj, k⟩ := h
    refine ⟨_, pss_cons (ps_par (i := 3) (j := 4) (by rfl) scPath.nd rfl rfl (by decide) rfl rfl (pa_cons (pe_lst (pa_cons (pv 1) pa_nil)) (pa_cons (pe_lst (pa_cons (pv 2) pa_nil)) pa_nil)) (by rfl))
      (pss_cons (ps_while PassesOwn.never (pt_cmpR op_ne (pe_ix ix_list (pv 3) (pe_un un_neg pe_int) (fun _ _ => rfl)) (pe_ix ix_list (pv 4) (pe_un un_neg pe_int) (fun _ _ => rfl)) (nomark _))
        (pss_one (ps_if (pt_cmpR op_gt (pe_ix ix_list (pv 3) (pe_un un_neg pe_int) (fun _ _ => rfl)) (pe_ix ix_list (pv 4) (pe_un un_neg pe_int) (fun _ _ => rfl)) (nomark _))
          (pss_one (ps_expr (pe_bm PySem.F.plainAttrs_list PySem.F.slot_list_append PySem.F.type_list_append mt_append (pv 3) (pa_cons (pe_ix ix_tup (pv 0) (pe_ix ix_list (pv 3) (pe_un un_neg pe_int) (fun _ _ => rfl)) (fun _ _ => rfl)) pa_nil))))
          (pss_one (ps_expr (pe_bm PySem.F.plainAttrs_list PySem.F.slot_list_append PySem.F.type_list_append mt_append (pv 4) (pa_cons (pe_ix ix_tup (pv 0) (pe_ix ix_list (pv 4) (pe_un un_neg pe_int) (fun _ _ => rfl)) (fun _ _ => rfl)) pa_nil)))))))
      (pss_one (ps_ret (pe_callTy call_tuple_of (by rfl) B.tuple (by decide +kernel) (pa_cons (pe_op op_cat (pv 3) (pe_revCut (pv 4))) pa_nil))))), ?_⟩
    refine ⟨nV i, rfl, by show 1 ≤ sizeLine; decide, fun pu nu => ⟨nV j, rfl, by show 1 ≤ sizeLine; decide, fun pd nd => ⟨.ref pu, .ref pd, rfl, ?_⟩⟩⟩
    have nud : pd ≠ pu := fun e => by
      rw [e, upd_same] at nd
      cases nd
    have nd0 : H pd = none := by
      rw [upd_ne nud] at nd
      exact nd
    refine ⟨PInv a i j g pu pd H, ⟨i + j, [], [], i, j, rfl, ?_, upd_same, (same_upd nu).trans (same_upd nd), rfl, Nat.le_refl _, Nat.le_refl _, ?_⟩, ?_⟩
    · rw [upd_ne nud.symm]
      exact upd_same
    · rw [List.reverse_nil, List.append_nil]
      rfl
    rintro m σ H1 ⟨us, ds, u, d, rfl, e1, e2, s1, rfl, hu, hd, hp⟩
    have hA1 := s1 _ _ hA
    have hsz : ∀ (l : List Nat) (x : Nat), l.length ≤ 13 → (pV (l ++ [x])).length < sizeLine := fun l x h => by
      rw [pV_length, List.length_append]
      exact small1000 (by simp; omega)
    -- up[-1] != down[-1]
    refine ⟨.ref pu, rfl, 1, rfl, pu, _, -1, nV u, rfl, rfl, SqL.of e1, last_at us u, .ref pd, rfl, 1, rfl, pd, _, -1, nV d, rfl, rfl, SqL.of e2, last_at ds d, rfl, _, rfl, ?_⟩
    refine ite2 (fun c => ?_) (fun c => ?_)
    · have hne : u ≠ d := fun e => by
        rw [e] at c
        simp at c
      refine ⟨fun σ' H' => ∃ m', m' < u + d ∧ PInv a i j g pu pd H m' σ' H', fun _ _ h => h, ?_⟩
      -- if up[-1] > down[-1]
      refine ⟨.ref pu, rfl, 1, rfl, pu, _, -1, nV u, rfl, rfl, SqL.of e1, last_at us u, .ref pd, rfl, 1, rfl, pd, _, -1, nV d, rfl, rfl, SqL.of e2, last_at ds d, (u : Int), (d : Int), rfl, rfl, _, rfl, ?_⟩
      refine ite2 (fun c2 => ?_) (fun c2 => ?_)
      · have hlt : d < u := by
          have := of_decide_eq_true c2
          omega
        have hpr := pr_lt g (x := u) (by omega)
        refine ⟨.ref pu, rfl, .inl ⟨rfl, _, SqL.of e1⟩, .ref a, rfl, .ref pu, rfl, 1, rfl, pu, _, -1, nV u, rfl, rfl, SqL.of e1, last_at us u, a, parV g, (u : Int), nV (pr g u), rfl, rfl, SqT.of hA1, atI_nat (par_at hT (by omega) (by omega)), ?_⟩
        refine ⟨pu, _, _, rfl, rfl, e1, hsz _ _ (by omega), ?_⟩
        refine ⟨pr g u + d, by omega, us ++ [u], ds, pr g u, d, rfl, ?_, ?_, sameWrite s1 nu, rfl, ?_, hd, ?_⟩
        · rw [upd_same, pV_append (us ++ [u]) [pr g u]]
          rfl
        · rw [upd_ne nud]
          exact e2
        · rw [List.length_append]
          simp
          omega
        · rw [← hp, pathB_up hlt]
          simp
      · have hlt : u < d := by
          have : ¬ ((d : Int) < (u : Int)) := fun z => c2 (decide_eq_true z)
          omega
        have hpr := pr_lt g (x := d) (by omega)
        refine ⟨.ref pd, rfl, .inl ⟨rfl, _, SqL.of e2⟩, .ref a, rfl, .ref pd, rfl, 1, rfl, pd, _, -1, nV d, rfl, rfl, SqL.of e2, last_at ds d, a, parV g, (d : Int), nV (pr g d), rfl, rfl, SqT.of hA1, atI_nat (par_at hT (by omega) (by omega)), ?_⟩
        refine ⟨pd, _, _, rfl, rfl, e2, hsz _ _ (by omega), ?_⟩
        refine ⟨u + pr g d, by omega, us, ds ++ [d], u, pr g d, rfl, ?_, ?_, sameWrite s1 nd0, rfl, hu, ?_, ?_⟩
        · rw [upd_ne nud.symm]
          exact e1
        · rw [upd_same, pV_append (ds ++ [d]) [pr g d]]
          rfl
        · rw [List.length_append]
          simp
          omega
        · rw [← hp, pathB_down hlt]
          simp
    · have heq : u = d := by
        by_cases e : u = d
        · exact e
        · exfalso
          refine c ?_
          have : ¬ nV u = nV d := fun z => e (by have := V.int.inj z; omega)
          rw [decide_eq_false this]
          rfl
      subst heq
      rw [pathB_self] at hp
      -- return tuple(up + down[-2::-1])
      refine ⟨.ref pu, rfl, .ref pd, rfl, pd, _, rfl, SqL.of e2, fun q nq => ?_⟩
      have nqu : pu ≠ q := ne_of_none e1 nq
      refine ⟨pu, q, _, _, rfl, rfl, by rw [upd_ne nqu]; exact e1, upd_same, ?_, fun r nr => ?_⟩
      · rw [List.length_reverse, List.length_dropLast, pV_length, pV_length, List.length_append, List.length_append]
        exact Nat.le_of_lt (small1000 (by simp; omega))
      refine ⟨r, _, rfl, .inl ⟨SqL.of upd_same, fun z nz => ?_⟩⟩
      refine k _ z (sameUpd (sameUpd (sameUpd s1 nq) nr) nz) (L2.Same.free (sameUpd (sameUpd s1 nq) nr) nz) ?_
      rw [upd_same, ← hp]
      congr 2
      have e3 : (pV (ds ++ [u])).dropLast = pV ds := by
        rw [pV_append]
        exact dropLast_one _ (nV u)
      rw [e3, pV_append (us ++ [u])]
      congr 1
      unfold pV
      rw [List.map_reverse]
/-! ### is_square -/
def spSq : Sp := fun vs H Q _ => ∃ x : List Nat, vs = [.str (W x)] ∧ x ≠ [] ∧ x.length ≤ 1000 ∧ Q (.bl (sqW x)) H
theorem scSq : FnScope ["word", "half"] ["word"] (defScope sSq) := ⟨rfl, rfl, rfl, by decide +kernel, rfl, by decide +kernel, by decide +kernel⟩
theorem cut_lo (x : List Nat) (h : Nat) : cutS (W x) none (some (h : Int)) = W (x.take h) := by
  unfold cutS
  rw [HT.sIx_none, HT.sIx_nat, tl_W, len_W]
  show (⟨_⟩ : Str) = ⟨_⟩
  congr 2
  rw [List.drop_zero, Nat.sub_zero, List.map_take]
  by_cases c : h ≤ x.length
  · rw [Nat.min_eq_left c]
  · rw [Nat.min_eq_right (by omega), List.take_of_length_le (by simp), List.take_of_length_le (by simp; omega)]
theorem cut_hi (x : List Nat) (h : Nat) : cutS (W x) (some (h : Int)) none = W (x.drop h) := by
  unfold cutS
  rw [HT.sIx_none, HT.sIx_nat, tl_W, len_W]
  show (⟨_⟩ : Str) = ⟨_⟩
  congr 2
  rw [List.map_drop]
  by_cases c : h ≤ x.length
  · rw [Nat.min_eq_left c, List.take_of_length_le (by simp)]
  · rw [Nat.min_eq_right (by omega), Nat.sub_self, List.take_zero, List.drop_eq_nil_of_le (by simp; omega)]
theorem W_eq (x y : List Nat) : decide (V.str (W x) = V.str (W y)) = (x == y) := by
  rw [Bool.eq_iff_iff, decide_eq_true_eq, beq_iff_eq]
  exact ⟨fun e => W_inj (V.str.inj e), fun e => by rw [e]⟩
theorem half_eq (n : Nat) : ((n : Int) / 2) = ((n / 2 : Nat) : Int) := by omega
theorem ok_sq {f : Addr} {fd : FuncData} (F : Fun K "is_square" "is_square" sSq f fd) (B : Bi mg) : FnOk P w K mg base CX0 1 f fd ["word"] spSq := by
  refine F.ok scSq (fun vs H Q E h => ?_) (fun cdv A outer s H vs Q E hr h => ?_)
  · obtain ⟨x, rfl, _⟩ := h
    rfl
  · obtain ⟨x, rfl, hne, hl, k⟩ := h
    refine ⟨_, pss_cons (ps_set (i := 1) scSq.nd rfl (Or.inl rfl) (pe_op op_fdiv (pe_callB call_len (by rfl) B.len (by decide +kernel) (pa_cons (pv 0) pa_nil)) pe_int))
      (pss_one (ps_ret (pe_and (pe_cmpR op_ne (pv 0) pe_str (nomark _))
        (pe_and (pe_cmpR op_eq (pe_op op_mod (pe_callB call_len (by rfl) B.len (by decide +kernel) (pa_cons (pv 0) pa_nil)) pe_int) pe_int (nomark _))
        (pe_one (pe_cmpR op_eq (pe_slice sl_str (pv 0) po_none (po_some (pv 1))) (pe_slice sl_str (pv 0) (po_some (pv 1)) po_none) (nomark _))))))), ?_⟩
    have hlen : (W x).length ≤ sizeLine := by
      rw [len_W]
      exact Nat.le_of_lt (small1000 hl)
    refine ⟨.str (W x), rfl, _, (W x).length, rfl, ⟨hlen, rfl⟩, _, _, rfl, rfl, ⟨by decide, by decide⟩, ?_⟩
    rw [len_W]
    show gName 1 (V.int (((x.length : Nat) : Int) / 2)) _ _ _
    rw [half_eq]
    refine ⟨.str (W x), rfl, rfl, true, ?_, iteT ?_⟩
    · have h1 : ¬ V.str (W x) = V.str (Str.ofString "") := fun e => hne (by
        have e2 := congrArg (fun z : Str => z.length) (V.str.inj e)
        simp only [len_W] at e2
        rw [show (Str.ofString "").length = 0 by decide +kernel] at e2
        exact List.length_eq_zero_iff.mp e2)
      show V.bl (!decide (V.str (W x) = V.str (Str.ofString ""))) = .bl true
      rw [decide_eq_false h1]
      rfl
    refine ⟨.str (W x), rfl, _, (W x).length, rfl, ⟨hlen, rfl⟩, _, _, rfl, rfl, by show (0 : Int) < 2; decide, rfl, _, rfl, ?_⟩
    rw [len_W]
    have hk : sqW x = (x.length % 2 == 0 && x.take (x.length / 2) == x.drop (x.length / 2)) := rfl
    refine ite2 (fun c => ?_) (fun c => ?_)
    · have c1 : x.length % 2 = 0 := by
        have c2 := V.int.inj (of_decide_eq_true c)
        omega
      refine ⟨_, rfl, _, rfl, _, rfl, W x, rfl, hlen, ?_⟩
      refine ⟨_, rfl, _, rfl, _, rfl, W x, rfl, hlen, ?_⟩
      refine ⟨rfl, ?_⟩
      rw [cut_lo, cut_hi]
      show Q (.bl (decide (V.str (W (x.take (x.length / 2))) = V.str (W (x.drop (x.length / 2)))))) H
      rw [W_eq]
      rw [hk, c1] at k
      simpa using k
    · have c1 : ¬ x.length % 2 = 0 := fun e => c (decide_eq_true (by
        have e5 : ((x.length : Nat) : Int) % 2 = 0 := by omega
        exact congrArg V.int e5))
      rw [hk] at k
      have c2 : (x.length % 2 == 0) = false := beq_eq_false_iff_ne.mpr c1
      rw [c2, Bool.false_and] at k
      exact k
end
end Aw

/-! The def path_square -/
namespace Aw
open PySem PySem.Spec PyProof.Rows L2 AwM
abbrev sPSq : Stmt := top 20
section
variable {P : Program} {w : World} {K : PySem.W.Frag} {mg : Str → Option Value} {base : Heap}
def spPSq : Sp := fun vs H Q _ => ∃ (a : Addr) (f wd : List Nat), vs = [.ref a, .str (W wd)] ∧ H a = some (.tup (parV f)) ∧ Tree f ∧ f.length ≤ 13 ∧ wd.length = f.length + 1 ∧ Letters 26 wd ∧
  ∀ H' o, Same H H' → IsClash f (f.length + 1) wd o → (match o with | none => Q .non H' | some p => ∀ t, H' t = some (.tup (pV p)) → Q (.ref t) H')
theorem scPSq : FnScope ["parents", "word", "found", "one", "other", "path", "point"] ["parents", "word"] (defScope sPSq) := ⟨rfl, rfl, rfl, by decide +kernel, rfl, by decide +kernel, by decide +kernel⟩
/-- the paths with a square so far -/
def SqInv (q : Addr) (f wd : List Nat) (n : Nat) (H : Hp) (i j : Nat) (H' : Hp) : Prop := ∃ ts ps, Same H H' ∧ H' q = some (.lst (ts.map V.ref)) ∧ TupsAt H' ts ps ∧ ps.length ≤ i * n + j ∧
  ∀ p, p ∈ ps ↔ (∃ i' j', (i' < i ∧ j' < n ∨ i' = i ∧ j' < j) ∧ p = pathB f i' j') ∧ sqAt wd p = true
theorem SqInv.row {q : Addr} {f wd : List Nat} {n : Nat} {H H' : Hp} {i : Nat} (h : SqInv q f wd n H i n H') : SqInv q f wd n H (i + 1) 0 H' := by
  obtain ⟨ts, ps, h1, h2, h3, h4, h5⟩ := h
  refine ⟨ts, ps, h1, h2, h3, ?_, fun p => ?_⟩
  · rw [Nat.add_mul, Nat.one_mul, Nat.add_zero]
    exact h4
  · rw [h5 p]
    constructor
    · rintro ⟨⟨i', j', c, e⟩, g⟩
      exact ⟨⟨i', j', by omega, e⟩, g⟩
    · rintro ⟨⟨i', j', c, e⟩, g⟩
      exact ⟨⟨i', j', by omega, e⟩, g⟩
theorem pathB_len (f : List Nat) {n i j : Nat} (hi : i < n) (hj : j < n) : (pathB f i j).length ≤ n := nodup_len n _ (pathB_nodup f i j) fun x hx => by
  have := pathB_le f _ _ _ hx
  omega
structure TxtSq (K : PySem.W.Frag) (mg : Str → Option Value) (P : Program) (w : World) (base : Heap) (fP fW fB fS : Addr) (fdP fdW fdB fdS : FuncData) (ds : List Value) : Prop where
  B : Bi mg
  GP : FnOk P w K mg base CX0 3 fP fdP ["value"] spPar
  bP : Binds K fdP ["value"] []
  gP : mg "need_parents" = some (.ref fP)
  kP : PySem.W.keepIn K (.ref fP) = true
  GW : FnOk P w K mg base CX0 1 fW fdW ["value", "most"] spIsWord
  bW : Binds K fdW ["value", "most"] ds
  dW : Vals [.int 200] ds
  gW : mg "is_word" = some (.ref fW)
  kW : PySem.W.keepIn K (.ref fW) = true
  GB : FnOk P w K mg base CX0 1 fB fdB ["parents", "one", "other"] spPath
  bB : Binds K fdB ["parents", "one", "other"] []
  gB : mg "path_between" = some (.ref fB)
  kB : PySem.W.keepIn K (.ref fB) = true
  GS : FnOk P w K mg base CX0 1 fS fdS ["word"] spSq
  bS : Binds K fdS ["word"] []
  gS : mg "is_square" = some (.ref fS)
  kS : PySem.W.keepIn K (.ref fS) = true
theorem ok_psq {f : Addr} {fd : FuncData} {fP fW fB fS : Addr} {fdP fdW fdB fdS : FuncData} {ds : List Value} (F : Fun K "path_square" "path_square" sPSq f fd) (T : TxtSq K mg P w base fP fW fB fS fdP fdW fdB fdS ds) :
    FnOk P w K mg base CX0 4 f fd ["parents", "word"] spPSq := by
  refine F.ok scPSq (fun vs H Q E h => ?_) (fun cdv A outer s H vs Q E hr h => ?_)
  · obtain ⟨a, g, wd, rfl, _⟩ := h
    rfl
  · obtain ⟨a, g, wd, rfl, hA, hT, hl, hwl, hlt, k⟩ := h
    have hr1 : Room 1 _ := hr.mono (by decide)
    refine ⟨_, pss_cons (ps_expr (pe_call T.GP hr (by rfl) T.gP T.kP T.bP .nil pass0 (pa_cons (pv 0) pa_nil)))
      (pss_cons (ps_if (PW.pt (pw_or (pt_not (pt_val (pe_call T.GW hr1 (by rfl) T.gW T.kW T.bW T.dW pass0 (pa_cons (pv 1) pa_nil))))
          (pw_or1 (pt_cmpR op_ne (pe_callB call_len (by rfl) T.B.len (by decide +kernel) (pa_cons (pv 1) pa_nil)) (pe_callB call_len (by rfl) T.B.len (by decide +kernel) (pa_cons (pv 0) pa_nil)) (nomark _))))) (pss_one ps_never) pss_nil)
      (pss_cons (ps_set (i := 2) scPSq.nd rfl (Or.inl rfl) (pe_lst pa_nil))
      (pss_cons (ps_for PassesOwn.never rfl (pi_range1 (by rfl) T.B.range (pa_cons (pe_callB call_len (by rfl) T.B.len (by decide +kernel) (pa_cons (pv 0) pa_nil)) pa_nil)) (pg_name (i := 3) scPSq.nd rfl (Or.inl rfl))
        (pss_one (ps_for PassesOwn.never rfl (pi_range1 (by rfl) T.B.range (pa_cons (pe_callB call_len (by rfl) T.B.len (by decide +kernel) (pa_cons (pv 0) pa_nil)) pa_nil)) (pg_name (i := 4) scPSq.nd rfl (Or.inl rfl))
          (pss_cons (ps_set (i := 5) scPSq.nd rfl (Or.inl rfl) (pe_call T.GB hr1 (by rfl) T.gB T.kB T.bB .nil pass0 (pa_cons (pv 0) (pa_cons (pv 3) (pa_cons (pv 4) pa_nil)))))
          (pss_one (ps_if (pt_val (pe_call T.GS hr1 (by rfl) T.gS T.kS T.bS .nil pass0 (pa_cons (pe_join pe_str
              (pe_lc (own := [("point", 6)]) (g := gName 6) (tt := tYes) rfl scPSq.nd (pi_tup (pv 5)) (blkOk_by (N := ["parents", "word", "found", "one", "other", "path", "point"]) (sc := defScope sPSq) (by decide +kernel))
                (fun _ _ _ _ _ => pg_name (i := 6) scPSq.nd rfl (Or.inl rfl)) (fun _ _ _ _ _ => pts_nil) (fun _ _ _ _ _ => pe_ix ix_str (pv 1) (pv 6) (fun _ _ => rfl)))) pa_nil)))
            (pss_one (ps_expr (pe_bm PySem.F.plainAttrs_list PySem.F.slot_list_append PySem.F.type_list_append mt_append (pv 2) (pa_cons (pv 5) pa_nil)))) pss_nil))))))
      (pss_one (ps_ret (pe_ifExp (pt_cmpR (op_neD hr.units) (pv 2) (pe_lst pa_nil) (nomark _)) (pe_callB (cr_minT rfl hr.units) (by rfl) T.B.min (by decide +kernel) (pa_cons (pv 2) pa_nil)) pe_non)))))), ?_⟩
    -- need_parents(parents)
    refine ⟨.ref a, rfl, a, g, rfl, hA, hT, hl, fun H1 s1 => ?_⟩
    have hlen : (W wd).length ≤ sizeLine := by
      rw [len_W]
      exact Nat.le_of_lt (small1000 (by omega))
    have hlen1 : ∀ H' : Hp, H' a = some (.tup (parV g)) → LenV K (.ref a) H' (parV g).length := fun H' e => .inr ⟨_, SqT.of e, rfl⟩
    -- is_word(word), len(word) != len(parents)
    refine ⟨.str (W wd), rfl, wd, rfl, by omega, hlt, fun H2 s2 => ⟨true, rfl, iteF ?_⟩⟩
    refine ⟨.str (W wd), rfl, _, (W wd).length, rfl, ⟨hlen, rfl⟩, .ref a, rfl, _, (parV g).length, rfl, hlen1 _ (s2 _ _ (s1 _ _ hA)), rfl, false, ?_, iteF ?_⟩
    · show V.bl (!decide (V.int (((W wd).length : Nat) : Int) = V.int (((parV g).length : Nat) : Int))) = .bl false
      rw [len_W, parV_len, hwl, decide_eq_true rfl]
      rfl
    -- found = []
    refine ⟨Nat.zero_le _, fun q nq => ?_⟩
    have s3 : Same H (upd H2 q (.lst [])) := sameUpd (s1.trans s2) nq
    have nq0 : H q = none := (s1.trans s2).free nq
    have hn : (parV g).length = g.length + 1 := parV_len g
    refine ⟨.ref a, rfl, _, (parV g).length, rfl, hlen1 _ (s3 _ _ hA), ((parV g).length : Int), rfl, by omega, by omega, ?_⟩
    refine for_range (lo := 0) (n := (parV g).length) (fun i σ H' => ∃ v3 v4 v5, σ = [some (.ref a), some (.str (W wd)), some (.ref q), v3, v4, v5, none] ∧ SqInv q g wd (g.length + 1) H i 0 H')
      ⟨none, none, none, rfl, [], [], s3, upd_same, .nil, Nat.zero_le _, fun p => ?_⟩ ?_ ?_
    · constructor
      · intro h
        cases h
      · rintro ⟨⟨i', j', c, _⟩, _⟩
        omega
    · rintro i σ H3 hi ⟨v3, v4, v5, rfl, hI⟩
      have s4 : Same H H3 := by
        obtain ⟨_, _, z, _⟩ := hI
        exact z
      refine ⟨.ref a, rfl, _, (parV g).length, rfl, hlen1 _ (s4 _ _ hA), ((parV g).length : Int), rfl, by omega, by omega, ?_⟩
      refine for_range (lo := 0) (n := (parV g).length) (fun j σ H' => ∃ v4 v5, σ = [some (.ref a), some (.str (W wd)), some (.ref q), some (.int (0 + i)), v4, v5, none] ∧ SqInv q g wd (g.length + 1) H i j H')
        ⟨v4, v5, rfl, hI⟩ ?_ ?_
      · rintro j σ H4 hj ⟨v4, v5, rfl, ts, ps, s5, e1, e2, e3, e4⟩
        have ei : (0 : Int) + (i : Int) = (i : Int) := Int.zero_add _
        have ej : (0 : Int) + (j : Int) = (j : Int) := Int.zero_add _
        -- path = path_between(parents, one, other)
        refine ⟨.ref a, rfl, _, rfl, _, rfl, a, g, i, j, by rw [ei, ej]; rfl, s5 _ _ hA, hT, hl, by omega, by omega, fun H5 t s6 nt et => ?_⟩
        have s7 : Same H H5 := s5.trans s6
        have hpl := pathB_len g (n := g.length + 1) (i := i) (j := j) (by omega) (by omega)
        -- is_square("".join(..))
        refine ⟨⟨_, rfl⟩, lc_txt (ip := 5) (iw := 1) (ix := 6) (t := t) (w := wd) (p := pathB g i j) rfl et rfl ?_ (by decide) (fun x hx => ?_) (by omega) (by omega) fun H6 D s8 hD e8 => ?_⟩
        · show 6 < 7
          decide
        · have := pathB_le g _ _ _ hx
          omega
        refine ⟨_, D, (txt wd (pathB g i j)).map fun c => W [c], rfl, rfl, .inl (SqL.of (join_a e8)), join_b (by rw [txt_length]; omega), ?_⟩
        refine ⟨txt wd (pathB g i j), congrArg (fun z => [V.str z]) (join_W _), ?_, by rw [txt_length]; omega, sqAt wd (pathB g i j), rfl, ?_⟩
        · intro e
          have := congrArg List.length e
          rw [txt_length] at this
          exact pathB_ne g i j (List.length_eq_zero_iff.mp this)
        have s9 : Same H4 H6 := s6.trans s8
        have e5 : H6 q = some (.lst (ts.map V.ref)) := s9 _ _ e1
        refine ite2 (fun c => ?_) (fun c => ?_)
        · refine ⟨.ref q, rfl, .inl ⟨rfl, _, SqL.of e5⟩, .ref t, rfl, q, _, _, rfl, rfl, e5, ?_, ?_⟩
          · rw [List.length_map, e2.length]
            refine small1000 (Nat.le_trans e3 ?_)
            have h1 : i * (g.length + 1) ≤ 13 * 14 := Nat.mul_le_mul (by omega) (by omega)
            omega
          · have ht6 : H6 t = some (.tup (pV (pathB g i j))) := s8 _ _ et
            refine ⟨_, _, rfl, ts ++ [t], ps ++ [pathB g i j], sameWrite (s5.trans s9) nq0, ?_, ?_, ?_, fun p => ?_⟩
            · rw [upd_same, List.map_append]
              rfl
            · refine TupsAt.mono (fun b xs e => ?_) (TupsAt.append (e2.same s9) (TupsAt.one ht6))
              have nb : b ≠ q := ne_of e e5 (fun z => nomatch z)
              rw [upd_ne nb]
              exact e
            · rw [List.length_append]
              simp
              omega
            · rw [List.mem_append, e4 p, List.mem_singleton]
              constructor
              · rintro (⟨⟨i', j', h1, h2⟩, h3⟩ | h)
                · exact ⟨⟨i', j', by omega, h2⟩, h3⟩
                · exact ⟨⟨i, j, by omega, h⟩, by rw [h]; exact c⟩
              · rintro ⟨⟨i', j', h1, h2⟩, h3⟩
                by_cases c2 : i' = i ∧ j' = j
                · exact .inr (by rw [h2, c2.1, c2.2])
                · exact .inl ⟨⟨i', j', by omega, h2⟩, h3⟩
        · refine ⟨_, _, rfl, ts, ps, s5.trans s9, e5, e2.same s9, by omega, fun p => ?_⟩
          rw [e4 p]
          constructor
          · rintro ⟨⟨i', j', h1, h2⟩, h3⟩
            exact ⟨⟨i', j', by omega, h2⟩, h3⟩
          · rintro ⟨⟨i', j', h1, h2⟩, h3⟩
            by_cases c2 : i' = i ∧ j' = j
            · rw [h2, c2.1, c2.2] at h3
              exact absurd h3 c
            · exact ⟨⟨i', j', by omega, h2⟩, h3⟩
      · rintro σ H4 ⟨v4, v5, rfl, hI4⟩
        rw [hn] at hI4
        exact ⟨_, _, _, rfl, hI4.row⟩
    · rintro σ H3 ⟨v3, v4, v5, rfl, ts, ps, s4, e1, e2, e3, e4⟩
      rw [hn] at e4
      -- min(found) if found != [] else None
      refine ⟨.ref q, rfl, Nat.zero_le _, fun e ne => ?_⟩
      have neq : q ≠ e := ne_of_none e1 ne
      have e1' : (upd H3 e (.lst [])) q = some (.lst (ts.map V.ref)) := by
        rw [upd_ne neq]
        exact e1
      have e2' : TupsAt (upd H3 e (.lst [])) ts ps := e2.same (same_upd ne)
      have hF : ∀ p, p ∈ ps ↔ (∃ i j, i < g.length + 1 ∧ j < g.length + 1 ∧ p = pathB g i j) ∧ sqAt wd p = true := fun p => by
        rw [e4 p]
        constructor
        · rintro ⟨⟨i', j', h1, h2⟩, h3⟩
          exact ⟨⟨i', j', by omega, by omega, h2⟩, h3⟩
        · rintro ⟨⟨i', j', h1, h2, h3⟩, h4⟩
          exact ⟨⟨i', j', by omega, h3⟩, h4⟩
      refine ne_nil e1' e2' upd_same ⟨_, rfl, ?_⟩
      refine ite2 (fun c => ?_) (fun c => ?_)
      · have hne : ps ≠ [] := fun z => by
          rw [z] at c
          simp at c
        refine ⟨.ref q, rfl, q, ts, ps, rfl, SqL.of e1', e2', hne, fun t p hp hm ht => ?_⟩
        exact k _ (some p) (sameUpd s4 ne) (clash_min hF hp hm) t ht
      · have he : ps = [] := by
          cases ps with
          | nil => rfl
          | cons p ps => exact absurd rfl c
        exact k _ none (sameUpd s4 ne) (clash_empty hF he)
end
end Aw

/-! The def tree_word -/
namespace Aw
open PySem PySem.Spec PyProof.Rows L2 AwM
abbrev sTree : Stmt := top 21
/-! ### rows of paths -/
inductive RowsAt (D : Addr) (H : Hp) : List Addr → List (List (List Nat)) → Prop
  | nil : RowsAt D H [] []
  | cons {r : Addr} {ts : List Addr} {ps : List (List Nat)} {rs : List Addr} {rows : List (List (List Nat))} : r ≠ D → H r = some (.lst (ts.map V.ref)) → TupsAt H ts ps → RowsAt D H rs rows → RowsAt D H (r :: rs) (ps :: rows)
theorem RowsAt.mono {D : Addr} {H H' : Hp} (h1 : ∀ b o, b ≠ D → H b = some o → H' b = some o) (h2 : ∀ b xs, H b = some (.tup xs) → H' b = some (.tup xs)) : ∀ {rs : List Addr} {rows : List (List (List Nat))}, RowsAt D H rs rows → RowsAt D H' rs rows
  | _, _, .nil => .nil
  | _, _, .cons a b c d => .cons a (h1 _ _ a b) (c.mono h2) (RowsAt.mono h1 h2 d)
theorem RowsAt.same {D : Addr} {H H' : Hp} (s : Same H H') {rs : List Addr} {rows : List (List (List Nat))} (h : RowsAt D H rs rows) : RowsAt D H' rs rows := h.mono (fun b o _ e => s b o e) fun b xs e => s b _ e
theorem RowsAt.append {D : Addr} {H : Hp} : ∀ {rs qs : List Addr} {rows rows' : List (List (List Nat))}, RowsAt D H rs rows → RowsAt D H qs rows' → RowsAt D H (rs ++ qs) (rows ++ rows')
  | _, _, _, _, .nil, h => h
  | _, _, _, _, .cons a b c d, h => .cons a b c (RowsAt.append d h)
theorem RowsAt.length {D : Addr} {H : Hp} : ∀ {rs : List Addr} {rows : List (List (List Nat))}, RowsAt D H rs rows → rs.length = rows.length
  | _, _, .nil => rfl
  | _, _, .cons _ _ _ d => congrArg Nat.succ d.length
theorem RowsAt.get {D : Addr} {H : Hp} : ∀ {rs : List Addr} {rows : List (List (List Nat))} {i : Nat} {ps : List (List Nat)}, RowsAt D H rs rows → rows[i]? = some ps → ∃ r ts, rs[i]? = some r ∧ H r = some (.lst (ts.map V.ref)) ∧ TupsAt H ts ps
  | _, _, _, _, .nil, e => by simp at e
  | _, _, 0, _, .cons a b c d, e => by
    simp at e
    subst e
    exact ⟨_, _, rfl, b, c⟩
  | _, _, i + 1, _, .cons a b c d, e => by
    obtain ⟨r, ts, h1, h2⟩ := RowsAt.get (i := i) d (by simpa using e)
    exact ⟨r, ts, by simpa using h1, h2⟩
def rowP (g : List Nat) (k : Nat) : List (List Nat) := (List.range k).map fun one => pathB g one k
def rowsP (g : List Nat) (n : Nat) : List (List (List Nat)) := (List.range n).map (rowP g)
theorem rowsP_at {g : List Nat} {n k : Nat} (h : k < n) : (rowsP g n)[k]? = some (rowP g k) := by
  unfold rowsP
  rw [List.getElem?_map, List.getElem?_range h]
  rfl
/-! ### small readings -/
theorem shaped_ints (p : List Nat) : SeqAt.shaped (.list (p.map fun n : Nat => PyData.int (n : Int))) = true := by
  unfold SeqAt.shaped
  rw [Bool.and_eq_true]
  constructor
  · have h1 : PyData.canLayAll0 (p.map fun n : Nat => PyData.int (n : Int)) = true := by
      induction p with
      | nil => rfl
      | cons x p ih =>
        show PyData.canLayAll0 (PyData.int x :: p.map fun n : Nat => PyData.int (n : Int)) = true
        simp only [PyData.canLayAll0, ih, PyData.canLay0, Bool.and_self]
    simp only [PyData.canLay0, h1]
  · have h4 : (PyData.list (p.map fun n : Nat => PyData.int (n : Int))).depth ≤ 64 := by
      simp only [PyData.depth]
      rw [encP_ints, PySem.W.depth_ints]
      omega
    exact decide_eq_true h4
theorem eq_nil_ints {K : PySem.W.Frag} {H : Hp} {Q : VK} {q e : Addr} {p : List Nat} (h1 : H q = some (.lst (pV p))) (h3 : H e = some (.lst [])) (k : Q (.bl p.isEmpty) H) : rEqD K (.ref q) (.ref e) H Q := by
  refine ⟨.list (p.map fun n : Nat => PyData.int (n : Int)), .list [], .lst (SqL.of h1) (dp_ints p), .lst (SqL.of h3) .nil, shaped_ints p, shaped_ints [], ?_⟩
  have e1 : PyData.eqv (.list (p.map fun n : Nat => PyData.int (n : Int))) (.list []) = p.isEmpty := by
    cases p with
    | nil => simp [PyData.eqv, PyData.eqvAll]
    | cons p ps => simp [PyData.eqv, PyData.eqvAll]
  rw [e1]
  exact k
theorem cut_last (w : List Nat) (c : Nat) : cutS (W (w ++ [c])) none (some (-1)) = W w := by
  unfold cutS
  have e1 : HT.sIx (W (w ++ [c])).length (W (w ++ [c])).length (some (-1)) = w.length := by
    rw [len_W, List.length_append]
    show (if (-1 : Int) < 0 then ((-1 : Int) + ((w.length + 1 : Nat) : Int)).toNat else min (-1 : Int).toNat (w.length + 1)) = w.length
    rw [if_pos (by decide)]
    omega
  rw [e1, HT.sIx_none, tl_W]
  show (⟨_⟩ : Str) = ⟨_⟩
  congr 2
  rw [List.drop_zero, Nat.sub_zero, List.map_append, List.take_left' (by simp)]
theorem let_at : ∀ b, b < 26 → atI LET.cps.toList ((b : Nat) : Int) = some (b + 97) := by decide +kernel
theorem let_len : LET.length ≤ sizeLine := by decide +kernel
/-- the letters tried so far and the next one -/
def nxt (w : List Nat) (b : Nat) : List Nat := w.map (· + 1) ++ [b]
theorem nxt_len (w : List Nat) (b : Nat) : (nxt w b).length = w.length + 1 := by simp [nxt]
theorem nxt_last (w : List Nat) (b : Nat) : atI (pV (nxt w b)) (-1) = some (nV b) := last_at _ _
theorem nxt_pop (w : List Nat) (c b : Nat) : (pV (nxt (w ++ [c]) b)).dropLast = pV (nxt w (c + 1)) := by
  have e1 : pV (nxt (w ++ [c]) b) = pV (nxt w (c + 1)) ++ [nV b] := by
    unfold nxt
    rw [pV_append, List.map_append]
    rfl
  rw [e1]
  exact dropLast_one _ _
theorem ixN_last (n : Nat) : ixN (n + 1) (-1) = some n := by
  unfold ixN
  rw [if_neg (by decide), if_pos (by omega)]
  congr 1
  omega
theorem nxt_set (w : List Nat) (b c : Nat) : (pV (nxt w b)).set w.length (nV c) = pV (nxt w c) := by
  unfold nxt
  rw [pV_append, pV_append, List.set_append_right _ _ (by simp [pV])]
  congr 1
  have e : w.length - (pV (w.map (· + 1))).length = 0 := by simp [pV]
  rw [e]
  rfl
/-- the word of the while: what the search needs -/
def TInv (a R nx : Addr) (f : List Nat) (size : Nat) (H3 : Hp) : Nat → L2.St → Hp → Prop := fun m σ H' => ∃ (wd : List Nat) (b looked : Nat) (v6 : Option V),
  σ = [some (.ref a), some (nV size), some (.ref R), some (.str (W wd)), some (.ref nx), some (nV looked), v6, none, none, none, none] ∧ Same H3 H' ∧ H' nx = some (.lst (pV (nxt wd b))) ∧
  Srch f (f.length + 1) size wd b looked ∧ m = (if wd.length < f.length + 1 then pot size 0 wd b else 0)
theorem snoc_cases (l : List Nat) : l = [] ∨ ∃ (m : List Nat) (c : Nat), l = m ++ [c] := by
  by_cases h : l = []
  · exact .inl h
  · exact .inr ⟨l.dropLast, l.getLast h, (List.dropLast_concat_getLast h).symm⟩
def rJoin (K : PySem.W.Frag) : V → List V → Hp → VK → Prop := fun x xs H Q => ∃ a p, ∃ ys : List Str, x = .str a ∧ xs = [.ref p] ∧ (SqL K H p (ys.map V.str) ∨ SqT K H p (ys.map V.str)) ∧ (ys.map (·.length)).sum + ys.length * a.length ≤ 16777216 ∧ Q (.str (Txt.join a ys)) H
/-- is_square("".join([told[point] for point in path])) -/
def teSq (K : PySem.W.Frag) : TE := tCall spSq [] E0 (tCons (tM1 (rJoin K) (tC (.str (Str.ofString ""))) (tLc (iTup K (tVar 9)) (gName 10) tYes (tOp rIxS (tVar 6) (tVar 10)) [10])) tNil)
def treeN : List Str := ["parents", "size", "paths", "word", "nexts", "looked", "told", "at", "one", "path", "point"]
def scOuter : Scope := { kind := .function, names := [(".0", .local), ("at", .cell), ("range", .globalImplicit), ("parents", .free)], isGenerator := false, isCoroutine := false }
def scAny : Scope := { kind := .function, names := [(".0", .local), ("path", .local), ("is_square", .globalImplicit), ("told", .free)], isGenerator := false, isCoroutine := false }
section
variable {P : Program} {w : World} {K : PySem.W.Frag} {mg : Str → Option Value} {base : Heap}
def spTree : Sp := fun vs H Q _ => ∃ (a : Addr) (f : List Nat) (size : Nat), vs = [.ref a, nV size] ∧ H a = some (.tup (parV f)) ∧ Tree f ∧ f.length ≤ 7 ∧ 1 ≤ size ∧ size ≤ 4 ∧
  ∀ H' o, Same H H' → IsTree f (f.length + 1) size o → (match o with | none => Q .non H' | some wd => Q (.str (W wd)) H')
theorem scTree : FnScope ["parents", "size", "paths", "word", "nexts", "looked", "told", "at", "one", "path", "point"] ["parents", "size"] (defScope sTree) := ⟨rfl, rfl, rfl, by decide +kernel, rfl, by decide +kernel, by decide +kernel⟩
structure TxtTree (K : PySem.W.Frag) (mg : Str → Option Value) (P : Program) (w : World) (base : Heap) (fP fZ fB fS : Addr) (fdP fdZ fdB fdS : FuncData) (t1 t2 : Tok) : Prop where
  B : Bi mg
  GP : FnOk P w K mg base CX0 3 fP fdP ["value"] spPar
  bP : Binds K fdP ["value"] []
  gP : mg "need_parents" = some (.ref fP)
  kP : PySem.W.keepIn K (.ref fP) = true
  GZ : FnOk P w K mg base CX0 3 fZ fdZ ["value"] spSize
  bZ : Binds K fdZ ["value"] []
  gZ : mg "need_size" = some (.ref fZ)
  kZ : PySem.W.keepIn K (.ref fZ) = true
  GB : FnOk P w K mg base CX0 1 fB fdB ["parents", "one", "other"] spPath
  bB : Binds K fdB ["parents", "one", "other"] []
  gB : mg "path_between" = some (.ref fB)
  kB : PySem.W.keepIn K (.ref fB) = true
  GS : FnOk P w K mg base CX0 1 fS fdS ["word"] spSq
  bS : Binds K fdS ["word"] []
  gS : mg "is_square" = some (.ref fS)
  kS : PySem.W.keepIn K (.ref fS) = true
  gl : mg "LETTERS" = some (.str LET t1)
  gm : mg "MOST_LOOKED" = some (.int 20000 t2)
theorem ok_tree {f : Addr} {fd : FuncData} {fP fZ fB fS : Addr} {fdP fdZ fdB fdS : FuncData} {t1 t2 : Tok} (F : Fun K "tree_word" "tree_word" sTree f fd) (T : TxtTree K mg P w base fP fZ fB fS fdP fdZ fdB fdS t1 t2) :
    FnOk P w K mg base CX0 4 f fd ["parents", "size"] spTree := by
  refine F.ok scTree (fun vs H Q E h => ?_) (fun cdv A outer s H vs Q E hr h => ?_)
  · obtain ⟨a, g, size, rfl, _⟩ := h
    rfl
  · obtain ⟨a, g, size, rfl, hA, hT, hl, hz1, hz2, k⟩ := h
    have hr1 : Room 1 _ := hr.mono (by decide)
    refine ⟨_, pss_cons (ps_expr (pe_call T.GP hr (by rfl) T.gP T.kP T.bP .nil pass0 (pa_cons (pv 0) pa_nil)))
      (pss_cons (ps_expr (pe_call T.GZ hr (by rfl) T.gZ T.kZ T.bZ .nil pass0 (pa_cons (pv 1) pa_nil)))
      (pss_cons (ps_setLc (i := 2) (own := [("at", 7)]) (g := gName 7) (tt := tYes) rfl scTree.nd rfl rfl (sw_true rfl rfl rfl (by decide +kernel))
        (pi_range1 (by rfl) T.B.range (pa_cons (pe_callB call_len (by rfl) T.B.len (by decide +kernel) (pa_cons (pv 0) pa_nil)) pa_nil))
        (blkOk_by (N := treeN) (sc := defScope sTree) (by decide +kernel)) (fun _ _ _ _ _ => pg_name (i := 7) scTree.nd rfl (Or.inr rfl)) (fun _ _ _ _ _ => pts_nil)
        (fun _ _ _ _ _ => pe_lc (own := [("one", 8)]) (g := gName 8) (tt := tYes) rfl scTree.nd (pi_range1 (by rfl) T.B.range (pa_cons (pv 7) pa_nil))
          (blkOk_by (N := treeN) (sc := relS scOuter (defScope sTree)) (by decide +kernel)) (fun _ _ _ _ _ => pg_name (i := 8) scTree.nd rfl (Or.inl rfl)) (fun _ _ _ _ _ => pts_nil)
          (fun _ _ _ _ _ => pe_call T.GB hr1 (by rfl) T.gB T.kB T.bB .nil pass0 (pa_cons (pv 0) (pa_cons (pv 8) (pa_cons (pv 7) pa_nil))))))
      (pss_cons (ps_par3 (i := 3) (j := 4) (l := 5) rfl scTree.nd rfl rfl rfl (by decide) (by decide) (by decide) rfl rfl rfl (pa_cons pe_str (pa_cons (pe_lst (pa_cons pe_int pa_nil)) (pa_cons pe_int pa_nil))) (by rfl))
      (pss_cons (ps_while PassesOwn.never (pt_cmpR op_lt (pe_callB call_len (by rfl) T.B.len (by decide +kernel) (pa_cons (pv 3) pa_nil)) (pe_callB call_len (by rfl) T.B.len (by decide +kernel) (pa_cons (pv 0) pa_nil)) (nomark _))
        (pss_cons (ps_aug (i := 5) scTree.nd rfl (.inl rfl) pe_int ip_add)
        (pss_cons (ps_if (pt_cmpR op_gt (pv 5) (pe_glob (v := .int 20000) rfl T.gm ⟨_, rfl⟩) (nomark _)) (pss_one ps_never) pss_nil)
        (pss_one (ps_if (pt_cmpR op_eq (pe_ix ix_list (pv 4) (pe_un un_neg pe_int) (fun _ _ => rfl)) (pv 1) (nomark _))
          (pss_cons (ps_expr (pe_bm0 PySem.F.plainAttrs_list PySem.F.slot_list_pop PySem.F.type_list_pop mt_pop (pv 4)))
          (pss_cons (ps_if (pt_cmpR (op_eqD hr.units) (pv 4) (pe_lst pa_nil) (nomark _)) (pss_one (ps_ret pe_non)) pss_nil)
          (pss_one (ps_set (i := 3) scTree.nd rfl (Or.inl rfl) (pe_slice sl_str (pv 3) po_none (po_some (pe_un un_neg pe_int)))))))
          (pss_cons (ps_set (i := 6) scTree.nd rfl (Or.inr rfl) (pe_op op_add_str (pv 3) (pe_ix ix_str (pe_glob (v := .str LET) rfl T.gl ⟨_, rfl⟩) (pe_ix ix_list (pv 4) (pe_un un_neg pe_int) (fun _ _ => rfl)) (fun _ _ => rfl))))
          (pss_cons (ps_augS (pv 4) (pe_un un_neg pe_int) get_listN pe_int ip_add set_list)
          (pss_one (ps_if (pt_not (pt_val (pe_callB (cr_any rfl) (by rfl) T.B.any (by decide +kernel) (pa_cons
              (pe_lc (own := [("path", 9)]) (g := gName 9) (tt := tYes) (te := teSq K) rfl scTree.nd (pi_list (pe_ix ix_list (pv 2) (pe_callB call_len (by rfl) T.B.len (by decide +kernel) (pa_cons (pv 3) pa_nil)) (fun _ _ => rfl)))
                (blkOk_by (N := treeN) (sc := defScope sTree) (by decide +kernel)) (fun _ _ _ _ _ => pg_name (i := 9) scTree.nd rfl (Or.inl rfl)) (fun _ _ _ _ _ => pts_nil)
                (fun _ _ _ _ _ => by exact pe_call T.GS hr1 (by rfl) T.gS T.kS T.bS .nil pass0 (by exact pa_cons (by exact pe_join pe_str (pe_lc (own := [("point", 10)]) (g := gName 10) (tt := tYes) rfl scTree.nd (pi_tup (pv 9)) (blkOk_by (N := treeN) (sc := relS scAny (defScope sTree)) (by decide +kernel)) (fun _ _ _ _ _ => pg_name (i := 10) scTree.nd rfl (Or.inl rfl)) (fun _ _ _ _ _ => pts_nil) (fun _ _ _ _ _ => pe_ix ix_str (pv 6) (pv 10) (fun _ _ => rfl)))) pa_nil))) pa_nil)))) 
            (pss_cons (ps_set (i := 3) scTree.nd rfl (Or.inl rfl) (pv 6))
            (pss_one (ps_expr (pe_bm PySem.F.plainAttrs_list PySem.F.slot_list_append PySem.F.type_list_append mt_append (pv 4) (pa_cons pe_int pa_nil))))) pss_nil)))))))))
      (pss_one (ps_ret (pv 3))))))), ?_⟩
    have hlen1 : ∀ H' : Hp, H' a = some (.tup (parV g)) → LenV K (.ref a) H' (parV g).length := fun H' e => .inr ⟨_, SqT.of e, rfl⟩
    have hpn : (parV g).length = g.length + 1 := parV_len g
    -- need_parents(parents); need_size(size)
    refine ⟨.ref a, rfl, a, g, rfl, hA, hT, by omega, fun H1 s1 => ?_⟩
    refine ⟨nV size, rfl, (size : Int), rfl, by omega, by omega, ?_⟩
    -- paths
    refine ⟨.ref a, rfl, _, (parV g).length, rfl, hlen1 _ (s1 _ _ hA), ((parV g).length : Int), rfl, by omega, by omega, fun D hD => ?_⟩
    have hD0 : H D = none := s1.free hD
    refine lc_range (lo := 0) (n := (parV g).length) (fun i H' => ∃ rs, Same H H' ∧ H' D = some (.lst (rs.map V.ref)) ∧ RowsAt D H' rs (rowsP g i)) ⟨[], sameUpd s1 hD, upd_same, .nil⟩ ?_ ?_
    · rintro i H2 hi ⟨rs, s2, e1, e2⟩
      refine ⟨wipe_one, ?_⟩
      refine ⟨_, rfl, (i : Int), congrArg (fun z : Int => [V.int z]) (Int.zero_add _), by omega, by omega, fun D2 hD2 => ?_⟩
      refine lc_range (lo := 0) (n := i) (fun j H' => ∃ ts, Same H2 H' ∧ H' D2 = some (.lst (ts.map V.ref)) ∧ TupsAt H' ts ((List.range j).map fun one => pathB g one i)) ⟨[], same_upd hD2, upd_same, .nil⟩ ?_ ?_
      · rintro j H3 hj ⟨ts, s3, e3, e4⟩
        refine ⟨wipe_one, ?_⟩
        refine ⟨.ref a, rfl, _, rfl, _, rfl, a, g, j, i, by rw [Int.zero_add, Int.zero_add]; rfl, (s2.trans s3) _ _ hA, hT, by omega, by omega, by omega, fun H4 t s4 nt et => ?_⟩
        refine ⟨_, s4 _ _ e3, ?_, ts ++ [t], sameWrite (s3.trans s4) hD2, ?_, ?_⟩
        · rw [List.length_map, e4.length, List.length_map, List.length_range]
          exact small1000 (by omega)
        · rw [upd_same, List.map_append]
          rfl
        · rw [List.range_succ, List.map_append]
          refine TupsAt.mono (fun b xs e => ?_) (TupsAt.append (e4.same s4) (TupsAt.one et))
          have nb : b ≠ D2 := ne_of e (s4 _ _ e3) (fun z => nomatch z)
          rw [upd_ne nb]
          exact e
      · rintro H3 ⟨ts, s3, e3, e4⟩
        have eD : H3 D = some (.lst (rs.map V.ref)) := s3 _ _ e1
        have nD2 : D2 ≠ D := (ne_of_none e1 hD2).symm
        have tupk : ∀ (b : Addr) (xs : List V) (o : List V), H3 b = some (.tup xs) → (upd H3 D (.lst o)) b = some (.tup xs) := fun b xs o e => by
          have nb : b ≠ D := ne_of e eD (fun z => nomatch z)
          rw [upd_ne nb]
          exact e
        refine ⟨_, eD, ?_, rs ++ [D2], sameWrite (s2.trans s3) hD0, ?_, ?_⟩
        · rw [List.length_map, e2.length, rowsP, List.length_map, List.length_range]
          exact small1000 (by omega)
        · rw [upd_same, List.map_append]
          rfl
        · have er : rowsP g (i + 1) = rowsP g i ++ [rowP g i] := by
            unfold rowsP
            rw [List.range_succ, List.map_append]
            rfl
          rw [er]
          refine RowsAt.append ((e2.same s3).mono (fun b o nb e => ?_) fun b xs e => tupk b xs _ e) (.cons (ts := ts) nD2 ?_ (e4.mono fun b xs e => tupk b xs _ e) .nil)
          · rw [upd_ne nb]
            exact e
          · rw [upd_ne nD2]
            exact e3
    · rintro H2 ⟨rs, s2, e1, e2⟩
      rw [hpn] at e2
      have eW : Str.ofString "" = W [] := by decide +kernel
      -- word, nexts, looked = '', [0], 0
      refine ⟨by show 1 ≤ sizeLine; decide, fun nx hnx => ⟨_, _, _, rfl, ?_⟩⟩
      refine ⟨TInv a D nx g size H2, ⟨_, [], 0, 0, none, ?_, same_upd hnx, upd_same, Srch.start _ _ _, rfl⟩, ?_⟩
      · show [some (V.ref a), some (nV size), some (.ref D), some (.str (Str.ofString "")), some (.ref nx), some (.int 0), none, none, none, none, none] = _
        rw [eW]
        rfl
      rintro m σ H3 ⟨wd, b, looked, v6, rfl, s3, e3, hS, hm⟩
      have hA3 : H3 a = some (.tup (parV g)) := s3 _ _ (s2 _ _ hA)
      have hwn := hS.wn
      have hlenW : (W wd).length ≤ sizeLine := by
        rw [len_W]
        exact Nat.le_of_lt (small1000 (by omega))
      -- while len(word) < len(parents)
      refine ⟨_, rfl, _, (W wd).length, rfl, ⟨hlenW, rfl⟩, _, rfl, _, (parV g).length, rfl, hlen1 _ hA3, _, _, rfl, rfl, _, rfl, ?_⟩
      refine ite2 (fun c => ?_) (fun c => ?_)
      · have hlt : wd.length < g.length + 1 := by
          have := of_decide_eq_true c
          rw [len_W, hpn] at this
          omega
        rw [if_pos hlt] at hm
        subst hm
        refine ⟨fun σ' H' => ∃ m', m' < pot size 0 wd b ∧ TInv a D nx g size H2 m' σ' H', fun _ _ h => h, ?_⟩
        -- looked += 1; if looked > MOST_LOOKED
        refine ⟨_, rfl, _, _, rfl, rfl, ?_⟩
        refine ⟨_, rfl, _, _, rfl, rfl, false, ?_, iteF ?_⟩
        · have := hS.few (by omega) hlt hz1 hz2
          show V.bl (decide ((20000 : Int) < (looked : Int) + 1)) = .bl false
          rw [decide_eq_false (by omega)]
        -- if nexts[-1] == size
        refine ⟨_, rfl, 1, rfl, nx, _, -1, nV b, rfl, rfl, SqL.of e3, nxt_last wd b, _, rfl, rfl, _, rfl, ?_⟩
        refine ite2 (fun c2 => ?_) (fun c2 => ?_)
        · have hb : b = size := by
            have := V.int.inj (of_decide_eq_true c2)
            omega
          subst hb
          -- nexts.pop()
          have hxs : (pV (nxt wd b))[(pV (nxt wd b)).length - 1]? = some (nV b) := by
            rw [pV_length, nxt_len]
            unfold nxt
            rw [pV_append, List.getElem?_append_right (by rw [pV_length, List.length_map]; omega), pV_length, List.length_map]
            have e5 : wd.length + 1 - 1 - wd.length = 0 := by omega
            rw [e5]
            rfl
          refine ⟨_, rfl, .inl ⟨rfl, _, SqL.of e3⟩, nx, _, nV b, rfl, rfl, e3, hxs, ?_⟩
          rcases snoc_cases wd with rfl | ⟨wd', c', rfl⟩
          · -- if nexts == []: return None
            refine ⟨_, rfl, Nat.zero_le _, fun e ne => ?_⟩
            have nne : nx ≠ e := ne_of_none upd_same ne
            refine eq_nil_ints (p := []) (by rw [upd_ne nne, upd_same]; rfl) upd_same ⟨true, rfl, ?_⟩
            exact k _ none (sameUpd (s2.trans (sameWrite s3 hnx)) ne) fun v hv lv => hS.none hlt hv lv
          · refine ⟨_, rfl, Nat.zero_le _, fun e ne => ?_⟩
            have nne : nx ≠ e := ne_of_none upd_same ne
            refine eq_nil_ints (p := nxt wd' (c' + 1)) (by rw [upd_ne nne, upd_same, nxt_pop]) upd_same ⟨false, ?_, iteF ?_⟩
            · have : (nxt wd' (c' + 1)).isEmpty = false := by
                unfold nxt
                cases wd' <;> rfl
              rw [this]
            -- word = word[:-1]
            refine ⟨_, rfl, 1, rfl, -1, rfl, W (wd' ++ [c']), rfl, hlenW, ?_⟩
            rw [cut_last]
            have hS' := hS.pop hlt
            have hlt' : wd'.length < g.length + 1 := by
              rw [List.length_append] at hlt
              omega
            have hpp := pot_pop (size := b) (c := c') wd' 0
            refine ⟨_, ?_, wd', c' + 1, looked + 1, v6, rfl, sameUpd (sameWrite s3 hnx) ne, ?_, hS', rfl⟩
            · rw [if_pos hlt']
              omega
            · rw [upd_ne nne, upd_same, nxt_pop]
        · have hb : b < size := by
            have h1 := hS.la
            have h2 : b ≠ size := fun e => c2 (decide_eq_true (by rw [e]))
            omega
          -- told = word + LETTERS[nexts[-1]]
          refine ⟨_, rfl, _, rfl, 1, rfl, nx, _, -1, nV b, rfl, rfl, SqL.of e3, nxt_last wd b, LET, (b : Int), b + 97, rfl, rfl, let_len, let_at b (by omega), W wd, W [b], rfl, rfl, ?_, ?_⟩
          · rw [len_W, len_W]
            exact Nat.le_of_lt (small1000 (by simp; omega))
          rw [W_append]
          -- nexts[-1] += 1
          refine ⟨_, rfl, 1, rfl, nx, _, -1, nV b, rfl, rfl, by decide, SqL.of e3, nxt_last wd b, _, _, rfl, rfl, nx, _, -1, wd.length, rfl, rfl, e3, by rw [pV_length, nxt_len]; exact ixN_last _, ?_⟩
          have e6 : (upd H3 nx (.lst ((pV (nxt wd b)).set wd.length (.int ((b : Int) + 1))))) nx = some (.lst (pV (nxt wd (b + 1)))) := by
            rw [upd_same, ← nxt_set wd b (b + 1)]
            rfl
          have s4 : Same H2 (upd H3 nx (.lst ((pV (nxt wd b)).set wd.length (.int ((b : Int) + 1))))) := sameWrite s3 hnx
          revert e6 s4
          generalize upd H3 nx (.lst ((pV (nxt wd b)).set wd.length (.int ((b : Int) + 1)))) = H4
          intro e6 s4
          -- any(..)
          obtain ⟨r, ts, hr1', er, et⟩ := (e2.same s4).get (rowsP_at hlt)
          refine ⟨_, rfl, _, rfl, _, (W wd).length, rfl, ⟨hlenW, rfl⟩, D, rs.map V.ref, ((W wd).length : Int), .ref r, rfl, rfl, SqL.of (s4 _ _ e1), ?_, r, rfl, ⟨_, SqL.of er⟩, fun D3 hD3 => ?_⟩
          · refine atI_nat ?_
            rw [len_W, List.getElem?_map, hr1']
            rfl
          have hokr : ((rowP g wd.length).map (sqAt (wd ++ [b]))).any id = true ↔ ¬ okAt g (wd ++ [b]) wd.length := by
            rw [List.any_eq_true]
            constructor
            · rintro ⟨x, hx, hx2⟩ ok
              obtain ⟨p, hp, rfl⟩ := List.mem_map.mp hx
              obtain ⟨one, ho, rfl⟩ := List.mem_map.mp hp
              have := ok one (List.mem_range.mp ho)
              have hx2 : sqAt (wd ++ [b]) (pathB g one wd.length) = true := hx2
              rw [this] at hx2
              cases hx2
            · intro hno
              by_cases hex : ∃ one, one < wd.length ∧ sqAt (wd ++ [b]) (pathB g one wd.length) = true
              · obtain ⟨one, h1, h2⟩ := hex
                exact ⟨_, List.mem_map.mpr ⟨_, List.mem_map.mpr ⟨one, List.mem_range.mpr h1, rfl⟩, rfl⟩, h2⟩
              · exfalso
                refine hno fun one ho => ?_
                cases q : sqAt (wd ++ [b]) (pathB g one wd.length) with
                | false => rfl
                | true => exact absurd ⟨one, ho, q⟩ hex
          refine lc_list (K := K) (a := r) (xs := ts.map V.ref) (fun i H' => Same H4 H' ∧ H' D3 = some (.lst ((((rowP g wd.length).take i).map (sqAt (wd ++ [b]))).map V.bl))) ⟨same_upd hD3, upd_same⟩ (fun i H' _ s => SqL.of (s.1 _ _ er)) ?_ ?_
          · rintro i x H5 hx ⟨s5, e7⟩
            obtain ⟨t, hti, rfl⟩ : ∃ t, ts[i]? = some t ∧ x = V.ref t := by
              rw [List.getElem?_map] at hx
              cases e : ts[i]? with
              | none =>
                rw [e] at hx
                cases hx
              | some t =>
                rw [e] at hx
                exact ⟨t, rfl, (Option.some.inj hx).symm⟩
            obtain ⟨p, hp, htp⟩ := et.get hti
            obtain ⟨one, ho, hpe⟩ : ∃ one, one < wd.length ∧ p = pathB g one wd.length := by
              have := List.mem_of_getElem? hp
              obtain ⟨one, h1, h2⟩ := List.mem_map.mp this
              exact ⟨one, List.mem_range.mp h1, h2.symm⟩
            have hpl : p.length ≤ 8 := by
              have := pathB_len g (n := wd.length + 1) (i := one) (j := wd.length) (by omega) (by omega)
              rw [← hpe] at this
              omega
            have hi : i < (rowP g wd.length).length := (List.getElem?_eq_some_iff.mp hp).1
            have hrl : (rowP g wd.length).length = wd.length := by simp [rowP]
            refine ⟨wipe_one, ?_⟩
            refine ⟨⟨_, rfl⟩, lc_txt (ip := 9) (iw := 6) (ix := 10) (t := t) (w := wd ++ [b]) (p := p) rfl (s5 _ _ htp) rfl ?_ (by decide) (fun x hx => ?_) ?_ (by omega) fun H6 D4 s6 hD4 e8 => ?_⟩
            · show 10 < 11
              decide
            · rw [hpe] at hx
              have := pathB_le g _ _ _ hx
              rw [List.length_append]
              simp
              omega
            · rw [List.length_append]
              simp
              omega
            refine ⟨_, D4, (txt (wd ++ [b]) p).map fun c => W [c], rfl, rfl, .inl (SqL.of (join_a e8)), join_b (by rw [txt_length]; omega), ?_⟩
            refine ⟨txt (wd ++ [b]) p, congrArg (fun z => [V.str z]) (join_W _), ?_, by rw [txt_length]; omega, _, s6 _ _ e7, ?_, sameWrite (s5.trans s6) hD3, ?_⟩
            · intro e
              have h1 := congrArg List.length e
              rw [txt_length, hpe] at h1
              exact pathB_ne g one wd.length (List.length_eq_zero_iff.mp h1)
            · rw [List.length_map, List.length_map, List.length_take]
              exact small1000 (by omega)
            · rw [upd_same, List.take_add_one, hp, List.map_append, List.map_append]
              rfl
          · rintro H5 ⟨s5, e7⟩
            have e9 : (rowP g wd.length).take (ts.map V.ref).length = rowP g wd.length := by
              rw [List.length_map, et.length, List.take_length]
            rw [e9] at e7
            refine ⟨D3, _, rfl, SqL.of e7, _, rfl, ?_⟩
            refine ite2 (fun c3 => ?_) (fun c3 => ?_)
            · have hok : okAt g (wd ++ [b]) wd.length := Classical.byContradiction fun hno => by
                rw [hokr.mpr hno] at c3
                cases c3
              have hS' := hS.put (by omega) hlt hb hok
              -- word = told; nexts.append(0)
              refine ⟨_, rfl, _, rfl, .inl ⟨rfl, _, SqL.of (s5 _ _ e6)⟩, nx, _, _, rfl, rfl, s5 _ _ e6, ?_, ?_⟩
              · rw [pV_length, nxt_len]
                exact small1000 (by omega)
              · refine ⟨_, ?_, wd ++ [b], 0, looked + 1, _, rfl, sameWrite (s4.trans s5) hnx, ?_, hS', rfl⟩
                · by_cases c4 : (wd ++ [b]).length < g.length + 1
                  · rw [if_pos c4]
                    rw [List.length_append] at c4
                    have h1 := pot_next hb wd 0
                    have h2 := pot_push (size := size) (a := b) wd 0 (by simp at c4; omega)
                    omega
                  · rw [if_neg c4]
                    exact pot_pos size wd 0 b
                · rw [upd_same]
                  unfold nxt
                  rw [List.map_append, pV_append, pV_append, pV_append]
                  rfl
            · have hok : ¬ okAt g (wd ++ [b]) wd.length := hokr.mp (by
                cases q : ((rowP g wd.length).map (sqAt (wd ++ [b]))).any id with
                | true => rfl
                | false =>
                  rw [q] at c3
                  exact absurd rfl c3)
              have hS' := hS.skip hlt hb hok
              refine ⟨_, ?_, wd, b + 1, looked + 1, _, rfl, s4.trans s5, s5 _ _ e6, hS', rfl⟩
              rw [if_pos hlt]
              have h1 := pot_next hb wd 0
              omega
      · have hwl : wd.length = g.length + 1 := by
          have : ¬ (((W wd).length : Int) < ((parV g).length : Int)) := fun z => c (decide_eq_true z)
          rw [len_W, hpn] at this
          omega
        -- return word
        exact ⟨_, rfl, k _ (some wd) (s2.trans s3) ⟨hwl, hS.lw, hS.gd, fun v hv lv gv => hS.least hwl hv lv gv⟩⟩
end
end Aw

/-! The law's helpers: _law_taken, _law_alike -/
namespace Aw
open PySem PySem.Spec PyProof.Rows L2 AwM
abbrev sTaken : Stmt := top 23
abbrev sAlike : Stmt := top 24
/-- all but the list at r is as it was -/
def SameBut (r : Addr) (H H' : Hp) : Prop := ∀ b o, b ≠ r → H b = some o → H' b = some o
theorem SameBut.refl (r : Addr) (H : Hp) : SameBut r H H := fun _ _ _ h => h
theorem SameBut.trans {r : Addr} {H H1 H2 : Hp} (a : SameBut r H H1) (b : SameBut r H1 H2) : SameBut r H H2 := fun c o n h => b c o n (a c o n h)
theorem SameBut.of {r : Addr} {H H' : Hp} (a : Same H H') : SameBut r H H' := fun b o _ h => a b o h
theorem SameBut.write {r : Addr} {H H' : Hp} {o : HO} (a : SameBut r H H') : SameBut r H (upd H' r o) := fun b u n h => by
  rw [upd_ne n]
  exact a b u n h
theorem SameBut.new {r p : Addr} {H H' : Hp} {o : HO} (a : SameBut r H H') (h : H p = none) : SameBut r H (upd H' p o) := fun b u n e => by
  rw [upd_ne (ne_of_none e h)]
  exact a b u n e
theorem SameBut.free {r p : Addr} {H H' : Hp} (a : SameBut r H H') (n : p ≠ r) (h : H' p = none) : H p = none := by
  cases e : H p with
  | none => rfl
  | some o =>
    rw [a p o n e] at h
    cases h
/-- the draws' row -/
def rowV (sc : Addr) (i x y : Int) : List V := [.ref sc, .int i, .int x, .int y]
def RowAt (H : Hp) (r sc : Addr) : Prop := ∃ i x y : Int, H r = some (.lst (rowV sc i x y)) ∧ 0 ≤ i ∧ 0 ≤ x ∧ x < 2147483647
theorem row_script {K : PySem.W.Frag} {H H' : Hp} {r sc : Addr} {ns : List Int} {row : List V} (h : SqL K H sc (ns.map V.int)) (hr : H r = some (.lst (.ref sc :: row))) (s : SameBut r H H') : SqL K H' sc (ns.map V.int) := by
  have key : ∀ u : HO, H sc = some u → (u = .lst (ns.map V.int) ∨ ∃ o, u = .frz o (.lst (ns.map V.int))) → sc ≠ r := by
    rintro u h1 h2 rfl
    rw [hr] at h1
    have h3 := Option.some.inj h1
    rcases h2 with h2 | ⟨o, h2⟩
    · rw [h2] at h3
      have h4 := HO.lst.inj h3
      cases ns with
      | nil => cases h4
      | cons n ns => cases (List.cons.inj h4).1
    · rw [h2] at h3
      cases h3
  rcases h with (h | ⟨o, h⟩) | h
  · exact .inl (.inl (s _ _ (key _ h (.inl rfl)) h))
  · exact .inl (.inr ⟨o, s _ _ (key _ h (.inr ⟨o, rfl⟩)) h⟩)
  · exact .inr h
theorem row_keep {K : PySem.W.Frag} {H H' : Hp} {r sc : Addr} {ns : List Int} (h : SqL K H sc (ns.map V.int)) (hr : RowAt H r sc) (s : SameBut r H H') : SqL K H' sc (ns.map V.int) := by
  obtain ⟨i, x, y, e, _⟩ := hr
  exact row_script h e s
section
variable {P : Program} {w : World} {K : PySem.W.Frag} {mg : Str → Option Value} {base : Heap}
/-! ### _law_taken -/
def spTaken (K : PySem.W.Frag) : Sp := fun vs H Q _ => ∃ (r sc : Addr) (ns : List Int) (m : Nat), vs = [.ref r, nV m] ∧ 0 < m ∧ m ≤ 1000 ∧ RowAt H r sc ∧ SqL K H sc (ns.map V.int) ∧
  ∀ H' v, SameBut r H H' → RowAt H' r sc → v < m → Q (nV v) H'
theorem scTaken : FnScope ["_law_row", "_law_many", "_law_found", "_law_cell"] ["_law_row", "_law_many"] (defScope sTaken) := ⟨rfl, rfl, rfl, by decide +kernel, rfl, by decide +kernel, by decide +kernel⟩
theorem toNat_lt {z : Int} {m : Nat} (h0 : 0 < m) : ∃ v : Nat, v < m ∧ z % (m : Int) = (v : Int) := by
  have h1 := Int.emod_nonneg z (show (m : Int) ≠ 0 by omega)
  have h2 := Int.emod_lt_of_pos z (show (0 : Int) < (m : Int) by omega)
  exact ⟨(z % (m : Int)).toNat, by omega, by omega⟩
theorem row_at0 {sc : Addr} {i x y : Int} : atI (rowV sc i x y) 0 = some (.ref sc) := rfl
theorem row_at1 {sc : Addr} {i x y : Int} : atI (rowV sc i x y) 1 = some (.int i) := rfl
theorem row_at2 {sc : Addr} {i x y : Int} : atI (rowV sc i x y) 2 = some (.int x) := rfl
theorem row_at3 {sc : Addr} {i x y : Int} : atI (rowV sc i x y) 3 = some (.int y) := rfl
theorem ok_taken {f : Addr} {fd : FuncData} (F : Fun K "_law_taken" "_law_taken" sTaken f fd) (B : Bi mg) : FnOk P w K mg base CX0 1 f fd ["_law_row", "_law_many"] (spTaken K) := by
  refine F.ok scTaken (fun vs H Q E h => ?_) (fun cdv A outer s H vs Q E hr h => ?_)
  · obtain ⟨r, sc, ns, m, rfl, _⟩ := h
    rfl
  · obtain ⟨r, sc, ns, m, rfl, hm, hm2, ⟨i, x, y, e0, hi, hx1, hx2⟩, hS, k⟩ := h
    have hcd : CDiv y (m : Int) := ⟨by omega, by omega⟩
    refine ⟨_, pss_cons (ps_if (pt_cmpR op_gt (pe_ix ix_list (pv 0) pe_int (fun _ _ => rfl)) pe_int (nomark _))
        (pss_cons (ps_set (i := 2) scTaken.nd rfl (Or.inl rfl) (pe_op op_mod (pe_callTy call_int1 (by rfl) B.int (by decide +kernel) (pa_cons (pe_ix ix_list (pv 0) pe_int (fun _ _ => rfl)) pa_nil)) (pv 1)))
        (pss_cons (ps_asg (pe_op op_fdiv (pe_ix ix_list (pv 0) pe_int (fun _ _ => rfl)) (pv 1)) (pg_sub (pv 0) pe_int set_list))
        (pss_one (ps_ret (pv 2))))) pss_nil)
      (pss_cons (ps_asg (pe_op op_add (pe_ix ix_list (pv 0) pe_int (fun _ _ => rfl)) pe_int) (pg_sub (pv 0) pe_int set_list))
      (pss_cons (ps_if (pt_cmpR op_gt (pe_ix ix_list (pv 0) pe_int (fun _ _ => rfl)) (pe_callB call_len_seq (by rfl) B.len PySem.boot_len (pa_cons (pe_ix ix_list (pv 0) pe_int (fun _ _ => rfl)) pa_nil)) (nomark _))
        (pss_cons (ps_asg (pe_op op_mod (pe_callTy call_int1 (by rfl) B.int (by decide +kernel) (pa_cons (pe_op op_add (pe_op op_mul (pe_ix ix_list (pv 0) pe_int (fun _ _ => rfl)) pe_int) pe_int) pa_nil)) pe_int) (pg_sub (pv 0) pe_int set_list))
        (pss_one (ps_ret (pe_op op_mod (pe_callTy call_int1 (by rfl) B.int (by decide +kernel) (pa_cons (pe_op op_fdiv (pe_ix ix_list (pv 0) pe_int (fun _ _ => rfl)) pe_int) pa_nil)) (pv 1))))) pss_nil)
      (pss_cons (ps_set (i := 3) scTaken.nd rfl (Or.inl rfl) (pe_ix ix_list (pe_ix ix_list (pv 0) pe_int (fun _ _ => rfl)) (pe_op op_sub (pe_ix ix_list (pv 0) pe_int (fun _ _ => rfl)) pe_int) (fun _ _ => rfl)))
      (pss_cons (ps_asg (pe_op op_mod (pe_callTy call_int1 (by rfl) B.int (by decide +kernel) (pa_cons (pe_op op_add (pe_op op_add (pe_op op_mul (pe_ix ix_list (pv 0) pe_int (fun _ _ => rfl)) pe_int) (pv 3)) pe_int) pa_nil)) pe_int) (pg_sub (pv 0) pe_int set_list))
      (pss_cons (ps_if (pt_cmpR op_ge (pv 3) (pe_op op_pow pe_int pe_int) (nomark _))
        (pss_one (ps_asg (pe_op op_fdiv (pv 3) (pv 1)) (pg_sub (pv 0) pe_int set_list))) pss_nil)
      (pss_one (ps_ret (pe_op op_mod (pe_callTy call_int1 (by rfl) B.int (by decide +kernel) (pa_cons (pv 3) pa_nil)) (pv 1))))))))), ?_⟩
    -- if _law_row[3] > 0
    refine ⟨.ref r, rfl, r, _, 3, .int y, rfl, rfl, SqL.of e0, row_at3, _, _, rfl, rfl, _, rfl, ?_⟩
    refine ite2 (fun c => ?_) (fun c => ?_)
    · refine ⟨.ref r, rfl, r, _, 3, .int y, rfl, rfl, SqL.of e0, row_at3, .inl ⟨y, rfl, _, rfl, y, (m : Int), rfl, rfl, by show (0 : Int) < (m : Int); omega, ?_⟩⟩
      refine ⟨.ref r, rfl, r, _, 3, .int y, rfl, rfl, SqL.of e0, row_at3, _, rfl, y, (m : Int), rfl, rfl, hcd, .ref r, rfl, r, _, 3, 3, rfl, rfl, e0, rfl, ?_⟩
      obtain ⟨v, hv, ev⟩ := toNat_lt (z := y) hm
      refine ⟨_, rfl, ?_⟩
      show Q (.int (y % (m : Int))) _
      rw [ev]
      exact k _ v (SameBut.refl r H).write ⟨i, x, y / (m : Int), upd_same, hi, hx1, hx2⟩ hv
    · -- _law_row[1] = _law_row[1] + 1
      refine ⟨.ref r, rfl, r, _, 1, .int i, rfl, rfl, SqL.of e0, row_at1, i, 1, rfl, rfl, .ref r, rfl, r, _, 1, 1, rfl, rfl, e0, rfl, ?_⟩
      have s1 : SameBut r H (upd H r (.lst ((rowV sc i x y).set 1 (.int (i + 1))))) := (SameBut.refl r H).write
      have e1 : (upd H r (.lst ((rowV sc i x y).set 1 (.int (i + 1))))) r = some (.lst (rowV sc (i + 1) x y)) := upd_same
      revert s1 e1
      generalize upd H r (.lst ((rowV sc i x y).set 1 (.int (i + 1)))) = H1
      intro s1 e1
      have hS1 := row_script hS e0 s1
      -- if _law_row[1] > len(_law_row[0])
      refine ⟨.ref r, rfl, r, _, 1, .int (i + 1), rfl, rfl, SqL.of e1, row_at1, .ref r, rfl, r, _, 0, .ref sc, rfl, rfl, SqL.of e1, row_at0, sc, _, rfl, .inl hS1, _, _, rfl, rfl, _, rfl, ?_⟩
      refine ite2 (fun c2 => ?_) (fun c2 => ?_)
      · refine ⟨.ref r, rfl, r, _, 2, .int x, rfl, rfl, SqL.of e1, row_at2, x, 48271, rfl, rfl, .inl ⟨by omega, by omega⟩, x * 48271, 11, rfl, rfl, .inl ⟨_, rfl, _, 2147483647, rfl, rfl, by show (0 : Int) < 2147483647; decide, .ref r, rfl, r, _, 2, 2, rfl, rfl, e1, rfl, ?_⟩⟩
        refine ⟨.ref r, rfl, r, rowV sc (i + 1) ((x * 48271 + 11) % 2147483647) y, 2, .int ((x * 48271 + 11) % 2147483647), rfl, rfl, SqL.of upd_same, row_at2, _, 7, rfl, rfl, ⟨by decide, by decide⟩, .inl ⟨_, rfl, _, rfl, _, (m : Int), rfl, rfl, by show (0 : Int) < (m : Int); omega, ?_⟩⟩
        obtain ⟨v, hv, ev⟩ := toNat_lt (z := (x * 48271 + 11) % 2147483647 / 7) hm
        show Q (.int ((x * 48271 + 11) % 2147483647 / 7 % (m : Int))) _
        rw [ev]
        exact k _ v s1.write ⟨i + 1, _, y, upd_same, by omega, Int.emod_nonneg _ (by decide), Int.emod_lt_of_pos _ (by decide)⟩ hv
      · have hil : (i + 1 : Int) ≤ ((ns.map V.int).length : Nat) := by
          have : ¬ ((((ns.map V.int).length : Nat) : Int) < i + 1) := fun z => c2 (decide_eq_true z)
          omega
        obtain ⟨j, rfl⟩ : ∃ j : Nat, i = (j : Int) := ⟨i.toNat, by omega⟩
        have hj : j < ns.length := by
          rw [List.length_map] at hil
          omega
        have hat : atI (ns.map V.int) (((j : Int) + 1) - 1) = some (.int ns[j]) := by
          have e5 : ((j : Int) + 1) - 1 = (j : Int) := by omega
          rw [e5]
          refine atI_nat ?_
          rw [List.getElem?_map, List.getElem?_eq_getElem hj]
          rfl
        -- _law_cell = _law_row[0][_law_row[1] - 1]
        refine ⟨.ref r, rfl, r, _, 0, .ref sc, rfl, rfl, SqL.of e1, row_at0, .ref r, rfl, r, _, 1, .int ((j : Int) + 1), rfl, rfl, SqL.of e1, row_at1, _, 1, rfl, rfl, sc, _, _, _, rfl, rfl, hS1, hat, ?_⟩
        generalize ns[j] = cell
        -- _law_row[2] = ..
        refine ⟨.ref r, rfl, r, _, 2, .int x, rfl, rfl, SqL.of e1, row_at2, x, 48271, rfl, rfl, .inl ⟨by omega, by omega⟩, _, rfl, x * 48271, cell, rfl, rfl, x * 48271 + cell, 11, rfl, rfl, .inl ⟨_, rfl, _, 2147483647, rfl, rfl, by show (0 : Int) < 2147483647; decide, .ref r, rfl, r, _, 2, 2, rfl, rfl, e1, rfl, ?_⟩⟩
        -- if _law_cell >= 10 ** 18
        have hrow : ∀ y' : Int, RowAt (upd H1 r (.lst (rowV sc ((j : Int) + 1) ((x * 48271 + cell + 11) % 2147483647) y'))) r sc := fun y' => ⟨_, _, y', upd_same, by omega, Int.emod_nonneg _ (by decide), Int.emod_lt_of_pos _ (by decide)⟩
        obtain ⟨v, hv, ev⟩ := toNat_lt (z := cell) hm
        refine ⟨_, rfl, 10, 18, rfl, rfl, ⟨by decide, by decide, by decide⟩, _, _, rfl, rfl, _, rfl, ?_⟩
        refine ite2 (fun c3 => ?_) (fun c3 => ?_)
        · refine ⟨_, rfl, _, rfl, cell, (m : Int), rfl, rfl, ⟨by omega, by omega⟩, .ref r, rfl, r, rowV sc ((j : Int) + 1) ((x * 48271 + cell + 11) % 2147483647) y, 3, 3, rfl, rfl, upd_same, rfl, ?_⟩
          refine ⟨_, rfl, .inl ⟨cell, rfl, _, rfl, cell, (m : Int), rfl, rfl, by show (0 : Int) < (m : Int); omega, ?_⟩⟩
          show Q (.int (cell % (m : Int))) _
          rw [ev]
          rw [upd_upd]
          exact k _ v s1.write (hrow _) hv
        · refine ⟨_, rfl, .inl ⟨cell, rfl, _, rfl, cell, (m : Int), rfl, rfl, by show (0 : Int) < (m : Int); omega, ?_⟩⟩
          show Q (.int (cell % (m : Int))) _
          rw [ev]
          exact k _ v s1.write (hrow y) hv
/-! ### _law_alike -/
theorem scAlike : FnScope ["_law_found", "_law_due", "_law_k"] ["_law_found", "_law_due"] (defScope sAlike) := ⟨rfl, rfl, rfl, by decide +kernel, rfl, by decide +kernel, by decide +kernel⟩
/-- two equal numbers -/
def spAlike1 : Sp := fun vs H Q _ => ∃ i : Int, vs = [.int i, .int i] ∧ ∀ H', Same H H' → Q (.bl true) H'
theorem kitTL {K : PySem.W.Frag} {b : Bool} {T : String} (h1 : kitB T "tuple" = some b) (h2 : b = false → kitB T "list" = some false) : PySem.W.kitAny K (.type T) [.type "tuple", .type "list"] = some b := by
  cases b with
  | true => exact kitAny_cons (kit_ty h1) (fun e => nomatch e) fun _ => rfl
  | false => exact kitAny_cons (kit_ty h1) (fun _ => kitAny_cons (kit_ty (h2 rfl)) (fun _ => kitAny_nil) fun e => nomatch e) fun e => nomatch e
theorem pairTL : Paired ClsV [.ty "tuple", .ty "list"] [.type "tuple", .type "list"] := .cons (.ty _) (.cons (.ty _) .nil)
theorem ok_alike1 {f : Addr} {fd : FuncData} (F : Fun K "_law_alike" "_law_alike" sAlike f fd) (B : Bi mg) : FnOk P w K mg base CX0 1 f fd ["_law_found", "_law_due"] spAlike1 := by
  refine F.ok scAlike (fun vs H Q E h => ?_) (fun cdv A outer s H vs Q E hr h => ?_)
  · obtain ⟨i, rfl, _⟩ := h
    rfl
  · obtain ⟨i, rfl, k⟩ := h
    refine ⟨_, pss_cons (ps_if (pt_val (pe_callB call_isiT (by rfl) B.isi (by decide +kernel) (pa_cons (pv 1) (pa_cons (pe_tup (pa_cons (pe_bltn (v := .ty "tuple") (u := .type "tuple") (by rfl) B.tuple (by decide +kernel) rfl) (pa_cons (pe_bltn (v := .ty "list") (u := .type "list") (by rfl) B.list (by decide +kernel) rfl) pa_nil))) pa_nil)))) pss_never pss_nil)
      (pss_cons (ps_if (PW.pt (pw_or (pt_cmpR op_isN (pv 1) pe_non (nomark _)) (pw_or1 (pt_val (pe_callB call_isi (by rfl) B.isi (by decide +kernel) (pa_cons (pv 1) (pa_cons (pe_bltn (v := .ty "str") (u := .type "str") (by rfl) B.str (by decide +kernel) rfl) pa_nil))))))) pss_never pss_nil)
      (pss_one (ps_ret (pe_and (pe_callB call_isi (by rfl) B.isi (by decide +kernel) (pa_cons (pv 0) (pa_cons (pe_bltn (v := .ty "int") (u := .type "int") (by rfl) B.int (by decide +kernel) rfl) pa_nil)))
        (pe_and (pe_cmpR op_eq (pe_callB call_isi (by rfl) B.isi (by decide +kernel) (pa_cons (pv 0) (pa_cons (pe_bltn (v := .ty "bool") (u := .type "bool") (by rfl) B.bool (by decide +kernel) rfl) pa_nil)))
            (pe_callB call_isi (by rfl) B.isi (by decide +kernel) (pa_cons (pv 1) (pa_cons (pe_bltn (v := .ty "bool") (u := .type "bool") (by rfl) B.bool (by decide +kernel) rfl) pa_nil))) (nomark _))
        (pe_one (pe_cmpR op_eq (pv 0) (pv 1) (nomark _)))))))), ?_⟩
    refine ⟨.int i, rfl, by show 2 ≤ sizeLine; decide, fun p hp => ?_⟩
    refine ⟨.int i, p, _, .type "int", _, false, rfl, upd_same, pairTL, .base (.int i), kitTL (by decide +kernel) (fun _ => by decide +kernel), ?_⟩
    refine ⟨false, rfl, iteF ?_⟩
    refine ⟨.int i, rfl, rfl, false, rfl, iteF ?_⟩
    refine ⟨.int i, rfl, .int i, .ty "str", .type "int", .type "str", false, rfl, .ty "str", .base (.int i), kit_ty (by decide +kernel), false, rfl, iteF ?_⟩
    refine ⟨.int i, rfl, .int i, .ty "int", .type "int", .type "int", true, rfl, .ty "int", .base (.int i), kit_ty (by decide +kernel), true, rfl, iteT ?_⟩
    refine ⟨.int i, rfl, .int i, .ty "bool", .type "int", .type "bool", false, rfl, .ty "bool", .base (.int i), kit_ty (by decide +kernel), ?_⟩
    refine ⟨.int i, rfl, .int i, .ty "bool", .type "int", .type "bool", false, rfl, .ty "bool", .base (.int i), kit_ty (by decide +kernel), rfl, true, rfl, iteT ?_⟩
    refine ⟨.int i, rfl, .int i, rfl, rfl, ?_⟩
    show Q (.bl (decide (V.int i = V.int i))) _
    rw [decide_eq_true rfl]
    exact k _ (same_upd hp)
/-- two Nones, two tuples of the same numbers -/
def spAlike2 : Sp := fun vs H Q _ => (vs = [.non, .non] ∨ ∃ (a b : Addr) (p : List Nat), vs = [.ref a, .ref b] ∧ H a = some (.tup (pV p)) ∧ H b = some (.tup (pV p)) ∧ p.length ≤ 1000) ∧ ∀ H', Same H H' → Q (.bl true) H'
def ttAlike (K : PySem.W.Frag) : TT := tNot (tB (tCall spAlike1 [] E0 (tCons (tOp (rIxT K) (tVar 0) (tVar 2)) (tCons (tOp (rIxT K) (tVar 1) (tVar 2)) tNil))))
theorem ok_alike2 {f : Addr} {fd : FuncData} (F : Fun K "_law_alike" "_law_alike" sAlike f fd) (B : Bi mg) (bA : Binds K fd ["_law_found", "_law_due"] []) (gA : mg "_law_alike" = some (.ref f)) : FnOk P w K mg base CX0 2 f fd ["_law_found", "_law_due"] spAlike2 := by
  have GA : FnOk P w K mg base CX0 1 f fd ["_law_found", "_law_due"] spAlike1 := ok_alike1 F B
  refine F.ok scAlike (fun vs H Q E h => ?_) (fun cdv A outer s H vs Q E hr h => ?_)
  · obtain ⟨rfl | ⟨_, _, _, rfl, _⟩, _⟩ := h <;> rfl
  · refine ⟨_, pss_cons (ps_if (pt_val (pe_callB call_isiT (by rfl) B.isi (by decide +kernel) (pa_cons (pv 1) (pa_cons (pe_tup (pa_cons (pe_bltn (v := .ty "tuple") (u := .type "tuple") (by rfl) B.tuple (by decide +kernel) rfl) (pa_cons (pe_bltn (v := .ty "list") (u := .type "list") (by rfl) B.list (by decide +kernel) rfl) pa_nil))) pa_nil))))
        (pss_cons (ps_if (PW.pt (pw_or
            (pt_not (pt_val (pe_callB call_isiT (by rfl) B.isi (by decide +kernel) (pa_cons (pv 0) (pa_cons (pe_tup (pa_cons (pe_bltn (v := .ty "tuple") (u := .type "tuple") (by rfl) B.tuple (by decide +kernel) rfl) (pa_cons (pe_bltn (v := .ty "list") (u := .type "list") (by rfl) B.list (by decide +kernel) rfl) pa_nil))) pa_nil)))))
            (pw_or1 (pt_cmpR op_ne (pe_callB call_isi (by rfl) B.isi (by decide +kernel) (pa_cons (pv 0) (pa_cons (pe_bltn (v := .ty "list") (u := .type "list") (by rfl) B.list (by decide +kernel) rfl) pa_nil)))
              (pe_callB call_isi (by rfl) B.isi (by decide +kernel) (pa_cons (pv 1) (pa_cons (pe_bltn (v := .ty "list") (u := .type "list") (by rfl) B.list (by decide +kernel) rfl) pa_nil))) (nomark _))))) pss_never pss_nil)
        (pss_cons (ps_if (pt_cmpR op_ne (pe_callB call_len_seq (by rfl) B.len PySem.boot_len (pa_cons (pv 0) pa_nil)) (pe_callB call_len_seq (by rfl) B.len PySem.boot_len (pa_cons (pv 1) pa_nil)) (nomark _)) pss_never pss_nil)
        (pss_one (ps_ret (pe_cmpR (op_eqD hr.units) (pe_lc (own := [("_law_k", 2)]) (g := gName 2) (tt := ttAlike K) (te := tVar 2) rfl scAlike.nd
            (pi_range1 (by rfl) B.range (pa_cons (pe_callB call_len_seq (by rfl) B.len PySem.boot_len (pa_cons (pv 1) pa_nil)) pa_nil))
            (blkOk_by (N := ["_law_found", "_law_due", "_law_k"]) (sc := defScope sAlike) (by decide +kernel)) (fun _ _ _ _ _ => pg_name (i := 2) scAlike.nd rfl (Or.inl rfl))
            (fun _ _ _ _ _ => by exact pts_one (by exact pt_not (by exact pt_val (by exact pe_call GA hr (by rfl) gA F.kp bA .nil pass0 (by exact pa_cons (by exact pe_ix ix_tup (pv 0) (pv 2) (fun _ _ => rfl)) (by exact pa_cons (by exact pe_ix ix_tup (pv 1) (pv 2) (fun _ _ => rfl)) pa_nil))))))
            (fun _ _ _ _ _ => pv 2)) (pe_lst pa_nil) (nomark _)))))) pss_nil)
      (pss_cons (ps_if (PW.pt (pw_or (pt_cmpR op_isN (pv 1) pe_non (nomark _)) (pw_or1 (pt_val (pe_callB call_isi (by rfl) B.isi (by decide +kernel) (pa_cons (pv 1) (pa_cons (pe_bltn (v := .ty "str") (u := .type "str") (by rfl) B.str (by decide +kernel) rfl) pa_nil)))))))
        (pss_one (ps_ret (pe_and (pe_cmpR op_eq (pv 0) (pv 1) (nomark _)) (pe_one (pe_cmpR op_eq (pe_callB call_isi (by rfl) B.isi (by decide +kernel) (pa_cons (pv 0) (pa_cons (pe_bltn (v := .ty "str") (u := .type "str") (by rfl) B.str (by decide +kernel) rfl) pa_nil)))
          (pe_callB call_isi (by rfl) B.isi (by decide +kernel) (pa_cons (pv 1) (pa_cons (pe_bltn (v := .ty "str") (u := .type "str") (by rfl) B.str (by decide +kernel) rfl) pa_nil))) (nomark _)))))) pss_nil)
      pss_never), ?_⟩
    obtain ⟨hv, k⟩ := h
    rcases hv with rfl | ⟨a, b, p, rfl, ha, hb, hpl⟩
    · refine ⟨.non, rfl, by show 2 ≤ sizeLine; decide, fun q hq => ?_⟩
      refine ⟨.non, q, _, .type "NoneType", _, false, rfl, upd_same, pairTL, .base .non, kitTL (by decide +kernel) (fun _ => by decide +kernel), ?_⟩
      refine ⟨false, rfl, iteF ?_⟩
      refine ⟨.non, rfl, rfl, true, rfl, iteT ?_⟩
      refine iteT ?_
      refine ⟨.non, rfl, .non, rfl, rfl, true, rfl, iteT ?_⟩
      refine ⟨.non, rfl, .non, .ty "str", .type "NoneType", .type "str", false, rfl, .ty "str", .base .non, kit_ty (by decide +kernel), ?_⟩
      refine ⟨.non, rfl, .non, .ty "str", .type "NoneType", .type "str", false, rfl, .ty "str", .base .non, kit_ty (by decide +kernel), rfl, ?_⟩
      exact k _ (same_upd hq)
    · refine ⟨.ref b, rfl, by show 2 ≤ sizeLine; decide, fun q hq => ?_⟩
      refine ⟨.ref b, q, _, .type "tuple", _, true, rfl, upd_same, pairTL, .base (.tup (same_upd hq _ _ hb)), kitTL (by decide +kernel) (fun e => nomatch e), ?_⟩
      refine ⟨true, rfl, iteT ?_⟩
      refine ⟨.ref a, rfl, by show 2 ≤ sizeLine; decide, fun q2 hq2 => ?_⟩
      have s1 : Same H (upd (upd H q (.tup [.ty "tuple", .ty "list"])) q2 (.tup [.ty "tuple", .ty "list"])) := sameUpd (same_upd hq) hq2
      refine ⟨.ref a, q2, _, .type "tuple", _, true, rfl, upd_same, pairTL, .base (.tup (s1 _ _ ha)), kitTL (by decide +kernel) (fun e => nomatch e), ?_⟩
      refine ⟨true, rfl, iteF ?_⟩
      revert s1
      generalize upd (upd H q (.tup [.ty "tuple", .ty "list"])) q2 (.tup [.ty "tuple", .ty "list"]) = H1
      intro s1
      refine ⟨.ref a, rfl, .ref a, .ty "list", .type "tuple", .type "list", false, rfl, .ty "list", .base (.tup (s1 _ _ ha)), kit_ty (by decide +kernel), ?_⟩
      refine ⟨.ref b, rfl, .ref b, .ty "list", .type "tuple", .type "list", false, rfl, .ty "list", .base (.tup (s1 _ _ hb)), kit_ty (by decide +kernel), rfl, false, rfl, iteF ?_⟩
      refine ⟨.ref a, rfl, a, pV p, rfl, .inr (SqT.of (s1 _ _ ha)), .ref b, rfl, b, pV p, rfl, .inr (SqT.of (s1 _ _ hb)), rfl, false, ?_, iteF ?_⟩
      · show V.bl (!decide (V.int (((pV p).length : Nat) : Int) = V.int (((pV p).length : Nat) : Int))) = .bl false
        rw [decide_eq_true rfl]
        rfl
      have hpl2 : (pV p).length = p.length := pV_length p
      refine ⟨.ref b, rfl, b, pV p, rfl, .inr (SqT.of (s1 _ _ hb)), ((pV p).length : Int), rfl, by omega, by omega, fun D hD => ?_⟩
      refine lc_range (lo := 0) (n := (pV p).length) (fun i H' => Same H1 H' ∧ H' D = some (.lst [])) ⟨same_upd hD, upd_same⟩ ?_ ?_
      · rintro i H2 hi ⟨s2, e2⟩
        refine ⟨wipe_one, ?_⟩
        obtain ⟨x, hx⟩ : ∃ x, p[i]? = some x := ⟨p[i]'(by omega), by simp⟩
        have hx2 : atI (pV p) (i : Int) = some (nV x) := atI_nat (by
          show (p.map nV)[i]? = _
          rw [List.getElem?_map, hx]
          rfl)
        have ei : (0 : Int) + (i : Int) = (i : Int) := Int.zero_add _
        refine ⟨.ref a, rfl, _, rfl, a, pV p, (i : Int), nV x, rfl, congrArg V.int ei, SqT.of (s2 _ _ (s1 _ _ ha)), hx2, .ref b, rfl, _, rfl, b, pV p, (i : Int), nV x, rfl, congrArg V.int ei, SqT.of (s2 _ _ (s1 _ _ hb)), hx2, (x : Int), rfl, fun H3 s3 => ⟨true, rfl, ?_⟩⟩
        exact ⟨s2.trans s3, s3 _ _ e2⟩
      · rintro H2 ⟨s2, e2⟩
        refine ⟨Nat.zero_le _, fun e ne => ?_⟩
        have nDe : D ≠ e := ne_of_none e2 ne
        refine eq_nil_ints (p := []) (by rw [upd_ne nDe]; exact e2) upd_same ?_
        exact k _ (sameUpd (s1.trans s2) ne)
end
end Aw

/-! The law's helpers: _law_word, _law_all -/
namespace Aw
open PySem PySem.Spec PyProof.Rows L2 AwM
abbrev sWord : Stmt := top 25
abbrev sAll : Stmt := top 26
section
variable {P : Program} {w : World} {K : PySem.W.Frag} {mg : Str → Option Value} {base : Heap}
theorem six_at : ∀ v, v < 6 → atI (Str.ofString "abcdef").cps.toList ((v : Nat) : Int) = some (v + 97) := by decide +kernel
theorem six_len : (Str.ofString "abcdef").length ≤ sizeLine := by decide +kernel
/-! ### _law_word -/
def spWordL (K : PySem.W.Frag) : Sp := fun vs H Q _ => ∃ (r sc : Addr) (ns : List Int) (size n : Nat), vs = [.ref r, nV size, nV n, nV n] ∧ 1 ≤ size ∧ size ≤ 4 ∧ n ≤ 100 ∧ RowAt H r sc ∧ SqL K H sc (ns.map V.int) ∧
  ∀ H' wd, SameBut r H H' → RowAt H' r sc → wd.length = n → Letters size wd → Q (.str (W wd)) H'
theorem scWordL : FnScope ["_law_row", "_law_size", "_law_least", "_law_most", "_law_at"] ["_law_row", "_law_size", "_law_least", "_law_most"] (defScope sWord) := ⟨rfl, rfl, rfl, by decide +kernel, rfl, by decide +kernel, by decide +kernel⟩
theorem ok_wordL {f f1 : Addr} {fd fd1 : FuncData} (F : Fun K "_law_word" "_law_word" sWord f fd) (B : Bi mg) (G1 : FnOk P w K mg base CX0 1 f1 fd1 ["_law_row", "_law_many"] (spTaken K)) (b1 : Binds K fd1 ["_law_row", "_law_many"] []) (g1 : mg "_law_taken" = some (.ref f1)) (k1 : PySem.W.keepIn K (.ref f1) = true) :
    FnOk P w K mg base CX0 2 f fd ["_law_row", "_law_size", "_law_least", "_law_most"] (spWordL K) := by
  refine F.ok scWordL (fun vs H Q E h => ?_) (fun cdv A outer s H vs Q E hr h => ?_)
  · obtain ⟨r, sc, ns, size, n, rfl, _⟩ := h
    rfl
  · obtain ⟨r, sc, ns, size, n, rfl, hz1, hz2, hn, hR, hS, k⟩ := h
    refine ⟨_, pss_one (ps_ret (pe_join pe_str (pe_lc (own := [("_law_at", 4)]) (g := gName 4) (tt := tYes) rfl scWordL.nd
      (pi_range1 (by rfl) B.range (pa_cons (pe_op op_add (pv 2) (pe_call G1 hr (by rfl) g1 k1 b1 .nil pass0 (pa_cons (pv 0) (pa_cons (pe_op op_add (pe_op op_sub (pv 3) (pv 2)) pe_int) pa_nil)))) pa_nil))
      (blkOk_by (N := ["_law_row", "_law_size", "_law_least", "_law_most", "_law_at"]) (sc := defScope sWord) (by decide +kernel)) (fun _ _ _ _ _ => pg_name (i := 4) scWordL.nd rfl (Or.inl rfl)) (fun _ _ _ _ _ => pts_nil)
      (fun _ _ _ _ _ => by exact pe_ix ix_str pe_str (by exact pe_call G1 hr (by rfl) g1 k1 b1 .nil pass0 (by exact pa_cons (pv 0) (pa_cons (pv 1) pa_nil))) (fun _ _ => rfl))))), ?_⟩
    have e1 : ∀ z : Int, z = (n : Int) - (n : Int) + 1 → z = ((1 : Nat) : Int) := fun z h => by omega
    refine ⟨⟨_, rfl⟩, ?_⟩
    refine ⟨_, rfl, _, rfl, _, rfl, _, rfl, (n : Int), (n : Int), rfl, rfl, (n : Int) - (n : Int), 1, rfl, rfl, r, sc, ns, 1, ?_, by omega, by omega, hR, hS, fun H1 v s1 hR1 hv => ?_⟩
    · exact congrArg (fun z : Int => [V.ref r, V.int z]) (e1 _ rfl)
    have hv0 : v = 0 := by omega
    subst hv0
    refine ⟨(n : Int), ((0 : Nat) : Int), rfl, rfl, (n : Int), congrArg (fun z : Int => [V.int z]) (Int.add_zero _), by omega, by omega, fun D hD => ?_⟩
    have hS1 := row_keep hS hR s1
    have hDr : D ≠ r := by
      obtain ⟨_, _, _, e, _⟩ := hR1
      exact (ne_of_none e hD).symm
    refine lc_range (lo := 0) (n := n) (fun i H' => ∃ l : List Nat, l.length = i ∧ Letters size l ∧ SameBut r H1 H' ∧ RowAt H' r sc ∧ H' D = some (.lst (l.map fun c => .str (W [c])))) ⟨[], rfl, (fun x hx => by cases hx), (SameBut.refl r H1).new hD, ?_, upd_same⟩ ?_ ?_
    · obtain ⟨i, x, y, e, h⟩ := hR1
      refine ⟨i, x, y, ?_, h⟩
      rw [upd_ne hDr.symm]
      exact e
    · rintro i H2 hi ⟨l, hl, hlt, s2, hR2, e2⟩
      refine ⟨wipe_one, ?_⟩
      refine ⟨_, rfl, _, rfl, r, sc, ns, size, rfl, by omega, by omega, hR2, row_keep hS1 hR1 s2, fun H3 v s3 hR3 hv => ?_⟩
      refine ⟨_, (v : Int), v + 97, rfl, rfl, six_len, six_at v (by omega), _, s3 _ _ hDr e2, ?_, l ++ [v], by rw [List.length_append, hl]; rfl, fun x hx => ?_, (s2.trans s3).new ?_, ?_, ?_⟩
      · rw [List.length_map, hl]
        exact small1000 (by omega)
      · rcases List.mem_append.mp hx with hx | hx
        · exact hlt x hx
        · have e : x = v := by simpa using hx
          omega
      · exact hD
      · obtain ⟨i, x, y, e, h⟩ := hR3
        refine ⟨i, x, y, ?_, h⟩
        rw [upd_ne hDr.symm]
        exact e
      · rw [upd_same, List.map_append]
        rfl
    · rintro H2 ⟨l, hl, hlt, s2, hR2, e2⟩
      refine ⟨_, D, l.map fun c => W [c], rfl, rfl, .inl (SqL.of (join_a e2)), join_b (by omega), ?_⟩
      rw [join_W]
      exact k _ l (s1.trans s2) hR2 hl hlt
/-! ### _law_all -/
theorem cut_six (size : Nat) (h : size ≤ 4) : cutS (Str.ofString "abcdef") none (some ((size : Nat) : Int)) = W (List.range size) := by
  have key : ∀ s, s ≤ 4 → cutS (Str.ofString "abcdef") none (some ((s : Nat) : Int)) = W (List.range s) := by
    have : ∀ s, s < 5 → cutS (Str.ofString "abcdef") none (some ((s : Nat) : Int)) = W (List.range s) := by decide +kernel
    exact fun s h => this s (by omega)
  exact key size h
def spAll : Sp := fun vs H Q _ => ∃ (size n : Nat), vs = [nV size, nV n] ∧ size ≤ 4 ∧ n ≤ 5 ∧ ∀ H' p, Same H H' → H p = none → H' p = some (.lst ((allW size n).map fun wd => .str (W wd))) → Q (.ref p) H'
theorem scAll : FnScope ["_law_size", "_law_length", "_law_found", "_law_turn", "_law_longer", "_law_word_here", "_law_sign"] ["_law_size", "_law_length"] (defScope sAll) := ⟨rfl, rfl, rfl, by decide +kernel, rfl, by decide +kernel, by decide +kernel⟩
def wordsV (l : List (List Nat)) : List V := l.map fun wd => .str (W wd)
theorem allW_len (size : Nat) : ∀ n, (allW size n).length = size ^ n
  | 0 => rfl
  | n + 1 => by
    have ih := allW_len size n
    show ((allW size n).flatMap fun w => (List.range size).map fun c => w ++ [c]).length = size ^ (n + 1)
    rw [List.length_flatMap]
    simp only [List.length_map, List.length_range, List.map_const', List.sum_replicate_nat]
    rw [ih, Nat.pow_succ]
theorem allW_few {size n : Nat} (h1 : size ≤ 4) (h2 : n ≤ 5) : (allW size n).length ≤ 1024 := by
  rw [allW_len]
  calc size ^ n ≤ 4 ^ n := Nat.pow_le_pow_left h1 n
    _ ≤ 4 ^ 5 := Nat.pow_le_pow_right (by decide) h2
def longer (size : Nat) (l : List (List Nat)) : List (List Nat) := l.flatMap fun w => (List.range size).map fun c => w ++ [c]
theorem longer_len (size : Nat) (l : List (List Nat)) : (longer size l).length = l.length * size := by
  unfold longer
  rw [List.length_flatMap]
  simp only [List.length_map, List.length_range, List.map_const', List.sum_replicate_nat]
theorem longer_next (size : Nat) (l : List (List Nat)) (i : Nat) (w : List Nat) (h : l[i]? = some w) : longer size (l.take (i + 1)) = longer size (l.take i) ++ (List.range size).map fun c => w ++ [c] := by
  unfold longer
  rw [List.take_add_one, h, List.flatMap_append]
  simp
theorem small4096 {n : Nat} (h : n ≤ 10000) : n < sizeLine := Nat.lt_of_le_of_lt h (by decide)
theorem ok_all {f : Addr} {fd : FuncData} (F : Fun K "_law_all" "_law_all" sAll f fd) (B : Bi mg) : FnOk P w K mg base CX0 1 f fd ["_law_size", "_law_length"] spAll := by
  refine F.ok scAll (fun vs H Q E h => ?_) (fun cdv A outer s H vs Q E hr h => ?_)
  · obtain ⟨size, n, rfl, _⟩ := h
    rfl
  · obtain ⟨size, n, rfl, hz, hn, k⟩ := h
    refine ⟨_, pss_cons (ps_set (i := 2) scAll.nd rfl (Or.inl rfl) (pe_lst (pa_cons pe_str pa_nil)))
      (pss_cons (ps_for PassesOwn.never rfl (pi_range1 (by rfl) B.range (pa_cons (pv 1) pa_nil)) (pg_name (i := 3) scAll.nd rfl (Or.inl rfl))
        (pss_cons (ps_set (i := 4) scAll.nd rfl (Or.inl rfl) (pe_lst pa_nil))
        (pss_cons (ps_for PassesOwn.never rfl (pi_list (pv 2)) (pg_name (i := 5) scAll.nd rfl (Or.inr rfl))
          (pss_one (ps_set (i := 4) scAll.nd rfl (Or.inl rfl) (pe_op op_cat (pv 4) (pe_lc (own := [("_law_sign", 6)]) (g := gName 6) (tt := tYes) rfl scAll.nd (pi_str (pe_slice sl_str pe_str po_none (po_some (pv 0))))
            (blkOk_by (N := ["_law_size", "_law_length", "_law_found", "_law_turn", "_law_longer", "_law_word_here", "_law_sign"]) (sc := defScope sAll) (by decide +kernel)) (fun _ _ _ _ _ => pg_name (i := 6) scAll.nd rfl (Or.inl rfl)) (fun _ _ _ _ _ => pts_nil)
            (fun _ _ _ _ _ => pe_op op_add_str (pv 5) (pv 6)))))))
        (pss_one (ps_set (i := 2) scAll.nd rfl (Or.inl rfl) (pv 4))))))
      (pss_one (ps_ret (pv 2)))), ?_⟩
    have eW : Str.ofString "" = W [] := by decide +kernel
    refine ⟨by show 1 ≤ sizeLine; decide, fun q hq => ?_⟩
    refine ⟨_, rfl, (n : Int), rfl, by omega, by omega, ?_⟩
    refine for_range (lo := 0) (n := n) (fun i σ H' => ∃ (q : Addr) (v3 v4 v5 : Option V), σ = [some (nV size), some (nV n), some (.ref q), v3, v4, v5, none] ∧ Same H H' ∧ H q = none ∧ H' q = some (.lst (wordsV (allW size i))))
      ⟨q, none, none, none, rfl, same_upd hq, hq, ?_⟩ ?_ ?_
    · rw [upd_same, eW]
      rfl
    · rintro i σ H1 hi ⟨q, v3, v4, v5, rfl, s1, hq, e1⟩
      -- _law_longer = []
      refine ⟨Nat.zero_le _, fun p hp => ?_⟩
      have s2 : Same H1 (upd H1 p (.lst [])) := same_upd hp
      refine ⟨.ref q, rfl, q, rfl, ⟨_, SqL.of (s2 _ _ e1)⟩, ?_⟩
      have hlen := allW_few (size := size) (n := i) hz (by omega)
      refine for_list (K := K) (a := q) (xs := wordsV (allW size i)) (fun j σ H' => ∃ (p : Addr) (v5 : Option V), σ = [some (nV size), some (nV n), some (.ref q), some (.int (0 + i)), some (.ref p), v5, none] ∧ Same H1 H' ∧ H1 p = none ∧ H' p = some (.lst (wordsV (longer size ((allW size i).take j)))))
        ⟨p, v5, rfl, s2, hp, upd_same⟩ (fun j σ H' _ ⟨_, _, _, s, _⟩ => SqL.of (s _ _ e1)) ?_ ?_
      · rintro j x σ H2 hx ⟨p, v5, rfl, s3, hp, e3⟩
        obtain ⟨wd, hwd, rfl⟩ : ∃ wd, (allW size i)[j]? = some wd ∧ x = .str (W wd) := by
          have hx' : ((allW size i).map fun wd => V.str (W wd))[j]? = some x := hx
          rw [List.getElem?_map] at hx'
          cases e : (allW size i)[j]? with
          | none =>
            rw [e] at hx'
            cases hx'
          | some wd =>
            rw [e] at hx'
            exact ⟨wd, rfl, (Option.some.inj hx').symm⟩
        have hwl := (mem_allW.mp (List.mem_of_getElem? hwd)).1
        -- _law_longer + [..]
        refine ⟨.ref p, rfl, _, rfl, _, rfl, Str.ofString "abcdef", rfl, six_len, ?_⟩
        rw [cut_six size hz]
        refine ⟨W (List.range size), rfl, fun D hD => ?_⟩
        have hpD : p ≠ D := ne_of_none e3 hD
        refine lc_it (walk_str (z := W (List.range size))) (fun c H' => Same H2 H' ∧ H' D = some (.lst (wordsV ((List.range c).map fun c => wd ++ [c])))) ⟨same_upd hD, upd_same⟩ (fun _ _ _ _ => trivial) ?_ ?_
        · rintro c y H3 H4 hc ⟨s4, e4⟩ ⟨rfl, d, hd, rfl⟩
          refine ⟨wipe_one, ?_⟩
          have hcs : c < size := by
            have : (W (List.range size)).cps.size = size := by
              have := len_W (List.range size)
              rw [List.length_range] at this
              exact this
            omega
          have ed : (⟨#[d]⟩ : Str) = W [c] := by
            have h1 : (W (List.range size)).cps.toList[c]? = some d := by simpa using hd
            rw [tl_W, List.getElem?_map, List.getElem?_range hcs] at h1
            have h2 : c + 97 = d := Option.some.inj h1
            rw [← h2]
            rfl
          refine ⟨_, rfl, _, rfl, W wd, W [c], rfl, congrArg V.str ed, ?_, _, e4, ?_, sameWrite s4 hD, ?_⟩
          · rw [len_W, len_W, hwl]
            exact Nat.le_of_lt (small1000 (by simp; omega))
          · unfold wordsV
            rw [List.length_map, List.length_map, List.length_range]
            exact small1000 (by omega)
          · rw [upd_same, W_append, List.range_succ, List.map_append]
            unfold wordsV
            rw [List.map_append]
            rfl
        · rintro H3 ⟨s4, e4⟩
          have hsz : (W (List.range size)).cps.size = size := by
            have := len_W (List.range size)
            rw [List.length_range] at this
            exact this
          rw [hsz] at e4
          refine ⟨p, D, _, _, rfl, rfl, s4 _ _ e3, e4, ?_, fun z hz' => ?_⟩
          · unfold wordsV
            rw [List.length_map, List.length_map, List.length_map, List.length_range, longer_len, List.length_take]
            have h1 : min j (allW size i).length * size ≤ 1024 * 4 := Nat.mul_le_mul (by omega) hz
            exact Nat.le_of_lt (small4096 (by omega))
          · refine ⟨z, _, rfl, sameUpd (s3.trans s4) hz', (s3.trans s4).free hz', ?_⟩
            rw [upd_same, longer_next size _ j wd hwd]
            unfold wordsV
            rw [List.map_append]
      · rintro σ H2 ⟨p, v5, rfl, s3, hp, e3⟩
        have e5 : (allW size i).take (wordsV (allW size i)).length = allW size i := by
          unfold wordsV
          rw [List.length_map, List.take_length]
        rw [e5] at e3
        -- _law_found = _law_longer
        exact ⟨_, rfl, p, _, _, _, rfl, s1.trans s3, s1.free hp, e3⟩
    · rintro σ H1 ⟨q, v3, v4, v5, rfl, s1, hq, e1⟩
      exact ⟨_, rfl, k _ q s1 hq e1⟩
end
end Aw

/-! The law's helper _law_paths -/
namespace Aw
open PySem PySem.Spec PyProof.Rows L2 AwM
abbrev sPaths : Stmt := top 27
theorem small8M {n : Nat} (h : n ≤ 8000000) : n < sizeLine := Nat.lt_of_le_of_lt h (by decide)
/-- what the parents' tuple holds -/
def pz (f : List Nat) (i : Nat) : Int := if i = 0 then -1 else (pr f i : Nat)
theorem par_get {f : List Nat} {i : Nat} (T : Tree f) (h : i ≤ f.length) : atI (parV f) ((i : Nat) : Int) = some (.int (pz f i)) := by
  refine atI_nat ?_
  by_cases e : i = 0
  · subst e
    rfl
  · rw [par_at T (by omega) h]
    unfold pz nV
    rw [if_neg e]
theorem pz_eq {f : List Nat} {i l : Nat} : V.int (pz f i) = nV l ↔ 1 ≤ i ∧ pr f i = l := by
  unfold pz nV
  constructor
  · intro h
    have h1 := V.int.inj h
    by_cases e : i = 0
    · rw [if_pos e] at h1
      omega
    · rw [if_neg e] at h1
      omega
  · rintro ⟨h1, h2⟩
    rw [if_neg (by omega), h2]
theorem flat_pV (p : List Nat) : (pV p).all flatV = true := by
  rw [List.all_eq_true]
  intro x hx
  obtain ⟨n, _, rfl⟩ := List.mem_map.mp hx
  rfl
theorem in_pV (x : Nat) (p : List Nat) : inV (nV x) (pV p) = decide (x ∈ p) := by
  unfold inV pV
  rw [Bool.eq_iff_iff, List.any_eq_true, decide_eq_true_eq]
  constructor
  · rintro ⟨y, hy, h⟩
    obtain ⟨n, hn, rfl⟩ := List.mem_map.mp hy
    have h : ((n : Int) == (x : Int)) = true := h
    have h : (n : Int) = (x : Int) := by simpa using h
    have e : n = x := by omega
    rw [← e]
    exact hn
  · intro h
    refine ⟨nV x, List.mem_map.mpr ⟨x, h, rfl⟩, ?_⟩
    show ((x : Int) == (x : Int)) = true
    simp
theorem leP_trans (a b c : List Nat) (h1 : leP a b = true) (h2 : leP b c = true) : leP a c = true := by
  unfold leP at *
  simp only [Bool.not_eq_true', decide_eq_false_iff_not] at *
  have h3 : a ≤ b := List.not_lt.mp h1
  have h4 : b ≤ c := List.not_lt.mp h2
  exact List.not_lt.mpr (List.le_trans h3 h4)
theorem leP_total (a b : List Nat) : (leP a b || leP b a) = true := by
  unfold leP
  rw [Bool.or_eq_true]
  by_cases h : b < a
  · right
    have : ¬ a < b := List.lt_asymm h
    simp [this]
  · left
    simp [h]
/-- the word of the while -/
def DInv (a q : Addr) (f : List Nat) (i : Nat) (H : Hp) : Nat → L2.St → Hp → Prop := fun m σ H' => ∃ (rl : Addr) (v4 v5 : Option V) (us ts : List Addr) (rim found : List (List Nat)),
  σ = [some (.ref a), some (.ref q), some (.int (0 + i)), some (.ref rl), v4, v5, none] ∧ Same H H' ∧ H rl = none ∧ rl ≠ q ∧ H' rl = some (.lst (us.map V.ref)) ∧ TupsAt H' us rim ∧
  H' q = some (.lst (ts.map V.ref)) ∧ TupsAt H' ts found ∧ Dfs f (f.length + 1) i (i * 960800 + 960800) found rim ∧ m = wsum (f.length + 1) rim
def ttNear (K : PySem.W.Frag) : TT := tOr (tTest (tOp rEq (tOp (rIxT K) (tVar 0) (tVar 6)) (tOp (rIxT K) (tVar 4) (tUn (rU fun i => .int (-i)) (tC (.int 1))))))
  (tTest (tOp rEq (tOp (rIxT K) (tVar 0) (tOp (rIxT K) (tVar 4) (tUn (rU fun i => .int (-i)) (tC (.int 1))))) (tVar 6)))
def ttOut (K : PySem.W.Frag) : TT := tTest (tOp (rIn K true) (tVar 6) (tVar 4))
def teKid (K : PySem.W.Frag) : TE := tOp (rCatT K) (tVar 4) (tTup (tCons (tVar 6) tNil))
section
variable {P : Program} {w : World} {K : PySem.W.Frag} {mg : Str → Option Value} {base : Heap}
def spPaths : Sp := fun vs H Q _ => ∃ (a : Addr) (f : List Nat), vs = [.ref a] ∧ H a = some (.tup (parV f)) ∧ Tree f ∧ f.length ≤ 7 ∧
  ∀ H' q ts L, Same H H' → H' q = some (.lst (ts.map V.ref)) → TupsAt H' ts L → (∀ p, p ∈ L ↔ Simple f (f.length + 1) p) → (L.Pairwise fun a b => ¬ b < a) → Q (.ref q) H'
theorem scPaths : FnScope ["_law_parents", "_law_found", "_law_start", "_law_rim", "_law_path", "_law_near", "_law_at"] ["_law_parents"] (defScope sPaths) := ⟨rfl, rfl, rfl, by decide +kernel, rfl, by decide +kernel, by decide +kernel⟩
theorem last_pV {r : List Nat} (h : r ≠ []) : atI (pV r) (-1) = some (nV (r.getLast?.getD 0)) := by
  have e := List.dropLast_concat_getLast h
  have h1 := last_at r.dropLast (r.getLast h)
  rw [e] at h1
  rw [h1, List.getLast?_eq_getLast h]
  rfl
theorem ok_paths {f : Addr} {fd : FuncData} (F : Fun K "_law_paths" "_law_paths" sPaths f fd) (B : Bi mg) : FnOk P w K mg base CX0 1 f fd ["_law_parents"] spPaths := by
  refine F.ok scPaths (fun vs H Q E h => ?_) (fun cdv A outer s H vs Q E hr h => ?_)
  · obtain ⟨a, g, rfl, _⟩ := h
    rfl
  · obtain ⟨a, g, rfl, hA, hT, hl, k⟩ := h
    refine ⟨_, pss_cons (ps_set (i := 1) scPaths.nd rfl (Or.inl rfl) (pe_lst pa_nil))
      (pss_cons (ps_for PassesOwn.never rfl (pi_range1 (by rfl) B.range (pa_cons (pe_callB call_len_seq (by rfl) B.len PySem.boot_len (pa_cons (pv 0) pa_nil)) pa_nil)) (pg_name (i := 2) scPaths.nd rfl (Or.inl rfl))
        (pss_cons (ps_set (i := 3) scPaths.nd rfl (Or.inl rfl) (pe_lst (pa_cons (pe_tup (pa_cons (pv 2) pa_nil)) pa_nil)))
        (pss_one (ps_while PassesOwn.never (pt_cmpR (op_neD hr.units) (pv 3) (pe_lst pa_nil) (nomark _))
          (pss_cons (ps_set (i := 4) scPaths.nd rfl (Or.inr rfl) (pe_bm0 PySem.F.plainAttrs_list PySem.F.slot_list_pop PySem.F.type_list_pop mt_pop (pv 3)))
          (pss_cons (ps_expr (pe_bm PySem.F.plainAttrs_list PySem.F.slot_list_append PySem.F.type_list_append mt_append (pv 1) (pa_cons (pv 4) pa_nil)))
          (pss_cons (ps_setLc (i := 5) (own := [("_law_at", 6)]) (g := gName 6) (tt := ttNear K) (te := tVar 6) rfl scPaths.nd rfl rfl (sw_true rfl rfl rfl (by decide +kernel))
            (pi_range1 (by rfl) B.range (pa_cons (pe_callB call_len_seq (by rfl) B.len PySem.boot_len (pa_cons (pv 0) pa_nil)) pa_nil))
            (blkOk_by (N := ["_law_parents", "_law_found", "_law_start", "_law_rim", "_law_path", "_law_near", "_law_at"]) (sc := defScope sPaths) (by decide +kernel)) (fun _ _ _ _ _ => pg_name (i := 6) scPaths.nd rfl (Or.inl rfl))
            (fun _ _ _ _ _ => by exact pts_one (by exact PW.pt (by exact pw_or (by exact pt_cmpR op_eq (pe_ix ix_tup (pv 0) (pv 6) (fun _ _ => rfl)) (pe_ix ix_tup (pv 4) (pe_un un_neg pe_int) (fun _ _ => rfl)) (nomark _)) (by exact pw_or1 (by exact pt_cmpR op_eq (pe_ix ix_tup (pv 0) (pe_ix ix_tup (pv 4) (pe_un un_neg pe_int) (fun _ _ => rfl)) (fun _ _ => rfl)) (pv 6) (nomark _))))))
            (fun _ _ _ _ _ => pv 6))
          (pss_one (ps_set (i := 3) scPaths.nd rfl (Or.inl rfl) (pe_op op_cat (pv 3) (pe_lc (own := [("_law_at", 6)]) (g := gName 6) (tt := ttOut K) (te := teKid K) rfl scPaths.nd (pi_list (pv 5))
            (blkOk_by (N := ["_law_parents", "_law_found", "_law_start", "_law_rim", "_law_path", "_law_near", "_law_at"]) (sc := defScope sPaths) (by decide +kernel)) (fun _ _ _ _ _ => pg_name (i := 6) scPaths.nd rfl (Or.inl rfl))
            (fun _ _ _ _ _ => by exact pts_one (by exact pt_cmpR op_notIn_seq (pv 6) (pv 4) (by rfl)))
            (fun _ _ _ _ _ => by exact pe_op op_catT (pv 4) (by exact pe_tup (pa_cons (pv 6) pa_nil))))))))))))))
      (pss_one (ps_ret (pe_callB (cr_sortedT hr.units) (by rfl) B.sorted (by decide +kernel) (pa_cons (pv 1) pa_nil))))), ?_⟩
    have hpn : (parV g).length = g.length + 1 := parV_len g
    -- _law_found = []
    refine ⟨Nat.zero_le _, fun q hq => ?_⟩
    have s0 : Same H (upd H q (.lst [])) := same_upd hq
    refine ⟨.ref a, rfl, a, parV g, rfl, .inr (SqT.of (s0 _ _ hA)), ((parV g).length : Int), rfl, by omega, by omega, ?_⟩
    refine for_range (lo := 0) (n := (parV g).length) (fun i σ H' => ∃ (v2 v3 v4 v5 : Option V) (ts : List Addr) (found : List (List Nat)), σ = [some (.ref a), some (.ref q), v2, v3, v4, v5, none] ∧ Same H H' ∧
        H' q = some (.lst (ts.map V.ref)) ∧ TupsAt H' ts found ∧ (∀ p ∈ found, Simple g (g.length + 1) p ∧ p.head?.getD 0 < i) ∧ (∀ p, Simple g (g.length + 1) p → p.head?.getD 0 < i → p ∈ found) ∧ found.length ≤ i * 960800)
      ⟨none, none, none, none, [], [], rfl, s0, upd_same, .nil, (fun p hp => by cases hp), (fun p _ hp => absurd hp (Nat.not_lt_zero _)), Nat.zero_le _⟩ ?_ ?_
    · rintro i σ H1 hi ⟨v2, v3, v4, v5, ts, found, rfl, s1, e1, e2, hf1, hf2, hf3⟩
      -- _law_rim = [(_law_start,)]
      refine ⟨_, rfl, by show 1 ≤ sizeLine; decide, fun t0 ht0 => ⟨by show 1 ≤ sizeLine; decide, fun rl hrl => ?_⟩⟩
      have s2 : Same H1 (upd (upd H1 t0 (.tup [.int (0 + (i : Int))])) rl (.lst [.ref t0])) := (same_upd ht0).trans (same_upd hrl)
      have et0 : (upd (upd H1 t0 (.tup [.int (0 + (i : Int))])) rl (.lst [.ref t0])) t0 = some (.tup (pV [i])) := by
        have n1 : t0 ≠ rl := ne_of_none upd_same hrl
        rw [upd_ne n1, upd_same, Int.zero_add]
        rfl
      have erl : (upd (upd H1 t0 (.tup [.int (0 + (i : Int))])) rl (.lst [.ref t0])) rl = some (.lst [.ref t0]) := upd_same
      have hrl1 : H1 rl = none := L2.Same.free (same_upd ht0) hrl
      have nrq : rl ≠ q := (ne_of_none e1 hrl1).symm
      revert s2 et0 erl
      generalize upd (upd H1 t0 (.tup [.int (0 + (i : Int))])) rl (.lst [.ref t0]) = H2
      intro s2 et0 erl
      refine ⟨DInv a q g i H, ⟨_, rl, v4, v5, [t0], ts, [[i]], found, rfl, s1.trans s2, s1.free hrl1, nrq, erl, .one et0, s2 _ _ e1, e2.same s2, Dfs.start (by omega) (by omega) hf1 hf2 hf3, rfl⟩, ?_⟩
      clear e1 e2 hf1 hf2 hf3 s1 s2 et0 erl hrl1 nrq hrl ht0
      rintro m σ H3 ⟨rl, v4, v5, us, ts, rim, found, rfl, s3, hrl, nrq, e3, e4, e5, e6, hD, rfl⟩
      -- while _law_rim != []
      refine ⟨_, rfl, Nat.zero_le _, fun e ne => ?_⟩
      have s4 : Same H3 (upd H3 e (.lst [])) := same_upd ne
      refine ne_nil (s4 _ _ e3) (e4.same s4) upd_same ⟨_, rfl, ?_⟩
      revert s4
      generalize upd H3 e (.lst []) = H4
      intro s4
      refine ite2 (fun c => ?_) (fun c => ?_)
      · have hne : rim ≠ [] := fun z => by
          rw [z] at c
          simp at c
        refine ⟨fun σ' H' => ∃ m', m' < wsum (g.length + 1) rim ∧ DInv a q g i H m' σ' H', fun _ _ h => h, ?_⟩
        have e4' := e4.same s4
        obtain ⟨us', rim', t, r, rfl, rfl, e7, et⟩ := e4'.last hne
        obtain ⟨hD', hdec⟩ := hD.step (by omega)
        have hrs := (hD.rs r (by simp)).1
        -- _law_path = _law_rim.pop()
        have hx : ((us' ++ [t]).map V.ref)[((us' ++ [t]).map V.ref).length - 1]? = some (.ref t) := by
          rw [List.map_append, List.length_append]
          show ((us'.map V.ref) ++ [.ref t])[(us'.map V.ref).length + 1 - 1]? = _
          rw [Nat.add_sub_cancel, List.getElem?_append_right (Nat.le_refl _), Nat.sub_self]
          rfl
        refine ⟨_, rfl, .inl ⟨rfl, _, SqL.of (s4 _ _ e3)⟩, rl, _, .ref t, rfl, rfl, s4 _ _ e3, hx, ?_⟩
        have hdl : ((us' ++ [t]).map V.ref).dropLast = us'.map V.ref := by
          rw [List.map_append]
          exact dropLast_one _ _
        rw [hdl]
        have tupk : ∀ (H' : Hp) (l : Addr) (xs ys : List V), H' l = some (.lst xs) → ∀ b zs, H' b = some (.tup zs) → (upd H' l (.lst ys)) b = some (.tup zs) := fun H' l xs ys el b zs eb => by
          rw [upd_ne (ne_of eb el (fun z => nomatch z))]
          exact eb
        have e3' := s4 _ _ e3
        have e5' := s4 _ _ e5
        -- _law_found.append(_law_path)
        have e5'' : (upd H4 rl (.lst (us'.map V.ref))) q = some (.lst (ts.map V.ref)) := by
          rw [upd_ne nrq.symm]
          exact e5'
        have hfl : found.length ≤ 8000000 := by
          have h1 := hD.few
          have h2 : i * 960800 ≤ 7 * 960800 := Nat.mul_le_mul_right _ (by omega)
          omega
        refine ⟨_, rfl, .inl ⟨rfl, _, SqL.of e5''⟩, _, rfl, q, _, _, rfl, rfl, e5'', by rw [List.length_map, e6.length]; exact small8M hfl, ?_⟩
        have k1 : ∀ b zs, H4 b = some (.tup zs) → (upd (upd H4 rl (.lst (us'.map V.ref))) q (.lst (ts.map V.ref ++ [.ref t]))) b = some (.tup zs) := fun b zs eb => tupk _ q _ _ e5'' b zs (tupk _ rl _ _ e3' b zs eb)
        have s5 : Same H (upd (upd H4 rl (.lst (us'.map V.ref))) q (.lst (ts.map V.ref ++ [.ref t]))) := sameWrite (sameWrite (s3.trans s4) hrl) hq
        have f1 : (upd (upd H4 rl (.lst (us'.map V.ref))) q (.lst (ts.map V.ref ++ [.ref t]))) rl = some (.lst (us'.map V.ref)) := by
          rw [upd_ne nrq]
          exact upd_same
        have f2 : (upd (upd H4 rl (.lst (us'.map V.ref))) q (.lst (ts.map V.ref ++ [.ref t]))) q = some (.lst ((ts ++ [t]).map V.ref)) := by
          rw [upd_same, List.map_append]
          rfl
        have f3 := e7.mono k1
        have f4 := ((e6.same s4).append (.one et)).mono k1
        have f5 := k1 _ _ et
        revert s5 f1 f2 f3 f4 f5
        generalize upd (upd H4 rl (.lst (us'.map V.ref))) q (.lst (ts.map V.ref ++ [.ref t])) = H5
        intro s5 f1 f2 f3 f4 f5
        -- _law_near
        refine ⟨.ref a, rfl, a, parV g, rfl, .inr (SqT.of (s5 _ _ hA)), ((parV g).length : Int), rfl, by omega, by omega, fun D hDn => ?_⟩
        have hlast : r.getLast?.getD 0 < g.length + 1 := by
          cases q : r.getLast? with
          | none => exact absurd (List.getLast?_eq_none_iff.mp q) hrs.ne
          | some z => exact hrs.lt z (List.mem_of_getLast? q)
        refine lc_range (lo := 0) (n := (parV g).length) (fun j H' => Same H5 H' ∧ H' D = some (.lst (pV ((List.range j).filter fun a => decide (adj g a (r.getLast?.getD 0)))))) ⟨same_upd hDn, upd_same⟩ ?_ ?_
        · rintro j H6 hj ⟨s6, e8⟩
          refine ⟨wipe_one, ?_⟩
          have hlen : (pV ((List.range j).filter fun a => decide (adj g a (r.getLast?.getD 0)))).length < sizeLine := by
            rw [pV_length]
            have h1 := List.length_filter_le (fun a => decide (adj g a (r.getLast?.getD 0))) (List.range j)
            rw [List.length_range] at h1
            exact small1000 (by omega)
          have yes : adj g j (r.getLast?.getD 0) → Same H5 (upd H6 D (.lst (pV ((List.range j).filter fun a => decide (adj g a (r.getLast?.getD 0))) ++ [.int (0 + (j : Int))]))) ∧
              (upd H6 D (.lst (pV ((List.range j).filter fun a => decide (adj g a (r.getLast?.getD 0))) ++ [.int (0 + (j : Int))]))) D = some (.lst (pV ((List.range (j + 1)).filter fun a => decide (adj g a (r.getLast?.getD 0))))) := fun h => by
            refine ⟨sameWrite s6 hDn, ?_⟩
            rw [upd_same, List.range_succ, List.filter_append, pV_append, Int.zero_add]
            simp [h, pV, nV]
          have no : ¬ adj g j (r.getLast?.getD 0) → Same H5 H6 ∧ H6 D = some (.lst (pV ((List.range (j + 1)).filter fun a => decide (adj g a (r.getLast?.getD 0))))) := fun h => by
            refine ⟨s6, ?_⟩
            rw [e8, List.range_succ, List.filter_append, pV_append]
            simp [h, pV]
          have ej : (0 : Int) + (j : Int) = (j : Int) := Int.zero_add _
          have hAt := SqT.of (K := K) ((s5.trans s6) _ _ hA)
          have hRt := SqT.of (K := K) (s6 _ _ f5)
          refine ⟨_, rfl, _, rfl, a, parV g, (j : Int), _, rfl, congrArg V.int ej, hAt, par_get hT (by omega), _, rfl, 1, rfl, t, pV r, -1, _, rfl, rfl, hRt, last_pV hrs.ne, rfl, _, rfl, ?_⟩
          refine ite2 (fun c1 => ?_) (fun c1 => ?_)
          · have h1 := pz_eq.mp (of_decide_eq_true c1)
            refine ⟨_, rfl, _, e8, hlen, yes (.inr h1)⟩
          · have h1 : ¬ (1 ≤ j ∧ pr g j = r.getLast?.getD 0) := fun z => c1 (decide_eq_true (pz_eq.mpr z))
            refine ⟨_, rfl, _, rfl, 1, rfl, t, pV r, -1, _, rfl, rfl, hRt, last_pV hrs.ne, a, parV g, ((r.getLast?.getD 0 : Nat) : Int), _, rfl, rfl, hAt, par_get hT (by omega), _, rfl, rfl, _, rfl, ?_⟩
            refine ite2 (fun c2 => ?_) (fun c2 => ?_)
            · have c3 : V.int (pz g (r.getLast?.getD 0)) = nV j := by
                have c3 := of_decide_eq_true c2
                rw [ej] at c3
                exact c3
              refine ⟨_, rfl, _, e8, hlen, yes (.inl (pz_eq.mp c3))⟩
            · refine no fun h => ?_
              rcases h with h | h
              · refine c2 (decide_eq_true ?_)
                rw [ej]
                exact pz_eq.mpr h
              · exact h1 h
        · rintro H6 ⟨s6, e8⟩
          rw [hpn] at e8
          have e8 : H6 D = some (.lst (pV (near g (g.length + 1) r))) := e8
          -- _law_rim + [..]
          refine ⟨_, rfl, _, rfl, D, rfl, ⟨_, SqL.of e8⟩, fun D2 hD2 => ?_⟩
          have hnl : (near g (g.length + 1) r).length ≤ 8 := by
            unfold near
            have h1 := List.length_filter_le (fun a => decide (adj g a (r.getLast?.getD 0))) (List.range (g.length + 1))
            rw [List.length_range] at h1
            omega
          have hrlen : r.length ≤ 8 := by
            have := nodup_len _ _ hrs.nd hrs.lt
            omega
          refine lc_list (K := K) (a := D) (xs := pV (near g (g.length + 1) r)) (fun j H' => ∃ ks, Same H6 H' ∧ H' D2 = some (.lst (ks.map V.ref)) ∧ TupsAt H' ks ((((near g (g.length + 1) r).take j).filter fun a => decide (a ∉ r)).map fun a => r ++ [a]))
            ⟨[], same_upd hD2, upd_same, .nil⟩ (fun j H' _ ⟨_, s, _⟩ => SqL.of (s _ _ e8)) ?_ ?_
          · rintro j x H7 hx ⟨ks, s7, e9, e10⟩
            obtain ⟨z, hz, rfl⟩ : ∃ z, (near g (g.length + 1) r)[j]? = some z ∧ x = nV z := by
              have hx' : ((near g (g.length + 1) r).map nV)[j]? = some x := hx
              rw [List.getElem?_map] at hx'
              cases e : (near g (g.length + 1) r)[j]? with
              | none =>
                rw [e] at hx'
                cases hx'
              | some z =>
                rw [e] at hx'
                exact ⟨z, rfl, (Option.some.inj hx').symm⟩
            refine ⟨wipe_one, ?_⟩
            have f6 := s7 _ _ (s6 _ _ f5)
            refine ⟨_, rfl, _, rfl, t, pV r, rfl, .inr (SqT.of f6), rfl, flat_pV r, _, rfl, ?_⟩
            rw [in_pV]
            have htk : (near g (g.length + 1) r).take (j + 1) = (near g (g.length + 1) r).take j ++ [z] := by
              rw [List.take_add_one, hz]
              rfl
            refine ite2 (fun c1 => ?_) (fun c1 => ?_)
            · have hzr : z ∉ r := by simpa using c1
              refine ⟨_, rfl, _, rfl, by show 1 ≤ sizeLine; decide, fun u hu => ?_⟩
              have s8 : Same H7 (upd H7 u (.tup [nV z])) := same_upd hu
              refine ⟨t, u, pV r, [nV z], rfl, rfl, SqT.of (s8 _ _ f6), SqT.of upd_same, ?_, ?_, (fun e => nomatch e), fun _ p hp => ?_⟩
              · intro e
                exact hrs.ne (List.map_eq_nil_iff.mp e)
              · rw [pV_length]
                exact Nat.le_of_lt (small1000 (by simp; omega))
              · have s9 := sameUpd (o := .tup (pV r ++ [nV z])) s8 hp
                have e9' := s9 _ _ e9
                refine ⟨_, e9', ?_, ks ++ [p], sameWrite (s7.trans s9) hD2, ?_, ?_⟩
                · rw [List.length_map, e10.length, List.length_map]
                  have h1 := List.length_filter_le (fun a => decide (a ∉ r)) ((near g (g.length + 1) r).take j)
                  rw [List.length_take] at h1
                  exact small1000 (by omega)
                · rw [upd_same, List.map_append]
                  rfl
                · rw [htk, List.filter_append, List.map_append]
                  have e11 : ([z].filter fun a => decide (a ∉ r)) = [z] := by simp [hzr]
                  rw [e11]
                  refine TupsAt.mono (tupk _ D2 _ _ e9') (TupsAt.append (e10.same s9) (.one ?_))
                  rw [upd_same, pV_append]
                  rfl
            · have hzr : z ∈ r := by
                have : ¬ (¬ z ∈ r) := fun h => c1 (by simp [h])
                exact Classical.not_not.mp this
              refine ⟨ks, s7, e9, ?_⟩
              rw [htk, List.filter_append, List.map_append]
              have e11 : ([z].filter fun a => decide (a ∉ r)) = [] := by simp [hzr]
              rw [e11, List.map_nil, List.append_nil]
              exact e10
          · rintro H7 ⟨ks, s7, e9, e10⟩
            have e12 : (near g (g.length + 1) r).take (pV (near g (g.length + 1) r)).length = near g (g.length + 1) r := by
              rw [pV_length, List.take_length]
            rw [e12] at e10
            have e10 : TupsAt H7 ks (kids g (g.length + 1) r) := e10
            have s8 := s6.trans s7
            have hrim := rim_le (g.length + 1) (rim' ++ kids g (g.length + 1) r)
            have hB : i * 960800 ≤ 7 * 960800 := Nat.mul_le_mul_right _ (by omega)
            have hfew := hD'.few
            refine ⟨rl, D2, _, _, rfl, rfl, s8 _ _ f1, e9, ?_, fun z hz => ?_⟩
            · rw [List.length_map, List.length_map, f3.length, e10.length]
              rw [List.length_append] at hrim
              exact Nat.le_of_lt (small8M (by omega))
            · have s9 : Same H7 (upd H7 z (.lst (us'.map V.ref ++ ks.map V.ref))) := same_upd hz
              have s10 := s8.trans s9
              refine ⟨_, hdec, z, _, _, us' ++ ks, ts ++ [t], rim' ++ kids g (g.length + 1) r, found ++ [r], rfl, s5.trans s10, s5.free (s8.free hz), ?_, ?_, ?_, s10 _ _ f2, f4.same s10, hD', rfl⟩
              · exact (ne_of_none (s8 _ _ f2) hz).symm
              · rw [upd_same, List.map_append]
              · exact (f3.same s10).append (e10.same s9)
      · have he : rim = [] := by
          cases rim with
          | nil => rfl
          | cons p ps => exact absurd rfl c
        subst he
        obtain ⟨h1, h2, h3⟩ := hD.done
        refine ⟨_, _, _, _, ts, found, rfl, s3.trans s4, s4 _ _ e5, e6.same s4, h1, h2, ?_⟩
        rw [Nat.add_mul, Nat.one_mul]
        exact h3
    · rintro σ H1 ⟨v2, v3, v4, v5, ts, found, rfl, s1, e1, e2, hf1, hf2, hf3⟩
      rw [hpn] at hf1 hf2
      -- return sorted(_law_found)
      refine ⟨_, rfl, q, ts, found, rfl, SqL.of e1, e2, (fun p hp => (hf1 p hp).1.ne), fun z ts' hz hts => ?_⟩
      refine k _ z ts' (found.mergeSort leP) (sameUpd s1 hz) upd_same (hts.same (same_upd hz)) (fun p => ?_) ?_
      · rw [List.mem_mergeSort]
        constructor
        · exact fun h => (hf1 p h).1
        · intro hs
          refine hf2 p hs ?_
          cases e : p.head? with
          | none => exact absurd (List.head?_eq_none_iff.mp e) hs.ne
          | some z => exact hs.lt z (List.mem_of_head? e)
      · have := List.pairwise_mergeSort leP_trans leP_total found
        refine this.imp fun {a b} h => ?_
        unfold leP at h
        simpa using h
end
end Aw

/-! The law's helper _law_clash -/
namespace Aw
open PySem PySem.Spec PyProof.Rows L2 AwM
abbrev sClash : Stmt := top 28
theorem find_at {α : Type} {P : α → Bool} : ∀ {L : List α} {i : Nat} {p : α}, L[i]? = some p → P p = true → (∀ x ∈ L.take i, P x = false) → L.find? P = some p
  | [], i, p, h, _, _ => by simp at h
  | a :: L, 0, p, h, hp, _ => by
    have e : a = p := by simpa using h
    subst e
    rw [List.find?_cons_of_pos hp]
  | a :: L, i + 1, p, h, hp, hx => by
    have ha : P a = false := hx a (by simp)
    rw [List.find?_cons_of_neg (by rw [ha]; exact Bool.false_ne_true)]
    exact find_at (by simpa using h) hp fun x hxm => hx x (by rw [List.take_succ_cons]; exact List.mem_cons_of_mem _ hxm)
section
variable {P : Program} {w : World} {K : PySem.W.Frag} {mg : Str → Option Value} {base : Heap}
def spClash : Sp := fun vs H Q _ => ∃ (a : Addr) (f wd : List Nat), vs = [.ref a, .str (W wd)] ∧ H a = some (.tup (parV f)) ∧ Tree f ∧ f.length ≤ 7 ∧ wd.length = f.length + 1 ∧
  ∀ H' o, Same H H' → IsClash f (f.length + 1) wd o → (match o with | none => Q .non H' | some p => ∀ t, H' t = some (.tup (pV p)) → Q (.ref t) H')
theorem scClash : FnScope ["_law_parents", "_law_word_here", "_law_path", "_law_half", "_law_text", "_law_at"] ["_law_parents", "_law_word_here"] (defScope sClash) := ⟨rfl, rfl, rfl, by decide +kernel, rfl, by decide +kernel, by decide +kernel⟩
theorem ok_clash {f f1 : Addr} {fd fd1 : FuncData} (F : Fun K "_law_clash" "_law_clash" sClash f fd) (B : Bi mg) (G1 : FnOk P w K mg base CX0 1 f1 fd1 ["_law_parents"] spPaths) (b1 : Binds K fd1 ["_law_parents"] []) (g1 : mg "_law_paths" = some (.ref f1)) (k1 : PySem.W.keepIn K (.ref f1) = true) :
    FnOk P w K mg base CX0 2 f fd ["_law_parents", "_law_word_here"] spClash := by
  refine F.ok scClash (fun vs H Q E h => ?_) (fun cdv A outer s H vs Q E hr h => ?_)
  · obtain ⟨a, g, wd, rfl, _⟩ := h
    rfl
  · obtain ⟨a, g, wd, rfl, hA, hT, hl, hwl, k⟩ := h
    refine ⟨_, pss_cons (ps_for PassesOwn.never rfl (pi_list (pe_call G1 hr (by rfl) g1 k1 b1 .nil pass0 (pa_cons (pv 0) pa_nil))) (pg_name (i := 2) scClash.nd rfl (Or.inl rfl))
        (pss_cons (ps_set (i := 3) scClash.nd rfl (Or.inl rfl) (pe_op op_fdiv (pe_callB call_len_seq (by rfl) B.len PySem.boot_len (pa_cons (pv 2) pa_nil)) pe_int))
        (pss_cons (ps_set (i := 4) scClash.nd rfl (Or.inl rfl) (pe_join pe_str (pe_lc (own := [("_law_at", 5)]) (g := gName 5) (tt := tYes) rfl scClash.nd (pi_tup (pv 2))
          (blkOk_by (N := ["_law_parents", "_law_word_here", "_law_path", "_law_half", "_law_text", "_law_at"]) (sc := defScope sClash) (by decide +kernel)) (fun _ _ _ _ _ => pg_name (i := 5) scClash.nd rfl (Or.inl rfl)) (fun _ _ _ _ _ => pts_nil)
          (fun _ _ _ _ _ => pe_ix ix_str (pv 1) (pv 5) (fun _ _ => rfl)))))
        (pss_one (ps_if (PW.pt (pw_and (pt_cmpR op_eq (pe_op op_mod (pe_callB call_len_seq (by rfl) B.len PySem.boot_len (pa_cons (pv 2) pa_nil)) pe_int) pe_int (nomark _))
            (pw_and1 (pt_cmpR op_eq (pe_slice sl_str (pv 4) po_none (po_some (pv 3))) (pe_slice sl_str (pv 4) (po_some (pv 3)) po_none) (nomark _)))))
          (pss_one (ps_ret (pv 2))) pss_nil)))))
      (pss_one (ps_ret pe_non)), ?_⟩
    refine ⟨.ref a, rfl, a, g, rfl, hA, hT, hl, fun H1 q ts L s1 e1 e2 hL hs => ?_⟩
    refine ⟨q, rfl, ⟨_, SqL.of e1⟩, for_list (K := K) (a := q) (xs := ts.map V.ref) (fun i σ H' => ∃ v2 v3 v4, σ = [some (.ref a), some (.str (W wd)), v2, v3, v4, none] ∧ Same H1 H' ∧ ∀ p ∈ L.take i, sqAt wd p = false)
      ⟨none, none, none, rfl, Same.refl _, fun p hp => by cases hp⟩ (fun i σ H' _ ⟨_, _, _, _, s, _⟩ => SqL.of (s _ _ e1)) ?_ ?_⟩
    · rintro i x σ H2 hx ⟨v2, v3, v4, rfl, s2, hno⟩
      obtain ⟨t, ht, rfl⟩ : ∃ t, ts[i]? = some t ∧ x = V.ref t := by
        rw [List.getElem?_map] at hx
        cases e : ts[i]? with
        | none =>
          rw [e] at hx
          cases hx
        | some t =>
          rw [e] at hx
          exact ⟨t, rfl, (Option.some.inj hx).symm⟩
      obtain ⟨p, hp, et⟩ := e2.get ht
      have hps := (hL p).mp (List.mem_of_getElem? hp)
      have hpl := nodup_len _ _ hps.nd hps.lt
      have et2 := s2 _ _ et
      -- _law_half = len(_law_path) // 2
      refine ⟨_, rfl, t, pV p, rfl, .inr (SqT.of et2), _, 2, rfl, rfl, ⟨by decide, by decide⟩, ?_⟩
      show gName 3 (V.int (((pV p).length : Nat) / 2 : Int)) _ _ _
      rw [pV_length, half_eq]
      -- _law_text
      refine ⟨⟨_, rfl⟩, lc_txt (ip := 2) (iw := 1) (ix := 5) (t := t) (w := wd) (p := p) rfl et2 rfl ?_ (by decide) (fun x hx => ?_) (by omega) (by omega) fun H3 D s3 hD e3 => ?_⟩
      · show 5 < 6
        decide
      · have := hps.lt x hx
        omega
      refine ⟨_, D, (txt wd p).map fun c => W [c], rfl, rfl, .inl (SqL.of (join_a e3)), join_b (by rw [txt_length]; omega), ?_⟩
      rw [join_W]
      have et3 := s3 _ _ et2
      have hlen : (W (txt wd p)).length ≤ sizeLine := by
        rw [len_W, txt_length]
        exact Nat.le_of_lt (small1000 (by omega))
      have hsq : sqAt wd p = (p.length % 2 == 0 && (txt wd p).take (p.length / 2) == (txt wd p).drop (p.length / 2)) := by
        unfold sqAt sqW
        rw [txt_length]
      have hnext : sqAt wd p = false → ∀ y ∈ L.take (i + 1), sqAt wd y = false := fun h y hy => by
        rw [List.take_add_one, hp] at hy
        rcases List.mem_append.mp hy with hy | hy
        · exact hno y hy
        · have e : y = p := by simpa using hy
          rw [e]
          exact h
      -- if len(_law_path) % 2 == 0 and ..
      refine ⟨_, rfl, t, pV p, rfl, .inr (SqT.of et3), _, 2, rfl, rfl, by show (0 : Int) < 2; decide, rfl, _, rfl, ?_⟩
      rw [pV_length]
      refine ite2 (fun c => ?_) (fun c => ?_)
      · have c1 : p.length % 2 = 0 := by
          have c2 := V.int.inj (of_decide_eq_true c)
          omega
        refine ⟨_, rfl, _, rfl, _, rfl, W (txt wd p), rfl, hlen, _, rfl, _, rfl, _, rfl, W (txt wd p), rfl, hlen, ?_⟩
        rw [cut_lo, cut_hi]
        refine ⟨rfl, _, rfl, ?_⟩
        have c2 : decide (V.str (W ((txt wd p).take (p.length / 2))) = V.str (W ((txt wd p).drop (p.length / 2)))) = sqAt wd p := by
          rw [W_eq, hsq, c1]
          rfl
        show if decide (V.str (W ((txt wd p).take (p.length / 2))) = V.str (W ((txt wd p).drop (p.length / 2)))) = true then _ else _
        rw [c2]
        refine ite2 (fun c3 => ?_) (fun c3 => ?_)
        · refine ⟨_, rfl, ?_⟩
          have hf : L.find? (sqAt wd) = some p := find_at hp c3 hno
          have hc := clash_find hL hs (w := wd)
          rw [hf] at hc
          exact k H3 (some p) (s1.trans (s2.trans s3)) hc t et3
        · refine ⟨_, _, _, rfl, s2.trans s3, hnext ?_⟩
          cases q : sqAt wd p with
          | false => rfl
          | true => exact absurd q c3
      · have c1 : ¬ p.length % 2 = 0 := fun e => c (decide_eq_true (by
          have e5 : ((p.length : Nat) : Int) % 2 = 0 := by omega
          exact congrArg V.int e5))
        refine ⟨_, _, _, rfl, s2.trans s3, hnext ?_⟩
        rw [hsq, show (p.length % 2 == 0) = false from beq_eq_false_iff_ne.mpr c1, Bool.false_and]
    · rintro σ H2 ⟨v2, v3, v4, rfl, s2, hno⟩
      have e5 : L.take (ts.map V.ref).length = L := by
        rw [List.length_map, e2.length, List.take_length]
      rw [e5] at hno
      have hf : L.find? (sqAt wd) = none := List.find?_eq_none.mpr fun p hp => by
        rw [hno p hp]
        exact Bool.false_ne_true
      have hc := clash_find hL hs (w := wd)
      rw [hf] at hc
      exact k H2 none (s1.trans s2) hc
end
end Aw

/-! The law -/
namespace Aw
open PySem PySem.Spec PyProof.Rows L2 AwM
open C8 (tCut pss_cut)
abbrev sLaw : Stmt := top 29
/-! ### small readings -/
theorem cut_four (size : Nat) (h : size ≤ 4) : cutS (Str.ofString "abcd") none (some ((size : Nat) : Int)) = W (List.range size) := by
  have this : ∀ s, s < 5 → cutS (Str.ofString "abcd") none (some ((s : Nat) : Int)) = W (List.range s) := by decide +kernel
  exact this size (by omega)
theorem four_len : (Str.ofString "abcd").length ≤ sizeLine := by decide +kernel
theorem sign_in {size x : Nat} (h : x < size) : x + 97 ∈ (W (List.range size)).cps.toList := by
  rw [tl_W]
  exact List.mem_map.mpr ⟨x, List.mem_range.mpr h, rfl⟩
theorem shaped_strs (l : List (List Nat)) (hl : ∀ wd ∈ l, Letters 26 wd) : SeqAt.shaped (.list (l.map fun wd => PyData.str (W wd))) = true := by
  unfold SeqAt.shaped
  rw [Bool.and_eq_true]
  constructor
  · have h1 : PyData.canLayAll0 (l.map fun wd => PyData.str (W wd)) = true := by
      induction l with
      | nil => rfl
      | cons x p ih =>
        have hx : PyData.strOk (W x) = true := by
          unfold PyData.strOk
          rw [← Array.all_toList, tl_W, List.all_eq_true]
          intro c hc
          obtain ⟨d, hd, rfl⟩ := List.mem_map.mp hc
          have := hl x (by simp) d hd
          exact decide_eq_true (by omega)
        show PyData.canLayAll0 (PyData.str (W x) :: p.map fun wd => PyData.str (W wd)) = true
        simp only [PyData.canLayAll0, ih fun wd h => hl wd (List.mem_cons_of_mem _ h), PyData.canLay0, hx, Bool.and_self]
    simp only [PyData.canLay0, h1]
  · have h2 : PyData.depthAll (l.map fun wd => PyData.str (W wd)) = 0 := by
      clear hl
      induction l with
      | nil => simp [PyData.depthAll]
      | cons x p ih =>
        show PyData.depthAll (PyData.str (W x) :: p.map fun wd => PyData.str (W wd)) = 0
        simp only [PyData.depthAll, ih, PyData.depth, Nat.max_self]
    have h4 : (PyData.list (l.map fun wd => PyData.str (W wd))).depth ≤ 64 := by
      simp only [PyData.depth, h2]
      omega
    exact decide_eq_true h4
theorem dp_strs {K : PySem.W.Frag} {H : Hp} : ∀ l : List (List Nat), DpAll K H (wordsV l) (l.map fun wd => PyData.str (W wd))
  | [] => .nil
  | wd :: l => .cons (.str _) (dp_strs l)
theorem ne_nil_strs {K : PySem.W.Frag} {H : Hp} {Q : VK} {q e : Addr} {l : List (List Nat)} (h1 : H q = some (.lst (wordsV l))) (hl : ∀ wd ∈ l, Letters 26 wd) (h3 : H e = some (.lst [])) (k : Q (.bl (!l.isEmpty)) H) : rNeD K (.ref q) (.ref e) H Q := by
  refine ⟨.list (l.map fun wd => PyData.str (W wd)), .list [], .lst (SqL.of h1) (dp_strs l), .lst (SqL.of h3) .nil, shaped_strs l hl, shaped_strs [] (fun wd h => by cases h), ?_⟩
  have e1 : PyData.eqv (.list (l.map fun wd => PyData.str (W wd))) (.list []) = l.isEmpty := by
    cases l with
    | nil => simp [PyData.eqv, PyData.eqvAll]
    | cons p ps => simp [PyData.eqv, PyData.eqvAll]
  rw [e1]
  exact k
theorem W_lt (v w : List Nat) : decide ((W v).cps.toList < (W w).cps.toList) = decide (v < w) := by
  refine decide_eq_decide.mpr ?_
  rw [tl_W, tl_W]
  have key : ∀ v w : List Nat, (v.map fun c => c + 97) < (w.map fun c => c + 97) ↔ v < w := by
    intro v
    induction v with
    | nil =>
      intro w
      cases w <;> simp
    | cons x v ih =>
      intro w
      cases w with
      | nil => simp
      | cons y w =>
        simp only [List.map_cons, List.cons_lt_cons_iff]
        rw [ih w]
        constructor
        · rintro (h | ⟨h1, h2⟩)
          · exact .inl (by omega)
          · exact .inr ⟨by omega, h2⟩
        · rintro (h | ⟨h1, h2⟩)
          · exact .inl (by omega)
          · exact .inr ⟨by omega, h2⟩
  exact key v w
/-! ### the words between the statements -/
def LawA (H0 : Hp) (sc : Addr) : L2.St → Hp → Prop := fun σ H' => ∃ (r a : Addr) (f : List Nat), σ = [some (.ref sc), some (.ref r), some (.ref a), none, none, none, none, none, none, none] ∧ Same H0 H' ∧ H0 r = none ∧ RowAt H' r sc ∧ H' a = some (.tup (parV f)) ∧ Tree f ∧ f.length ≤ 7
def LawB (H0 : Hp) (sc r a : Addr) (f : List Nat) (size : Nat) (wd : List Nat) (v5 : Option V) : L2.St → Hp → Prop := fun σ H' => σ = [some (.ref sc), some (.ref r), some (.ref a), some (nV size), some (.str (W wd)), v5, none, none, none, none] ∧ Same H0 H' ∧ H' a = some (.tup (parV f))
/-- what the search hands back -/
def treeV : Option (List Nat) → V
  | none => .non
  | some w => .str (W w)
/-- no square: as a test -/
noncomputable def noSq (f : List Nat) (n : Nat) (w : List Nat) : Bool := @decide (IsClash f n w none) (Classical.propDecidable _)
theorem noSq_iff {f : List Nat} {n : Nat} {w : List Nat} (h : w.length = n) : noSq f n w = true ↔ goodTo f w := by
  unfold noSq
  rw [good_iff h]
  exact @decide_eq_true_iff _ (Classical.propDecidable _)
theorem noSq_none {f : List Nat} {n : Nat} {w : List Nat} (h : IsClash f n w none) : noSq f n w = true := @decide_eq_true _ (Classical.propDecidable _) h
theorem noSq_some {f : List Nat} {n : Nat} {w p : List Nat} (h : IsClash f n w (some p)) : noSq f n w = false := @decide_eq_false _ (Classical.propDecidable _) fun z => by cases h.one z
theorem parR_at {m i : Nat} (h : i < m + 1) : (parV (List.range m))[i]? = some (.int ((0 + (i : Int)) - 1)) := by
  cases i with
  | zero => rfl
  | succ i =>
    show ((List.range m).map nV)[i]? = _
    rw [List.getElem?_map, List.getElem?_range (by omega)]
    show some (V.int (i : Int)) = _
    congr 2
    omega
theorem tree_range (m : Nat) : Tree (List.range m) := fun i x h => by
  have hi := (List.getElem?_eq_some_iff.mp h).1
  rw [List.length_range] at hi
  rw [List.getElem?_range hi] at h
  have := Option.some.inj h
  omega
theorem tree_snoc {l : List Nat} {v : Nat} (T : Tree l) (h : v ≤ l.length) : Tree (l ++ [v]) := fun i x e => by
  by_cases c : i < l.length
  · rw [List.getElem?_append_left c] at e
    exact T i x e
  · rw [List.getElem?_append_right (by omega)] at e
    have c2 : i = l.length := by
      have := (List.getElem?_eq_some_iff.mp e).1
      simp at this
      omega
    subst c2
    rw [Nat.sub_self] at e
    have := Option.some.inj e
    omega
def lawN : List Str := ["_law_script", "_law_row", "_law_parents", "_law_size", "_law_word_here", "_law_found", "_law_due", "_law_at", "_law_sign", "_law_told"]
def ttTold (K : PySem.W.Frag) : TT := tTest (tOp (fun x y H Q => y = .non ∧ Q (.bl (decide (x = .non))) H) (tCall spClash [] E0 (tCons (tVar 2) (tCons (tVar 9) tNil))) (tC .non))
theorem RowAt.keep {H H' : Hp} {r sc : Addr} (h : RowAt H r sc) (e : ∀ o, H r = some o → H' r = some o) : RowAt H' r sc := by
  obtain ⟨i, x, y, h1, h2⟩ := h
  exact ⟨i, x, y, e _ h1, h2⟩
theorem RowAt.new {H : Hp} {r sc p : Addr} {o : HO} (h : RowAt H r sc) (hp : H p = none) : RowAt (upd H p o) r sc := h.keep fun u e => by
  rw [upd_ne (ne_of_none e hp)]
  exact e
theorem same_of_but {H0 H H' : Hp} {r : Addr} (s : Same H0 H) (hr : H0 r = none) (b : SameBut r H H') : Same H0 H' := fun c o e => b c o (ne_of_none e hr) (s c o e)
theorem tup_keep {H H' : Hp} {r sc t : Addr} {xs : List V} (b : SameBut r H H') (hR : RowAt H r sc) (h : H t = some (.tup xs)) : H' t = some (.tup xs) := by
  obtain ⟨i, x, y, e, _⟩ := hR
  exact b _ _ (ne_of h e (fun z => nomatch z)) h
section
variable {P : Program} {w : World} {K : PySem.W.Frag} {mg : Str → Option Value} {base : Heap}
def spLaw (K : PySem.W.Frag) : Sp := fun vs H Q _ => ∃ (a : Addr) (ns : List Int), vs = [.ref a] ∧ SqL K H a (ns.map V.int) ∧ ns.length ≤ 63 ∧ ∀ H', Q (.bl true) H'
theorem scLaw : FnScope ["_law_script", "_law_row", "_law_parents", "_law_size", "_law_word_here", "_law_found", "_law_due", "_law_at", "_law_sign", "_law_told"] ["_law_script"] (defScope sLaw) := ⟨rfl, rfl, rfl, by decide +kernel, rfl, by decide +kernel, by decide +kernel⟩
structure TxtLaw (K : PySem.W.Frag) (mg : Str → Option Value) (P : Program) (w : World) (base : Heap) (fT fW fQ fC fA fZ fD : Addr) (dT dW dQ dC dA dZ dD : FuncData) : Prop where
  B : Bi mg
  GT : FnOk P w K mg base CX0 1 fT dT ["_law_row", "_law_many"] (spTaken K)
  bT : Binds K dT ["_law_row", "_law_many"] []
  gT : mg "_law_taken" = some (.ref fT)
  kT : PySem.W.keepIn K (.ref fT) = true
  GW : FnOk P w K mg base CX0 2 fW dW ["_law_row", "_law_size", "_law_least", "_law_most"] (spWordL K)
  bW : Binds K dW ["_law_row", "_law_size", "_law_least", "_law_most"] []
  gW : mg "_law_word" = some (.ref fW)
  kW : PySem.W.keepIn K (.ref fW) = true
  GQ : FnOk P w K mg base CX0 4 fQ dQ ["parents", "word"] spPSq
  bQ : Binds K dQ ["parents", "word"] []
  gQ : mg "path_square" = some (.ref fQ)
  kQ : PySem.W.keepIn K (.ref fQ) = true
  GC : FnOk P w K mg base CX0 2 fC dC ["_law_parents", "_law_word_here"] spClash
  bC : Binds K dC ["_law_parents", "_law_word_here"] []
  gC : mg "_law_clash" = some (.ref fC)
  kC : PySem.W.keepIn K (.ref fC) = true
  GA : FnOk P w K mg base CX0 2 fA dA ["_law_found", "_law_due"] spAlike2
  bA : Binds K dA ["_law_found", "_law_due"] []
  gA : mg "_law_alike" = some (.ref fA)
  kA : PySem.W.keepIn K (.ref fA) = true
  GZ : FnOk P w K mg base CX0 4 fZ dZ ["parents", "size"] spTree
  bZ : Binds K dZ ["parents", "size"] []
  gZ : mg "tree_word" = some (.ref fZ)
  kZ : PySem.W.keepIn K (.ref fZ) = true
  GD : FnOk P w K mg base CX0 1 fD dD ["_law_size", "_law_length"] spAll
  bD : Binds K dD ["_law_size", "_law_length"] []
  gD : mg "_law_all" = some (.ref fD)
  kD : PySem.W.keepIn K (.ref fD) = true
theorem ok_law {f : Addr} {fd : FuncData} {fT fW fQ fC fA fZ fD : Addr} {dT dW dQ dC dA dZ dD : FuncData} (F : Fun K "law" "law" sLaw f fd) (T : TxtLaw K mg P w base fT fW fQ fC fA fZ fD dT dW dQ dC dA dZ dD) :
    FnOk P w K mg base CX0 5 f fd ["_law_script"] (spLaw K) := by
  refine F.ok scLaw (fun vs H Q E h => ?_) (fun cdv A outer s H vs Q E hr h => ?_)
  · obtain ⟨a, ns, rfl, _⟩ := h
    rfl
  · obtain ⟨sc, ns, rfl, hS, hlen, k⟩ := h
    have hr1 : Room 1 _ := hr.mono (by decide)
    have hr2 : Room 2 _ := hr.mono (by decide)
    refine ⟨_, pss_cons (ps_set (i := 1) scLaw.nd rfl (Or.inr rfl) (pe_lst (pa_cons (pv 0) (pa_cons pe_int (pa_cons pe_int (pa_cons pe_int pa_nil))))))
      (pss_cut (ps_set (i := 2) scLaw.nd rfl (Or.inr rfl) (pe_op op_catT (pe_tup (pa_cons (pe_un un_neg pe_int) pa_nil)) (pe_callTy call_tuple_of (by rfl) T.B.tuple (by decide +kernel) (pa_cons
          (pe_lc (own := [("_law_at", 7)]) (g := gName 7) (tt := tYes) rfl scLaw.nd (pi_range1 (by rfl) T.B.range (pa_cons (pe_call T.GT hr1 (by rfl) T.gT T.kT T.bT .nil pass0 (pa_cons (pv 1) (pa_cons pe_int pa_nil))) pa_nil))
            (blkOk_by (N := lawN) (sc := defScope sLaw) (by decide +kernel)) (fun _ _ _ _ _ => pg_name (i := 7) scLaw.nd rfl (Or.inl rfl)) (fun _ _ _ _ _ => pts_nil)
            (fun _ _ _ _ _ => by exact pe_call T.GT hr1 (by rfl) T.gT T.kT T.bT .nil pass0 (by exact pa_cons (pv 1) (pa_cons (pe_op op_add (pv 7) pe_int) pa_nil)))) pa_nil))))
      (pss_cut (ps_if (pt_cmpR op_eq (pe_call T.GT hr1 (by rfl) T.gT T.kT T.bT .nil pass0 (pa_cons (pv 1) (pa_cons pe_int pa_nil))) pe_int (nomark _))
          (pss_one (ps_set (i := 2) scLaw.nd rfl (Or.inr rfl) (pe_callTy call_tuple_of (by rfl) T.B.tuple (by decide +kernel) (pa_cons
            (pe_lc (own := [("_law_at", 7)]) (g := gName 7) (tt := tYes) rfl scLaw.nd (pi_range1 (by rfl) T.B.range (pa_cons (pe_callB call_len_seq (by rfl) T.B.len PySem.boot_len (pa_cons (pv 2) pa_nil)) pa_nil))
              (blkOk_by (N := lawN) (sc := defScope sLaw) (by decide +kernel)) (fun _ _ _ _ _ => pg_name (i := 7) scLaw.nd rfl (Or.inl rfl)) (fun _ _ _ _ _ => pts_nil)
              (fun _ _ _ _ _ => pe_op op_sub (pv 7) pe_int)) pa_nil)))) pss_nil)
      (pss_cons (ps_set (i := 3) scLaw.nd rfl (Or.inr rfl) (pe_op op_add pe_int (pe_call T.GT hr1 (by rfl) T.gT T.kT T.bT .nil pass0 (pa_cons (pv 1) (pa_cons pe_int pa_nil)))))
      (pss_cons (ps_set (i := 4) scLaw.nd rfl (Or.inl rfl) (pe_call T.GW hr2 (by rfl) T.gW T.kW T.bW .nil pass0 (pa_cons (pv 1) (pa_cons (pv 3) (pa_cons (pe_callB call_len_seq (by rfl) T.B.len PySem.boot_len (pa_cons (pv 2) pa_nil)) (pa_cons (pe_callB call_len_seq (by rfl) T.B.len PySem.boot_len (pa_cons (pv 2) pa_nil)) pa_nil))))))
      (pss_cut (ps_if (pt_not (pt_val (pe_call T.GA hr2 (by rfl) T.gA T.kA T.bA .nil pass0 (pa_cons (pe_call T.GQ hr (by rfl) T.gQ T.kQ T.bQ .nil pass0 (pa_cons (pv 2) (pa_cons (pv 4) pa_nil)))
          (pa_cons (pe_call T.GC hr2 (by rfl) T.gC T.kC T.bC .nil pass0 (pa_cons (pv 2) (pa_cons (pv 4) pa_nil))) pa_nil))))) pss_never pss_nil)
      (pss_cut (ps_set (i := 5) scLaw.nd rfl (Or.inl rfl) (pe_call T.GZ hr (by rfl) T.gZ T.kZ T.bZ .nil pass0 (pa_cons (pv 2) (pa_cons (pv 3) pa_nil))))
      (pss_cut (ps_if (pt_cmpR op_notN (pv 5) pe_non (nomark _))
          (pss_cons (ps_if (PW.pt (pw_or (pt_cmpR op_ne (pe_callB call_len_str (by rfl) T.B.len PySem.boot_len (pa_cons (pv 5) pa_nil)) (pe_callB call_len_seq (by rfl) T.B.len PySem.boot_len (pa_cons (pv 2) pa_nil)) (nomark _))
              (pw_or (pt_cmpR op_notN (pe_call T.GC hr2 (by rfl) T.gC T.kC T.bC .nil pass0 (pa_cons (pv 2) (pa_cons (pv 5) pa_nil))) pe_non (nomark _))
              (pw_or1 (pt_cmpR (op_neD hr.units) (pe_lc (own := [("_law_sign", 8)]) (g := gName 8) rfl scLaw.nd (pi_str (pv 5)) (blkOk_by (N := lawN) (sc := defScope sLaw) (by decide +kernel))
                  (fun _ _ _ _ _ => pg_name (i := 8) scLaw.nd rfl (Or.inl rfl)) (fun _ _ _ _ _ => pts_one (pt_cmpR op_notIn_sign (pv 8) (pe_slice sl_str pe_str po_none (po_some (pv 3))) (by rfl))) (fun _ _ _ _ _ => pv 8)) (pe_lst pa_nil) (nomark _)))))) pss_never pss_nil)
          (pss_one (ps_if (PW.pt (pw_and (pt_cmpR op_lt_str (pv 4) (pv 5) (nomark _)) (pw_and1 (pt_cmpR op_isN (pe_call T.GC hr2 (by rfl) T.gC T.kC T.bC .nil pass0 (pa_cons (pv 2) (pa_cons (pv 4) pa_nil))) pe_non (nomark _))))) pss_never pss_nil)))
          (pss_one (ps_if (PW.pt (pw_or (pt_cmpR op_isN (pe_call T.GC hr2 (by rfl) T.gC T.kC T.bC .nil pass0 (pa_cons (pv 2) (pa_cons (pv 4) pa_nil))) pe_non (nomark _)) (pw_or1 (pt_cmpR op_eq (pv 3) pe_int (nomark _))))) pss_never pss_nil)))
      (pss_cons (ps_if (pt_cmpR op_lt (pe_callB call_len_seq (by rfl) T.B.len PySem.boot_len (pa_cons (pv 2) pa_nil)) pe_int (nomark _))
          (pss_cons (ps_setLc (i := 6) (own := [("_law_told", 9)]) (g := gName 9) (tt := ttTold K) (te := tVar 9) rfl scLaw.nd rfl rfl (sw_true rfl rfl rfl (by decide +kernel))
              (pi_list (pe_call T.GD hr1 (by rfl) T.gD T.kD T.bD .nil pass0 (pa_cons (pv 3) (pa_cons (pe_callB call_len_seq (by rfl) T.B.len PySem.boot_len (pa_cons (pv 2) pa_nil)) pa_nil))))
              (blkOk_by (N := lawN) (sc := defScope sLaw) (by decide +kernel)) (fun _ _ _ _ _ => pg_name (i := 9) scLaw.nd rfl (Or.inl rfl))
              (fun _ _ _ _ _ => by exact pts_one (by exact pt_cmpR op_isN (by exact pe_call T.GC hr2 (by rfl) T.gC T.kC T.bC .nil pass0 (by exact pa_cons (pv 2) (pa_cons (pv 9) pa_nil))) pe_non (nomark _))) (fun _ _ _ _ _ => pv 9))
          (pss_one (ps_ret (pe_cmpR op_eq (pv 5) (pe_ifExp (pt_cmpR (op_neD hr.units) (pv 6) (pe_lst pa_nil) (nomark _)) (pe_ix ix_list (pv 6) pe_int (fun _ _ => rfl)) pe_non) (nomark _))))) pss_nil)
      (pss_one (ps_ret pe_bl)))))))))), ?_⟩
    -- _law_row = [_law_script, 0, 4479, 0]
    refine ⟨.ref sc, rfl, by show 4 ≤ sizeLine; decide, fun r hr0 => ?_⟩
    refine ⟨LawA H sc, ?_, fun σ H2 hA => ?_⟩
    · have sH : Same H (upd H r (.lst (rowV sc 0 4479 0))) := same_upd hr0
      have hR0 : RowAt (upd H r (.lst (rowV sc 0 4479 0))) r sc := ⟨0, 4479, 0, upd_same, by decide, by decide, by decide⟩
      -- (-1,) + tuple([..])
      refine ⟨1, rfl, by show 1 ≤ sizeLine; decide, fun t0 ht0 => ?_⟩
      have sH2 : Same H (upd (upd H r (.lst (rowV sc 0 4479 0))) t0 (.tup [.int (-1)])) := sameUpd sH ht0
      have hR1 : RowAt (upd (upd H r (.lst (rowV sc 0 4479 0))) t0 (.tup [.int (-1)])) r sc := hR0.new ht0
      have et0 : (upd (upd H r (.lst (rowV sc 0 4479 0))) t0 (.tup [.int (-1)])) t0 = some (.tup [.int (-1)]) := upd_same
      refine ⟨_, rfl, r, sc, ns, 8, rfl, by decide, by decide, hR1, sH2.seq hS, fun H3 m s3 hR3 hm => ?_⟩
      have sH3 := same_of_but sH2 hr0 s3
      have et3 := tup_keep s3 hR1 et0
      refine ⟨(m : Int), rfl, by omega, by omega, fun D hD => ?_⟩
      have hDr : D ≠ r := by
        obtain ⟨_, _, _, e, _⟩ := hR3
        exact (ne_of_none e hD).symm
      refine lc_range (lo := 0) (n := m) (fun i H' => ∃ l, l.length = i ∧ Tree l ∧ SameBut r H3 H' ∧ RowAt H' r sc ∧ H' D = some (.lst (pV l))) ⟨[], rfl, (fun i x e => by simp at e), (SameBut.refl r H3).new hD, hR3.new hD, upd_same⟩ ?_ ?_
      · rintro i H4 hi ⟨l, hl, hT, s4, hR4, e4⟩
        refine ⟨wipe_one, ?_⟩
        refine ⟨_, rfl, _, rfl, 0 + (i : Int), 1, rfl, rfl, r, sc, ns, i + 1, congrArg (fun z : Int => [V.ref r, V.int z]) (show (0 + (i : Int)) + 1 = ((i + 1 : Nat) : Int) by omega), by omega, by omega, hR4, (same_of_but sH3 hr0 s4).seq hS, fun H5 v s5 hR5 hv => ?_⟩
        refine ⟨_, s5 _ _ hDr e4, ?_, l ++ [v], by rw [List.length_append, hl]; rfl, tree_snoc hT (by omega), (s4.trans s5).new hD, hR5.keep (fun o e => by rw [upd_ne hDr.symm]; exact e), ?_⟩
        · rw [pV_length, hl]
          exact small1000 (by omega)
        · rw [upd_same, pV_append]
          rfl
      · rintro H4 ⟨l, hl, hT, s4, hR4, e4⟩
        refine ⟨D, _, rfl, .inl ⟨SqL.of e4, fun t1 ht1 => ?_⟩⟩
        have sH4 := same_of_but sH3 hr0 s4
        have et4 : (upd H4 t1 (.tup (pV l))) t0 = some (.tup [.int (-1)]) := same_upd ht1 _ _ (tup_keep s4 hR3 et3)
        refine ⟨t0, t1, [.int (-1)], pV l, rfl, rfl, SqT.of et4, SqT.of upd_same, (fun e => nomatch e), ?_, fun e => ?_, fun _ p hp => ?_⟩
        · rw [pV_length]
          exact Nat.le_of_lt (small1000 (by simp; omega))
        · have hl0 : l = [] := List.map_eq_nil_iff.mp e
          subst hl0
          exact ⟨r, t0, [], rfl, sameUpd sH4 ht1, hr0, hR4.new ht1, et4, hT, Nat.zero_le _⟩
        · exact ⟨r, p, l, rfl, sameUpd (sameUpd sH4 ht1) hp, hr0, (hR4.new ht1).new hp, upd_same, hT, by omega⟩
    obtain ⟨r, a, f, rfl, s2, hr0, hR2, hA, hT, hl⟩ := hA
    -- if _law_taken(_law_row, 3) == 0
    refine ⟨LawA H sc, ?_, fun σ H3 hA3 => ?_⟩
    · refine ⟨_, rfl, r, sc, ns, 3, rfl, by decide, by decide, hR2, s2.seq hS, fun H3 v s3 hR3 hv => ?_⟩
      have sH3 := same_of_but s2 hr0 s3
      have hA3 := tup_keep s3 hR2 hA
      refine ⟨rfl, _, rfl, ?_⟩
      refine ite2 (fun c => ?_) (fun c => ?_)
      · have hpn := parV_len f
        refine ⟨_, rfl, a, parV f, rfl, .inr (SqT.of hA3), ((parV f).length : Int), rfl, by omega, by omega, fun D hD => ?_⟩
        refine lc_range (lo := 0) (n := (parV f).length) (fun i H' => Same H3 H' ∧ H' D = some (.lst ((parV (List.range f.length)).take i))) ⟨same_upd hD, upd_same⟩ ?_ ?_
        · rintro i H4 hi ⟨s4, e4⟩
          refine ⟨wipe_one, ?_⟩
          refine ⟨_, rfl, 0 + (i : Int), 1, rfl, rfl, _, e4, ?_, sameWrite s4 hD, ?_⟩
          · rw [List.length_take]
            exact small1000 (by omega)
          · rw [upd_same, List.take_add_one, parR_at (by omega)]
            rfl
        · rintro H4 ⟨s4, e4⟩
          have e5 : (parV (List.range f.length)).take (parV f).length = parV (List.range f.length) := List.take_of_length_le (by rw [parV_len, parV_len, List.length_range]; exact Nat.le_refl _)
          rw [e5] at e4
          refine ⟨D, _, rfl, .inl ⟨SqL.of e4, fun t1 ht1 => ?_⟩⟩
          exact ⟨r, t1, List.range f.length, rfl, sameUpd (sH3.trans s4) ht1, hr0, (hR3.keep fun o e => s4 _ _ e).new ht1, upd_same, tree_range _, by rw [List.length_range]; exact hl⟩
      · exact ⟨r, a, f, rfl, sH3, hr0, hR3, hA3, hT, hl⟩
    clear hA hR2 hT hl hr0 s2
    obtain ⟨r, a, f, rfl, s3, hr0, hR3, hA3, hT, hl⟩ := hA3
    have hpn := parV_len f
    -- _law_size = 1 + _law_taken(_law_row, 4)
    refine ⟨_, rfl, r, sc, ns, 4, rfl, by decide, by decide, hR3, s3.seq hS, fun H4 z s4 hR4 hz => ?_⟩
    have sH4 := same_of_but s3 hr0 s4
    have hA4 := tup_keep s4 hR3 hA3
    have hsz : V.int (1 + (z : Int)) = nV (z + 1) := congrArg V.int (show 1 + (z : Int) = ((z + 1 : Nat) : Int) by omega)
    refine ⟨1, (z : Int), rfl, rfl, ?_⟩
    -- _law_word_here
    refine ⟨_, rfl, _, rfl, _, rfl, a, parV f, rfl, .inr (SqT.of hA4), _, rfl, a, parV f, rfl, .inr (SqT.of hA4), r, sc, ns, z + 1, f.length + 1, ?_, by omega, by omega, by omega, hR4, sH4.seq hS, fun H5 wd s5 hR5 hwl hwt => ?_⟩
    · show [V.ref r, V.int (1 + (z : Int)), V.int (((parV f).length : Nat) : Int), V.int (((parV f).length : Nat) : Int)] = _
      rw [hsz, hpn]
      rfl
    have sH5 := same_of_but sH4 hr0 s5
    have hA5 := tup_keep s5 hR4 hA4
    have hw26 : Letters 26 wd := fun x hx => by
      have := hwt x hx
      omega
    -- _law_alike(path_square(..), _law_clash(..))
    refine ⟨LawB H sc r a f (z + 1) wd none, ?_, fun σ H6 hB => ?_⟩
    · refine ⟨_, rfl, _, rfl, a, f, wd, rfl, hA5, hT, by omega, hwl, hw26, fun H6 o s6 ho => ?_⟩
      have fin : ∀ H8, Same H5 H8 → LawB H sc r a f (z + 1) wd none [some (.ref sc), some (.ref r), some (.ref a), some (.int (1 + (z : Int))), some (.str (W wd)), none, none, none, none, none] H8 := fun H8 s8 => ⟨by rw [hsz], sH5.trans s8, s8 _ _ hA5⟩
      cases o with
      | none =>
        refine ⟨_, rfl, _, rfl, a, f, wd, rfl, s6 _ _ hA5, hT, hl, hwl, fun H7 o' s7 ho' => ?_⟩
        cases ho.one ho'
        exact ⟨.inl rfl, fun H8 s8 => ⟨true, rfl, iteF (fin _ (s6.trans (s7.trans s8)))⟩⟩
      | some p =>
        intro t ht
        refine ⟨_, rfl, _, rfl, a, f, wd, rfl, s6 _ _ hA5, hT, hl, hwl, fun H7 o' s7 ho' => ?_⟩
        cases ho.one ho'
        intro t' ht'
        have hpl : p.length ≤ 1000 := by
          obtain ⟨⟨i, j, hi, hj, e⟩, _⟩ := ho
          have := pathB_len f hi hj
          rw [← e] at this
          omega
        exact ⟨.inr ⟨t, t', p, rfl, s7 _ _ ht, ht', hpl⟩, fun H8 s8 => ⟨true, rfl, iteF (fin _ (s6.trans (s7.trans s8)))⟩⟩
    obtain ⟨rfl, s6, hA6⟩ := hB
    -- _law_found = tree_word(..)
    refine ⟨fun σ H' => ∃ o, IsTree f (f.length + 1) (z + 1) o ∧ LawB H sc r a f (z + 1) wd (some (treeV o)) σ H', ?_, fun σ H7 hC => ?_⟩
    · refine ⟨_, rfl, _, rfl, a, f, z + 1, rfl, hA6, hT, hl, by omega, by omega, fun H7 o s7 ho => ?_⟩
      cases o with
      | none => exact ⟨none, ho, rfl, s6.trans s7, s7 _ _ hA6⟩
      | some v => exact ⟨some v, ho, rfl, s6.trans s7, s7 _ _ hA6⟩
    obtain ⟨o, ho, rfl, s7, hA7⟩ := hC
    refine ⟨LawB H sc r a f (z + 1) wd (some (treeV o)), ?_, fun σ H8 hD => ?_⟩
    · have fin : ∀ H8, Same H7 H8 → LawB H sc r a f (z + 1) wd (some (treeV o)) [some (.ref sc), some (.ref r), some (.ref a), some (nV (z + 1)), some (.str (W wd)), some (treeV o), none, none, none, none] H8 := fun H8 s8 => ⟨rfl, s7.trans s8, s8 _ _ hA7⟩
      cases o with
      | some v =>
        obtain ⟨hv1, hv2, hv3, hv4⟩ := ho
        refine ⟨_, rfl, rfl, true, rfl, iteT ?_⟩
        have hvl : (W v).length ≤ sizeLine := by
          rw [len_W]
          exact Nat.le_of_lt (small1000 (by omega))
        -- len(_law_found) != len(_law_parents)
        refine ⟨_, rfl, W v, rfl, hvl, _, rfl, a, parV f, rfl, .inr (SqT.of hA7), rfl, false, ?_, iteF ?_⟩
        · show V.bl (!decide (V.int (((W v).length : Nat) : Int) = V.int (((parV f).length : Nat) : Int))) = .bl false
          rw [len_W, hpn, hv1, decide_eq_true rfl]
          rfl
        -- _law_clash(_law_parents, _law_found) is not None
        refine ⟨_, rfl, _, rfl, a, f, v, rfl, hA7, hT, hl, hv1, fun H8 o' s8 ho' => ?_⟩
        cases ((good_iff hv1).mp hv3).one ho'
        refine ⟨rfl, false, rfl, iteF ?_⟩
        -- [..] != []
        refine ⟨_, rfl, W v, rfl, fun D hD => ?_⟩
        refine lc_it (walk_str (z := W v)) (fun i H' => Same H8 H' ∧ H' D = some (.lst [])) ⟨same_upd hD, upd_same⟩ (fun _ _ _ _ => trivial) ?_ ?_
        · rintro i y H9 H10 hi ⟨s9, e9⟩ ⟨rfl, c, hc, rfl⟩
          refine ⟨wipe_one, ?_⟩
          obtain ⟨x, hx, rfl⟩ : ∃ x, x ∈ v ∧ c = x + 97 := by
            have h1 : (W v).cps.toList[i]? = some c := by simpa using hc
            rw [tl_W] at h1
            obtain ⟨x, hx, e⟩ := List.mem_map.mp (List.mem_of_getElem? h1)
            exact ⟨x, hx, e.symm⟩
          refine ⟨_, rfl, _, rfl, _, rfl, Str.ofString "abcd", rfl, four_len, x + 97, _, rfl, rfl, false, ?_, ?_⟩
          · rw [cut_four _ (by omega), decide_eq_true (sign_in (hv2 x hx))]
            rfl
          · exact ⟨s9, e9⟩
        · rintro H9 ⟨s9, e9⟩
          refine ⟨Nat.zero_le _, fun e ne => ?_⟩
          have nDe : D ≠ e := ne_of_none e9 ne
          refine ne_nil (ts := []) (ps := []) (by rw [upd_ne nDe]; exact e9) .nil upd_same ⟨false, rfl, iteF ?_⟩
          have s10 : Same H7 (upd H9 e (.lst [])) := s8.trans (sameUpd s9 ne)
          -- _law_word_here < _law_found and ..
          refine ⟨_, rfl, _, rfl, W wd, W v, rfl, rfl, _, rfl, ?_⟩
          rw [W_lt]
          refine ite2 (fun c => ?_) (fun c => ?_)
          · have hlt := of_decide_eq_true c
            refine ⟨_, rfl, _, rfl, a, f, wd, rfl, s10 _ _ hA7, hT, hl, hwl, fun H11 o' s11 ho' => ?_⟩
            cases o' with
            | none => exact absurd hlt (hv4 wd hwl hwt ((good_iff hwl).mpr ho'))
            | some p =>
              intro t ht
              exact ⟨rfl, false, rfl, iteF (fin _ (s10.trans s11))⟩
          · exact iteF (fin _ s10)
      | none =>
        refine ⟨_, rfl, rfl, false, rfl, iteF ?_⟩
        refine ⟨_, rfl, _, rfl, a, f, wd, rfl, hA7, hT, hl, hwl, fun H8 o' s8 ho' => ?_⟩
        cases o' with
        | none => exact absurd ((good_iff hwl).mpr ho') (ho wd hwl hwt)
        | some p =>
          intro t ht
          refine ⟨rfl, false, rfl, iteF ?_⟩
          refine ⟨_, rfl, rfl, false, ?_, iteF (fin _ s8)⟩
          have h4 : ¬ nV (z + 1) = V.int 4 := fun e => by
            have e1 := V.int.inj e
            have e2 : z + 1 = 4 := by omega
            rw [e2] at ho
            exact ho _ (levW_len f _) (levW_letters (by omega)) (levW_good (by omega))
          show V.bl (decide (nV (z + 1) = V.int 4)) = .bl false
          rw [decide_eq_false h4]
    obtain ⟨rfl, s8, hA8⟩ := hD
    -- if len(_law_parents) < 6
    refine ⟨_, rfl, a, parV f, rfl, .inr (SqT.of hA8), _, _, rfl, rfl, _, rfl, ?_⟩
    refine ite2 (fun c => ?_) (fun c => ?_)
    · have hl5 : f.length + 1 < 6 := by
        have := of_decide_eq_true c
        omega
      -- _law_due
      refine ⟨_, rfl, _, rfl, a, parV f, rfl, .inr (SqT.of hA8), z + 1, f.length + 1, ?_, by omega, by omega, fun H9 q s9 nq eq => ?_⟩
      · show [nV (z + 1), V.int (((parV f).length : Nat) : Int)] = _
        rw [hpn]
        rfl
      refine ⟨q, rfl, ⟨_, SqL.of eq⟩, fun D hD => ?_⟩
      have hfew := allW_few (size := z + 1) (n := f.length + 1) (by omega) (by omega)
      refine lc_list (K := K) (a := q) (xs := wordsV (allW (z + 1) (f.length + 1))) (fun i H' => Same H9 H' ∧ H' D = some (.lst (wordsV (((allW (z + 1) (f.length + 1)).take i).filter (noSq f (f.length + 1))))))
        ⟨same_upd hD, upd_same⟩ (fun i H' _ s => SqL.of (s.1 _ _ eq)) ?_ ?_
      · rintro i x H10 hx ⟨s10, e10⟩
        obtain ⟨v, hv, rfl⟩ : ∃ v, (allW (z + 1) (f.length + 1))[i]? = some v ∧ x = .str (W v) := by
          have hx' : ((allW (z + 1) (f.length + 1)).map fun wd => V.str (W wd))[i]? = some x := hx
          rw [List.getElem?_map] at hx'
          cases e : (allW (z + 1) (f.length + 1))[i]? with
          | none =>
            rw [e] at hx'
            cases hx'
          | some wd =>
            rw [e] at hx'
            exact ⟨wd, rfl, (Option.some.inj hx').symm⟩
        have hvl := (mem_allW.mp (List.mem_of_getElem? hv)).1
        have htk : (allW (z + 1) (f.length + 1)).take (i + 1) = (allW (z + 1) (f.length + 1)).take i ++ [v] := by
          rw [List.take_add_one, hv]
          rfl
        refine ⟨wipe_one, ?_⟩
        refine ⟨_, rfl, _, rfl, a, f, v, rfl, (s9.trans s10) _ _ hA8, hT, hl, hvl, fun H11 o' s11 ho' => ?_⟩
        cases o' with
        | none =>
          refine ⟨rfl, true, rfl, ?_⟩
          refine ⟨_, rfl, _, s11 _ _ e10, ?_, sameWrite (s10.trans s11) hD, ?_⟩
          · unfold wordsV
            rw [List.length_map]
            have h1 := List.length_filter_le (noSq f (f.length + 1)) ((allW (z + 1) (f.length + 1)).take i)
            rw [List.length_take] at h1
            exact small4096 (by omega)
          · rw [upd_same, htk, List.filter_append]
            have e11 : [v].filter (noSq f (f.length + 1)) = [v] := by simp [noSq_none ho']
            rw [e11]
            unfold wordsV
            rw [List.map_append]
            rfl
        | some p =>
          intro t ht
          refine ⟨rfl, false, rfl, ?_⟩
          refine ⟨s10.trans s11, ?_⟩
          rw [htk, List.filter_append]
          have e11 : [v].filter (noSq f (f.length + 1)) = [] := by simp [noSq_some ho']
          rw [e11, List.append_nil]
          exact s11 _ _ e10
      · rintro H10 ⟨s10, e10⟩
        have e12 : (allW (z + 1) (f.length + 1)).take (wordsV (allW (z + 1) (f.length + 1))).length = allW (z + 1) (f.length + 1) := by
          unfold wordsV
          rw [List.length_map, List.take_length]
        rw [e12] at e10
        have hfirst := first_good (P := noSq f (f.length + 1)) (fun w h => noSq_iff h) ho
        have hlet : ∀ v ∈ (allW (z + 1) (f.length + 1)).filter (noSq f (f.length + 1)), Letters 26 v := fun v hv x hx => by
          have := (mem_allW.mp (List.mem_filter.mp hv).1).2 x hx
          omega
        revert e10 hfirst hlet
        generalize (allW (z + 1) (f.length + 1)).filter (noSq f (f.length + 1)) = due
        intro e10 hfirst hlet
        -- return _law_found == (..)
        refine ⟨_, rfl, _, rfl, Nat.zero_le _, fun e ne => ?_⟩
        have nDe : D ≠ e := ne_of_none e10 ne
        have e13 : (upd H10 e (.lst [])) D = some (.lst (wordsV due)) := by
          rw [upd_ne nDe]
          exact e10
        refine ne_nil_strs e13 hlet upd_same ⟨_, rfl, ?_⟩
        cases due with
        | nil =>
          have eo : o = none := hfirst.symm
          subst eo
          exact ⟨rfl, k _⟩
        | cons v rest =>
          have eo : o = some v := hfirst.symm
          subst eo
          refine ⟨_, rfl, D, _, 0, .str (W v), rfl, rfl, SqL.of e13, atI_nat (j := 0) rfl, rfl, ?_⟩
          show Q (.bl (decide (V.str (W v) = V.str (W v)))) _
          rw [decide_eq_true rfl]
          exact k _
    · exact k _
end
end Aw

/-! What the top has written, the head, the end -/
namespace Aw
open PySem L2

theorem all_mk {l : PySem.W.OpenLaw} {w : World} {K : PySem.W.Frag} {h : Heap} {mg : Str → Option Value} {fa f1 f2 f3 f4 f5 f6 f7 f8 f9 f10 f11 f12 f13 f14 f15 f16 Td : Addr} (X : K.In h) (G : h.Ns mainGlobals mg) (hfa : mg "law" = some (.ref fa))
    {od1 an1 od2 an2 od3 an3 od4 an4 od5 an5 od6 an6 od7 an7 od8 an8 od9 an9 od10 an10 od11 an11 od12 an12 od13 an13 od14 an14 od15 an15 od16 an16 odT : Option Addr} {sl1 sl2 sl3 sl4 sl5 sl6 sl7 sl8 sl9 sl10 sl11 sl12 sl13 sl14 sl15 sl16 slT : Array (Option Value)} {nT : Nat} {tT t1 t2 t3 t4 : Tok} {oc1 kV1 dc1 pm1 cd1 ct1 oc2 kV2 dc2 pm2 cd2 ct2 oc3 kV3 dc3 pm3 cd3 ct3 oc4 kV4 dc4 pm4 cd4 ct4 oc5 kV5 dc5 pm5 cd5 ct5 oc6 kV6 dc6 pm6 cd6 ct6 oc7 kV7 dc7 pm7 cd7 ct7 oc8 kV8 dc8 pm8 cd8 ct8 oc9 kV9 dc9 pm9 cd9 ct9 oc10 kV10 dc10 pm10 cd10 ct10 oc11 kV11 dc11 pm11 cd11 ct11 oc12 kV12 dc12 pm12 cd12 ct12 oc13 kV13 dc13 pm13 cd13 ct13 oc14 kV14 dc14 pm14 cd14 ct14 oc15 kV15 dc15 pm15 cd15 ct15 oc16 kV16 dc16 pm16 cd16 ct16 ocT : Value}
    (a1 : PySem.W.nsIn K mainGlobals "is_int" = some (some (.ref f1))) (l1 : K.lookup f1 = some ⟨oc1, od1, .func (PySem.W.fnOf "is_int" "is_int" (defArgs sIsInt) (defBody sIsInt) (defScope sIsInt) .none kV1 dc1 pm1 an1 cd1 ct1), sl1⟩) (c1 : PySem.W.codeIn K cd1 "is_int" = true) (k1 : PySem.W.keepIn K (.ref f1) = true)
    (a2 : PySem.W.nsIn K mainGlobals "is_in" = some (some (.ref f2))) (l2 : K.lookup f2 = some ⟨oc2, od2, .func (PySem.W.fnOf "is_in" "is_in" (defArgs sIsIn) (defBody sIsIn) (defScope sIsIn) .none kV2 dc2 pm2 an2 cd2 ct2), sl2⟩) (c2 : PySem.W.codeIn K cd2 "is_in" = true) (k2 : PySem.W.keepIn K (.ref f2) = true)
    (a3 : PySem.W.nsIn K mainGlobals "is_word" = some (some (.ref f3))) (l3 : K.lookup f3 = some ⟨oc3, od3, .func (PySem.W.fnOf "is_word" "is_word" (defArgs sIsWord) (defBody sIsWord) (defScope sIsWord) (.ref Td) kV3 dc3 pm3 an3 cd3 ct3), sl3⟩) (c3 : PySem.W.codeIn K cd3 "is_word" = true) (k3 : PySem.W.keepIn K (.ref f3) = true)
    (lT : K.lookup Td = some ⟨ocT, odT, .seq #[.int 200 tT] nT, slT⟩)
    (a4 : PySem.W.nsIn K mainGlobals "need_size" = some (some (.ref f4))) (l4 : K.lookup f4 = some ⟨oc4, od4, .func (PySem.W.fnOf "need_size" "need_size" (defArgs sSize) (defBody sSize) (defScope sSize) .none kV4 dc4 pm4 an4 cd4 ct4), sl4⟩) (c4 : PySem.W.codeIn K cd4 "need_size" = true) (k4 : PySem.W.keepIn K (.ref f4) = true)
    (a5 : PySem.W.nsIn K mainGlobals "need_parents" = some (some (.ref f5))) (l5 : K.lookup f5 = some ⟨oc5, od5, .func (PySem.W.fnOf "need_parents" "need_parents" (defArgs sPar) (defBody sPar) (defScope sPar) .none kV5 dc5 pm5 an5 cd5 ct5), sl5⟩) (c5 : PySem.W.codeIn K cd5 "need_parents" = true) (k5 : PySem.W.keepIn K (.ref f5) = true)
    (a6 : PySem.W.nsIn K mainGlobals "path_between" = some (some (.ref f6))) (l6 : K.lookup f6 = some ⟨oc6, od6, .func (PySem.W.fnOf "path_between" "path_between" (defArgs sPath) (defBody sPath) (defScope sPath) .none kV6 dc6 pm6 an6 cd6 ct6), sl6⟩) (c6 : PySem.W.codeIn K cd6 "path_between" = true) (k6 : PySem.W.keepIn K (.ref f6) = true)
    (a7 : PySem.W.nsIn K mainGlobals "is_square" = some (some (.ref f7))) (l7 : K.lookup f7 = some ⟨oc7, od7, .func (PySem.W.fnOf "is_square" "is_square" (defArgs sSq) (defBody sSq) (defScope sSq) .none kV7 dc7 pm7 an7 cd7 ct7), sl7⟩) (c7 : PySem.W.codeIn K cd7 "is_square" = true) (k7 : PySem.W.keepIn K (.ref f7) = true)
    (a8 : PySem.W.nsIn K mainGlobals "path_square" = some (some (.ref f8))) (l8 : K.lookup f8 = some ⟨oc8, od8, .func (PySem.W.fnOf "path_square" "path_square" (defArgs sPSq) (defBody sPSq) (defScope sPSq) .none kV8 dc8 pm8 an8 cd8 ct8), sl8⟩) (c8 : PySem.W.codeIn K cd8 "path_square" = true) (k8 : PySem.W.keepIn K (.ref f8) = true)
    (a9 : PySem.W.nsIn K mainGlobals "tree_word" = some (some (.ref f9))) (l9 : K.lookup f9 = some ⟨oc9, od9, .func (PySem.W.fnOf "tree_word" "tree_word" (defArgs sTree) (defBody sTree) (defScope sTree) .none kV9 dc9 pm9 an9 cd9 ct9), sl9⟩) (c9 : PySem.W.codeIn K cd9 "tree_word" = true) (k9 : PySem.W.keepIn K (.ref f9) = true)
    (a10 : PySem.W.nsIn K mainGlobals "_law_taken" = some (some (.ref f10))) (l10 : K.lookup f10 = some ⟨oc10, od10, .func (PySem.W.fnOf "_law_taken" "_law_taken" (defArgs sTaken) (defBody sTaken) (defScope sTaken) .none kV10 dc10 pm10 an10 cd10 ct10), sl10⟩) (c10 : PySem.W.codeIn K cd10 "_law_taken" = true) (k10 : PySem.W.keepIn K (.ref f10) = true)
    (a11 : PySem.W.nsIn K mainGlobals "_law_alike" = some (some (.ref f11))) (l11 : K.lookup f11 = some ⟨oc11, od11, .func (PySem.W.fnOf "_law_alike" "_law_alike" (defArgs sAlike) (defBody sAlike) (defScope sAlike) .none kV11 dc11 pm11 an11 cd11 ct11), sl11⟩) (c11 : PySem.W.codeIn K cd11 "_law_alike" = true) (k11 : PySem.W.keepIn K (.ref f11) = true)
    (a12 : PySem.W.nsIn K mainGlobals "_law_word" = some (some (.ref f12))) (l12 : K.lookup f12 = some ⟨oc12, od12, .func (PySem.W.fnOf "_law_word" "_law_word" (defArgs sWord) (defBody sWord) (defScope sWord) .none kV12 dc12 pm12 an12 cd12 ct12), sl12⟩) (c12 : PySem.W.codeIn K cd12 "_law_word" = true) (k12 : PySem.W.keepIn K (.ref f12) = true)
    (a13 : PySem.W.nsIn K mainGlobals "_law_all" = some (some (.ref f13))) (l13 : K.lookup f13 = some ⟨oc13, od13, .func (PySem.W.fnOf "_law_all" "_law_all" (defArgs sAll) (defBody sAll) (defScope sAll) .none kV13 dc13 pm13 an13 cd13 ct13), sl13⟩) (c13 : PySem.W.codeIn K cd13 "_law_all" = true) (k13 : PySem.W.keepIn K (.ref f13) = true)
    (a14 : PySem.W.nsIn K mainGlobals "_law_paths" = some (some (.ref f14))) (l14 : K.lookup f14 = some ⟨oc14, od14, .func (PySem.W.fnOf "_law_paths" "_law_paths" (defArgs sPaths) (defBody sPaths) (defScope sPaths) .none kV14 dc14 pm14 an14 cd14 ct14), sl14⟩) (c14 : PySem.W.codeIn K cd14 "_law_paths" = true) (k14 : PySem.W.keepIn K (.ref f14) = true)
    (a15 : PySem.W.nsIn K mainGlobals "_law_clash" = some (some (.ref f15))) (l15 : K.lookup f15 = some ⟨oc15, od15, .func (PySem.W.fnOf "_law_clash" "_law_clash" (defArgs sClash) (defBody sClash) (defScope sClash) .none kV15 dc15 pm15 an15 cd15 ct15), sl15⟩) (c15 : PySem.W.codeIn K cd15 "_law_clash" = true) (k15 : PySem.W.keepIn K (.ref f15) = true)
    (a16 : PySem.W.nsIn K mainGlobals "law" = some (some (.ref f16))) (l16 : K.lookup f16 = some ⟨oc16, od16, .func (PySem.W.fnOf "law" "law" (defArgs sLaw) (defBody sLaw) (defScope sLaw) .none kV16 dc16 pm16 an16 cd16 ct16), sl16⟩) (c16 : PySem.W.codeIn K cd16 "law" = true) (k16 : PySem.W.keepIn K (.ref f16) = true)
    (gt1 : PySem.W.nsIn K mainGlobals "MOST_SIZE" = some (some (.int 6 t1)))
    (gt2 : PySem.W.nsIn K mainGlobals "MOST_TREE" = some (some (.int 14 t2)))
    (gt3 : PySem.W.nsIn K mainGlobals "MOST_LOOKED" = some (some (.int 20000 t3)))
    (gt4 : PySem.W.nsIn K mainGlobals "LETTERS" = some (some (.str LET t4)))
    (z_isi : PySem.W.nsIn K mainGlobals "isinstance" = some none)
    (z_int : PySem.W.nsIn K mainGlobals "int" = some none)
    (z_bool : PySem.W.nsIn K mainGlobals "bool" = some none)
    (z_str : PySem.W.nsIn K mainGlobals "str" = some none)
    (z_len : PySem.W.nsIn K mainGlobals "len" = some none)
    (z_all : PySem.W.nsIn K mainGlobals "all" = some none)
    (z_any : PySem.W.nsIn K mainGlobals "any" = some none)
    (z_tuple : PySem.W.nsIn K mainGlobals "tuple" = some none)
    (z_list : PySem.W.nsIn K mainGlobals "list" = some none)
    (z_range : PySem.W.nsIn K mainGlobals "range" = some none)
    (z_enum : PySem.W.nsIn K mainGlobals "enumerate" = some none)
    (z_min : PySem.W.nsIn K mainGlobals "min" = some none)
    (z_sorted : PySem.W.nsIn K mainGlobals "sorted" = some none)
    : ∃ fd : FuncData, (∀ (s : Shared) (v : Value), BindsTo s fd ⟨[v], []⟩ [("_law_script", v)]) ∧ ∀ base : Heap, K.In base → base.Ns mainGlobals mg → FnOk l.prog w K mg base CX0 5 fa fd ["_law_script"] (spLaw K) := by
  have e := hfa.symm.trans (PySem.W.mg_of X G a16)
  cases e
  have B : Bi mg := ⟨PySem.W.mg_none_of X G z_isi, PySem.W.mg_none_of X G z_int, PySem.W.mg_none_of X G z_bool, PySem.W.mg_none_of X G z_str, PySem.W.mg_none_of X G z_len, PySem.W.mg_none_of X G z_all, PySem.W.mg_none_of X G z_any, PySem.W.mg_none_of X G z_tuple, PySem.W.mg_none_of X G z_list, PySem.W.mg_none_of X G z_range, PySem.W.mg_none_of X G z_enum, PySem.W.mg_none_of X G z_min, PySem.W.mg_none_of X G z_sorted⟩
  have G1 := PySem.W.mg_of X G a1
  have F1 := fun_mk (st := sIsInt) l1 c1 k1
  have b1 := F1.binds (ps := ["value"]) fun _ _ _ _ _ _ us hl => match us, hl with | [_], _ => rfl
  have G2 := PySem.W.mg_of X G a2
  have F2 := fun_mk (st := sIsIn) l2 c2 k2
  have b2 := F2.binds (ps := ["value", "least", "most"]) fun _ _ _ _ _ _ us hl => match us, hl with | [_, _, _], _ => rfl
  have G3 := PySem.W.mg_of X G a3
  have F3 : FunD K "is_word" "is_word" (defArgs sIsWord) (defBody sIsWord) (defScope sIsWord) [.int 200] [] f3 _ := ⟨⟨oc3, od3, .ref Td, kV3, dc3, pm3, an3, cd3, ct3, sl3, rfl, l3, c3, .inr ⟨(fun e => nomatch e), Td, _, [.int 200 tT], nT, rfl, lT, rfl, .cons ⟨tT, rfl⟩ .nil⟩, .inl rfl⟩, k3⟩
  obtain ⟨ds, v3, b3⟩ := F3.binds1 (ps := ["value", "most"]) 1 0 (fun e => nomatch e) rfl fun T kV doc pm an cdv ct us its hu hi => match us, its, hu, hi with | [_], [_], _, _ => ⟨_, rfl, rfl⟩
  have G4 := PySem.W.mg_of X G a4
  have F4 := fun_mk (st := sSize) l4 c4 k4
  have b4 := F4.binds (ps := ["value"]) fun _ _ _ _ _ _ us hl => match us, hl with | [_], _ => rfl
  have G5 := PySem.W.mg_of X G a5
  have F5 := fun_mk (st := sPar) l5 c5 k5
  have b5 := F5.binds (ps := ["value"]) fun _ _ _ _ _ _ us hl => match us, hl with | [_], _ => rfl
  have G6 := PySem.W.mg_of X G a6
  have F6 := fun_mk (st := sPath) l6 c6 k6
  have b6 := F6.binds (ps := ["parents", "one", "other"]) fun _ _ _ _ _ _ us hl => match us, hl with | [_, _, _], _ => rfl
  have G7 := PySem.W.mg_of X G a7
  have F7 := fun_mk (st := sSq) l7 c7 k7
  have b7 := F7.binds (ps := ["word"]) fun _ _ _ _ _ _ us hl => match us, hl with | [_], _ => rfl
  have G8 := PySem.W.mg_of X G a8
  have F8 := fun_mk (st := sPSq) l8 c8 k8
  have b8 := F8.binds (ps := ["parents", "word"]) fun _ _ _ _ _ _ us hl => match us, hl with | [_, _], _ => rfl
  have G9 := PySem.W.mg_of X G a9
  have F9 := fun_mk (st := sTree) l9 c9 k9
  have b9 := F9.binds (ps := ["parents", "size"]) fun _ _ _ _ _ _ us hl => match us, hl with | [_, _], _ => rfl
  have G10 := PySem.W.mg_of X G a10
  have F10 := fun_mk (st := sTaken) l10 c10 k10
  have b10 := F10.binds (ps := ["_law_row", "_law_many"]) fun _ _ _ _ _ _ us hl => match us, hl with | [_, _], _ => rfl
  have G11 := PySem.W.mg_of X G a11
  have F11 := fun_mk (st := sAlike) l11 c11 k11
  have b11 := F11.binds (ps := ["_law_found", "_law_due"]) fun _ _ _ _ _ _ us hl => match us, hl with | [_, _], _ => rfl
  have G12 := PySem.W.mg_of X G a12
  have F12 := fun_mk (st := sWord) l12 c12 k12
  have b12 := F12.binds (ps := ["_law_row", "_law_size", "_law_least", "_law_most"]) fun _ _ _ _ _ _ us hl => match us, hl with | [_, _, _, _], _ => rfl
  have G13 := PySem.W.mg_of X G a13
  have F13 := fun_mk (st := sAll) l13 c13 k13
  have b13 := F13.binds (ps := ["_law_size", "_law_length"]) fun _ _ _ _ _ _ us hl => match us, hl with | [_, _], _ => rfl
  have G14 := PySem.W.mg_of X G a14
  have F14 := fun_mk (st := sPaths) l14 c14 k14
  have b14 := F14.binds (ps := ["_law_parents"]) fun _ _ _ _ _ _ us hl => match us, hl with | [_], _ => rfl
  have G15 := PySem.W.mg_of X G a15
  have F15 := fun_mk (st := sClash) l15 c15 k15
  have b15 := F15.binds (ps := ["_law_parents", "_law_word_here"]) fun _ _ _ _ _ _ us hl => match us, hl with | [_, _], _ => rfl
  have G16 := PySem.W.mg_of X G a16
  have F16 := fun_mk (st := sLaw) l16 c16 k16
  have M1 := PySem.W.mg_of X G gt1
  have M2 := PySem.W.mg_of X G gt2
  have M3 := PySem.W.mg_of X G gt3
  have M4 := PySem.W.mg_of X G gt4
  refine ⟨PySem.W.fnOf "law" "law" (defArgs sLaw) (defBody sLaw) (defScope sLaw) .none kV16 dc16 pm16 an16 cd16 ct16, fun s v => .of_eq rfl, fun base _ _ => ?_⟩
  have H2 : FnOk l.prog w K mg base CX0 2 f2 _ ["value", "least", "most"] spIsIn := ok_isIn F2 F1 b1 G1 B
  have H3 : FnOk l.prog w K mg base CX0 1 f3 _ ["value", "most"] spIsWord := ok_isWord F3 B M4
  have H4 : FnOk l.prog w K mg base CX0 3 f4 _ ["value"] spSize := ok_size F4 F2 H2 b2 G2 M1
  have H5 : FnOk l.prog w K mg base CX0 3 f5 _ ["value"] spPar := ok_par F5 F2 H2 b2 G2 B M2
  have H6 : FnOk l.prog w K mg base CX0 1 f6 _ ["parents", "one", "other"] spPath := ok_path F6 B
  have H7 : FnOk l.prog w K mg base CX0 1 f7 _ ["word"] spSq := ok_sq F7 B
  have H8 : FnOk l.prog w K mg base CX0 4 f8 _ ["parents", "word"] spPSq := ok_psq F8 ⟨B, H5, b5, G5, k5, H3, b3, v3, G3, k3, H6, b6, G6, k6, H7, b7, G7, k7⟩
  have H9 : FnOk l.prog w K mg base CX0 4 f9 _ ["parents", "size"] spTree := ok_tree F9 ⟨B, H5, b5, G5, k5, H4, b4, G4, k4, H6, b6, G6, k6, H7, b7, G7, k7, M4, M3⟩
  have H10 : FnOk l.prog w K mg base CX0 1 f10 _ ["_law_row", "_law_many"] (spTaken K) := ok_taken F10 B
  have H11 : FnOk l.prog w K mg base CX0 2 f11 _ ["_law_found", "_law_due"] spAlike2 := ok_alike2 F11 B b11 G11
  have H12 : FnOk l.prog w K mg base CX0 2 f12 _ ["_law_row", "_law_size", "_law_least", "_law_most"] (spWordL K) := ok_wordL F12 B H10 b10 G10 k10
  have H13 : FnOk l.prog w K mg base CX0 1 f13 _ ["_law_size", "_law_length"] spAll := ok_all F13 B
  have H14 : FnOk l.prog w K mg base CX0 1 f14 _ ["_law_parents"] spPaths := ok_paths F14 B
  have H15 : FnOk l.prog w K mg base CX0 2 f15 _ ["_law_parents", "_law_word_here"] spClash := ok_clash F15 B H14 b14 G14 k14
  exact ok_law F16 ⟨B, H10, b10, G10, k10, H12, b12, G12, k12, H8, b8, G8, k8, H15, b15, G15, k15, H11, b11, G11, k11, H9, b9, G9, k9, H13, b13, G13, k13⟩
end Aw
open PySem PySem.W PyProof.Rows in
set_option maxRecDepth 100000 in
set_option maxHeartbeats 0 in
theorem PySem.Challenge.cw_avoidwords_k79_whole_trees_holds : PySem.Challenge.rw_avoidwords_k79_whole_trees.Holds := by
  w_on; o_law; k_head; (case hw => w_witness2)
  k_fill
  refine L2.walk_of (l := PySem.Challenge.rw_avoidwords_k79_whole_trees) (n := 63) (k := 5) (x := "_law_script") (CX := fun _ => L2.CX0) (sp := fun w => Aw.spLaw _) rfl (by decide) rfl ⟨rfl, by decide, by decide⟩ (fun w h Y => PySem.W.kIn_of Y) ?F (fun _ _ a ns hl _ hS => ⟨a, ns, rfl, hS, hl, fun _ => rfl⟩) (fun _ _ _ _ _ h => h)
  case F =>
    intro w mg fa h KX G hmg
    refine' Aw.all_mk KX G hmg ?a1 ?l1 ?c1 ?k1 ?a2 ?l2 ?c2 ?k2 ?a3 ?l3 ?c3 ?k3 ?lT ?a4 ?l4 ?c4 ?k4 ?a5 ?l5 ?c5 ?k5 ?a6 ?l6 ?c6 ?k6 ?a7 ?l7 ?c7 ?k7 ?a8 ?l8 ?c8 ?k8 ?a9 ?l9 ?c9 ?k9 ?a10 ?l10 ?c10 ?k10 ?a11 ?l11 ?c11 ?k11 ?a12 ?l12 ?c12 ?k12 ?a13 ?l13 ?c13 ?k13 ?a14 ?l14 ?c14 ?k14 ?a15 ?l15 ?c15 ?k15 ?a16 ?l16 ?c16 ?k16 ?gt1 ?gt2 ?gt3 ?gt4 ?z_isi ?z_int ?z_bool ?z_str ?z_len ?z_all ?z_any ?z_tuple ?z_list ?z_range ?z_enum ?z_min ?z_sorted
    (case a1 => k_is)
    (case l1 => k_is)
    (case c1 => k_is)
    (case k1 => k_is)
    (case a2 => k_is)
    (case l2 => k_is)
    (case c2 => k_is)
    (case k2 => k_is)
    (case a3 => k_is)
    (case l3 => k_is)
    (case c3 => k_is)
    (case k3 => k_is)
    (case lT => k_is)
    (case a4 => k_is)
    (case l4 => k_is)
    (case c4 => k_is)
    (case k4 => k_is)
    (case a5 => k_is)
    (case l5 => k_is)
    (case c5 => k_is)
    (case k5 => k_is)
    (case a6 => k_is)
    (case l6 => k_is)
    (case c6 => k_is)
    (case k6 => k_is)
    (case a7 => k_is)
    (case l7 => k_is)
    (case c7 => k_is)
    (case k7 => k_is)
    (case a8 => k_is)
    (case l8 => k_is)
    (case c8 => k_is)
    (case k8 => k_is)
    (case a9 => k_is)
    (case l9 => k_is)
    (case c9 => k_is)
    (case k9 => k_is)
    (case a10 => k_is)
    (case l10 => k_is)
    (case c10 => k_is)
    (case k10 => k_is)
    (case a11 => k_is)
    (case l11 => k_is)
    (case c11 => k_is)
    (case k11 => k_is)
    (case a12 => k_is)
    (case l12 => k_is)
    (case c12 => k_is)
    (case k12 => k_is)
    (case a13 => k_is)
    (case l13 => k_is)
    (case c13 => k_is)
    (case k13 => k_is)
    (case a14 => k_is)
    (case l14 => k_is)
    (case c14 => k_is)
    (case k14 => k_is)
    (case a15 => k_is)
    (case l15 => k_is)
    (case c15 => k_is)
    (case k15 => k_is)
    (case a16 => k_is)
    (case l16 => k_is)
    (case c16 => k_is)
    (case k16 => k_is)
    (case gt1 => k_is)
    (case gt2 => k_is)
    (case gt3 => k_is)
    (case gt4 => k_is)
    (case z_isi => k_is)
    (case z_int => k_is)
    (case z_bool => k_is)
    (case z_str => k_is)
    (case z_len => k_is)
    (case z_all => k_is)
    (case z_any => k_is)
    (case z_tuple => k_is)
    (case z_list => k_is)
    (case z_range => k_is)
    (case z_enum => k_is)
    (case z_min => k_is)
    (case z_sorted => k_is)
