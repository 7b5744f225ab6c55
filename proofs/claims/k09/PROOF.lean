import PyProof.Rows.All
import HandS.TupSets
import KE.SortData
import HandS.SetFor
import PyProof.WalksMore
import HandS.Strs
import KE.KDictPairs
import HandS.TupLen
import HandS.Dict
import HandS.Iter
import HandS.Walk
import HandS.ForMost
import HandS.Deep
import HandS.Zip
import HandS.Flow
import HandS.TupAny
import HandS.TupMul
import HandS.IsInst
import HandS.Conv
import HandS.WordsExc
import KE.DataCmp
import HandS.RaiseMore
import HandS.Style
import HandS.SortRule
import KE.DataFind
import HandS.MapObj
import KE.KDictZip
import HandS.Comp
import HandS.Text
import HandS.Head0
import HandS.Head1
import HandS.Head2
import HandS.HeadEnd
import HandS.HeadHook1
import HandS.HeadHook2
import KE.KStateDown
import Lean
import PySem.Challenge.RW_nearlysure_k09_whole_answers_of_trees
set_option Elab.async false
set_option linter.all false
set_option maxRecDepth 100100
set_option maxHeartbeats 4100000
set_option autoImplicit false
/-! PO0: small lemmas. -/
namespace PL
open PySem PySem.Spec PyProof.Rows L2
theorem perm_map_inv {α β : Type} (f : α → β) : ∀ {vs : List β} {L : List α}, vs.Perm (L.map f) → ∃ L1 : List α, L1.Perm L ∧ vs = L1.map f
  | [], L, h => by
    have : L = [] := List.map_eq_nil_iff.mp (List.nil_perm.mp h)
    exact ⟨[], by rw [this], rfl⟩
  | v :: vs, L, h => by
    obtain ⟨q, hq, rfl⟩ := List.mem_map.mp (h.mem_iff.mp List.mem_cons_self)
    obtain ⟨s, t, rfl⟩ := List.append_of_mem hq
    have h1 : ((s ++ q :: t).map f).Perm (f q :: (s ++ t).map f) := by
      simpa using (List.perm_middle (a := q) (l₁ := s) (l₂ := t)).map f
    obtain ⟨L1, p, e⟩ := perm_map_inv f (List.Perm.cons_inv (h.trans h1))
    exact ⟨q :: L1, (p.cons q).trans List.perm_middle.symm, by rw [List.map_cons, e]⟩
end PL

/-! PLQ: sorted(a set of tuples of ints), of any ints, the tuple of none too. -/
namespace SQ
open PySem PySem.Spec PyProof.Rows L2
theorem perm_map {α β : Type} (f : α → β) : ∀ {vs : List β} {L : List α}, vs.Perm (L.map f) → ∃ L1 : List α, L1.Perm L ∧ vs = L1.map f
  | [], L, h => by
    have e : L.map f = [] := List.nil_perm.mp h
    have : L = [] := List.map_eq_nil_iff.mp e
    exact ⟨[], by rw [this], rfl⟩
  | v :: vs, L, h => by
    have hm : v ∈ L.map f := h.mem_iff.mp (by simp)
    obtain ⟨q, hq, rfl⟩ := List.mem_map.mp hm
    obtain ⟨s, t, rfl⟩ := List.append_of_mem hq
    have h1 : ((s ++ q :: t).map f).Perm (f q :: (s ++ t).map f) := by
      have := (List.perm_middle (a := q) (l₁ := s) (l₂ := t)).map f
      simpa using this
    obtain ⟨L1, p, e⟩ := perm_map f (List.Perm.cons_inv (h.trans h1))
    exact ⟨q :: L1, (p.cons q).trans List.perm_middle.symm, by rw [List.map_cons, e]⟩
def tenc (q : Addr × List Int) : PyData := .tuple (q.2.map .int)
theorem reads_ints {h : Heap} : ∀ {us : List Value} {ns : List Int}, IntsAre us ns → ReadsAll h us (ns.map .int) []
  | _, _, .nil => .nil
  | _, _, .cons _ _ t => .cons (as := []) (bs := []) (.int _ _) (reads_ints t)
theorem reads_isT {P : Program} {w : World} {h : Heap} {k : List Int} {b : Addr} (x : IsT P w h k b) : Reads h (.ref b) (.tuple (k.map .int)) [] := by
  obtain ⟨a, xs, e, ⟨o, ho, hc, n, hd⟩, i⟩ := tupInts_of x
  injection e with e
  rw [e]
  exact .tuple ho hc hd (reads_ints i)
theorem dataLe_tup {β : Type} (x : β → List Int) : PySem.W.dataLe false (fun b => .tuple ((x b).map .int)) = fun p q => decide (x p ≤ x q) := by
  funext p q
  show (!PySem.W.dataLt (.tuple ((x q).map .int)) (.tuple ((x p).map .int))) = _
  rw [PySem.W.dataLt_tuple]
  show (!PySem.W.rowLt ((x q).map .int) ((x p).map .int)) = _
  rw [PySem.W.dataLt_ints]
  by_cases h : x q < x p
  · have h' : ¬ x p ≤ x q := fun r => List.not_lt.mpr r h
    simp [h, h']
  · have h' : x p ≤ x q := List.not_lt.mp h
    simp [h, h']
theorem each_map {R : Value → (Addr × List Int) → Prop} {f : Addr × List Int → Value} : ∀ {l : List (Addr × List Int)}, (∀ q ∈ l, R (f q) q) → PySem.W.EachIs R (l.map f) l
  | [], _ => .nil
  | q :: l, h => .cons (h q (by simp)) (each_map fun r hr => h r (by simp [hr]))
theorem each_refs : ∀ {out : List Value} {l : List (Addr × List Int)}, PySem.W.EachIs (fun v q => v = Value.ref q.1) out l → out = l.map fun q => Value.ref q.1
  | _, _, .nil => rfl
  | _, _, .cons h t => by rw [h, each_refs t]; rfl
section
variable {P : Program} {w : World} {A : Around} {E : Value → Shared → Prop} {s : Shared}
theorem sorted_setG {a : Addr} {L : List (Addr × List Int)} {es : Array (Int × Value)} {ep : Nat} {t : SetTable} {Q : Value → Shared → Prop} (R : SetTR P w s.heap a L es ep t) (hh : A.handled = none) (hu : A.units + 64 < cLine)
    (hd : 2 ≤ L.length → ∀ p ∈ L, p.2 ≠ [])
    (hQ : ∀ s' p (out : Array Value) (c : Nat) (L' : List (Addr × List Int)), (∀ b o, s.heap.get? b = some o → s'.heap.get? b = some o) → s'.gens = s.gens → s'.os = s.os → s.heap.objs.size ≤ p →
      s'.heap.get? p = some (seqObj "list" out c) → out.toList = L'.map (fun q => Value.ref q.1) → L'.Perm L → L'.Pairwise (fun q r => q.2 ≤ r.2) → Q (.ref p) s') :
    wpAny (model P w) A (call (.builtin "sorted") [.ref a]) Q E s := by
  obtain ⟨o, ho, hex, hdt⟩ := R.ob
  have hsz := R.size
  have hfew := R.few
  refine Calls.call_function_entry kind_sorted plain_sorted entry_sorted (args_sorted1 _) ?_
  unfold Builtin.«sorted»
  refine wpAny_bind (m := checkCount "sorted" 1 1 _) (wpAny_pure ?_)
  refine wpAny_bind (collect_set (A := A.in1) hh ⟨o, ho, hex.1, hdt⟩ R.fits (by unfold scanBound; omega) R.tab.ris R.led fun s1 vs k1 hz g1 o1 pm => ?_)
  have hes : es.toList.map (·.2) = L.map fun q => Value.ref q.1 := by
    rw [R.rows]
    unfold rowsOf
    rw [List.map_map]
    rfl
  rw [hes] at pm
  obtain ⟨L1, p1, rfl⟩ := perm_map _ pm
  have hl1 : L1.length < 64 := by rw [p1.length_eq]; exact hfew
  have hvz : (L1.map fun q => Value.ref q.1).length ≤ sizeLine := by rw [List.length_map, sizeLine_eq]; omega
  refine wpAny_bind (wpAny_newList ?_ hvz)
  have hoL : (s1.heap.push (seqObj "list" (L1.map fun q => Value.ref q.1).toArray 0)).get? s1.heap.objs.size = some (seqObj "list" (L1.map fun q => Value.ref q.1).toArray 0) := Heap.get?_push_size _ rfl
  have fin : ∀ (out : Array Value) (L' : List (Addr × List Int)), out.toList = L'.map (fun q => Value.ref q.1) → L'.Perm L1 → L'.Pairwise (fun q r => q.2 ≤ r.2) →
      Q (.ref s1.heap.objs.size) { s1 with heap := sortedHeap (s1.heap.push (seqObj "list" (L1.map fun q => Value.ref q.1).toArray 0)) s1.heap.objs.size (L1.map fun q => Value.ref q.1) out } := by
    intro out L' e1 e2 e3
    obtain ⟨c, hc⟩ := sortedHeap_at (vs := L1.map fun q => Value.ref q.1) (out := out) hoL
    refine hQ _ s1.heap.objs.size out c L' (fun b u e => ?_) g1 o1 hz hc e1 (e2.trans p1) e3
    have q := k1 b u e
    have hlt := Heap.lt_size q
    show (sortedHeap (s1.heap.push (seqObj "list" (L1.map fun q => Value.ref q.1).toArray 0)) s1.heap.objs.size (L1.map fun q => Value.ref q.1) out).get? b = some u
    rw [sortedHeap_old (Nat.ne_of_lt hlt) (by rw [size_push']; exact Nat.lt_succ_of_lt hlt)]
    exact Heap.get?_push_of_some _ q
  by_cases h2 : 2 ≤ L1.length
  · have hne : ∀ q ∈ L1, q.2 ≠ [] := fun q hq => hd (by rw [← p1.length_eq]; exact h2) q (p1.mem_iff.mp hq)
    have er : PySem.W.EachIs (fun v b => ∃ as, Reads (s1.heap.push (seqObj "list" (L1.map fun q => Value.ref q.1).toArray 0)) v (tenc b) as ∧ s1.heap.objs.size ∉ as) (L1.map fun q => Value.ref q.1) L1 :=
      each_map fun q hq => ⟨[], reads_isT (P := P) (w := w) (isT_keep (R.tup q (p1.mem_iff.mp hq)) fun b u e => Heap.get?_push_of_some _ (k1 b u e)), by simp⟩
    have hk : PySem.W.Sortable (L1.map tenc) := .inl fun d hd' => by
      obtain ⟨q, hq, rfl⟩ := List.mem_map.mp hd'
      cases e : q.2 with
      | nil => exact absurd e (hne q hq)
      | cons x r => exact ⟨.int x, r.map .int, by unfold tenc; rw [e]; rfl⟩
    refine wpAny_bind (wpAny_holding (PySem.W.list_sort_data (s := { s1 with heap := s1.heap.push (seqObj "list" (L1.map fun q => Value.ref q.1).toArray 0) }) (R := fun v q => v = Value.ref q.1) hoL (each_map fun q _ => rfl) er (PySem.W.AllAlike.of fun b b' => ?_) hk (by rw [sizeLine_eq]; omega) (fun b hb => ?_) fun out _ eo => ?_))
    · show PySem.W.alike (.tuple (b.2.map .int)) (.tuple (b'.2.map .int)) = true
      rw [PySem.W.alike]
      exact PySem.W.alike_ints _ _
    · have h0 : (tenc b).depth ≤ 1 := by
        unfold tenc
        rw [PyData.depth, PySem.W.depth_ints]
        decide
      show A.units + _ + 1 + (tenc b).depth < cLine
      omega
    · refine wpAny_pure ⟨_, rfl, fin _ (L1.mergeSort (PySem.W.dataLe false tenc)) ?_ (List.mergeSort_perm _ _) ?_⟩
      · rw [← each_refs eo]
      · have e : PySem.W.dataLe false tenc = fun p q => decide (p.2 ≤ q.2) := dataLe_tup (fun q : Addr × List Int => q.2)
        have hp := List.pairwise_mergeSort (le := PySem.W.dataLe false tenc) (fun a b c h1 h2 => by
          rw [e] at h1 h2 ⊢
          exact decide_eq_true (List.le_trans (of_decide_eq_true h1) (of_decide_eq_true h2))) (fun a b => by
          rw [e]
          rcases List.le_total a.2 b.2 with h | h
          · simp [h]
          · simp [h]) L1
        refine hp.imp fun {q r} h => ?_
        rw [e] at h
        exact of_decide_eq_true h
  · have pw : ∀ L' : List (Addr × List Int), L'.Perm L1 → L'.Pairwise (fun q r => q.2 ≤ r.2) := fun L' hp => by
      have hl := hp.length_eq
      match L', hl with
      | [], _ => exact .nil
      | [q], _ => exact .cons (fun _ h => by cases h) .nil
      | _ :: _ :: _, hl => simp at hl; omega
    refine wpAny_bind (wpAny_holding (wpAny_call_entry slot_list_sort ⟨_, hoL, rfl⟩ entry_list_sort (Srt.list_sort_any (s := { s1 with heap := s1.heap.push (seqObj "list" (L1.map fun q => Value.ref q.1).toArray 0) }) hoL hvz (fun h => absurd (by simpa using h) h2) fun out hp => ⟨_, rfl, ?_⟩) (args_list_sort _)))
    obtain ⟨L', e1, e2⟩ := perm_map _ hp
    exact wpAny_pure ⟨_, rfl, fin out.toArray L' (by simpa using e2) e1 (pw L' e1)⟩
end
end SQ

/-! PO3: set(a list), whatever the items are: what adding does is told. -/
namespace SG
open PySem PySem.Spec PyProof.Rows L2
/-- a new set's object -/
abbrev nob (w : World) : Obj := { cls := .type "set", dict := none, data := .set #[] 0 (.fresh 0 0 (!w.params.followText "set-order")) }
section
variable {P : Program} {w : World} {A : Around} {E : Value → Shared → Prop} {s : Shared}
/-- the walk that adds: J i h holds of the heap h behind i items -/
theorem upd_loop {I : Addr} {fp wr : List Addr} {G : Array GenState → Array GenState → Prop} {n : Nat} {Pv : Nat → Value → Prop} {St : Nat → Shared → Prop} {R : Result → Shared → Prop} {S : Addr} {J : Nat → Heap → Prop} {h0 : Heap}
    (W : WalksS P w A.in1 I fp wr G n Pv St) (nf : S ∉ fp) (nS : h0.get? S = none) (nw : ∀ b ∈ wr, h0.get? b = none)
    (stay : ∀ i (g g' : Heap), J i g → (∀ o, g.get? S = some o → g'.get? S = some o) → (∀ b o, h0.get? b = some o → g'.get? b = some o) → J i g')
    (add : ∀ i v (s : Shared) (Q : Bool → Shared → Prop) (E : Value → Shared → Prop), i < n → Pv i v → J i s.heap → (∀ b o, h0.get? b = some o → s.heap.get? b = some o) → (∀ b g tk, Heap.SameBut S s.heap g → J (i + 1) g → s.toks ≤ tk → Q b { s with heap := g, toks := tk }) → wpAny (model P w) A.in1 (setAdd S v) Q E s) :
    ∀ (d i : Nat) (s : Shared), d + i = n → St i s → (∀ b o, h0.get? b = some o → s.heap.get? b = some o) → J i s.heap →
      (∀ s', Moved (S :: wr) G s s' → J n s'.heap → (∀ b o, h0.get? b = some o → s'.heap.get? b = some o) → R (.ok (.ret .none)) s') →
      codeAny (model P w) A (.builtin "set.update.loop" ⟨[.ref S, .ref I], []⟩) R s := by
  have nr : S ∉ wr := fun z => nf (W.sub _ z)
  have up : ∀ b ∈ wr, b ∈ S :: wr := fun b z => List.mem_cons_of_mem _ z
  have kept : ∀ {s1 s2 : Shared}, Moved wr G s1 s2 → (∀ b o, h0.get? b = some o → s1.heap.get? b = some o) → ∀ b o, h0.get? b = some o → s2.heap.get? b = some o := fun mv kp b o e =>
    mv.heap b o (fun z => by rw [nw b z] at e; cases e) (kp b o e)
  intro d
  induction d with
  | zero =>
    intro i s hi st kp j fin
    obtain rfl : i = n := by omega
    refine codeAny_builtin F.entry_set_update_loop ?_
    rw [Around.under_plainId F.plain_set_update_loop _]
    show wpAny _ A.in1 (pyNext (.ref I) >>= _) _ _ s
    refine wpAny_bind (W.done s _ _ st fun s2 mv => ?_)
    show wpAny _ A.in1 (ret Value.none) _ _ s2
    exact wpAny_pure (fin s2 (mv.mono up) (stay _ _ _ j (fun o e => mv.heap S o nr e) (kept mv kp)) (kept mv kp))
  | succ d ih =>
    intro i s hi st kp j fin
    have lt : i < n := by omega
    refine codeAny_builtin F.entry_set_update_loop ?_
    rw [Around.under_plainId F.plain_set_update_loop _]
    show wpAny _ A.in1 (pyNext (.ref I) >>= _) _ _ s
    refine wpAny_bind (W.item i s _ _ lt st fun v s2 hv st2 mv => ?_)
    have kp2 := kept mv kp
    have j2 := stay i _ s2.heap j (fun o e => mv.heap S o nr e) kp2
    show wpAny _ A.in1 (holding [v] (setAdd S v) >>= _) _ _ s2
    refine wpAny_bind (wpAny_holding (add i v s2 _ _ lt hv j2 kp2 fun b g tk sb j3 tle => ?_))
    have kp3 : ∀ b o, h0.get? b = some o → g.get? b = some o := fun b o e => (sb.2 b (fun z => by rw [z, nS] at e; cases e)).trans (kp2 b o e)
    refine wpAny_pure ⟨plainId_quiet F.plain_set_update_loop _, ih (i + 1) _ (by omega) (W.frame _ s2 _ _ st2 tle fun b hb o e => ?_) kp3 j3 fun s3 mv3 j4 kp4 => ?_⟩
    · rw [sb.2 b (fun z : b = S => nf (by rw [← z]; exact hb))]; exact e
    · refine fin s3 (Moved.trans W.gtrans ((mv.mono up).then_heap tle fun b o hb e => ?_) mv3) j4 kp4
      rw [sb.2 b (fun z : b = S => hb (by rw [z]; exact List.mem_cons_self))]; exact e

set_option maxHeartbeats 3200000 in
/-- set(xs) -/
theorem call_set {l : Addr} {items : Array Value} {J : Nat → Heap → Prop} {Q : Value → Shared → Prop} (hh : A.handled = none) (hl : s.heap.IsList l items) (hu : A.units + 3 < cLine)
    (j0 : ∀ g : Heap, g.get? s.heap.objs.size = some (nob w) → (∀ b o, s.heap.get? b = some o → g.get? b = some o) → J 0 g)
    (stay : ∀ i (g g' : Heap), J i g → (∀ o, g.get? s.heap.objs.size = some o → g'.get? s.heap.objs.size = some o) → (∀ b o, s.heap.get? b = some o → g'.get? b = some o) → J i g')
    (add : ∀ i v (A' : Around) (s' : Shared) (Q : Bool → Shared → Prop) (E : Value → Shared → Prop), A'.units ≤ A.units + 3 → items[i]? = some v → J i s'.heap → (∀ b o, s.heap.get? b = some o → s'.heap.get? b = some o) →
      (∀ b g tk, Heap.SameBut s.heap.objs.size s'.heap g → J (i + 1) g → s'.toks ≤ tk → Q b { s' with heap := g, toks := tk }) → wpAny (model P w) A' (setAdd s.heap.objs.size v) Q E s')
    (fin : ∀ (g : Heap) (tk : Nat), J items.size g → (∀ b o, s.heap.get? b = some o → g.get? b = some o) → Q (.ref s.heap.objs.size) { s with heap := g, toks := tk }) :
    wpAny (model P w) A (call (.type "set") [.ref l]) Q E s := by
  obtain ⟨c, tl, hmro⟩ := F.called_set.mro
  have hmade := F.called_set.made
  have hsub := F.called_set.sub
  refine wpAny_call (codeAny_of_tree ?_)
  show wpAny _ _ (callAny (.type "set") _) _ _ _
  refine wpAny_pure ⟨Code.quiet_builtin _ (by decide +kernel), codeAny_builtin F.entry_type_call ?_⟩
  rw [Around.under_plain (weight_type_call_type "set" [.ref l] []) rfl]
  have h1 := F.called_set.notType
  have h2 := F.called_set.canCreate
  have hct := F.typeCall_set_1 (.ref l)
  repeat (any_goals (first | assumption | wp_step))
  refine codeAny_mono (code_set_led1 (.ref l) (E := E) (Q₁ := fun v s1 => v = .ref s.heap.objs.size ∧ s1 = { s with heap := s.heap.push (nob w) }) ⟨rfl, rfl⟩) fun r s1 hr => ?_
  rcases r with e | fl
  · exact hr
  cases fl with
  | ret obj =>
    obtain ⟨rfl, rfl⟩ := hr
    have hS : (s.heap.push (nob w)).get? s.heap.objs.size = some (nob w) := Heap.get?_push_size _ rfl
    have hT : Shared.TypeIs { s with heap := s.heap.push (nob w) } (.ref s.heap.objs.size) "set" := ⟨_, hS, rfl⟩
    have hli := F.called_set.init.lookup
    have hbi := F.called_set.init.bind (.ref s.heap.objs.size)
    repeat (any_goals (first | assumption | wp_step))
    refine codeAny_mono (codeAny_call_builtin (R := wants (fun r s2 => r = .none ∧ ∃ g tk, s2 = { s with heap := g, toks := tk } ∧ J items.size g ∧ (∀ b o, s.heap.get? b = some o → g.get? b = some o)) E) F.called_set.init.plain F.entry_set_init (check_set_init_1 hT ?_)) fun r2 s2 hr2 => ?_
    · obtain ⟨⟨ocls, odict, odata, oslots⟩, hol, hcl, nl, hdl⟩ := hl
      simp only at hcl hdl
      subst hcl; subst hdl
      have hol2 : (s.heap.push (nob w)).get? l = some { cls := .type "list", dict := odict, data := .seq items nl, slots := oslots } := Heap.get?_push_of_some _ hol
      have hsls := F.sub_list_set
      have hslf := F.sub_list_frozenset
      have hne : (Value.type "list" == Value.type "dict") = false := by decide
      have hl1 : (s.heap.push (nob w)).IsList l items := ⟨_, hol2, rfl, nl, rfl⟩
      unfold Builtin.«set.__init__» noKeywords Builtin.Frozenset.updateFrom
      generalize hPI : pyIter = PI
      wp_walk
      subst hPI
      refine wpAny_pyIter_list hl1 ?_
      refine wpAny_bind (wpAny_runValue ?_)
      have lS : l < s.heap.objs.size := Heap.lt_size hol
      have hsz : (s.heap.push (nob w)).objs.size = s.heap.objs.size + 1 := Heap.size_push ..
      have h3 : A.in1.in1.in1.handled = none := by simp [hh]
      have ne : l ≠ (s.heap.push (nob w)).objs.size := by rw [hsz]; exact Nat.ne_of_lt (Nat.lt_succ_of_lt lS)
      have nf : s.heap.objs.size ∉ [(s.heap.push (nob w)).objs.size, l] := by
        rw [hsz]; simp only [List.mem_cons, List.not_mem_nil, or_false, not_or]; exact ⟨Nat.ne_of_lt (Nat.lt_succ_self _), Nat.ne_of_gt lS⟩
      have non : ∀ b, s.heap.objs.size ≤ b → s.heap.get? b = none := fun b hb => by
        cases q : s.heap.get? b with
        | none => rfl
        | some o => exact absurd (Nat.lt_of_lt_of_le (Heap.lt_size q) hb) (Nat.lt_irrefl _)
      refine upd_loop (J := J) (h0 := s.heap) ((Walks.list h3 _ l ne items).toS) nf (non _ (Nat.le_refl _)) (fun b hb => non b (by rw [List.mem_singleton.mp hb, hsz]; exact Nat.le_succ _)) stay
        (fun i v s' Q' E' _ hv j kp q => add i v _ s' Q' E' (Nat.le_refl _) hv j kp q) items.size 0 _ (by omega) ⟨⟨_, Heap.get?_push_size _ rfl, rfl, rfl⟩, (hl1.push _)⟩
        (fun b o e => Heap.get?_push_of_some _ (Heap.get?_push_of_some _ e)) (j0 _ (Heap.get?_push_of_some _ hS) fun b o e => Heap.get?_push_of_some _ (Heap.get?_push_of_some _ e)) fun s' hm j kp => ?_
      obtain ⟨g, g2, d', tk', os'⟩ := s'
      have eg : g2 = s.gens := hm.gens
      have ed : d' = s.drawn := hm.drawn
      have eo : os' = s.os := hm.os
      subst eg; subst ed; subst eo
      show wpAny _ _ _ _ _ _
      refine wpAny_pure ?_
      show wpAny _ _ (ret Value.none) _ _ _
      exact wpAny_pure ⟨rfl, g, tk', rfl, j, kp⟩
    · rcases r2 with e2 | fl2
      · exact hr2
      cases fl2 with
      | ret r =>
        obtain ⟨rfl, g, tk, rfl, j, kp⟩ := hr2
        repeat (any_goals (first | assumption | wp_step))
        exact fin _ _ j kp
      | _ => exact hr2.elim
  | _ => exact hr.elim
end
end SG

/-! PO8: set(a tuple), whatever the items are. -/
namespace SG
open PySem PySem.Spec PyProof.Rows L2
section
variable {P : Program} {w : World} {A : Around} {E : Value → Shared → Prop} {s : Shared}
set_option maxHeartbeats 3200000 in
/-- set(xs), xs a tuple -/
theorem call_setT {l : Addr} {items : Array Value} {J : Nat → Heap → Prop} {Q : Value → Shared → Prop} (hh : A.handled = none) (hl : s.heap.IsTuple l items) (hu : A.units + 3 < cLine)
    (j0 : ∀ g : Heap, g.get? s.heap.objs.size = some (nob w) → (∀ b o, s.heap.get? b = some o → g.get? b = some o) → J 0 g)
    (stay : ∀ i (g g' : Heap), J i g → (∀ o, g.get? s.heap.objs.size = some o → g'.get? s.heap.objs.size = some o) → (∀ b o, s.heap.get? b = some o → g'.get? b = some o) → J i g')
    (add : ∀ i v (A' : Around) (s' : Shared) (Q : Bool → Shared → Prop) (E : Value → Shared → Prop), A'.units ≤ A.units + 3 → items[i]? = some v → J i s'.heap → (∀ b o, s.heap.get? b = some o → s'.heap.get? b = some o) →
      (∀ b g tk, Heap.SameBut s.heap.objs.size s'.heap g → J (i + 1) g → s'.toks ≤ tk → Q b { s' with heap := g, toks := tk }) → wpAny (model P w) A' (setAdd s.heap.objs.size v) Q E s')
    (fin : ∀ (g : Heap) (tk : Nat), J items.size g → (∀ b o, s.heap.get? b = some o → g.get? b = some o) → Q (.ref s.heap.objs.size) { s with heap := g, toks := tk }) :
    wpAny (model P w) A (call (.type "set") [.ref l]) Q E s := by
  obtain ⟨c, tl, hmro⟩ := F.called_set.mro
  have hmade := F.called_set.made
  have hsub := F.called_set.sub
  refine wpAny_call (codeAny_of_tree ?_)
  show wpAny _ _ (callAny (.type "set") _) _ _ _
  refine wpAny_pure ⟨Code.quiet_builtin _ (by decide +kernel), codeAny_builtin F.entry_type_call ?_⟩
  rw [Around.under_plain (weight_type_call_type "set" [.ref l] []) rfl]
  have h1 := F.called_set.notType
  have h2 := F.called_set.canCreate
  have hct := F.typeCall_set_1 (.ref l)
  repeat (any_goals (first | assumption | wp_step))
  refine codeAny_mono (code_set_led1 (.ref l) (E := E) (Q₁ := fun v s1 => v = .ref s.heap.objs.size ∧ s1 = { s with heap := s.heap.push (nob w) }) ⟨rfl, rfl⟩) fun r s1 hr => ?_
  rcases r with e | fl
  · exact hr
  cases fl with
  | ret obj =>
    obtain ⟨rfl, rfl⟩ := hr
    have hS : (s.heap.push (nob w)).get? s.heap.objs.size = some (nob w) := Heap.get?_push_size _ rfl
    have hT : Shared.TypeIs { s with heap := s.heap.push (nob w) } (.ref s.heap.objs.size) "set" := ⟨_, hS, rfl⟩
    have hli := F.called_set.init.lookup
    have hbi := F.called_set.init.bind (.ref s.heap.objs.size)
    repeat (any_goals (first | assumption | wp_step))
    refine codeAny_mono (codeAny_call_builtin (R := wants (fun r s2 => r = .none ∧ ∃ g tk, s2 = { s with heap := g, toks := tk } ∧ J items.size g ∧ (∀ b o, s.heap.get? b = some o → g.get? b = some o)) E) F.called_set.init.plain F.entry_set_init (check_set_init_1 hT ?_)) fun r2 s2 hr2 => ?_
    · obtain ⟨⟨ocls, odict, odata, oslots⟩, hol, hcl, nl, hdl⟩ := hl
      simp only at hcl hdl
      subst hcl; subst hdl
      have hol2 : (s.heap.push (nob w)).get? l = some { cls := .type "tuple", dict := odict, data := .seq items nl, slots := oslots } := Heap.get?_push_of_some _ hol
      have hsls := F.sub_tuple_set
      have hslf := F.sub_tuple_frozenset
      have hne : (Value.type "list" == Value.type "dict") = false := by decide
      have hl1 : (s.heap.push (nob w)).IsTuple l items := ⟨_, hol2, rfl, nl, rfl⟩
      unfold Builtin.«set.__init__» noKeywords Builtin.Frozenset.updateFrom
      generalize hPI : pyIter = PI
      wp_walk
      subst hPI
      refine wpAny_pyIter_tuple hl1 ?_
      refine wpAny_bind (wpAny_runValue ?_)
      have lS : l < s.heap.objs.size := Heap.lt_size hol
      have hsz : (s.heap.push (nob w)).objs.size = s.heap.objs.size + 1 := Heap.size_push ..
      have h3 : A.in1.in1.in1.handled = none := by simp [hh]
      have ne : l ≠ (s.heap.push (nob w)).objs.size := by rw [hsz]; exact Nat.ne_of_lt (Nat.lt_succ_of_lt lS)
      have nf : s.heap.objs.size ∉ [(s.heap.push (nob w)).objs.size, l] := by
        rw [hsz]; simp only [List.mem_cons, List.not_mem_nil, or_false, not_or]; exact ⟨Nat.ne_of_lt (Nat.lt_succ_self _), Nat.ne_of_gt lS⟩
      have non : ∀ b, s.heap.objs.size ≤ b → s.heap.get? b = none := fun b hb => by
        cases q : s.heap.get? b with
        | none => rfl
        | some o => exact absurd (Nat.lt_of_lt_of_le (Heap.lt_size q) hb) (Nat.lt_irrefl _)
      refine upd_loop (J := J) (h0 := s.heap) ((Walks.tuple h3 _ l ne items).toS) nf (non _ (Nat.le_refl _)) (fun b hb => non b (by rw [List.mem_singleton.mp hb, hsz]; exact Nat.le_succ _)) stay
        (fun i v s' Q' E' _ hv j kp q => add i v _ s' Q' E' (Nat.le_refl _) hv j kp q) items.size 0 _ (by omega) ⟨⟨_, Heap.get?_push_size _ rfl, rfl, rfl⟩, (hl1.push _)⟩
        (fun b o e => Heap.get?_push_of_some _ (Heap.get?_push_of_some _ e)) (j0 _ (Heap.get?_push_of_some _ hS) fun b o e => Heap.get?_push_of_some _ (Heap.get?_push_of_some _ e)) fun s' hm j kp => ?_
      obtain ⟨g, g2, d', tk', os'⟩ := s'
      have eg : g2 = s.gens := hm.gens
      have ed : d' = s.drawn := hm.drawn
      have eo : os' = s.os := hm.os
      subst eg; subst ed; subst eo
      show wpAny _ _ _ _ _ _
      refine wpAny_pure ?_
      show wpAny _ _ (ret Value.none) _ _ _
      exact wpAny_pure ⟨rfl, g, tk', rfl, j, kp⟩
    · rcases r2 with e2 | fl2
      · exact hr2
      cases fl2 with
      | ret r =>
        obtain ⟨rfl, g, tk, rfl, j, kp⟩ := hr2
        repeat (any_goals (first | assumption | wp_step))
        exact fin _ _ j kp
      | _ => exact hr2.elim
  | _ => exact hr.elim
end
end SG

/-! PO4: sorted(a set of ints), of any size; len of sets; by data. -/
namespace SG
open PySem PySem.Spec PyProof.Rows L2
theorem perm_eachG {α β : Type} {R : α → β → Prop} {us us' : List α} {L : List β} (h : PySem.W.EachIs R us L) (p : us'.Perm us) : ∃ L', L'.Perm L ∧ PySem.W.EachIs R us' L' := by
  have hl := h.length
  have e1 : us = (us.zip L).map (·.1) := (List.map_fst_zip (by omega)).symm
  have e2 : L = (us.zip L).map (·.2) := (List.map_snd_zip (by omega)).symm
  rw [e1] at p
  obtain ⟨Z, pz, rfl⟩ := PL.perm_map_inv _ p
  refine ⟨Z.map (·.2), by rw [e2]; simpa using pz.map Prod.snd, PySem.W.EachIs.of fun q hq => h.zip q (pz.mem_iff.mp hq)⟩
theorem int_each {us : List Value} (h : ∀ v ∈ us, ∃ k tk, v = Value.int k tk) : PySem.W.EachIs (fun v (k : Int) => ∃ tk, v = Value.int k tk) us (us.map Builtin.Re.reRawOf) := by
  induction us with
  | nil => exact .nil
  | cons v us ih =>
    obtain ⟨k, tk, rfl⟩ := h v (by simp)
    exact .cons ⟨tk, rfl⟩ (ih fun w hw => h w (by simp [hw]))
theorem ints_get : ∀ {us : List Value} {ns : List Int} {i : Nat} {v : Value}, IntsAre us ns → us[i]? = some v → ∃ z t, ns[i]? = some z ∧ v = .int z t
  | _, _, _, _, .nil, h => by simp at h
  | _, _, 0, _, .cons n t r, h => by simp at h; exact ⟨n, t, rfl, h.symm⟩
  | _, _, i + 1, _, .cons n t r, h => by
    obtain ⟨z, u, e1, e2⟩ := ints_get (i := i) r (by simpa using h)
    exact ⟨z, u, by simpa using e1, e2⟩
theorem each_ints : ∀ {us : List Value} {ns : List Int}, PySem.W.EachIs (fun v (k : Int) => ∃ tk, v = Value.int k tk) us ns → IntsAre us ns
  | _, _, .nil => .nil
  | _, _, .cons ⟨tk, e⟩ t => by rw [e]; exact .cons _ _ (each_ints t)
section
variable {P : Program} {w : World} {A : Around} {E : Value → Shared → Prop} {s : Shared}
/-- sorted(a set of ints) -/
theorem sorted_ints {a : Addr} {S : Int → Bool} {n : Nat} {Q : Value → Shared → Prop} (R : SetR w s.heap a S n) (hh : A.handled = none) (hu : A.units + 64 < cLine)
    (fin : ∀ s' p (out : Array Value) (c : Nat) (ns : List Int), (∀ b o, s.heap.get? b = some o → s'.heap.get? b = some o) → s'.gens = s.gens → s'.os = s.os → s.heap.objs.size ≤ p →
      s'.heap.get? p = some (seqObj "list" out c) → IntsAre out.toList ns → ns.Pairwise (· < ·) → (∀ k, k ∈ ns ↔ S k = true) → ns.length = n → n < scanBound → Q (.ref p) s') :
    wpAny (model P w) A (call (.builtin "sorted") [.ref a]) Q E s := by
  obtain ⟨o, es, ep, t, ho, hex, hd, g, nd, hm, hb, hf, hn, hr, hl⟩ := R
  refine Calls.call_function_entry kind_sorted plain_sorted entry_sorted (args_sorted1 _) ?_
  unfold Builtin.«sorted»
  refine wpAny_bind (m := checkCount "sorted" 1 1 _) (wpAny_pure ?_)
  refine wpAny_bind (collect_set (A := A.in1) hh ⟨o, ho, hex.1, hd⟩ hf hb hr hl fun s1 vs k1 hz g1 o1 pm => ?_)
  have hvl : vs.length = n := by rw [pm.length_eq, List.length_map, Array.length_toList]; exact hn
  have hvz : vs.length ≤ sizeLine := by rw [hvl, sizeLine_eq]; unfold scanBound at hb; omega
  have hI : ∀ v ∈ vs, ∃ k tk, v = Value.int k tk := fun v hv => by
    obtain ⟨e, he, q⟩ := List.mem_map.mp (pm.mem_iff.mp hv)
    obtain ⟨k, tk, h1, _⟩ := g e he
    exact ⟨k, tk, by rw [← q]; exact h1⟩
  have pk : (vs.map Builtin.Re.reRawOf).Perm (es.toList.map keyOf) := by
    have q := pm.map Builtin.Re.reRawOf
    rw [List.map_map] at q
    exact q
  have e0 := int_each hI
  refine wpAny_bind (wpAny_newList ?_ hvz)
  have hoL : (s1.heap.push (seqObj "list" vs.toArray 0)).get? s1.heap.objs.size = some (seqObj "list" vs.toArray 0) := Heap.get?_push_size _ rfl
  refine wpAny_bind (wpAny_holding (PySem.W.list_sort_data (s := { s1 with heap := s1.heap.push (seqObj "list" vs.toArray 0) }) (enc := fun k : Int => PyData.int k) hoL e0 (e0.mono fun v k ⟨tk, e⟩ => ⟨[], by rw [e]; exact .int _ _, by simp⟩)
    (PySem.W.AllAlike.of fun b b' => by simp [PySem.W.alike]) (.inr fun d hd => ?_) (by rw [← e0.length]; exact hvz) (fun b hb => ?_) fun out ho2 eo => ?_))
  · obtain ⟨k, _, rfl⟩ := List.mem_map.mp hd
    simp
  · show A.in1.units + 1 + PyData.depth (.int b) < cLine
    simp only [PyData.depth]
    show A.units + _ + 1 + 0 < cLine
    omega
  · obtain ⟨c, hc⟩ := sortedHeap_at (vs := vs) (out := out.toArray) hoL
    have pn : ((vs.map Builtin.Re.reRawOf).mergeSort (PySem.W.dataLe false fun k : Int => PyData.int k)).Perm (es.toList.map keyOf) := (List.mergeSort_perm _ _).trans pk
    have pw : ((vs.map Builtin.Re.reRawOf).mergeSort (PySem.W.dataLe false fun k : Int => PyData.int k)).Pairwise (· ≤ ·) := by
      have e : PySem.W.dataLe false (fun k : Int => PyData.int k) = fun a b => decide (a ≤ b) := PySem.W.dataLe_int (fun k : Int => k)
      rw [e]
      refine (List.pairwise_mergeSort (le := fun a b : Int => decide (a ≤ b)) (fun a b c h1 h2 => ?_) (fun a b => ?_) _).imp fun h => of_decide_eq_true h
      · have := of_decide_eq_true h1
        have := of_decide_eq_true h2
        exact decide_eq_true (by omega)
      · simp only [Bool.or_eq_true, decide_eq_true_eq]; omega
    refine wpAny_pure ⟨_, rfl, fin _ s1.heap.objs.size out.toArray c _ (fun b u e => ?_) g1 o1 hz hc (by simpa using each_ints eo) (lt_of_le_nodup _ pw (pn.nodup_iff.mpr nd)) (fun k => by rw [pn.mem_iff, ← hm k]) (by rw [pn.length_eq, List.length_map, Array.length_toList]; exact hn) (by omega)⟩
    have q := k1 b u e
    have hlt := Heap.lt_size q
    show (sortedHeap (s1.heap.push (seqObj "list" vs.toArray 0)) s1.heap.objs.size vs out.toArray).get? b = some u
    rw [sortedHeap_old (Nat.ne_of_lt hlt) (by rw [size_push']; exact Nat.lt_succ_of_lt hlt)]
    exact Heap.get?_push_of_some _ q
end
section
variable {X : Cx}
/-- set(xs), xs a list of ints -/
def rSetI (K : PySem.W.Frag) (w : World) : List V → Hp → VK → Prop := fun xs H Q => ∃ (l : Addr) (ns : List Int), xs = [.ref l] ∧ SqL K H l (ns.map V.int) ∧ ns.length + 1 < scanBound ∧ ∀ a c, H a = none → Q (.ref a) (upd H a (SetO w a (fun k => decide (k ∈ ns)) c))
theorem cr_setI (hc : X.calm = true) (hu : X.A.units + 64 < cLine) : CallR X (.type "set") (rSetI X.K X.w) := by
  intro pins s σ H xs us Q I r ⟨l, ns, e, hs, hb, q⟩
  subst e
  rw [Vals.ref1 r]
  obtain ⟨its, rv, pl, hz⟩ := I.list hs
  have hi : IntsAre its ns := rv.ints
  have hsz : its.length = ns.length := IntsAre.length hi
  refine call_set (J := fun i g => ∃ c, c ≤ i ∧ SetR X.w g s.heap.objs.size (fun k => decide (k ∈ ns.take i)) c) (I.ok.hd hc) pl.isList (by omega) (fun g hg _ => ⟨0, Nat.le_refl _, setR_new_at hg⟩)
    (fun i g g' ⟨c, h1, h2⟩ k1 _ => ⟨c, h1, h2.at k1⟩) (fun i v A' s' Q' E' _ hv ⟨c, h1, h2⟩ _ fin => ?_) fun g tk ⟨c, h1, h2⟩ kp => ?_
  · have hv' : its[i]? = some v := by simpa using hv
    obtain ⟨z, t, hz2, rfl⟩ : ∃ z t, ns[i]? = some z ∧ v = .int z t := by
      exact ints_get hi hv'
    unfold setAdd
    refine wpAny_holding ?_
    refine wpAny_bind ((intKind X.prog X.w).pyHash (k := z) (intKind_is _ _ _ _) ?_)
    have hil : i < ns.length := (List.getElem?_eq_some_iff.mp hz2).1
    refine setR_add_hashed (s := { s' with toks := s'.toks + 1 }) h2 (by omega) fun h' sb R2 => ?_
    refine fin _ h' (s'.toks + 1) sb ⟨_, ?_, R2.congr fun j => ?_⟩ (Nat.le_succ _)
    · split <;> omega
    · rw [List.take_add_one, hz2]
      simp [List.mem_append]
  · have e : ns.take its.toArray.size = ns := List.take_of_length_le (by simp [hsz])
    rw [e] at h2
    have hn : H s.heap.objs.size = none := I.hok.fresh (Nat.le_refl _)
    exact ⟨.ref _, upd H s.heap.objs.size (SetO X.w s.heap.objs.size (fun k => decide (k ∈ ns)) c), I.laid (t' := tk) kp (Nat.le_refl _) (setO_new h2), rfl, q _ c hn⟩
/-- sorted(a set of ints) -/
def rSortI (w : World) : List V → Hp → VK → Prop := fun vs H Q => ∃ (a : Addr) (S : Int → Bool) (n : Nat), vs = [V.ref a] ∧ H a = some (SetO w a S n) ∧
  ∀ (ns : List Int) (p : Addr), ns.Pairwise (· < ·) → (∀ k : Int, k ∈ ns ↔ S k = true) → H p = none → Q (.ref p) (upd H p (.lst (ns.map V.int)))
theorem cr_sortI (hc : X.calm = true) (hu : X.A.units + 64 < cLine) : CallR X (.builtin "sorted") (rSortI X.w) := by
  intro pins s σ H vs us Q I r ⟨a, S, n, e, ha, q⟩
  subst e
  rw [Vals.ref1 r]
  refine sorted_ints (setO_get I ha) (I.ok.hd hc) hu fun s' p out c ns k g o hp hg hi hs hm hl hb => ?_
  have hlen : (ns.map V.int).length ≤ sizeLine := by rw [List.length_map, hl, sizeLine_eq]; unfold scanBound at hb; omega
  have hn : H p = none := I.hok.fresh hp
  have J := I.call' (s' := s') (ch := []) (H' := upd H p (.lst (ns.map V.int))) o (Un.laid k hp hn) (I.hok.laid k hp ⟨hlen, out.toList, c, vals_of_ints hi, hg⟩) (by rw [g]; exact I.bare) (fun _ z => nomatch z)
  exact ⟨.ref p, _, J, rfl, q ns p hs hm hn⟩
/-- len of a set of ints, of tuples -/
def rLenI (P : Program) (w : World) : List V → Hp → VK → Prop := fun vs H Q => (∃ (a : Addr) (S : Int → Bool) (n : Nat), vs = [V.ref a] ∧ H a = some (SetO w a S n) ∧ ∀ ns : List Int, ns.Nodup → (∀ k : Int, k ∈ ns ↔ S k = true) → Q (.int ns.length) H) ∨
  (∃ (a : Addr) (L : List (Addr × List Int)), vs = [V.ref a] ∧ H a = some (SetTO P w a L) ∧ ((L.map (·.2)).Nodup → Q (.int L.length) H))
theorem cr_lenI : CallR X (.builtin "len") (rLenI X.prog X.w) := by
  intro pins s σ H vs us Q I r h
  rcases h with ⟨a, S, n, e, ha, q⟩ | ⟨a, L, e, ha, q⟩
  · subst e
    rw [Vals.ref1 r]
    obtain ⟨o, es, ep, t, ho, hex, hd, g, nd, hm, hb, hf, hn, hr, hl⟩ := setO_get I ha
    refine call_len_set ho hex hd hf (by unfold scanBound at hb; omega) ⟨.int es.size, H, I.tok _, ⟨_, rfl⟩, ?_⟩
    have := q (es.toList.map keyOf) nd fun k => (hm k).symm
    simpa using this
  · subst e
    rw [Vals.ref1 r]
    obtain ⟨es, ep, t, ⟨o, ho, hex, hd⟩, rows, tab, nd, plain, led, room, few⟩ := (show SetT0 X.prog X.w s.heap a L from (I.hok a _ ha).1).ex
    have hsz : es.size = L.length := by
      have := congrArg List.length rows
      unfold rowsOf at this
      rw [Array.length_toList, List.length_map] at this
      exact this
    have hf : t.fits es.size = true := by
      have h1 := tab.sz
      rw [List.length_map] at h1
      unfold SetTable.fits SetTable.fill
      rw [tab.dm, Bool.and_eq_true, beq_iff_eq, decide_eq_true_eq]
      show t.place.size = es.size ∧ t.place.size + 0 ≤ t.mask
      omega
    refine call_len_set ho hex hd hf (by omega) ⟨.int es.size, H, I.tok _, ⟨_, rfl⟩, ?_⟩
    rw [hsz]
    exact q nd
end
end SG

/-! GT1: hash tables of any mask whose round meets all slots. -/
namespace GT
open PySem PySem.Spec PyProof.Rows L2

/-- a mask whose round i -> 5 i + 1 meets each slot -/
structure MG (m : Nat) : Prop where
  odd : m % 2 = 1
  big : m ≤ 2047
  meets : ∀ i j, i ≤ m → j ≤ m → ∃ k, k ≤ m ∧ lcgI m i k = j
theorem mg_of {m : Nat} (h : MaskOk m) : MG m := ⟨mask_odd h, by rcases h with e | e | e <;> omega, fun i j hi hj => lcgI_all h hi hj⟩
/-- no way back to 0 ahead of the whole round -/
def noBack (m : Nat) : Nat → Nat → Bool
  | _, 0 => true
  | x, n + 1 => (x * 5 + 1) % (m + 1) != 0 && noBack m ((x * 5 + 1) % (m + 1)) n
theorem noBack_ok (m : Nat) : ∀ (n a : Nat), noBack m (lcgN m a) n = true → ∀ k, 1 ≤ k → k ≤ n → lcgN m (a + k) ≠ 0
  | 0, _, _, k, h1, h2 => by omega
  | n + 1, a, h, k, h1, h2 => by
    simp only [noBack, Bool.and_eq_true, bne_iff_ne, ne_eq] at h
    obtain ⟨g1, g2⟩ := h
    by_cases e : k = 1
    · subst e; exact g1
    · have := noBack_ok m n (a + 1) g2 (k - 1) (by omega) (by omega)
      rw [show a + 1 + (k - 1) = a + k by omega] at this
      exact this
theorem lcgN_le (m : Nat) : ∀ n, lcgN m n ≤ m
  | 0 => Nat.zero_le _
  | n + 1 => Nat.le_of_lt_succ (Nat.mod_lt _ (Nat.succ_pos _))
/-- 5 can be undone -/
theorem undo {m v x y : Nat} (hv : v * 5 % (m + 1) = 1) (hm : 0 < m) (hx : x ≤ m) (hy : y ≤ m) (h : (x * 5 + 1) % (m + 1) = (y * 5 + 1) % (m + 1)) : x = y := by
  have h1 : ((x * 5 + 1) + m) % (m + 1) = ((y * 5 + 1) + m) % (m + 1) := by
    rw [Nat.add_mod, h, ← Nat.add_mod]
  have e : ∀ z : Nat, ((z * 5 + 1) + m) % (m + 1) = z * 5 % (m + 1) := fun z => by
    rw [show z * 5 + 1 + m = z * 5 + (m + 1) by omega, Nat.add_mod_right]
  rw [e, e] at h1
  have h2 : v * (x * 5) % (m + 1) = v * (y * 5) % (m + 1) := by
    rw [Nat.mul_mod, h1, ← Nat.mul_mod]
  have e2 : ∀ z : Nat, z ≤ m → v * (z * 5) % (m + 1) = z := fun z hz => by
    rw [show v * (z * 5) = (v * 5) * z by rw [Nat.mul_comm z 5, Nat.mul_assoc], Nat.mul_mod, hv, Nat.one_mul, Nat.mod_mod, Nat.mod_eq_of_lt (by omega)]
  rw [e2 x hx, e2 y hy] at h2
  exact h2
theorem lcgN_back {m v : Nat} (hv : v * 5 % (m + 1) = 1) (hm : 0 < m) : ∀ a b, lcgN m (a + b) = lcgN m a → lcgN m b = 0
  | 0, b, h => by rw [Nat.zero_add] at h; exact h
  | a + 1, b, h => by
    refine lcgN_back hv hm a b (undo hv hm (lcgN_le m _) (lcgN_le m _) ?_)
    rw [show a + 1 + b = (a + b) + 1 by omega] at h
    exact h
theorem lcgN_inj {m v : Nat} (hv : v * 5 % (m + 1) = 1) (hm : 0 < m) (hb : noBack m 0 m = true) {a b : Nat} (ha : a ≤ m) (hbm : b ≤ m) (h : lcgN m a = lcgN m b) : a = b := by
  have nb := noBack_ok m m 0 hb
  rcases Nat.lt_trichotomy a b with c | c | c
  · obtain ⟨d, rfl⟩ : ∃ d, b = a + d := ⟨b - a, by omega⟩
    have := lcgN_back hv hm a d h.symm
    exact absurd this (by have := nb d (by omega) (by omega); rwa [Nat.zero_add] at this)
  · exact c
  · obtain ⟨d, rfl⟩ : ∃ d, a = b + d := ⟨a - b, by omega⟩
    have := lcgN_back hv hm b d h
    exact absurd this (by have := nb d (by omega) (by omega); rwa [Nat.zero_add] at this)
theorem lcgN_all {m v : Nat} (hv : v * 5 % (m + 1) = 1) (hm : 0 < m) (hb : noBack m 0 m = true) {j : Nat} (hj : j ≤ m) : ∃ b, b ≤ m ∧ lcgN m b = j := by
  rcases Classical.em (∃ b, b ≤ m ∧ lcgN m b = j) with c | c
  · exact c
  · exfalso
    have nd : ((List.range (m + 1)).map (lcgN m)).Nodup := by
      refine List.pairwise_map.mpr (List.Pairwise.imp_of_mem (fun {a b} ha hb2 hne e => ?_) List.nodup_range)
      exact hne (lcgN_inj hv hm hb (Nat.le_of_lt_succ (List.mem_range.mp ha)) (Nat.le_of_lt_succ (List.mem_range.mp hb2)) e)
    have sub : ∀ x ∈ (List.range (m + 1)).map (lcgN m), x ∈ (List.range (m + 1)).erase j := fun x hx => by
      obtain ⟨b, hb2, rfl⟩ := List.mem_map.mp hx
      have hbm := Nat.le_of_lt_succ (List.mem_range.mp hb2)
      exact (List.mem_erase_of_ne fun e => c ⟨b, hbm, e⟩).mpr (List.mem_range.mpr (Nat.lt_succ_of_le (lcgN_le m b)))
    have q := nat_nodup_len _ _ nd sub
    rw [List.length_map, List.length_erase_of_mem (List.mem_range.mpr (Nat.lt_succ_of_le hj)), List.length_range] at q
    omega
theorem mg_make {m v : Nat} (ho : m % 2 = 1) (hl : m ≤ 2047) (hv : v * 5 % (m + 1) = 1) (hb : noBack m 0 m = true) (hr : lcgN m (m + 1) = 0) : MG m := by
  refine ⟨ho, hl, fun i j hi hj => ?_⟩
  have hm : 0 < m := by omega
  obtain ⟨a, ha, ea⟩ := lcgN_all hv hm hb hi
  obtain ⟨b, hb2, eb⟩ := lcgN_all hv hm hb hj
  have round : ∀ k, lcgN m (m + 1 + k) = lcgN m k := fun k => by
    induction k with
    | zero => exact hr
    | succ k ih =>
      show (lcgN m (m + 1 + k) * 5 + 1) % (m + 1) = (lcgN m k * 5 + 1) % (m + 1)
      rw [ih]
  by_cases c : b < a
  · refine ⟨b + (m + 1) - a, by omega, ?_⟩
    rw [← ea, lcgN_add, show a + (b + (m + 1) - a) = m + 1 + b by omega, round, eb]
  · refine ⟨b - a, by omega, ?_⟩
    rw [← ea, lcgN_add, show a + (b - a) = b by omega, eb]
/-- the next of the round -/
def rnd (m : Nat) : Nat → Nat → Nat
  | x, 0 => x
  | x, n + 1 => rnd m ((x * 5 + 1) % (m + 1)) n
theorem rnd_eq (m : Nat) : ∀ n a, rnd m (lcgN m a) n = lcgN m (a + n)
  | 0, _ => rfl
  | n + 1, a => by
    show rnd m (lcgN m (a + 1)) n = _
    rw [rnd_eq m n (a + 1), show a + 1 + n = a + (n + 1) by omega]
theorem round0 {m : Nat} (h : rnd m 0 (m + 1) = 0) : lcgN m (m + 1) = 0 := by
  have := rnd_eq m (m + 1) 0
  rw [Nat.zero_add] at this
  rw [← this]; exact h
theorem mg511 : MG 511 := mg_make (v := 205) (by decide) (by decide) (by decide) (by decide +kernel) (round0 (by decide +kernel))
theorem mg2047 : MG 2047 := mg_make (v := 1229) (by decide) (by decide) (by decide) (by decide +kernel) (round0 (by decide +kernel))

/-! ### the way of a search -/
theorem slot_met {m : Nat} (g : MG m) (h : Int) {j : Nat} (hj : j ≤ m) : ∃ n, n ≤ m + 12 ∧ runI m (SetTable.bits h) n = j := by
  obtain ⟨k, hk, e⟩ := g.meets _ _ (runI_le m (SetTable.bits h) 12) hj
  exact ⟨12 + k, by omega, by rw [runI_tail (bits_lt h)]; exact e⟩
theorem way_met {m : Nat} (g : MG m) (h : Int) {j : Nat} (hj : j ≤ m) : ∃ k, k < 10 * SetTable.turns m ∧ way m h k = j := by
  obtain ⟨n, hn, e⟩ := slot_met g h hj
  obtain ⟨k, hk, e2⟩ := run_nth m (SetTable.bits h) n
  refine ⟨k, by unfold SetTable.turns; omega, ?_⟩
  show (nth m (runAt m (SetTable.bits h % (m + 1)) (SetTable.bits h)) k).j = j
  rw [e2]; exact e
theorem way_in (m : Nat) (h : Int) (k : Nat) : way m h k ≤ m := by
  have hi : SetTable.bits h % (m + 1) ≤ m := Nat.le_of_lt_succ (Nat.mod_lt _ (Nat.succ_pos _))
  have r := runEnd_bd hi
  have q := nth_in (m := m) k (runAt m (SetTable.bits h % (m + 1)) (SetTable.bits h)) (show SetTable.bits h % (m + 1) + (SetTable.runEnd m (SetTable.bits h % (m + 1)) - SetTable.bits h % (m + 1)) ≤ m by omega)
  exact Nat.le_trans (Nat.le_add_right _ _) q
/-- a table whose slots are all found again from their hashes -/
structure Tab (t : SetTable) (hs : List Int) : Prop where
  ris : Ris t.place.toList
  dm : t.dummies = #[]
  sz : t.place.size = hs.length
  mg : MG t.mask
  bd : ∀ x ∈ t.place.toList, x ≤ t.mask
  reach : ∀ (i : Nat) (h : Int) (j : Nat), hs[i]? = some h → t.place.toList[i]? = some j → ∃ k, way t.mask h k = j ∧ ∀ k', k' < k → way t.mask h k' ∈ t.place.toList
section
variable {t : SetTable} {hs : List Int} {h : Int}
theorem Tab.hole (T : Tab t hs) (hl : hs.length ≤ t.mask) (h : Int) : ∃ K, K < 10 * SetTable.turns t.mask ∧ way t.mask h K ∉ t.place.toList ∧ ∀ k, k < K → way t.mask h k ∈ t.place.toList := by
  obtain ⟨j, hj, hn⟩ := st_missing t.place.toList (t.mask + 1) (by rw [Array.length_toList, T.sz]; omega)
  obtain ⟨k, hk, e⟩ := way_met T.mg h (Nat.le_of_lt_succ hj)
  obtain ⟨K, h1, h2, h3⟩ := st_least (p := fun k => way t.mask h k ∉ t.place.toList) k (by rw [e]; exact hn)
  exact ⟨K, Nat.lt_of_le_of_lt h1 hk, h2, fun k' hk' => Classical.byContradiction fun c => h3 k' hk' c⟩
theorem Tab.ahead (T : Tab t hs) {K i j : Nat} (hK : way t.mask h K ∉ t.place.toList) (hi : hs[i]? = some h) (hj : t.place.toList[i]? = some j) : ∃ k, k < K ∧ way t.mask h k = j := by
  obtain ⟨k, e, hb⟩ := T.reach i h j hi hj
  refine ⟨k, ?_, e⟩
  by_cases c : k < K
  · exact c
  · by_cases d : k = K
    · subst d; rw [e] at hK; exact absurd (List.mem_of_getElem? hj) hK
    · exact absurd (hb K (by omega)) hK
/-- one more is put in -/
theorem Tab.more (T : Tab t hs) {K : Nat} (hK : way t.mask h K ∉ t.place.toList) (hb : ∀ k, k < K → way t.mask h k ∈ t.place.toList) {p : Nat} (hp : p = SetTable.below t.place (way t.mask h K)) :
    p ≤ hs.length ∧ Tab (t.put (way t.mask h K)).1 (hs.take p ++ h :: hs.drop p) ∧ (t.put (way t.mask h K)).1.fill = hs.length + 1 := by
  have hle := way_in t.mask h K
  generalize ej : way t.mask h K = j at *
  obtain ⟨c1, _, _⟩ := below_cut T.ris j
  have hpl : p ≤ t.place.toList.length := by rw [hp, Array.length_toList]; exact c1
  have hsz : t.place.toList.length = hs.length := by rw [Array.length_toList]; exact T.sz
  have hph : p ≤ hs.length := by omega
  have hnp : t.place[SetTable.below t.place j]? ≠ some j := fun e => hK (List.mem_of_getElem? (by rw [Array.getElem?_toList]; exact e))
  have pp : (t.put j).1.place.toList = t.place.toList.take p ++ j :: t.place.toList.drop p := by rw [put_place, hp]
  have hsize : (t.put j).1.place.size = hs.length + 1 := by rw [← Array.length_toList, pp, len_ins _ hpl, hsz]
  have up : ∀ {x : Nat}, x ∈ t.place.toList → x ∈ (t.put j).1.place.toList := fun hx => by rw [pp]; exact mem_ins.2 (.inr hx)
  refine ⟨hph, ⟨ris_insert T.ris hnp, put_dm T.dm j, by rw [len_ins _ hph]; exact hsize, T.mg, fun x hx => ?_, fun i h' j' h1 h2 => ?_⟩, ?_⟩
  · rw [pp] at hx
    rcases mem_ins.1 hx with rfl | z
    · exact hle
    · exact T.bd x z
  · rw [tins_get hs hph] at h1
    rw [pp, tins_get _ hpl] at h2
    show ∃ k, way t.mask h' k = j' ∧ ∀ k', k' < k → way t.mask h' k' ∈ (t.put j).1.place.toList
    have old : ∀ i0 : Nat, hs[i0]? = some h' → t.place.toList[i0]? = some j' → ∃ k, way t.mask h' k = j' ∧ ∀ k', k' < k → way t.mask h' k' ∈ (t.put j).1.place.toList := fun i0 a b => by
      obtain ⟨k, e, z⟩ := T.reach i0 h' j' a b
      exact ⟨k, e, fun k' hk' => up (z k' hk')⟩
    by_cases c : i < p
    · rw [if_pos c] at h1 h2
      exact old i h1 h2
    · rw [if_neg c] at h1 h2
      by_cases d : i = p
      · rw [if_pos d] at h1 h2
        cases h1; cases h2
        exact ⟨K, ej, fun k' hk' => up (hb k' hk')⟩
      · rw [if_neg d] at h1 h2
        exact old _ h1 h2
  · show (t.put j).1.place.size + (t.put j).1.dummies.size = hs.length + 1
    rw [hsize, put_dm T.dm j] <;> rfl
end
/-! ### laid anew -/
theorem free_at {m : Nat} (g : MG m) (owner : Array (Option Nat)) (h : Int) {j : Nat} (hj : j ≤ m) (hf : oAt owner j = none) :
    ∃ K, SetTable.layClean.free m owner (SetTable.turns m) (SetTable.bits h % (m + 1)) (SetTable.bits h) = some (way m h K) ∧ oAt owner (way m h K) = none ∧ ∀ k, k < K → oAt owner (way m h k) ≠ none := by
  obtain ⟨n, hn, e⟩ := slot_met g h hj
  have ew : way m h (off m (SetTable.bits h % (m + 1)) (SetTable.bits h) n) = j := by
    show (nth m (runAt m (SetTable.bits h % (m + 1)) (SetTable.bits h)) (off m (SetTable.bits h % (m + 1)) (SetTable.bits h) n)).j = j
    rw [nth_off, itL_run]; exact e
  obtain ⟨K, k1, k2, k3⟩ := st_least (p := fun k => oAt owner (way m h k) = none) (off m (SetTable.bits h % (m + 1)) (SetTable.bits h) n) (by rw [ew]; exact hf)
  refine ⟨K, free_spec m owner (SetTable.turns m) n _ _ K (by unfold SetTable.turns; omega) k1 (fun k hk => ?_) ?_, k2, k3⟩
  · have q := k3 k hk
    show (oAt owner (way m h k)).isNone = false
    cases z : oAt owner (way m h k) with
    | none => exact absurd z q
    | some _ => rfl
  · show (oAt owner (way m h K)).isNone = true
    rw [k2] <;> rfl
theorem own_step {m : Nat} (g : MG m) {done : List Int} {owner : Array (Option Nat)} (W : Own m done owner) (hl : done.length ≤ m) (h : Int) :
    ∃ j, SetTable.layClean.free m owner (SetTable.turns m) (SetTable.bits h % (m + 1)) (SetTable.bits h) = some j ∧ Own m (done ++ [h]) (owner.setIfInBounds j (some done.length)) := by
  obtain ⟨ps, hps, hin⟩ := W.ps
  obtain ⟨j0, h0, hn0⟩ := st_missing ps (m + 1) (by omega)
  have free0 : oAt owner j0 = none := Classical.byContradiction fun z => hn0 (hin j0 (Nat.le_of_lt_succ h0) z)
  obtain ⟨K, e1, e2, e3⟩ := free_at g owner h (Nat.le_of_lt_succ h0) free0
  have hjm := way_in m h K
  generalize ej : way m h K = j at *
  have self := oAt_set_self (some done.length) (show j < owner.size by rw [W.sz]; omega)
  have mono : ∀ {i : Nat}, oAt owner i ≠ none → oAt (owner.setIfInBounds j (some done.length)) i ≠ none := fun {i} hi => by
    by_cases c : i = j
    · rw [c, self]; exact fun e => nomatch e
    · rw [oAt_set_ne _ c]; exact hi
  refine ⟨j, e1, by rw [Array.size_setIfInBounds]; exact W.sz, fun i k hi e => ?_, fun k hk => ?_, ⟨j :: ps, by simp [hps], fun i hi e => ?_⟩⟩
  · by_cases c : i = j
    · rw [c, self] at e
      cases e
      exact ⟨h, K, by simp, by rw [c]; exact ej, fun k' hk' => mono (e3 k' hk')⟩
    · rw [oAt_set_ne _ c] at e
      obtain ⟨h', K', a1, a2, a3⟩ := W.at_ i k hi e
      exact ⟨h', K', by rw [List.getElem?_append_left (List.getElem?_eq_some_iff.mp a1).1]; exact a1, a2, fun k' hk' => mono (a3 k' hk')⟩
  · by_cases c : k < done.length
    · obtain ⟨i, hi, e⟩ := W.all k c
      exact ⟨i, hi, by rw [oAt_set_ne _ (fun z => by rw [z, e2] at e; cases e)]; exact e⟩
    · have ek : k = done.length := by simp at hk; omega
      exact ⟨j, hjm, by rw [ek]; exact self⟩
  · by_cases c : i = j
    · rw [c]; exact List.mem_cons_self
    · rw [oAt_set_ne _ c] at e
      exact List.mem_cons_of_mem _ (hin i hi e)
theorem own_fold {m : Nat} (g : MG m) : ∀ (rest done : List Int) (owner : Array (Option Nat)), Own m done owner → done.length + rest.length ≤ m →
    ∃ o2, rest.foldl (stepF m) (some (owner, done.length)) = some (o2, (done ++ rest).length) ∧ Own m (done ++ rest) o2
  | [], done, owner, W, _ => ⟨owner, by rw [List.append_nil] <;> rfl, by rw [List.append_nil]; exact W⟩
  | h :: rest, done, owner, W, hl => by
    rw [List.length_cons] at hl
    obtain ⟨j, e, W1⟩ := own_step g W (by omega) h
    obtain ⟨o2, f, W2⟩ := own_fold g rest (done ++ [h]) _ W1 (by simp; omega)
    rw [List.append_assoc, List.singleton_append] at f W2
    rw [show (done ++ [h]).length = done.length + 1 by simp] at f
    exact ⟨o2, by rw [List.foldl_cons, stepF_some e]; exact f, W2⟩
theorem clean_at {m : Nat} (g : MG m) {hs : Array Int} (hn : hs.size ≤ m) : ∃ owner, SetTable.layClean m hs = some owner ∧ Own m hs.toList owner := by
  obtain ⟨owner, f, W⟩ := own_fold g hs.toList [] _ (Own.init m) (by simpa using hn)
  rw [List.nil_append] at W
  refine ⟨owner, ?_, W⟩
  rw [layClean_eq]
  exact congrArg (Option.map Prod.fst) f
theorem anew_at (t : SetTable) {hs : Array Int} {wanted M : Nat} (hw : SetTable.sizeAbove wanted - 1 = M) (g : MG M) (hn : hs.size ≤ M) :
    ∃ t' order, t.relaid hs wanted = some (t', order) ∧ order.toList.Perm (List.range hs.size) ∧ Tab t' (order.toList.map fun i => hs.getD i 0) ∧ t'.mask = M ∧ t'.led = t.led ∧ t'.plain = t.plain := by
  obtain ⟨owner, e, W⟩ := clean_at g hn
  have hr : t.relaid hs wanted = some (tabOf t M owner, ((liveOf M owner).map (·.2)).toArray) := by rw [relaid_eq, hw, e] <;> rfl
  obtain ⟨r1, r2⟩ := ris_live (fun j => owner.getD j none) (List.range (M + 1)) (by
    unfold Ris
    first | exact List.pairwise_lt_range | exact List.pairwise_lt_range _)
  have r1 : Ris ((liveOf M owner).map (·.1)) := r1
  have nd : ((liveOf M owner).map (·.1)).Nodup := r1.imp fun h => Nat.ne_of_lt h
  have full : ∀ k, k < hs.size → k ∈ (liveOf M owner).map (·.2) := fun k hk => by
    obtain ⟨j, b1, b2⟩ := W.all k (by rw [Array.length_toList]; exact hk)
    exact List.mem_map.mpr ⟨(j, k), (mem_live W.sz).2 ⟨b1, b2⟩, rfl⟩
  have hlen : (liveOf M owner).length = hs.size := by
    obtain ⟨ps, p1, p2⟩ := W.ps
    have a := nat_nodup_len _ ps nd fun x hx => by
      obtain ⟨⟨y, k⟩, hq, rfl⟩ := List.mem_map.mp hx
      obtain ⟨b1, b2⟩ := (mem_live W.sz).1 hq
      exact p2 y b1 (by rw [b2]; exact fun z => nomatch z)
    have b := nat_nodup_len (List.range hs.size) _ List.nodup_range fun k hk => full k (List.mem_range.mp hk)
    simp only [List.length_map, p1, Array.length_toList] at a
    simp only [List.length_map, List.length_range] at b
    exact Nat.le_antisymm a b
  refine ⟨_, _, hr, perm_range hs.size _ (by simpa using hlen) full, ⟨r1, rfl, by simp [tabOf], g, fun x hx => ?_, fun i h j h1 h2 => ?_⟩, rfl, rfl, rfl⟩
  · exact Nat.le_of_lt_succ (List.mem_range.mp (r2 x hx))
  · have h1' : (((liveOf M owner).map (·.2)).map fun i => hs.getD i 0)[i]? = some h := h1
    have h2' : ((liveOf M owner).map (·.1))[i]? = some j := h2
    rw [List.getElem?_map, List.getElem?_map] at h1'
    rw [List.getElem?_map] at h2'
    cases hq : (liveOf M owner)[i]? with
    | none => rw [hq] at h2'; cases h2'
    | some q =>
      obtain ⟨y, k⟩ := q
      rw [hq] at h1' h2'
      cases h2'
      have eh : hs.getD k 0 = h := Option.some.inj h1'
      obtain ⟨b1, b2⟩ := (mem_live W.sz).1 (List.mem_of_getElem? hq)
      obtain ⟨h0, K, a1, a2, a3⟩ := W.at_ _ k b1 b2
      have e0 : hs.getD k 0 = h0 := by rw [Array.getD_eq_getD_getElem?, ← Array.getElem?_toList, a1] <;> rfl
      rw [e0] at eh
      subst eh
      refine ⟨K, a2, fun k' hk' => ?_⟩
      show way M h0 k' ∈ (liveOf M owner).map (·.1)
      cases z : oAt owner (way M h0 k') with
      | none => exact absurd z (a3 k' hk')
      | some k2 => exact List.mem_map.mpr ⟨(way M h0 k', k2), (mem_live W.sz).2 ⟨way_in M h0 k', z⟩, rfl⟩
end GT

/-! GT2: sets of tuples of ints, up to 1200. -/
namespace GT
open PySem PySem.Spec PyProof.Rows L2

structure SetG (P : Program) (w : World) (h : Heap) (a : Addr) (L : List (Addr × List Int)) (es : Array (Int × Value)) (ep : Nat) (t : SetTable) : Prop where
  ob : ∃ o, h.get? a = some o ∧ o.ExactSet ∧ o.data = .set es ep t
  rows : es.toList = rowsOf P w L
  tab : Tab t (L.map fun p => thash P w p.2)
  nd : (L.map (·.2)).Nodup
  tup : ∀ p ∈ L, IsT P w h p.2 p.1
  plain : t.plain = true
  led : w.params.followText "set-order" = true ∨ t.led = true
  room : L.length * 5 < t.mask * 3
  few : L.length < 1200
section
variable {P : Program} {w : World} {A : Around} {E : Value → Shared → Prop} {s : Shared} {a : Addr} {L : List (Addr × List Int)} {es : Array (Int × Value)} {ep : Nat} {t : SetTable}
theorem rows_len {es : Array (Int × Value)} (h : es.toList = rowsOf P w L) : es.size = L.length := by
  have := congrArg List.length h
  unfold rowsOf at this
  rw [Array.length_toList, List.length_map] at this
  exact this
theorem fits_of {hs : List Int} (T : Tab t hs) {n : Nat} (h : n = hs.length) (hr : n ≤ t.mask) : t.fits n = true := by
  have := T.sz
  unfold SetTable.fits SetTable.fill
  rw [T.dm, Bool.and_eq_true, beq_iff_eq, decide_eq_true_eq]
  show t.place.size = n ∧ t.place.size + 0 ≤ t.mask
  omega
theorem SetG.fits (R : SetG P w s.heap a L es ep t) : t.fits es.size = true := by
  have h2 := R.room
  exact fits_of R.tab (by rw [rows_len R.rows, List.length_map]) (by rw [rows_len R.rows]; omega)
theorem row_at {es : Array (Int × Value)} (hr : es.toList = rowsOf P w L) {i : Nat} {p : Addr × List Int} (h : L[i]? = some p) : es[i]? = some (thash P w p.2, Value.ref p.1) := by
  rw [← Array.getElem?_toList, hr]
  unfold rowsOf
  rw [List.getElem?_map, h] <;> rfl
theorem not_gave (T : Tab t (L.map fun p => thash P w p.2)) : ¬ t.gaveWay = true := by
  unfold SetTable.gaveWay
  rw [T.mg.odd]
  decide

/-- the search, from the c-th step of the way on -/
theorem seek (R : SetG P w s.heap a L es ep t) {x : Addr} {k : List Int} (hx : IsT P w s.heap k x) (hu : A.units < cLine) {K : Nat} (hKf : K < 10 * SetTable.turns t.mask)
    (hK : way t.mask (thash P w k) K ∉ t.place.toList) (hKb : ∀ c, c < K → way t.mask (thash P w k) c ∈ t.place.toList) {Q : SetFound → Shared → Prop}
    (yes : k ∈ L.map (·.2) → Q (.there none) s) (no : k ∉ L.map (·.2) → Q (.free (way t.mask (thash P w k) K) false) s) :
    ∀ (f c : Nat) (stand : Option SetTable.Probe), stand.getD (t.probeStart (thash P w k)) = nth t.mask (runAt t.mask (SetTable.bits (thash P w k) % (t.mask + 1)) (SetTable.bits (thash P w k))) c → c ≤ K → K - c < f →
      (∀ (i : Nat) p, L[i]? = some p → p.2 = k → ∃ c', c ≤ c' ∧ c' < K ∧ t.place.toList[i]? = some (way t.mask (thash P w k) c')) →
      wpAny (model P w) A (setSearchFrom a (.ref x) (thash P w k) true f stand) Q E s := by
  intro f
  generalize hh : thash P w k = h at *
  generalize hr0 : runAt t.mask (SetTable.bits h % (t.mask + 1)) (SetTable.bits h) = r0 at *
  have way_r : ∀ c, way t.mask h c = (nth t.mask r0 c).j := fun c => by rw [← hr0]
  have dum : ∀ c, (nth t.mask r0 c).dummy = none := by
    have step : ∀ (n : Nat) (p : SetTable.Probe), p.dummy = none → (nth t.mask p n).dummy = none := by
      intro n
      induction n with
      | zero => exact fun p h => h
      | succ n ih => exact fun p h => ih (adv t.mask p) (by unfold adv; split <;> exact h)
    exact fun c => step c _ (by rw [← hr0]; rfl)
  obtain ⟨o, ho, hex, hd⟩ := R.ob
  induction f with
  | zero => intro c stand _ _ hf; exact absurd hf (Nat.not_lt_zero _)
  | succ f ih =>
    intro c stand hst hc hf hre
    rw [setSearchFrom_succ]
    refine wpAny_bind (wpAny_setState_of ho hd R.fits ?_)
    dsimp only
    refine wp_if_neg (not_gave R.tab) ?_
    try refine wpAny_bind (wpAny_pure ?_)
    have at_ : ∀ q, (nth t.mask (nth t.mask r0 c) q).j = way t.mask h (c + q) := fun q => by rw [way_r, nth_add]
    have spec := go_spec t R.tab.ris R.tab.dm (fun i => (es[i]?.map (·.1)).getD 0) h (10 * SetTable.turns t.mask) (K - c) _ (dum c) (by omega)
      (fun q hq => by rw [at_]; exact hKb (c + q) (by omega)) (by rw [at_, show c + (K - c) = K by omega]; exact hK)
    have hash_at : ∀ (i : Nat) p, L[i]? = some p → (es[i]?.map (·.1)).getD 0 = thash P w p.2 := fun i p hp => by
      rw [row_at R.rows hp] <;> rfl
    rcases spec with ⟨q, i, hq, hi, hhi, hno, hpr⟩ | ⟨hno, hpr⟩
    · rw [at_] at hi
      have hpr2 : t.probe (fun i => (es[i]?.map (·.1)).getD 0) h (stand.getD (t.probeStart h)) = some (.candidate (way t.mask h (c + q)) i (nth t.mask r0 (c + (q + 1)))) := by
        rw [hst, ← at_, nth_add t.mask c r0 (q + 1)]
        exact hpr
      rw [hpr2]
      dsimp only
      have hil : i < L.length := by
        have h1 : i < t.place.toList.length := (List.getElem?_eq_some_iff.mp hi).1
        have h2 := R.tab.sz
        rw [List.length_map] at h2
        rw [Array.length_toList] at h1
        omega
      obtain ⟨p, hp⟩ : ∃ p, L[i]? = some p := ⟨_, List.getElem?_eq_getElem hil⟩
      have hmem : p ∈ L := List.mem_of_getElem? hp
      have hsl : t.slot (way t.mask h (c + q)) = .live i := slot_live R.tab.ris hi
      have rest : wpAny (model P w) A (searchRest a (.ref x) h true f es t (way t.mask h (c + q)) i (nth t.mask r0 (c + (q + 1)))) Q E s := by
        unfold searchRest
        rw [row_at R.rows hp]
        dsimp only
        refine wpAny_bind (wpAny_holding (wpAny_eqBool_tuple hu (R.tup p hmem) hx ?_))
        refine wpAny_bind (wpAny_setState_of ho hd R.fits ?_)
        dsimp only
        by_cases hkk : p.2 = k
        · refine wp_if_pos (by simp [hkk]) ?_
          exact wpAny_pure (yes (List.mem_map.mpr ⟨p, hmem, hkk⟩))
        · refine wp_if_neg (by simp [hkk]) ?_
          try refine wpAny_bind (wpAny_pure ?_)
          rw [sameMem]
          dsimp only
          simp only [if_true, hsl, row_at R.rows hp]
          refine wpAny_bind (wpAny_isSame_ref_self (wpAny_bind (wpAny_pure ?_)))
          simp only [if_true]
          refine wp_if_neg (by simp [hkk]) ?_
          refine ih (c + (q + 1)) _ rfl (by omega) (by omega) fun i0 p0 h0 hk0 => ?_
          obtain ⟨c', a1, a2, a3⟩ := hre i0 p0 h0 hk0
          refine ⟨c', ?_, a2, a3⟩
          by_cases z : c' < c + q
          · refine absurd ?_ (hno (c' - c) i0 (by omega) (by rw [at_, show c + (c' - c) = c' by omega]; exact a3))
            rw [hash_at i0 p0 h0, hk0]; exact hh
          · by_cases y : c' = c + q
            · rw [y] at a3
              have s0 := slot_live R.tab.ris a3
              rw [hsl] at s0
              injection s0 with s0
              rw [← s0, hp] at h0
              cases h0
              exact absurd hk0 hkk
            · omega
      by_cases hl : t.led = true
      · refine wp_if_neg (by simp [hl]) ?_
        try refine wpAny_bind (wpAny_pure ?_)
        exact rest
      · refine wp_if_pos (by simp [hl]) ?_
        refine wpAny_bind (seen_tup hx (fun y hy => ?_) ?_)
        · obtain ⟨e, he, ee⟩ := List.mem_map.mp hy
          have he2 : e ∈ es.toList := by
            have : e ∈ es ∧ e.1 = h := by simpa using he
            simpa using this.1
          rw [R.rows] at he2
          obtain ⟨p2, hp2, e2⟩ := List.mem_map.mp he2
          exact ⟨p2.2, p2.1, by rw [← ee, ← e2], R.tup p2 hp2⟩
        · refine wp_if_neg (by decide) ?_
          try refine wpAny_bind (wpAny_pure ?_)
          exact rest
    · have hpr2 : t.probe (fun i => (es[i]?.map (·.1)).getD 0) h (stand.getD (t.probeStart h)) = some (.empty (way t.mask h K) none) := by
        rw [hst, show way t.mask h K = (nth t.mask (nth t.mask r0 c) (K - c)).j by rw [at_, show c + (K - c) = K by omega]]
        exact hpr
      rw [hpr2]
      dsimp only
      refine wpAny_pure (no fun hm => ?_)
      obtain ⟨p0, h0, hk0⟩ := List.mem_map.mp hm
      obtain ⟨i0, hi0, e0⟩ := List.getElem_of_mem h0
      have h00 : L[i0]? = some p0 := by rw [List.getElem?_eq_getElem hi0, e0]
      obtain ⟨c', a1, a2, a3⟩ := hre i0 p0 h00 hk0
      refine hno (c' - c) i0 (by omega) (by rw [at_, show c + (c' - c) = c' by omega]; exact a3) ?_
      rw [hash_at i0 p0 h00, hk0]; exact hh
theorem seek_at (R : SetG P w s.heap a L es ep t) {x : Addr} {k : List Int} (hx : IsT P w s.heap k x) (hu : A.units < cLine) {Q : SetFound → Shared → Prop}
    (yes : k ∈ L.map (·.2) → Q (.there none) s)
    (no : ∀ K, k ∉ L.map (·.2) → way t.mask (thash P w k) K ∉ t.place.toList → (∀ c, c < K → way t.mask (thash P w k) c ∈ t.place.toList) → Q (.free (way t.mask (thash P w k) K) false) s) :
    wpAny (model P w) A (setSearch a (.ref x) (thash P w k) true) Q E s := by
  have hroom := R.room
  obtain ⟨K, hKf, hK, hKb⟩ := R.tab.hole (by rw [List.length_map]; omega) (thash P w k)
  have hbig : K < 100000 := by
    have h1 := R.tab.mg.big
    have h2 : 10 * SetTable.turns t.mask ≤ 20620 := by unfold SetTable.turns; omega
    omega
  unfold setSearch
  refine seek R hx hu hKf hK hKb yes (fun hn => no K hn hK hKb) 100000 0 none rfl (Nat.zero_le _) (by omega) fun i p hp hk => ?_
  have hi : (L.map fun p => thash P w p.2)[i]? = some (thash P w k) := by rw [List.getElem?_map, hp, ← hk] <;> rfl
  have hil : i < t.place.toList.length := by
    have h1 : i < L.length := (List.getElem?_eq_some_iff.mp hp).1
    have h2 := R.tab.sz
    rw [List.length_map] at h2
    rw [Array.length_toList]
    omega
  obtain ⟨c, hc, e⟩ := R.tab.ahead hK hi (List.getElem?_eq_getElem hil)
  exact ⟨c, Nat.zero_le _, hc, by rw [List.getElem?_eq_getElem hil, e]⟩
/-- laid anew, larger -/
theorem anew_set {o : Obj} (ho : s.heap.get? a = some o) (hex : o.ExactSet) (hd : o.data = .set es ep t) (hrows : es.toList = rowsOf P w L) (T : Tab t (L.map fun p => thash P w p.2)) (hfl : L.length ≤ t.mask)
    (nd : (L.map (·.2)).Nodup) (tup : ∀ p ∈ L, IsT P w s.heap p.2 p.1) (pl : t.plain = true) (ld : w.params.followText "set-order" = true ∨ t.led = true) (few : L.length < 1200) {wanted M : Nat}
    (hw : SetTable.sizeAbove wanted - 1 = M) (hM : MG M) (hn : L.length * 5 < M * 3) {Q : Unit → Shared → Prop}
    (hQ : ∀ h' L' es' ep' t', Heap.SameBut a s.heap h' → SetG P w h' a L' es' ep' t' → t'.mask = M → L'.Perm L → Q () { s with heap := h' }) : wpAny (model P w) A (setRelay a wanted) Q E s := by
  have hsl := rows_len hrows
  obtain ⟨t', order, e, hp, T2, em, el, epl⟩ := anew_at t (hs := es.map (·.1)) (wanted := wanted) hw hM (by rw [Array.size_map, hsl]; omega)
  rw [Array.size_map, hsl] at hp
  obtain ⟨L2, r1, r2, r3⟩ := order_rows L es order hrows hp
  rw [← r3] at T2
  have hs2 : (order.filterMap (es[·]?)).size = es.size := by rw [rows_len r1, r2.length_eq, hsl]
  have hbig := hM.big
  rw [setRelay_eq]
  refine wpAny_bind (wpAny_setState_of ho hd (fits_of T (by rw [hsl, List.length_map]) (by rw [hsl]; exact hfl)) ?_)
  dsimp only
  refine wp_if_neg (by rw [sizeLine_eq]; omega) ?_
  try refine wpAny_bind (wpAny_pure ?_)
  rw [e]
  dsimp only
  refine wpAny_bind ?_
  refine wp_if_neg (by rw [hs2]; simp) ?_
  try refine wpAny_bind (wpAny_pure ?_)
  refine wpAny_pure ?_
  dsimp only
  refine wpAny_storeSet_of ho hd ?_ (by rw [hs2, hsl, sizeLine_eq]; omega)
  have sb : Heap.SameBut a s.heap (s.heap.update a (Obj.putSet (order.filterMap (es[·]?)) t')) := Heap.SameBut.update ..
  exact hQ _ L2 _ (ep + 1) t' sb ⟨⟨_, store_at ho hd, ⟨hex.1, hex.2.1, hex.2.2⟩, rfl⟩, r1, T2, (r2.map (·.2)).nodup_iff.mpr nd, fun p hpm => isT_same (tup p (r2.mem_iff.mp hpm)) ho hd sb, by rw [epl]; exact pl, by rw [el]; exact ld, by rw [r2.length_eq, em]; exact hn, by rw [r2.length_eq]; exact few⟩ em r2
theorem grow32 : SetTable.sizeAbove (SetTable.grown 5) - 1 = 31 := by decide +kernel
theorem grow128 : SetTable.sizeAbove (SetTable.grown 19) - 1 = 127 := by decide +kernel
theorem grow512 : SetTable.sizeAbove (SetTable.grown 77) - 1 = 511 := by decide +kernel
theorem grow2048 : SetTable.sizeAbove (SetTable.grown 307) - 1 = 2047 := by decide +kernel
/-- the masks that come -/
def Five (m : Nat) : Prop := m = 7 ∨ m = 31 ∨ m = 127 ∨ m = 511 ∨ m = 2047
theorem five_mg {m : Nat} (h : Five m) : MG m := by
  rcases h with rfl | rfl | rfl | rfl | rfl
  · exact mg_of (.inl rfl)
  · exact mg_of (.inr (.inl rfl))
  · exact mg_of (.inr (.inr rfl))
  · exact mg511
  · exact mg2047
/-- the next mask -/
theorem next_mask {m n : Nat} (h : Five m) (h1 : n * 5 < m * 3) (h2 : (n + 1) * 5 ≥ m * 3) (few : n + 1 < 1200) : ∃ M, SetTable.sizeAbove (SetTable.grown (n + 1)) - 1 = M ∧ Five M ∧ (n + 1) * 5 < M * 3 ∧ n + 1 ≤ m := by
  rcases h with rfl | rfl | rfl | rfl | rfl
  · obtain rfl : n = 4 := by omega
    exact ⟨31, grow32, .inr (.inl rfl), by decide, by decide⟩
  · obtain rfl : n = 18 := by omega
    exact ⟨127, grow128, .inr (.inr (.inl rfl)), by decide, by decide⟩
  · obtain rfl : n = 76 := by omega
    exact ⟨511, grow512, .inr (.inr (.inr (.inl rfl))), by decide, by decide⟩
  · obtain rfl : n = 306 := by omega
    exact ⟨2047, grow2048, .inr (.inr (.inr (.inr rfl))), by decide, by decide⟩
  · omega
/-- adding -/
theorem add_set (R : SetG P w s.heap a L es ep t) (h5 : Five t.mask) {x : Addr} {k : List Int} (hx : IsT P w s.heap k x) (hu : A.units < cLine) (hfew : L.length + 1 < 1200) {Q : Bool → Shared → Prop}
    (hQ : ∀ b h' L' es' ep' t', Heap.SameBut a s.heap h' → SetG P w h' a L' es' ep' t' → Five t'.mask → (k ∈ L.map (·.2) → L' = L) → (k ∉ L.map (·.2) → L'.Perm ((x, k) :: L)) → Q b { s with heap := h' }) :
    wpAny (model P w) A (setAddHashed a (.ref x) (thash P w k)) Q E s := by
  obtain ⟨o, ho, hex, hd⟩ := R.ob
  have hroom := R.room
  unfold setAddHashed
  refine wpAny_holding ?_
  rw [show (100000 : Nat) = 99999 + 1 from rfl, setAddHashedIn_succ]
  refine wpAny_bind (wpAny_setState_of ho hd R.fits ?_)
  dsimp only
  refine wp_if_neg (by simp [byScan, Value.scannable]) ?_
  try refine wpAny_bind (wpAny_pure ?_)
  refine wpAny_bind (seek_at R hx hu (fun hm => ?_) fun K hm hK hb => ?_)
  · dsimp only
    exact wpAny_pure (hQ false s.heap L es ep t (Heap.SameBut.refl a s.heap) R h5 (fun _ => rfl) fun z => absurd hm z)
  · dsimp only
    refine wpAny_bind (wpAny_setState_of ho hd R.fits ?_)
    dsimp only
    obtain ⟨p, hpp⟩ : ∃ p, p = SetTable.below t.place (way t.mask (thash P w k) K) := ⟨_, rfl⟩
    obtain ⟨q2, q3, q9⟩ := R.tab.more hK hb hpp
    have q1 : (t.put (way t.mask (thash P w k) K)).2 = p := hpp.symm
    have q4 : (t.put (way t.mask (thash P w k) K)).1.mask = t.mask := rfl
    have q5 : (t.put (way t.mask (thash P w k) K)).1.led = t.led := rfl
    have hp1 : (t.put (way t.mask (thash P w k) K)).1.plain = true := R.plain
    generalize t.put (way t.mask (thash P w k) K) = pt at q1 q3 q4 q5 q9 hp1 ⊢
    obtain ⟨t1, p1⟩ := pt
    dsimp only at q1 q3 q4 q5 q9 hp1 ⊢
    subst q1
    first
      | (refine wpAny_bind ?_; refine wp_if_pos hp1 ?_; refine hashBy_tup hx ?_)
      | refine wp_if_pos hp1 (wpAny_bind (hashBy_tup hx ?_))
    simp only [if_true]
    have hin : (SetTable.insertAt es p1 (thash P w k, Value.ref x)).toList = rowsOf P w (L.take p1 ++ (x, k) :: L.drop p1) := by rw [SetTable.toList_insertAt, rows_put, R.rows]
    have pm := put_perm L p1 (x, k)
    have hhs : (L.take p1 ++ (x, k) :: L.drop p1).map (fun p => thash P w p.2) = (L.map fun p => thash P w p.2).take p1 ++ thash P w k :: (L.map fun p => thash P w p.2).drop p1 := by
      rw [List.map_append, List.map_cons, List.map_take, List.map_drop]
    rw [← hhs] at q3
    generalize SetTable.insertAt es p1 (thash P w k, Value.ref x) = es1 at hin ⊢
    generalize L.take p1 ++ (x, k) :: L.drop p1 = L1 at pm q3 hin
    have hlen : L1.length = L.length + 1 := pm.length_eq
    have nd1 : (L1.map (·.2)).Nodup := (pm.map (·.2)).nodup_iff.mpr (List.nodup_cons.mpr ⟨hm, R.nd⟩)
    have hes := rows_len hin
    refine wpAny_bind (wpAny_storeSet_of ho hd ?_ (by rw [hes, sizeLine_eq]; omega))
    have sb : Heap.SameBut a s.heap (s.heap.update a (Obj.putSet es1 t1)) := Heap.SameBut.update ..
    have ho1 := store_at (es' := es1) (t' := t1) ho hd
    generalize s.heap.update a (Obj.putSet es1 t1) = h1 at sb ho1 ⊢
    have tup1 : ∀ p ∈ L1, IsT P w h1 p.2 p.1 := fun p hp => by
      rcases List.mem_cons.mp (pm.mem_iff.mp hp) with e | hp
      · rw [e]; exact isT_same hx ho hd sb
      · exact isT_same (R.tup p hp) ho hd sb
    have ld1 : w.params.followText "set-order" = true ∨ t1.led = true := by rw [q5]; exact R.led
    have fill : t1.fill = L.length + 1 := by rw [q9, List.length_map]
    rw [rows_len R.rows]
    by_cases hf : t1.tooFull = true
    · first
        | (refine wpAny_bind ?_; refine wp_if_pos (by simp [hf]) ?_)
        | (refine wp_if_pos (by simp [hf]) ?_; refine wpAny_bind ?_)
      have hfull : (L.length + 1) * 5 ≥ t.mask * 3 := by
        unfold SetTable.tooFull at hf
        rw [decide_eq_true_eq, fill, q4] at hf
        exact hf
      obtain ⟨M, m1, m2, m3, m4⟩ := next_mask h5 hroom hfull hfew
      refine anew_set (s := { s with heap := h1 }) ho1 ⟨hex.1, hex.2.1, hex.2.2⟩ rfl hin q3 (by rw [hlen, q4]; exact m4) nd1 tup1 hp1 ld1 (by rw [hlen]; exact hfew) m1 (five_mg m2) (by rw [hlen]; exact m3) ?_
      intro h2 L2 es2 ep2 t2 sb2 R2 em2 pm2
      have e2 : Five t2.mask := by rw [em2]; exact m2
      exact wpAny_pure (hQ true h2 L2 es2 ep2 t2 (sb.trans sb2) R2 e2 (fun z => absurd z hm) fun _ => pm2.trans pm)
    · first
        | refine wp_if_neg (by simp [hf]) ?_
        | (refine wpAny_bind ?_; refine wp_if_neg (by simp [hf]) ?_; refine wpAny_pure ?_)
      refine wpAny_pure (hQ true h1 L1 es1 (ep + 1) t1 sb ⟨⟨_, ho1, ⟨hex.1, hex.2.1, hex.2.2⟩, rfl⟩, hin, q3, nd1, tup1, hp1, ld1, ?_, by rw [hlen]; exact hfew⟩ (by rw [q4]; exact h5) (fun z => absurd z hm) fun _ => pm)
      unfold SetTable.tooFull at hf
      rw [decide_eq_true_eq, fill] at hf
      rw [hlen]
      omega
theorem SetG.keep {h h' : Heap} (R : SetG P w h a L es ep t) (ha : ∀ o, h.get? a = some o → h'.get? a = some o) (ht : ∀ p ∈ L, IsT P w h' p.2 p.1) : SetG P w h' a L es ep t := by
  obtain ⟨o, ho, r⟩ := R.ob
  exact ⟨⟨o, ha o ho, r⟩, R.rows, R.tab, R.nd, ht, R.plain, R.led, R.room, R.few⟩
theorem new_set {h : Heap} (ho : h.get? a = some (SG.nob w)) : SetG P w h a [] #[] 0 (.fresh 0 0 (!w.params.followText "set-order")) where
  ob := ⟨_, ho, ⟨rfl, rfl, rfl⟩, rfl⟩
  rows := rfl
  tab := ⟨List.Pairwise.nil, rfl, rfl, mg_of (.inl rfl), fun x hx => (by cases hx), fun i h j hi => (by simp at hi)⟩
  nd := List.nodup_nil
  tup := fun p hp => (by cases hp)
  plain := rfl
  led := by
    show _ ∨ (!w.params.followText "set-order") = true
    cases w.params.followText "set-order"
    · exact .inr rfl
    · exact .inl rfl
  room := by show 0 * 5 < 7 * 3; decide
  few := by show 0 < 1200; decide
end

/-! ### as rules -/
def GSet (P : Program) (w : World) (a : Addr) (L : List (Addr × List Int)) : HO := .ext fun h => ∃ es ep t, (∃ o, h.get? a = some o ∧ o.ExactSet ∧ o.data = .set es ep t) ∧ es.toList = rowsOf P w L ∧ Tab t (L.map fun p => thash P w p.2) ∧ (L.map (·.2)).Nodup ∧ t.plain = true ∧
  (w.params.followText "set-order" = true ∨ t.led = true) ∧ L.length * 5 < t.mask * 3 ∧ L.length < 1200
theorem gset_new {P : Program} {w : World} {H : Hp} {h : Heap} {a : Addr} {L : List (Addr × List Int)} {es : Array (Int × Value)} {ep : Nat} {t : SetTable} (R : SetG P w h a L es ep t) : ObjOk P w H h a (GSet P w a L) := by
  have ⟨o, ho, r⟩ := R.ob
  refine ⟨⟨es, ep, t, R.ob, R.rows, R.tab, R.nd, R.plain, R.led, R.room, R.few⟩, ⟨o, ho⟩, fun h1 h2 p k => ?_⟩
  obtain ⟨es', ep', t', ⟨o', ho', r'⟩, q'⟩ := p
  exact ⟨es', ep', t', ⟨o', k o' ho', r'⟩, q'⟩
section
variable {X : Cx}
theorem gset_get {pins : List (Addr × Obj)} {σ : L2.St} {H : Hp} {s : Shared} {a : Addr} {L : List (Addr × List Int)} (I : Inv X pins σ H s) (ha : H a = some (GSet X.prog X.w a L)) (hk : ∀ p ∈ L, SqT X.K H p.1 (p.2.map V.int)) : ∃ es ep t, SetG X.prog X.w s.heap a L es ep t := by
  obtain ⟨es, ep, t, h1, h2, h3, h4, h5, h6, h7, h8⟩ := (I.hok a _ ha).1
  exact ⟨es, ep, t, h1, h2, h3, h4, fun p hp => I.isT (hk p hp), h5, h6, h7, h8⟩
/-- set(xs), xs a list of tuples of ints -/
def rSetG (K : PySem.W.Frag) (P : Program) (w : World) : List V → Hp → VK → Prop := fun xs H Q => ∃ (l : Addr) (ks : List (Addr × List Int)), xs = [V.ref l] ∧ SqL K H l (ks.map fun p => V.ref p.1) ∧ (∀ p ∈ ks, SqT K H p.1 (p.2.map V.int)) ∧ ks.length < 1200 ∧
  ∀ a L, H a = none → (L.map (·.2)).Nodup → (∀ p ∈ L, p ∈ ks) → (∀ p ∈ ks, p.2 ∈ L.map (·.2)) → Q (.ref a) (upd H a (GSet P w a L))
theorem cr_setG (hc : X.calm = true) (hu : X.A.units + 64 < cLine) : CallR X (.type "set") (rSetG X.K X.prog X.w) := by
  intro pins s σ H xs us Q I r ⟨l, ks, e, hl, hk, hf, q⟩
  subst e
  rw [Vals.ref1 r]
  obtain ⟨its, rv, pl, hz⟩ := I.list hl
  have hit : its = ks.map fun p => Value.ref p.1 := refs_of_vals rv
  have isT0 : ∀ p ∈ ks, IsT X.prog X.w s.heap p.2 p.1 := fun p hp => I.isT (hk p hp)
  have hlen : its.length = ks.length := by rw [hit, List.length_map]
  refine SG.call_set (J := fun i g => ∃ L es ep t, SetG X.prog X.w g s.heap.objs.size L es ep t ∧ Five t.mask ∧ Got ks i L) (I.ok.hd hc) pl.isList (by omega) (fun g hg _ => ⟨[], #[], 0, _, new_set hg, .inl rfl, Got.zero ks⟩)
    (fun i g g' ⟨L, es, ep, t, R, f5, gt⟩ k1 k2 => ⟨L, es, ep, t, R.keep k1 fun p hp => isT_keep (isT0 p (List.mem_of_mem_take (gt.sub p hp))) k2, f5, gt⟩) (fun i v A' s' Q' E' hu' hv ⟨L, es, ep, t, R, f5, gt⟩ kp fin => ?_) fun g tk ⟨L, es, ep, t, R, f5, gt⟩ kp => ?_
  · have hv' : its[i]? = some v := by simpa using hv
    rw [hit, List.getElem?_map] at hv'
    cases hq : ks[i]? with
    | none => rw [hq] at hv'; cases hv'
    | some p =>
      rw [hq] at hv'
      cases hv'
      have hil : i < ks.length := (List.getElem?_eq_some_iff.mp hq).1
      have hx : IsT X.prog X.w s'.heap p.2 p.1 := isT_keep (isT0 p (List.mem_of_getElem? hq)) kp
      have hA : A'.units < cLine := by omega
      have hgl := gt.len
      show wpAny _ _ (setAdd s.heap.objs.size (.ref p.1)) _ _ s'
      unfold setAdd
      refine wpAny_holding ?_
      refine wpAny_bind (wpAny_pyHash_tuple hA hx ?_)
      refine add_set (s := { s' with toks := s'.toks + (p.2.length + 1) }) R f5 hx hA (by omega) fun b h' L' es' ep' t' sb R2 f52 c1 c2 => fin b h' _ sb ⟨L', es', ep', t', R2, f52, ?_⟩ (Nat.le_add_right _ _)
      rcases Classical.em (p.2 ∈ L.map (·.2)) with c | c
      · rw [c1 c]; exact gt.same hq c
      · exact gt.more hq (c2 c)
  · have hn : H s.heap.objs.size = none := I.hok.fresh (Nat.le_refl _)
    refine ⟨.ref s.heap.objs.size, upd H s.heap.objs.size (GSet X.prog X.w s.heap.objs.size L), I.laid (t' := tk) kp (Nat.le_refl _) (gset_new R), rfl, q _ L hn R.nd (fun p hp => List.mem_of_mem_take (gt.sub p hp)) fun p hp => gt.all p ?_⟩
    rw [List.take_of_length_le (by simp [hlen])]
    exact hp
end
end GT

/-! GT3: sorted and len of sets of tuples of ints. -/
namespace GT
open PySem PySem.Spec PyProof.Rows L2
section
variable {P : Program} {w : World} {A : Around} {E : Value → Shared → Prop} {s : Shared} {a : Addr} {L : List (Addr × List Int)} {es : Array (Int × Value)} {ep : Nat} {t : SetTable}
theorem sorted_gset {Q : Value → Shared → Prop} (R : SetG P w s.heap a L es ep t) (hh : A.handled = none) (hu : A.units + 64 < cLine) (hd : 2 ≤ L.length → ∀ p ∈ L, p.2 ≠ [])
    (fin : ∀ s' p (out : Array Value) (c : Nat) (L' : List (Addr × List Int)), (∀ b o, s.heap.get? b = some o → s'.heap.get? b = some o) → s'.gens = s.gens → s'.os = s.os → s.heap.objs.size ≤ p →
      s'.heap.get? p = some (seqObj "list" out c) → out.toList = L'.map (fun q => Value.ref q.1) → L'.Perm L → L'.Pairwise (fun q r => q.2 ≤ r.2) → Q (.ref p) s') :
    wpAny (model P w) A (call (.builtin "sorted") [.ref a]) Q E s := by
  obtain ⟨o, ho, hex, hdt⟩ := R.ob
  have hsz := rows_len R.rows
  have hfew := R.few
  refine Calls.call_function_entry kind_sorted plain_sorted entry_sorted (args_sorted1 _) ?_
  unfold Builtin.«sorted»
  refine wpAny_bind (m := checkCount "sorted" 1 1 _) (wpAny_pure ?_)
  refine wpAny_bind (collect_set (A := A.in1) hh ⟨o, ho, hex.1, hdt⟩ R.fits (by unfold scanBound; omega) R.tab.ris R.led fun s1 vs k1 hz g1 o1 pm => ?_)
  have hes : es.toList.map (·.2) = L.map fun q => Value.ref q.1 := by
    rw [R.rows]
    unfold rowsOf
    rw [List.map_map]
    rfl
  rw [hes] at pm
  obtain ⟨L1, p1, rfl⟩ := PL.perm_map_inv _ pm
  have hl1 : L1.length < 1200 := by rw [p1.length_eq]; exact hfew
  have hvz : (L1.map fun q => Value.ref q.1).length ≤ sizeLine := by rw [List.length_map, sizeLine_eq]; omega
  refine wpAny_bind (wpAny_newList ?_ hvz)
  have hoL : (s1.heap.push (seqObj "list" (L1.map fun q => Value.ref q.1).toArray 0)).get? s1.heap.objs.size = some (seqObj "list" (L1.map fun q => Value.ref q.1).toArray 0) := Heap.get?_push_size _ rfl
  have done : ∀ (out : Array Value) (L' : List (Addr × List Int)), out.toList = L'.map (fun q => Value.ref q.1) → L'.Perm L1 → L'.Pairwise (fun q r => q.2 ≤ r.2) →
      Q (.ref s1.heap.objs.size) { s1 with heap := sortedHeap (s1.heap.push (seqObj "list" (L1.map fun q => Value.ref q.1).toArray 0)) s1.heap.objs.size (L1.map fun q => Value.ref q.1) out } := by
    intro out L' e1 e2 e3
    obtain ⟨c, hc⟩ := sortedHeap_at (vs := L1.map fun q => Value.ref q.1) (out := out) hoL
    refine fin _ s1.heap.objs.size out c L' (fun b u e => ?_) g1 o1 hz hc e1 (e2.trans p1) e3
    have q := k1 b u e
    have hlt := Heap.lt_size q
    show (sortedHeap (s1.heap.push (seqObj "list" (L1.map fun q => Value.ref q.1).toArray 0)) s1.heap.objs.size (L1.map fun q => Value.ref q.1) out).get? b = some u
    rw [sortedHeap_old (Nat.ne_of_lt hlt) (by rw [size_push']; exact Nat.lt_succ_of_lt hlt)]
    exact Heap.get?_push_of_some _ q
  by_cases h2 : 2 ≤ L1.length
  · have hne : ∀ q ∈ L1, q.2 ≠ [] := fun q hq => hd (by rw [← p1.length_eq]; exact h2) q (p1.mem_iff.mp hq)
    have er : PySem.W.EachIs (fun v b => ∃ as, Reads (s1.heap.push (seqObj "list" (L1.map fun q => Value.ref q.1).toArray 0)) v (SQ.tenc b) as ∧ s1.heap.objs.size ∉ as) (L1.map fun q => Value.ref q.1) L1 :=
      SQ.each_map fun q hq => ⟨[], SQ.reads_isT (P := P) (w := w) (isT_keep (R.tup q (p1.mem_iff.mp hq)) fun b u e => Heap.get?_push_of_some _ (k1 b u e)), by simp⟩
    have hk : PySem.W.Sortable (L1.map SQ.tenc) := .inl fun d hd' => by
      obtain ⟨q, hq, rfl⟩ := List.mem_map.mp hd'
      cases e : q.2 with
      | nil => exact absurd e (hne q hq)
      | cons x r => exact ⟨.int x, r.map .int, by unfold SQ.tenc; rw [e]; rfl⟩
    refine wpAny_bind (wpAny_holding (PySem.W.list_sort_data (s := { s1 with heap := s1.heap.push (seqObj "list" (L1.map fun q => Value.ref q.1).toArray 0) }) (R := fun v q => v = Value.ref q.1) hoL (SQ.each_map fun q _ => rfl) er (PySem.W.AllAlike.of fun b b' => ?_) hk (by rw [sizeLine_eq]; omega) (fun b hb => ?_) fun out _ eo => ?_))
    · show PySem.W.alike (.tuple (b.2.map .int)) (.tuple (b'.2.map .int)) = true
      rw [PySem.W.alike]
      exact PySem.W.alike_ints _ _
    · have h0 : (SQ.tenc b).depth ≤ 1 := by
        unfold SQ.tenc
        rw [PyData.depth, PySem.W.depth_ints]
        decide
      show A.units + _ + 1 + (SQ.tenc b).depth < cLine
      omega
    · refine wpAny_pure ⟨_, rfl, done _ (L1.mergeSort (PySem.W.dataLe false SQ.tenc)) ?_ (List.mergeSort_perm _ _) ?_⟩
      · rw [← SQ.each_refs eo]
      · have e : PySem.W.dataLe false SQ.tenc = fun p q => decide (p.2 ≤ q.2) := SQ.dataLe_tup (fun q : Addr × List Int => q.2)
        have hp := List.pairwise_mergeSort (le := PySem.W.dataLe false SQ.tenc) (fun a b c h1 h2 => by
          rw [e] at h1 h2 ⊢
          exact decide_eq_true (List.le_trans (of_decide_eq_true h1) (of_decide_eq_true h2))) (fun a b => by
          rw [e]
          rcases List.le_total a.2 b.2 with h | h
          · simp [h]
          · simp [h]) L1
        refine hp.imp fun {q r} h => ?_
        rw [e] at h
        exact of_decide_eq_true h
  · have pw : ∀ L' : List (Addr × List Int), L'.Perm L1 → L'.Pairwise (fun q r => q.2 ≤ r.2) := fun L' hp => by
      have hl := hp.length_eq
      match L', hl with
      | [], _ => exact .nil
      | [q], _ => exact .cons (fun _ h => by cases h) .nil
      | _ :: _ :: _, hl => simp at hl; omega
    refine wpAny_bind (wpAny_holding (wpAny_call_entry slot_list_sort ⟨_, hoL, rfl⟩ entry_list_sort (Srt.list_sort_any (s := { s1 with heap := s1.heap.push (seqObj "list" (L1.map fun q => Value.ref q.1).toArray 0) }) hoL hvz (fun h => absurd (by simpa using h) h2) fun out hp => ⟨_, rfl, ?_⟩) (args_list_sort _)))
    obtain ⟨L', e1, e2⟩ := PL.perm_map_inv _ hp
    exact wpAny_pure ⟨_, rfl, done out.toArray L' (by simpa using e2) e1 (pw L' e1)⟩
end
section
variable {X : Cx}
/-- sorted(a set), of tuples of ints -/
def rSortG (K : PySem.W.Frag) (P : Program) (w : World) : List V → Hp → VK → Prop := fun vs H Q => ∃ (a : Addr) (L : List (Addr × List Int)), vs = [V.ref a] ∧ H a = some (GSet P w a L) ∧ (∀ p ∈ L, SqT K H p.1 (p.2.map V.int)) ∧ (2 ≤ L.length → ∀ p ∈ L, p.2 ≠ []) ∧
  ∀ (L' : List (Addr × List Int)) (p : Addr), L'.Perm L → L'.Pairwise (fun q r => q.2 ≤ r.2) → H p = none → Q (.ref p) (upd H p (.lst (L'.map fun q => V.ref q.1)))
theorem cr_sortG (hc : X.calm = true) (hu : X.A.units + 64 < cLine) : CallR X (.builtin "sorted") (rSortG X.K X.prog X.w) := by
  intro pins s σ H vs us Q I r ⟨a, L, e, ha, hk, hd, q⟩
  subst e
  obtain ⟨es, ep, t, R⟩ := gset_get I ha hk
  rw [Vals.ref1 r]
  refine sorted_gset R (I.ok.hd hc) hu hd fun s' p out c L' k g o hp hg hout pm pw => ?_
  have few : L'.length < 1200 := by rw [pm.length_eq]; exact R.few
  have small : (L'.map fun q => V.ref q.1).length ≤ sizeLine := by rw [List.length_map, sizeLine_eq]; omega
  have fresh : H p = none := I.hok.fresh hp
  have vals : Vals (L'.map fun q => V.ref q.1) out.toList := by rw [hout]; exact vals_of_refs L'
  have J := I.call' (s' := s') (ch := []) (H' := upd H p (.lst (L'.map fun q => V.ref q.1))) o (Un.laid k hp fresh) (I.hok.laid k hp ⟨small, out.toList, c, vals, hg⟩) (by rw [g]; exact I.bare) (fun _ z => nomatch z)
  exact ⟨.ref p, _, J, rfl, q L' p pm pw fresh⟩
/-- len of a set -/
def rLenG (P : Program) (w : World) : List V → Hp → VK → Prop := fun vs H Q => (∃ (a : Addr) (S : Int → Bool) (n : Nat), vs = [V.ref a] ∧ H a = some (SetO w a S n) ∧ ∀ ns : List Int, ns.Nodup → (∀ k : Int, k ∈ ns ↔ S k = true) → Q (.int ns.length) H) ∨
  (∃ (a : Addr) (L : List (Addr × List Int)), vs = [V.ref a] ∧ H a = some (GSet P w a L) ∧ Q (.int L.length) H)
theorem cr_lenG : CallR X (.builtin "len") (rLenG X.prog X.w) := by
  intro pins s σ H vs us Q I r h
  rcases h with ⟨a, S, n, e, ha, q⟩ | ⟨a, L, e, ha, q⟩
  · subst e
    rw [Vals.ref1 r]
    obtain ⟨o, es, ep, t, ho, hex, hd, g, nd, hm, hb, hf, hn, hr, hl⟩ := setO_get I ha
    refine call_len_set ho hex hd hf (by unfold scanBound at hb; omega) ⟨.int es.size, H, I.tok _, ⟨_, rfl⟩, ?_⟩
    have := q (es.toList.map keyOf) nd fun k => (hm k).symm
    simpa using this
  · subst e
    rw [Vals.ref1 r]
    obtain ⟨es, ep, t, ⟨o, ho, hex, hd⟩, rows, tab, nd, plain, led, room, few⟩ := (I.hok a _ ha).1
    have hsz := rows_len rows
    refine call_len_set ho hex hd (fits_of tab (by rw [hsz, List.length_map]) (by rw [hsz]; omega)) (by omega) ⟨.int es.size, H, I.tok _, ⟨_, rfl⟩, ?_⟩
    rw [hsz]
    exact q
end
end GT

/-! GT4: set(a tuple of tuples of ints), below 1200. -/
namespace GT
open PySem PySem.Spec PyProof.Rows L2
section
variable {X : Cx}
/-- set(xs), xs a tuple of tuples of ints -/
def rSetGT (K : PySem.W.Frag) (P : Program) (w : World) : List V → Hp → VK → Prop := fun xs H Q => ∃ (l : Addr) (ks : List (Addr × List Int)), xs = [V.ref l] ∧ SqT K H l (ks.map fun p => V.ref p.1) ∧ (∀ p ∈ ks, SqT K H p.1 (p.2.map V.int)) ∧ ks.length < 1200 ∧
  ∀ a L, H a = none → (L.map (·.2)).Nodup → (∀ p ∈ L, p ∈ ks) → (∀ p ∈ ks, p.2 ∈ L.map (·.2)) → Q (.ref a) (upd H a (GSet P w a L))
theorem cr_setGT (hc : X.calm = true) (hu : X.A.units + 64 < cLine) : CallR X (.type "set") (rSetGT X.K X.prog X.w) := by
  intro pins s σ H xs us Q I r ⟨l, ks, e, hl, hk, hf, q⟩
  subst e
  rw [Vals.ref1 r]
  obtain ⟨its, rv, pl, hz⟩ := I.tuple hl
  have hit : its = ks.map fun p => Value.ref p.1 := refs_of_vals rv
  have isT0 : ∀ p ∈ ks, IsT X.prog X.w s.heap p.2 p.1 := fun p hp => I.isT (hk p hp)
  have hlen : its.length = ks.length := by rw [hit, List.length_map]
  refine SG.call_setT (J := fun i g => ∃ L es ep t, SetG X.prog X.w g s.heap.objs.size L es ep t ∧ Five t.mask ∧ Got ks i L) (I.ok.hd hc) (show s.heap.IsTuple l its.toArray from pl) (by omega) (fun g hg _ => ⟨[], #[], 0, _, new_set hg, .inl rfl, Got.zero ks⟩)
    (fun i g g' ⟨L, es, ep, t, R, f5, gt⟩ k1 k2 => ⟨L, es, ep, t, R.keep k1 fun p hp => isT_keep (isT0 p (List.mem_of_mem_take (gt.sub p hp))) k2, f5, gt⟩) (fun i v A' s' Q' E' hu' hv ⟨L, es, ep, t, R, f5, gt⟩ kp fin => ?_) fun g tk ⟨L, es, ep, t, R, f5, gt⟩ kp => ?_
  · have hv' : its[i]? = some v := by simpa using hv
    rw [hit, List.getElem?_map] at hv'
    cases hq : ks[i]? with
    | none => rw [hq] at hv'; cases hv'
    | some p =>
      rw [hq] at hv'
      cases hv'
      have hil : i < ks.length := (List.getElem?_eq_some_iff.mp hq).1
      have hx : IsT X.prog X.w s'.heap p.2 p.1 := isT_keep (isT0 p (List.mem_of_getElem? hq)) kp
      have hA : A'.units < cLine := by omega
      have hgl := gt.len
      show wpAny _ _ (setAdd s.heap.objs.size (.ref p.1)) _ _ s'
      unfold setAdd
      refine wpAny_holding ?_
      refine wpAny_bind (wpAny_pyHash_tuple hA hx ?_)
      refine add_set (s := { s' with toks := s'.toks + (p.2.length + 1) }) R f5 hx hA (by omega) fun b h' L' es' ep' t' sb R2 f52 c1 c2 => fin b h' _ sb ⟨L', es', ep', t', R2, f52, ?_⟩ (Nat.le_add_right _ _)
      rcases Classical.em (p.2 ∈ L.map (·.2)) with c | c
      · rw [c1 c]; exact gt.same hq c
      · exact gt.more hq (c2 c)
  · have hn : H s.heap.objs.size = none := I.hok.fresh (Nat.le_refl _)
    refine ⟨.ref s.heap.objs.size, upd H s.heap.objs.size (GSet X.prog X.w s.heap.objs.size L), I.laid (t' := tk) kp (Nat.le_refl _) (gset_new R), rfl, q _ L hn R.nd (fun p hp => List.mem_of_mem_take (gt.sub p hp)) fun p hp => gt.all p ?_⟩
    rw [List.take_of_length_le (by simp [hlen])]
    exact hp
end
end GT

/-! PD1: dicts whose keys are tuples of ints, made once and read. -/
namespace TD
open PySem PySem.Spec PyProof.Rows L2
abbrev kd (P : Program) (w : World) : HeapKind P w (List Int) := tupleKind (intKind P w)
/-- what a dict's object holds -/
structure Hol (P : Program) (w : World) (a : Addr) (o : Obj) (xs : List (List Int × Addr × Value)) : Prop where
  sys : (a == sysModules) = false
  ex : o.ExactDict
  dat : ∃ es ep, o.data = .dict es ep ∧ es.toList = xs.map (entryOfKey (kd P w))
  nd : (xs.map (·.1)).Nodup
  few : xs.length ≤ sizeLine
def DObj (P : Program) (w : World) (a : Addr) (o : Obj) (xs : List (List Int × Addr × Value)) : HO := .ext fun h => h.get? a = some o ∧ Hol P w a o xs
theorem dobj_new {P : Program} {w : World} {H : Hp} {h : Heap} {a : Addr} {o : Obj} {xs : List (List Int × Addr × Value)} (ho : h.get? a = some o) (R : Hol P w a o xs) : ObjOk P w H h a (DObj P w a o xs) :=
  ⟨⟨ho, R⟩, ⟨o, ho⟩, fun h1 h2 p k => ⟨k _ p.1, p.2⟩⟩
section
variable {X : Cx} {pins : List (Addr × Obj)} {σ : L2.St} {H : Hp} {s : Shared} {a : Addr} {o : Obj} {xs : List (List Int × Addr × Value)}
theorem dobj_at (I : Inv X pins σ H s) (ha : H a = some (DObj X.prog X.w a o xs)) : s.heap.get? a = some o ∧ Hol X.prog X.w a o xs := (I.hok a _ ha).1
theorem dobj_of (I : Inv X pins σ H s) (ha : H a = some (DObj X.prog X.w a o xs)) (hk : ∀ x ∈ xs, SqT X.K H x.2.1 (x.1.map V.int)) : s.heap.DictOfH (kd X.prog X.w) a xs := by
  obtain ⟨ho, R⟩ := dobj_at I ha
  obtain ⟨es, ep, h1, h2⟩ := R.dat
  exact ⟨o, es, ep, ho, R.ex, h1, h2, fun x hx => I.isT (hk x hx), R.nd⟩
/-- d.get(k, x) -/
theorem t_get2 {A : Around} {E : Value → Shared → Prop} {Q : Value → Shared → Prop} {k : List Int} {b : Addr} {r : Value} (hu : A.units + 1 < cLine) (I : Inv X pins σ H s) (ha : H a = some (DObj X.prog X.w a o xs)) (hk : ∀ x ∈ xs, SqT X.K H x.2.1 (x.1.map V.int)) (hb : SqT X.K H b (k.map V.int))
    (h : ∀ s', Inv X pins σ H s' → Q (((atKey xs k).map (·.2)).getD r) s') : wpAny (model X.prog X.w) A (call (.builtin "dict.get") [.ref a, .ref b, r]) Q E s := by
  have dd := dobj_of I ha hk
  exact call_meetsIn PySem.F.slot_dict_get dd.typeIs PySem.F.entry_dict_get (PySem.F.args_dict_get_3 _ _ _) (meetsH_dict_get_default (kd X.prog X.w) a b (dobj_at I ha).2.sys r) ⟨tupleKind_room_in1 hu, k, xs, I.isT hb, dd, h _ (I.tok _)⟩
/-- d[k] -/
theorem t_item {A : Around} {E : Value → Shared → Prop} {Q : Value → Shared → Prop} {k : List Int} {b : Addr} {p : Addr × Value} (hu : A.units + 1 < cLine) (I : Inv X pins σ H s) (ha : H a = some (DObj X.prog X.w a o xs)) (hk : ∀ x ∈ xs, SqT X.K H x.2.1 (x.1.map V.int)) (hb : SqT X.K H b (k.map V.int))
    (hp : atKey xs k = some p) (h : ∀ s', Inv X pins σ H s' → Q p.2 s') : wpAny (model X.prog X.w) A (getItem (.ref a) (.ref b)) Q E s :=
  wpAny_getItem_heap (tupleKind_room_in1 hu) (I.isT hb) (dobj_of I ha hk) hp (h _ (I.tok _))
/-- k in d -/
theorem t_in {A : Around} {E : Value → Shared → Prop} {Q : Value → Shared → Prop} {k : List Int} {b : Addr} (hu : A.units + 1 < cLine) (I : Inv X pins σ H s) (ha : H a = some (DObj X.prog X.w a o xs)) (hk : ∀ x ∈ xs, SqT X.K H x.2.1 (x.1.map V.int)) (hb : SqT X.K H b (k.map V.int))
    (h : ∀ s', Inv X pins σ H s' → Q (.bool (atKey xs k).isSome) s') : wpAny (model X.prog X.w) A (compareOp .In (.ref b) (.ref a)) Q E s :=
  wpAny_in_heap (tupleKind_room_in1 hu) (I.isT hb) (dobj_at I ha).2.sys (dobj_of I ha hk) (h _ (I.tok _))
theorem t_notIn {A : Around} {E : Value → Shared → Prop} {Q : Value → Shared → Prop} {k : List Int} {b : Addr} (hu : A.units + 1 < cLine) (I : Inv X pins σ H s) (ha : H a = some (DObj X.prog X.w a o xs)) (hk : ∀ x ∈ xs, SqT X.K H x.2.1 (x.1.map V.int)) (hb : SqT X.K H b (k.map V.int))
    (h : ∀ s', Inv X pins σ H s' → Q (.bool (!(atKey xs k).isSome)) s') : wpAny (model X.prog X.w) A (compareOp .NotIn (.ref b) (.ref a)) Q E s :=
  wpAny_notIn_heap (tupleKind_room_in1 hu) (I.isT hb) (dobj_at I ha).2.sys (dobj_of I ha hk) (h _ (I.tok _))
/-- len(d) -/
theorem t_len {A : Around} {E : Value → Shared → Prop} {Q : Value → Shared → Prop} (I : Inv X pins σ H s) (ha : H a = some (DObj X.prog X.w a o xs)) (hk : ∀ x ∈ xs, SqT X.K H x.2.1 (x.1.map V.int))
    (h : ∀ t s', Inv X pins σ H s' → Q (.int xs.length t) s') : wpAny (model X.prog X.w) A (call (.builtin "len") [.ref a]) Q E s :=
  call_len_dictH (dobj_at I ha).2.sys (dobj_of I ha hk) (by have := (dobj_at I ha).2.few; rw [sizeLine_eq] at this; omega) (h _ _ (I.tok _))
end
section
variable {X : Cx} {pins : List (Addr × Obj)} {σ : L2.St} {H : Hp} {s : Shared} {a : Addr} {o : Obj}
/-- the empty dict has tuples as keys too -/
theorem empty_of (I : Inv X pins σ H s) (ha : H a = some (.frz o (.dK []))) : (a == sysModules) = false ∧ s.heap.DictOfH (kd X.prog X.w) a [] := by
  obtain ⟨_, hd, vs, kv, o', es, ep, h1, h2, h3, h4, h5, h6⟩ := dk_rd I.hok (.inr ⟨o, ha⟩)
  cases kv
  have : es.toList = [] := by
    revert h5
    generalize es.toList = l
    intro h5
    cases h5; rfl
  exact ⟨hd, o', es, ep, h1, h2, h3, by rw [this]; rfl, fun x hx => (nomatch hx), .nil⟩
theorem e_get2 {A : Around} {E : Value → Shared → Prop} {Q : Value → Shared → Prop} {k : List Int} {b : Addr} {r : Value} (hu : A.units + 1 < cLine) (I : Inv X pins σ H s) (ha : H a = some (.frz o (.dK []))) (hb : SqT X.K H b (k.map V.int))
    (h : ∀ s', Inv X pins σ H s' → Q r s') : wpAny (model X.prog X.w) A (call (.builtin "dict.get") [.ref a, .ref b, r]) Q E s := by
  obtain ⟨hd, dd⟩ := empty_of I ha
  exact call_meetsIn PySem.F.slot_dict_get dd.typeIs PySem.F.entry_dict_get (PySem.F.args_dict_get_3 _ _ _) (meetsH_dict_get_default (kd X.prog X.w) a b hd r) ⟨tupleKind_room_in1 hu, k, [], I.isT hb, dd, h _ (I.tok _)⟩
theorem e_in {A : Around} {E : Value → Shared → Prop} {Q : Value → Shared → Prop} {k : List Int} {b : Addr} (hu : A.units + 1 < cLine) (I : Inv X pins σ H s) (ha : H a = some (.frz o (.dK []))) (hb : SqT X.K H b (k.map V.int))
    (h : ∀ s', Inv X pins σ H s' → Q (.bool false) s') : wpAny (model X.prog X.w) A (compareOp .In (.ref b) (.ref a)) Q E s := by
  obtain ⟨hd, dd⟩ := empty_of I ha
  exact wpAny_in_heap (tupleKind_room_in1 hu) (I.isT hb) hd dd (h _ (I.tok _))
theorem e_notIn {A : Around} {E : Value → Shared → Prop} {Q : Value → Shared → Prop} {k : List Int} {b : Addr} (hu : A.units + 1 < cLine) (I : Inv X pins σ H s) (ha : H a = some (.frz o (.dK []))) (hb : SqT X.K H b (k.map V.int))
    (h : ∀ s', Inv X pins σ H s' → Q (.bool true) s') : wpAny (model X.prog X.w) A (compareOp .NotIn (.ref b) (.ref a)) Q E s := by
  obtain ⟨hd, dd⟩ := empty_of I ha
  exact wpAny_notIn_heap (tupleKind_room_in1 hu) (I.isT hb) hd dd (h _ (I.tok _))
/-- dict(a list of pairs), kept as it is -/
theorem cr_dictF (hcalm : X.calm = true) : CallR X (.type "dict") (fun xs H Q => ∃ (a : Addr) (ps : List Addr) (kvs : List (Key × V)), xs = [.ref a] ∧ SqL X.K H a (ps.map V.ref) ∧ Paired (fun p kv => SqT X.K H p [kV kv.1, kv.2]) ps kvs ∧
    ∀ p o, H p = none → Q (.ref p) (upd H p (.frz o (.dK (mergeK [] kvs))))) := by
  intro pins s σ H xs us Q I r ⟨a, ps, kvs, ex, hq, hp, q⟩
  refine wpAny_mono (call_dictP hcalm pins s σ H xs us (fun v H' => ∃ p, v = .ref p ∧ H p = none ∧ H' = upd H p (.dK (mergeK [] kvs))) I r ⟨a, ps, kvs, ex, hq, hp, fun p hn => ⟨p, rfl, hn, rfl⟩⟩) (fun u s' ⟨v, H', I', rv, p, e1, e2, e3⟩ => ?_) fun _ _ z => z
  subst e1; subst e3
  obtain ⟨od, I2⟩ := I'.lock (d := p) upd_same trivial
  rw [upd_upd] at I2
  exact ⟨_, _, I2, rv, q p od e2⟩
/-- len of a dict that is kept -/
theorem f_len {A : Around} {kvs : List (Key × V)} {E : Value → Shared → Prop} {Q : Value → Shared → Prop} (I : Inv X pins σ H s) (ha : H a = some (.frz o (.dK kvs)))
    (h : ∀ t s', Inv X pins σ H s' → Q (.int kvs.length t) s') : wpAny (model X.prog X.w) A (call (.builtin "len") [.ref a]) Q E s := by
  obtain ⟨z, hd, vs, kv, dd⟩ := dk_rd I.hok (.inr ⟨o, ha⟩)
  have hl : kvs.length = vs.length := Paired.length kv
  refine PySem.call_len_dict hd dd (by rw [sizeLine_eq] at z; omega) ?_
  rw [← hl]
  exact h _ _ (I.tok _)
end
/-! ### for k in d -/
def Itx (P : Program) (w : World) (d : Addr) (o : Obj) (xs : List (List Int × Addr × Value)) : It :=
  ⟨fun i H => H d = some (DObj P w d o xs) ∧ i < xs.length, fun i H x H' => H' = H ∧ ∃ p, xs[i]? = some p ∧ x = .ref p.2.1, fun i H => H d = some (DObj P w d o xs) ∧ xs.length ≤ i⟩
theorem walk_x {P : Program} {w : World} {d : Addr} {o : Obj} {xs : List (List Int × Addr × Value)} : Walk (Itx P w d o xs) xs.length (fun H => H d = some (DObj P w d o xs)) (fun i H x H' => H' = H ∧ ∃ p, xs[i]? = some p ∧ x = .ref p.2.1) :=
  ⟨fun _ _ hi q => ⟨q, hi⟩, fun _ q => ⟨q, Nat.le_refl _⟩, fun _ _ _ _ _ _ y => y⟩
theorem turn_x {P : Program} {w : World} {K : PySem.W.Frag} {tg : Expr} {d : Addr} {o : Obj} {xs : List (List Int × Addr × Value)} {es : Array DictEntry} {ep : Nat} (it : Addr) (hod : o.data = .dict es ep) (he : es.toList = xs.map (entryOfKey (kd P w))) : Turn P w K tg (Itx P w d o xs) [it] it (fun i h => h.IsKeyIter it d i xs.length ep) where
  mem := by simp
  obj := fun i h st b hb => by
    have e : b = it := by simpa using hb
    subst e
    obtain ⟨oi, e, c, dd⟩ := st
    exact ⟨oi, e, fun v z => by rw [dd] at z; cases z⟩
  keep := fun i h h' st k => st.at fun oi e => k it (by simp) oi e
  item := by
    intro X hP hw hK hc i pins s σ H E I hf st hg
    subst hP hw hK
    obtain ⟨hd, hi⟩ := hg
    obtain ⟨f0, f1, f2, f3, f4, f5⟩ := hf it (by simp)
    obtain ⟨hgd, R⟩ := dobj_at I hd
    have hsz : es.size = xs.length := size_of_entries he
    have hen : es[i]? = some (entryOfKey (kd X.prog X.w) xs[i]) := by rw [entry_at he, List.getElem?_eq_getElem hi]; rfl
    refine next_key_item st hgd hod hsz hen fun h' st' sb => ?_
    have I1 : Inv X pins σ H { s with heap := h' } := I.turned (t' := s.toks) (fun b ob hb e => (sb.2 b hb).trans e) f0 f1 f3 f4 f5
    obtain ⟨oi, e, c, dd⟩ := id st'
    exact ⟨_, rfl, go_of (s := { s with heap := h' }) e c dd (by decide) ⟨.ref xs[i].2.1, H, I1, rfl, ⟨rfl, xs[i], List.getElem?_eq_getElem hi, rfl⟩, st', fun b hb => (hf b hb).1⟩⟩
  done := by
    intro X hP hw hK hc i pins s σ H E I hf st hg
    subst hP hw hK
    obtain ⟨hd, hi⟩ := hg
    obtain ⟨f0, f1, f2, f3, f4, f5⟩ := hf it (by simp)
    obtain ⟨hgd, R⟩ := dobj_at I hd
    have hsz : es.size = xs.length := size_of_entries he
    exact next_key_end (I.ok.hd hc) st hgd hod hsz hi fun h' eb => ⟨rfl, I.turned (t' := s.toks) (fun b ob hb e => eb b ob hb e) f0 f1 f3 f4 f5⟩
  self := fun A i s Q E st h => by
    refine wpAny_pyIter_slot st.typeIs F.slot_dict_keyiterator_iter (wpAny_call_entry F.slot_dict_keyiterator_iter st.typeIs F.entry_dict_keyiterator_iter ?_ (F.args_dict_keyiterator_iter_1 _))
    show wpAny _ _ (ret (.ref it)) _ _ s
    exact wpAny_pure ⟨_, rfl, "dict_keyiterator", _, st.typeIs, F.slot_dict_keyiterator_next.lookup, h⟩
def iX (P : Program) (w : World) (td : TE) : TI := fun σ H R => td σ H fun x H1 => ∃ d o xs, x = .ref d ∧ H1 d = some (DObj P w d o xs) ∧ R (Itx P w d o xs) H1
theorem pi_x {X : Cx} {tg e : Expr} {td : TE} (he : PE X e td) : PI X tg e (iX X.prog X.w td) := by
  refine ⟨fun pins s σ H R I h => ?_⟩
  refine thn (he.run pins s σ H _ I h) fun u s1 ⟨x, H1, I1, rx, d, o, xs, ex, hd, q⟩ => ?_
  subst ex
  obtain rfl : u = Value.ref d := rx
  obtain ⟨hgd, R⟩ := dobj_at I1 hd
  obtain ⟨es, ep, hdt, hes⟩ := R.dat
  refine iter_keys R.sys hgd R.ex hdt (pi_one (tk := s1.toks) I1 _ (turn_x _ hdt hes) ⟨_, Heap.get?_push_size _ rfl, rfl, ?_⟩ q)
  rw [size_of_entries hes] <;> rfl
/-! ### dict(a list of pairs) -/
section
variable {X : Cx}
/-- later ones win, at the first one's place -/
theorem pairs_at {pins : List (Addr × Obj)} {σ : L2.St} {H : Hp} {s : Shared} (I : Inv X pins σ H s) : ∀ {ps : List Addr} {kvs : List (List Int × Addr × V)}, Paired (fun p (kv : List Int × Addr × V) => SqT X.K H p [.ref kv.2.1, kv.2.2]) ps kvs →
    ∃ us : List Value, Vals (kvs.map (·.2.2)) us ∧ us.length = ps.length ∧ ∀ (j : Nat) (kv : List Int × Addr × V) (u : Value), kvs[j]? = some kv → us[j]? = some u → ∃ p, ps[j]? = some p ∧ IsTup s.heap p #[.ref kv.2.1, u]
  | _, _, .nil => ⟨[], .nil, rfl, fun j q u e => by simp at e⟩
  | _, _, .cons (a := p) (b := kv) h t => by
    obtain ⟨us, r, hl, hp⟩ := pairs_at I t
    obtain ⟨its, rv, ht, _⟩ := I.tuple h
    obtain ⟨u, y, ei, ru, ry⟩ := vals2 rv
    subst ei
    obtain rfl : u = .ref kv.2.1 := ru
    refine ⟨y :: us, .cons ry r, by rw [List.length_cons, List.length_cons, hl], fun j q v e e2 => ?_⟩
    cases j with
    | zero =>
      have e' : kv = q := Option.some.inj e
      have e2' : y = v := Option.some.inj e2
      subst e'; subst e2'
      exact ⟨p, rfl, ht⟩
    | succ j =>
      obtain ⟨b, e1, e3⟩ := hp j q v (by simpa using e) (by simpa using e2)
      exact ⟨b, by simpa using e1, e3⟩
def trip (kvs : List (List Int × Addr × V)) (us : List Value) : List (List Int × Addr × Value) := kvs.zipWith (fun kv u => (kv.1, kv.2.1, u)) us
def rDictT (K : PySem.W.Frag) (P : Program) (w : World) : List V → Hp → VK → Prop := fun xs H Q => ∃ (a : Addr) (ps : List Addr) (kvs : List (List Int × Addr × V)), xs = [.ref a] ∧ SqL K H a (ps.map V.ref) ∧ Paired (fun p (kv : List Int × Addr × V) => SqT K H p [.ref kv.2.1, kv.2.2]) ps kvs ∧ (∀ kv ∈ kvs, SqT K H kv.2.1 (kv.1.map V.int)) ∧
  ∀ p o us, Vals (kvs.map (·.2.2)) us → H p = none → Q (.ref p) (upd H p (DObj P w p o (storedAllH [] (trip kvs us))))
theorem cr_dictT (hcalm : X.calm = true) (hu : X.A.units + 3 < cLine) : CallR X (.type "dict") (rDictT X.K X.prog X.w) := by
  intro pins s σ H xs us Q I r ⟨a, ps, kvs, ex, hq, hp, hk, q⟩
  subst ex
  rw [Vals.ref1 r]
  obtain ⟨its, rv, pl, hz⟩ := I.list hq
  have ei := refs_at rv
  subst ei
  rw [List.length_map] at hz
  obtain ⟨vs, rel, hl, hpr⟩ := pairs_at I hp
  have hkl : kvs.length = ps.length := (Paired.length hp).symm
  obtain ⟨o, n, ho, hc, hd, hdat⟩ := pl
  have htl : (trip kvs vs).length = ps.length := by unfold trip; rw [List.length_zipWith, hkl, hl, Nat.min_self]
  have hget : ∀ (j : Nat) (k v : Value), ((trip kvs vs).map fun x => (Value.ref x.2.1, x.2.2))[j]? = some (k, v) → ∃ (kv : List Int × Addr × V), kvs[j]? = some kv ∧ vs[j]? = some v ∧ k = .ref kv.2.1 ∧ (trip kvs vs)[j]? = some (kv.1, kv.2.1, v) := by
    intro j k v e
    rw [List.getElem?_map] at e
    cases e1 : (trip kvs vs)[j]? with
    | none => rw [e1] at e; cases e
    | some x =>
      rw [e1] at e
      have e' : (Value.ref x.2.1, x.2.2) = (k, v) := Option.some.inj e
      unfold trip at e1
      rw [List.getElem?_zipWith] at e1
      cases e2 : kvs[j]? with
      | none => rw [e2] at e1; cases e1
      | some kv =>
        cases e3 : vs[j]? with
        | none => rw [e2, e3] at e1; cases e1
        | some u =>
          rw [e2, e3] at e1
          have e4 : (kv.1, kv.2.1, u) = x := Option.some.inj e1
          subst e4
          cases e'
          exact ⟨kv, rfl, rfl, rfl, rfl⟩
  have hmap : ((trip kvs vs).map fun x => (Value.ref x.2.1, x.2.2)).length = ps.length := by rw [List.length_map, htl]
  refine call_dict_pairsH (knd := kd X.prog X.w) (ps := trip kvs vs) (PairArg.list a (ps.map Value.ref).toArray (fun j => (ps[j]?).getD 0) ((trip kvs vs).map fun x => (Value.ref x.2.1, x.2.2))) (I.ok.hd hcalm) (show X.A.in1.in1.units < cLine by show X.A.units + 1 + 1 < cLine; omega) ⟨⟨o, n, ho, hc, hd, hdat⟩, ?_, ?_⟩ ⟨by rw [hmap, htl], ?_⟩ ?_ (by rw [hmap]; exact hz) ?_
  · rw [List.size_toArray, List.length_map, hmap]
  · intro j k v e
    obtain ⟨kv, e1, e2, rfl, e3⟩ := hget j k v e
    obtain ⟨p, e4, e5⟩ := hpr j kv v e1 e2
    refine ⟨by simp [e4], ?_⟩
    have e6 : (ps[j]?).getD 0 = p := by rw [e4]; rfl
    show PairAt s.heap ((ps[j]?).getD 0) (Value.ref kv.2.1) v
    rw [e6]
    obtain ⟨ob, h1, h2, m, h3⟩ := e5
    exact .inl ⟨ob, h1, h2, m, h3⟩
  · intro i key v e
    obtain ⟨kv, e1, e2, rfl, e3⟩ := hget i key v e
    exact ⟨kv.1, kv.2.1, e3, rfl⟩
  · intro h' hk' x hx
    unfold trip at hx
    obtain ⟨j, hj⟩ := List.getElem?_of_mem hx
    rw [List.getElem?_zipWith] at hj
    cases e2 : kvs[j]? with
    | none => rw [e2] at hj; cases hj
    | some kv =>
      cases e3 : vs[j]? with
      | none => rw [e2, e3] at hj; cases hj
      | some u =>
        rw [e2, e3] at hj
        have e4 : (kv.1, kv.2.1, u) = x := Option.some.inj hj
        subst e4
        obtain ⟨ob, its, m, h1, h2, h3, h4⟩ := I.isT (hk kv (List.mem_of_getElem? e2))
        exact ⟨ob, its, m, hk' _ _ (Nat.ne_of_lt (Heap.lt_size h1)) (by simp) h1, h2, h3, h4⟩
  · intro h' tk hd' k
    obtain ⟨o', es, ep, h1, h2, h3, h4, h5, h6⟩ := hd'
    have hm : (s.heap.objs.size == sysModules) = false := beq_eq_false_iff_ne.mpr (Nat.ne_of_gt I.big)
    have hlen : (storedAllH [] (trip kvs vs)).length ≤ sizeLine := by
      have := storedAllH_length (trip kvs vs) []
      rw [List.length_nil, Nat.zero_add, htl] at this
      omega
    exact ⟨.ref s.heap.objs.size, _, I.laid (t' := tk) (fun b o e => k b o (by simp) e) (Nat.le_refl _) (dobj_new h1 ⟨hm, h2, ⟨es, ep, h3, h4⟩, h6, hlen⟩), rfl, q _ o' vs rel (I.hok.fresh (Nat.le_refl _))⟩
end
/-! ### reading, whatever the keys -/
def XRd (P : Program) (w : World) (H : Hp) (a : Addr) : Prop := IsD H a ∨ ∃ o xs, H a = some (DObj P w a o xs)
def XGet (K : PySem.W.Frag) (P : Program) (w : World) (H : Hp) (a : Addr) (y : V) (r : Option V) : Prop :=
  DGet H a y r ∨ (∃ (o : Obj) (k : List Int) (b : Addr), H a = some (.frz o (.dK [])) ∧ y = .ref b ∧ SqT K H b (k.map V.int) ∧ r = none) ∨
    ∃ (o : Obj) (xs : List (List Int × Addr × Value)) (k : List Int) (b : Addr), H a = some (DObj P w a o xs) ∧ (∀ x ∈ xs, SqT K H x.2.1 (x.1.map V.int)) ∧ y = .ref b ∧ SqT K H b (k.map V.int) ∧
      ((r = none ∧ atKey xs k = none) ∨ ∃ v p, r = some v ∧ atKey xs k = some p ∧ RelV v p.2)
section
variable {X : Cx} {pins : List (Addr × Obj)} {σ : L2.St} {H : Hp} {s : Shared} {a : Addr}
theorem xrd_at (I : Inv X pins σ H s) (d : XRd X.prog X.w H a) :
    s.TypeIs (.ref a) "dict" ∧ (∀ b, Value.ref a = .ref b → ∃ ob, s.heap.get? b = some ob ∧ ob.dict = none) ∧ (a == sysModules) = false := by
  rcases d with d | ⟨o, xs, e⟩
  · exact isD_at I d
  · obtain ⟨h1, R⟩ := dobj_at I e
    refine ⟨?_, fun b q => ?_, R.sys⟩
    · have dd : s.heap.DictOfH (kd X.prog X.w) a [] → s.TypeIs (.ref a) "dict" := fun dd => dd.typeIs
      exact ⟨o, h1, R.ex.1⟩
    · cases q
      exact ⟨o, h1, R.ex.2.1⟩
theorem XGet.rd {K : PySem.W.Frag} {P : Program} {w : World} {y : V} {r : Option V} (g : XGet K P w H a y r) : XRd P w H a := by
  rcases g with g | ⟨o, k, b, e, _⟩ | ⟨o, xs, k, b, e, _⟩
  · rcases g with ⟨kvs, k, e, _⟩ | ⟨kvs, k, b, e, _⟩
    · exact .inl (.inl ⟨kvs, e⟩)
    · exact .inl (.inr ⟨kvs, e⟩)
  · exact .inl (.inl ⟨_, .inr ⟨o, e⟩⟩)
  · exact .inr ⟨o, xs, e⟩
theorem x_get2 {A : Around} {E : Value → Shared → Prop} {Q : Value → Shared → Prop} {y d : V} {u r : Value} {o : Option V} (hu : A.units + 1 < cLine) (I : Inv X pins σ H s) (g : XGet X.K X.prog X.w H a y o) (ry : RelV y u) (rd : RelV d r)
    (h : ∀ w' s', Inv X pins σ H s' → RelV (o.getD d) w' → Q w' s') : wpAny (model X.prog X.w) A (call (.builtin "dict.get") [.ref a, u, r]) Q E s := by
  rcases g with g | ⟨oo, k, b, e, ey, hb, er⟩ | ⟨oo, xs, k, b, e, hk, ey, hb, hr⟩
  · exact d_get2 hu I g ry rd h
  · subst ey er
    cases (show u = Value.ref b from ry)
    exact e_get2 hu I e hb fun s' I' => h _ s' I' rd
  · subst ey
    cases (show u = Value.ref b from ry)
    refine t_get2 hu I e hk hb fun s' I' => h _ s' I' ?_
    rcases hr with ⟨rfl, h2⟩ | ⟨v, p, rfl, h2, h3⟩
    · rw [h2]; exact rd
    · rw [h2]; exact h3
theorem x_item {A : Around} {E : Value → Shared → Prop} {Q : Value → Shared → Prop} {y v : V} {u : Value} (hu : A.units + 1 < cLine) (I : Inv X pins σ H s) (g : XGet X.K X.prog X.w H a y (some v)) (ry : RelV y u)
    (h : ∀ w' s', Inv X pins σ H s' → RelV v w' → Q w' s') : wpAny (model X.prog X.w) A (getItem (.ref a) u) Q E s := by
  rcases g with g | ⟨oo, k, b, e, ey, hb, er⟩ | ⟨oo, xs, k, b, e, hk, ey, hb, hr⟩
  · exact d_getItem hu I g ry h
  · cases er
  · subst ey
    cases (show u = Value.ref b from ry)
    rcases hr with ⟨h1, _⟩ | ⟨v', p, h1, h2, h3⟩
    · cases h1
    · cases h1
      exact t_item hu I e hk hb h2 fun s' I' => h _ s' I' h3
end
def tXGet (K : PySem.W.Frag) (P : Program) (w : World) (td ty : TE) : TE := fun σ H Q => td σ H fun x H1 => ty σ H1 fun y H2 => ∃ a v, x = .ref a ∧ XGet K P w H2 a y (some v) ∧ Q v H2
def tXGet2 (K : PySem.W.Frag) (P : Program) (w : World) (td ty tx : TE) : TE := fun σ H Q => td σ H fun x H1 => ∃ a, x = .ref a ∧ XRd P w H1 a ∧ ty σ H1 fun y H2 => tx σ H2 fun z H3 => ∃ o, XGet K P w H3 a y o ∧ Q (o.getD z) H3
section
variable {X : Cx} {o i e f : Expr} {pos apos cpos : Pos} {td ty tx : TE}
theorem pe_xget (hu : X.A.units + 1 < cLine) (ho : PE X o td) (hi : PE X i ty) (hs : NoSl i) : PE X (.Subscript o i pos) (tXGet X.K X.prog X.w td ty) := by
  refine ⟨fun pins s σ H Q I h => ?_⟩
  refine subD_of PySem.F.slot_dict_getitem.lookup hs (thn (ho.run pins s σ H _ I h) fun u s1 ⟨x, H1, I1, rx, q1⟩ => thn (hi.run pins s1 σ H1 _ I1 q1) fun iv s2 ⟨y, H2, I2, ry, a, v, ex, g, q2⟩ => ?_)
  subst ex
  obtain rfl : u = Value.ref a := rx
  exact ⟨(xrd_at I2 g.rd).1, x_item hu I2 g ry fun w' s3 I3 rw' => ⟨v, H2, I3, rw', q2⟩⟩
theorem pe_xget2 (hu : X.A.units + 1 < cLine) (ho : PE X o td) (he : PE X e ty) (hf : PE X f tx) (m : M2 X o "get" apos e f cpos) : PE X (.Call (.Attribute o "get" apos) [e, f] [] cpos) (tXGet2 X.K X.prog X.w td ty tx) := by
  refine ⟨fun pins s σ H Q I h => ?_⟩
  refine wpAny_Call_method m.base m.few m.line PySem.F.plainAttrs_dict PySem.F.slot_dict_get PySem.F.type_dict_get (thn (ho.run pins s σ H _ I h) fun u s1 ⟨x, H1, I1, rx, a, ex, d, q1⟩ => ?_)
  subst ex
  obtain rfl : u = Value.ref a := rx
  obtain ⟨t1, t2, _⟩ := xrd_at I1 d
  refine ⟨t1, t2, ?_⟩
  rw [m.trees]
  refine Calls.callWith_builtin rfl (Calls.evalArgs_plain (Calls.spliced_cons (thn (he.run pins s1 σ H1 _ I1 q1) fun iv s2 ⟨y, H2, I2, ry, q2⟩ =>
    Calls.spliced_cons (thn (hf.run pins s2 σ H2 _ I2 q2) fun fv s3 ⟨z, H3, I3, rz, ov, g, q3⟩ => Calls.spliced_nil ?_))))
  exact x_get2 hu I3 g ry rz fun w' s4 I4 rw' => ⟨_, H3, I4, rw', q3⟩
end
end TD

/-! PL1: plain data D, how values of the layer stand for it, worlds of changing lists. -/
namespace PL
open PySem PySem.Spec PyProof.Rows L2

inductive D where
  | non | bl (b : Bool) | int (i : Int) | str (x : Str) | tup (xs : List D) | lst (xs : List D)
  | dct (kvs : List (Key × D)) | dtt (ks : List (List Int)) (ds : List D) | set (xs : List D) | fn (x : Str) | ref (i : Nat) | scr (ns : List Int)

mutual
def D.py : D → Option PyData
  | .non => some .none
  | .bl b => some (.bool b)
  | .int i => some (.int i)
  | .str x => some (.str x)
  | .tup xs => (D.pys xs).map .tuple
  | .lst xs => (D.pys xs).map .list
  | _ => none
def D.pys : List D → Option (List PyData)
  | [] => some []
  | x :: xs => match D.py x with
    | some a => (D.pys xs).map (a :: ·)
    | none => none
end

/-- ch: the changing lists; op: lists under making -/
structure Ms where
  ch : List Addr
  op : List Addr
def Ms.has (m : Ms) (a : Addr) : Prop := a ∈ m.ch ∨ a ∈ m.op
/-- a list, a tuple that stays as it is: none of the changing lists m -/
def FzL (K : PySem.W.Frag) (m : Ms) (H : Hp) (a : Addr) (xs : List V) : Prop :=
  (¬ m.has a ∧ Rd H a (.lst xs)) ∨
    ∃ (o : Obj) (its : Array Value) (n : Nat), K.lookup a = some o ∧ o.cls = .type "list" ∧ o.dict = none ∧ o.data = .seq its n ∧ its.size ≤ sizeLine ∧ Vals xs its.toList
def FzT (K : PySem.W.Frag) (m : Ms) (H : Hp) (a : Addr) (xs : List V) : Prop :=
  (¬ m.has a ∧ Rd H a (.tup xs)) ∨
    ∃ (o : Obj) (its : Array Value) (n : Nat), K.lookup a = some o ∧ o.cls = .type "tuple" ∧ o.data = .seq its n ∧ its.size ≤ sizeLine ∧ Vals xs its.toList
theorem FzL.seq {K : PySem.W.Frag} {m : Ms} {H : Hp} {a : Addr} {xs : List V} (h : FzL K m H a xs) : SqL K H a xs := h.imp (·.2) id
theorem FzT.seq {K : PySem.W.Frag} {m : Ms} {H : Hp} {a : Addr} {xs : List V} (h : FzT K m H a xs) : SqT K H a xs := h.imp (·.2) id

/-- the module: its text's written part, what its names hold -/
structure Md where
  K : PySem.W.Frag
  mg : Str → Option Value
  P : Program
  w : World
def tupD (k : List Int) : D := .tup (k.map .int)
/-- a set's object: what it holds, ascending -/
def SoOk (P : Program) (w : World) (a : Addr) (o : HO) (vs : List V) (ds : List D) : Prop :=
  (∃ (S : Int → Bool) (n : Nat) (ns : List Int), o = SetO w a S n ∧ vs = ns.map V.int ∧ ds = ns.map D.int ∧ ns.Pairwise (· < ·) ∧ ∀ k : Int, k ∈ ns ↔ S k = true) ∨
  (∃ (L L0 : List (Addr × List Int)), o = GT.GSet P w a L ∧ L0.Perm L ∧ vs = L0.map (fun p => V.ref p.1) ∧ ds = L0.map (fun p => tupD p.2) ∧ (L0.map (·.2)).Pairwise (· < ·))

mutual
inductive Is (M : Md) (m : Ms) (H : Hp) : V → D → Prop
  | non : Is M m H .non .non
  | bl (b : Bool) : Is M m H (.bl b) (.bl b)
  | int (i : Int) : Is M m H (.int i) (.int i)
  | str (x : Str) (h : PyData.strOk x = true) : Is M m H (.str x) (.str x)
  | tup {a : Addr} {xs : List V} {ds : List D} : FzT M.K m H a xs → IsAll M m H xs ds → Is M m H (.ref a) (.tup ds)
  | lst {a : Addr} {xs : List V} {ds : List D} : ¬ m.has a → H a = some (.lst xs) → IsAll M m H xs ds → Is M m H (.ref a) (.lst ds)
  | dct {a : Addr} {o : Obj} {kvs : List (Key × V)} {ds : List (Key × D)} : ¬ m.has a → H a = some (.frz o (.dK kvs)) → IsKvs M m H kvs ds → Is M m H (.ref a) (.dct ds)
  | dtt {a : Addr} {o : Obj} {xs : List (List Int × Addr × Value)} {vs : List V} {ks : List (List Int)} {ds : List D} : ¬ m.has a → H a = some (TD.DObj M.P M.w a o xs) → (∀ x ∈ xs, FzT M.K m H x.2.1 (x.1.map V.int)) → ks = xs.map (·.1) → Vals vs (xs.map (·.2.2)) → IsAll M m H vs ds → Is M m H (.ref a) (.dtt ks ds)
  | set {a : Addr} {o : HO} {vs : List V} {ds : List D} : ¬ m.has a → H a = some o → SoOk M.P M.w a o vs ds → IsAll M m H vs ds → Is M m H (.ref a) (.set ds)
  | fn {a : Addr} {x : Str} : M.mg x = some (.ref a) → Is M m H (.ref a) (.fn x)
  | ref {a : Addr} {i : Nat} : m.ch[i]? = some a → Is M m H (.ref a) (.ref i)
  | scr {a : Addr} {ns : List Int} : FzL M.K m H a (ns.map V.int) → Is M m H (.ref a) (.scr ns)
inductive IsAll (M : Md) (m : Ms) (H : Hp) : List V → List D → Prop
  | nil : IsAll M m H [] []
  | cons {v : V} {vs : List V} {d : D} {ds : List D} : Is M m H v d → IsAll M m H vs ds → IsAll M m H (v :: vs) (d :: ds)
inductive IsKvs (M : Md) (m : Ms) (H : Hp) : List (Key × V) → List (Key × D) → Prop
  | nil : IsKvs M m H [] []
  | cons {k : Key} {v : V} {vs : List (Key × V)} {d : D} {ds : List (Key × D)} : Is M m H v d → IsKvs M m H vs ds → IsKvs M m H ((k, v) :: vs) ((k, d) :: ds)
end

/-- from (m, H) to (m', H'): what was still stays -/
structure Kp (m : Ms) (H : Hp) (m' : Ms) (H' : Hp) : Prop where
  pre : ∃ r, m'.ch = m.ch ++ r
  keep : ∀ a o, ¬ m.has a → H a = some o → H' a = some o ∧ ¬ m'.has a
theorem Kp.refl {m : Ms} {H : Hp} : Kp m H m H := ⟨⟨[], by simp⟩, fun _ _ h e => ⟨e, h⟩⟩
theorem Kp.trans {m m1 m2 : Ms} {H H1 H2 : Hp} (a : Kp m H m1 H1) (b : Kp m1 H1 m2 H2) : Kp m H m2 H2 := by
  refine ⟨?_, fun c o h e => ?_⟩
  · obtain ⟨r, e1⟩ := a.pre
    obtain ⟨r', e2⟩ := b.pre
    exact ⟨r ++ r', by rw [e2, e1, List.append_assoc]⟩
  · obtain ⟨e1, n1⟩ := a.keep c o h e
    exact b.keep c o n1 e1
theorem Kp.get {m m' : Ms} {H H' : Hp} (s : Kp m H m' H') {i : Nat} {a : Addr} (h : m.ch[i]? = some a) : m'.ch[i]? = some a := by
  obtain ⟨r, e⟩ := s.pre
  rw [e, List.getElem?_append_left (List.getElem?_eq_some_iff.mp h).1]
  exact h
/-- .. and the lists under making -/
structure Step (m : Ms) (H : Hp) (m' : Ms) (H' : Hp) : Prop where
  kp : Kp m H m' H'
  op : m'.op = m.op
  opk : ∀ a ∈ m.op, ∀ o, H a = some o → H' a = some o
theorem Step.refl {m : Ms} {H : Hp} : Step m H m H := ⟨.refl, rfl, fun _ _ _ e => e⟩
theorem Step.trans {m m1 m2 : Ms} {H H1 H2 : Hp} (a : Step m H m1 H1) (b : Step m1 H1 m2 H2) : Step m H m2 H2 :=
  ⟨a.kp.trans b.kp, b.op.trans a.op, fun c hc o e => b.opk c (by rw [a.op]; exact hc) o (a.opk c hc o e)⟩
theorem Step.same {m : Ms} {H H' : Hp} (h : Same H H') : Step m H m H' := ⟨⟨⟨[], by simp⟩, fun a o n e => ⟨h a o e, n⟩⟩, rfl, fun a _ o e => h a o e⟩
theorem Step.upd {m : Ms} {H : Hp} {p : Addr} {o : HO} (h : H p = none) : Step m H m (upd H p o) := Step.same fun b u e => by rw [upd_ne (ne_of_none e h)]; exact e
section
variable {K : PySem.W.Frag} {M : Md} {m m' : Ms} {H H' : Hp}
theorem FzL.kp {a : Addr} {xs : List V} (h : FzL K m H a xs) (s : Kp m H m' H') : FzL K m' H' a xs := by
  rcases h with ⟨n, h | ⟨o, h⟩⟩ | h
  · obtain ⟨e, n'⟩ := s.keep a _ n h
    exact .inl ⟨n', .inl e⟩
  · obtain ⟨e, n'⟩ := s.keep a _ n h
    exact .inl ⟨n', .inr ⟨o, e⟩⟩
  · exact .inr h
theorem FzT.kp {a : Addr} {xs : List V} (h : FzT K m H a xs) (s : Kp m H m' H') : FzT K m' H' a xs := by
  rcases h with ⟨n, h | ⟨o, h⟩⟩ | h
  · obtain ⟨e, n'⟩ := s.keep a _ n h
    exact .inl ⟨n', .inl e⟩
  · obtain ⟨e, n'⟩ := s.keep a _ n h
    exact .inl ⟨n', .inr ⟨o, e⟩⟩
  · exact .inr h
mutual
theorem Is.kp' (s : Kp m H m' H') : ∀ {v : V} {d : D}, Is M m H v d → Is M m' H' v d
  | _, _, .non => .non
  | _, _, .bl b => .bl b
  | _, _, .int i => .int i
  | _, _, .str x h => .str x h
  | _, _, .tup h r => .tup (h.kp s) (IsAll.kp' s r)
  | _, _, .lst n e r => .lst (s.keep _ _ n e).2 (s.keep _ _ n e).1 (IsAll.kp' s r)
  | _, _, .dct n e r => .dct (s.keep _ _ n e).2 (s.keep _ _ n e).1 (IsKvs.kp' s r)
  | _, _, .dtt n e k q v r => .dtt (s.keep _ _ n e).2 (s.keep _ _ n e).1 (fun x hx => (k x hx).kp s) q v (IsAll.kp' s r)
  | _, _, .set n e h r => .set (s.keep _ _ n e).2 (s.keep _ _ n e).1 h (IsAll.kp' s r)
  | _, _, .fn h => .fn h
  | _, _, .ref h => .ref (s.get h)
  | _, _, .scr h => .scr (h.kp s)
theorem IsAll.kp' (s : Kp m H m' H') : ∀ {vs : List V} {ds : List D}, IsAll M m H vs ds → IsAll M m' H' vs ds
  | _, _, .nil => .nil
  | _, _, .cons a b => .cons (Is.kp' s a) (IsAll.kp' s b)
theorem IsKvs.kp' (s : Kp m H m' H') : ∀ {vs : List (Key × V)} {ds : List (Key × D)}, IsKvs M m H vs ds → IsKvs M m' H' vs ds
  | _, _, .nil => .nil
  | _, _, .cons a b => .cons (Is.kp' s a) (IsKvs.kp' s b)
end
theorem Is.kp {v : V} {d : D} (h : Is M m H v d) (s : Kp m H m' H') : Is M m' H' v d := Is.kp' s h
theorem IsAll.kp {vs : List V} {ds : List D} (h : IsAll M m H vs ds) (s : Kp m H m' H') : IsAll M m' H' vs ds := IsAll.kp' s h
theorem IsKvs.kp {vs : List (Key × V)} {ds : List (Key × D)} (h : IsKvs M m H vs ds) (s : Kp m H m' H') : IsKvs M m' H' vs ds := IsKvs.kp' s h
theorem Is.mono {v : V} {d : D} (h : Is M m H v d) (s : Step m H m' H') : Is M m' H' v d := h.kp s.kp
theorem IsAll.mono {vs : List V} {ds : List D} (h : IsAll M m H vs ds) (s : Step m H m' H') : IsAll M m' H' vs ds := h.kp s.kp
theorem IsKvs.mono {vs : List (Key × V)} {ds : List (Key × D)} (h : IsKvs M m H vs ds) (s : Step m H m' H') : IsKvs M m' H' vs ds := h.kp s.kp
theorem FzL.mono {a : Addr} {xs : List V} (h : FzL K m H a xs) (s : Step m H m' H') : FzL K m' H' a xs := h.kp s.kp
theorem FzT.mono {a : Addr} {xs : List V} (h : FzT K m H a xs) (s : Step m H m' H') : FzT K m' H' a xs := h.kp s.kp
theorem IsAll.length : ∀ {vs : List V} {ds : List D}, IsAll M m H vs ds → vs.length = ds.length
  | _, _, .nil => rfl
  | _, _, .cons _ b => by simp [IsAll.length b]
theorem IsAll.get : ∀ {vs : List V} {ds : List D} {i : Nat} {d : D}, IsAll M m H vs ds → ds[i]? = some d → ∃ v, vs[i]? = some v ∧ Is M m H v d
  | _, _, _, _, .nil, e => by simp at e
  | _, _, 0, _, .cons a b, e => by simp at e; subst e; exact ⟨_, rfl, a⟩
  | _, _, i + 1, d, .cons a b, e => by
    obtain ⟨v, h1, h2⟩ := IsAll.get (i := i) (d := d) b (by simpa using e)
    exact ⟨v, by simpa using h1, h2⟩
theorem IsAll.append : ∀ {vs ws : List V} {ds es : List D}, IsAll M m H vs ds → IsAll M m H ws es → IsAll M m H (vs ++ ws) (ds ++ es)
  | _, _, _, _, .nil, b => b
  | _, _, _, _, .cons a r, b => .cons a (IsAll.append r b)
theorem IsAll.take : ∀ {vs : List V} {ds : List D} (n : Nat), IsAll M m H vs ds → IsAll M m H (vs.take n) (ds.take n)
  | _, _, 0, _ => .nil
  | _, _, _ + 1, .nil => .nil
  | _, _, n + 1, .cons a r => .cons a (IsAll.take n r)
theorem IsAll.drop : ∀ {vs : List V} {ds : List D} (n : Nat), IsAll M m H vs ds → IsAll M m H (vs.drop n) (ds.drop n)
  | _, _, 0, r => r
  | _, _, _ + 1, .nil => .nil
  | _, _, n + 1, .cons a r => IsAll.drop n r
theorem IsAll.reverse {vs : List V} {ds : List D} (h : IsAll M m H vs ds) : IsAll M m H vs.reverse ds.reverse := by
  induction vs generalizing ds with
  | nil => cases h; exact .nil
  | cons v vs ih =>
    cases h with
    | cons a b => rw [List.reverse_cons, List.reverse_cons]; exact (ih b).append (.cons a .nil)
theorem IsAll.rep {vs : List V} {ds : List D} (h : IsAll M m H vs ds) : ∀ k : Nat, IsAll M m H (List.replicate k vs).flatten (List.replicate k ds).flatten
  | 0 => .nil
  | k + 1 => by rw [List.replicate_succ, List.replicate_succ, List.flatten_cons, List.flatten_cons]; exact h.append (IsAll.rep h k)
theorem IsAll.set : ∀ {vs : List V} {ds : List D} {v : V} {d : D} (i : Nat), IsAll M m H vs ds → Is M m H v d → IsAll M m H (vs.set i v) (ds.set i d)
  | _, _, _, _, _, .nil, _ => .nil
  | _, _, _, _, 0, .cons _ r, h => .cons h r
  | _, _, _, _, i + 1, .cons a r, h => .cons a (IsAll.set i r h)
theorem IsAll.ints : ∀ (ns : List Int), IsAll M m H (ns.map V.int) (ns.map D.int)
  | [] => .nil
  | n :: ns => .cons (.int n) (IsAll.ints ns)
theorem IsAll.int_inv : ∀ {ns : List Int} {vs : List V}, IsAll M m H vs (ns.map D.int) → vs = ns.map V.int
  | [], _, h => by cases h; rfl
  | n :: ns, _, h => by
    cases h with
    | cons a b => cases a; rw [IsAll.int_inv b]; rfl
theorem IsAll.bl_inv : ∀ {bs : List Bool} {vs : List V}, IsAll M m H vs (bs.map D.bl) → vs = bs.map V.bl
  | [], _, h => by cases h; rfl
  | n :: ns, _, h => by
    cases h with
    | cons a b => cases a; rw [IsAll.bl_inv b]; rfl

/-! ### data that == tells -/
mutual
theorem Is.dp : ∀ {v : V} {d : D} {p : PyData}, Is M m H v d → d.py = some p → Dp M.K H v p ∧ p.canLay0 = true
  | _, _, _, .non, e => by simp [D.py] at e; subst e; exact ⟨.non, rfl⟩
  | _, _, _, .bl b, e => by simp [D.py] at e; subst e; exact ⟨.bl b, rfl⟩
  | _, _, _, .int i, e => by simp [D.py] at e; subst e; exact ⟨.int i, rfl⟩
  | _, _, _, .str x h, e => by
    simp [D.py] at e; subst e
    exact ⟨.str x, by simpa [PyData.canLay0] using h⟩
  | _, _, _, .tup (ds := ds) h r, e => by
    simp only [D.py] at e
    cases q : D.pys ds with
    | none => rw [q] at e; simp at e
    | some ps =>
      rw [q] at e; simp at e; subst e
      obtain ⟨h1, h2⟩ := IsAll.dp r q
      exact ⟨.tup h.seq h1, by simpa [PyData.canLay0] using h2⟩
  | _, _, _, .lst (ds := ds) _ h r, e => by
    simp only [D.py] at e
    cases q : D.pys ds with
    | none => rw [q] at e; simp at e
    | some ps =>
      rw [q] at e; simp at e; subst e
      obtain ⟨h1, h2⟩ := IsAll.dp r q
      exact ⟨.lst (SqL.of h) h1, by simpa [PyData.canLay0] using h2⟩
  | _, _, _, .dct _ _ _, e => by simp [D.py] at e
  | _, _, _, .set _ _ _ _, e => by simp [D.py] at e
  | _, _, _, .dtt _ _ _ _ _ _, e => by simp [D.py] at e
  | _, _, _, .fn _, e => by simp [D.py] at e
  | _, _, _, .ref _, e => by simp [D.py] at e
  | _, _, _, .scr _, e => by simp [D.py] at e
theorem IsAll.dp : ∀ {vs : List V} {ds : List D} {ps : List PyData}, IsAll M m H vs ds → D.pys ds = some ps → DpAll M.K H vs ps ∧ PyData.canLayAll0 ps = true
  | _, _, _, .nil, e => by simp [D.pys] at e; subst e; exact ⟨.nil, rfl⟩
  | _, _, _, .cons (d := d) (ds := ds) a b, e => by
    simp only [D.pys] at e
    cases q : D.py d with
    | none => rw [q] at e; simp at e
    | some p =>
      rw [q] at e
      cases q2 : D.pys ds with
      | none => rw [q2] at e; simp at e
      | some ps =>
        rw [q2] at e; simp at e; subst e
        obtain ⟨h1, h2⟩ := Is.dp a q
        obtain ⟨h3, h4⟩ := IsAll.dp b q2
        exact ⟨.cons h1 h3, by simp [PyData.canLayAll0, h2, h4]⟩
end
end

/-! ### worlds: the changing lists -/
abbrev Wd := List (List D)
structure WOk (M : Md) (m : Ms) (W : Wd) (H : Hp) : Prop where
  len : m.ch.length = W.length
  nd : m.ch.Nodup
  at_ : ∀ (i : Nat) (xs : List D), W[i]? = some xs → ∃ a vs, m.ch[i]? = some a ∧ H a = some (.lst vs) ∧ IsAll M m H vs xs
  opn : ∀ a ∈ m.op, a ∉ m.ch ∧ ∃ o, H a = some o
/-- slots -/
structure EnvOk (M : Md) (m : Ms) (H : Hp) (σ : L2.St) (ρ : List (Option D)) : Prop where
  at_ : ∀ (i : Nat) (d : D), ρ[i]? = some (some d) → ∃ v, σ[i]? = some (some v) ∧ Is M m H v d
  len : ρ.length = σ.length
section
variable {M : Md} {m m' : Ms} {H H' : Hp} {σ : L2.St} {ρ : List (Option D)} {W : Wd}
theorem EnvOk.kp (h : EnvOk M m H σ ρ) (s : Kp m H m' H') : EnvOk M m' H' σ ρ := ⟨fun i d e => by
  obtain ⟨v, h1, h2⟩ := h.at_ i d e
  exact ⟨v, h1, h2.kp s⟩, h.len⟩
theorem EnvOk.mono (h : EnvOk M m H σ ρ) (s : Step m H m' H') : EnvOk M m' H' σ ρ := h.kp s.kp
theorem WOk.mono (h : WOk M m W H) (s : Same H H') : WOk M m W H' := ⟨h.len, h.nd, fun i xs e => by
  obtain ⟨a, vs, h1, h2, h3⟩ := h.at_ i xs e
  exact ⟨a, vs, h1, s _ _ h2, h3.mono (Step.same s)⟩, fun a ha => let ⟨n, o, e⟩ := h.opn a ha; ⟨n, o, s _ _ e⟩⟩
theorem same_upd {H : Hp} {p : Addr} {o : HO} (h : H p = none) : Same H (upd H p o) := fun b u e => by rw [upd_ne (ne_of_none e h)]; exact e
theorem EnvOk.set (h : EnvOk M m H σ ρ) {i : Nat} {v : V} {d : D} (r : Is M m H v d) : EnvOk M m H (σ.set i (some v)) (ρ.set i (some d)) := ⟨fun j e q => by
  by_cases hj : j = i
  · subst hj
    by_cases hl : j < ρ.length
    · rw [List.getElem?_set_self hl] at q
      cases q
      exact ⟨v, List.getElem?_set_self (by rw [← h.len]; exact hl), r⟩
    · rw [List.getElem?_eq_none (by simpa using hl)] at q
      cases q
  · rw [List.getElem?_set_ne (Ne.symm hj)] at q ⊢
    exact h.at_ j e q, by simp [h.len]⟩
theorem WOk.notIn (h : WOk M m W H) {p : Addr} (hp : H p = none) : ¬ m.has p := fun z => by
  rcases z with z | z
  · obtain ⟨i, hi⟩ := List.getElem?_of_mem z
    have hl : i < W.length := by rw [← h.len]; exact (List.getElem?_eq_some_iff.mp hi).1
    obtain ⟨a, vs, h1, h2, _⟩ := h.at_ i W[i] (List.getElem?_eq_getElem hl)
    rw [hi] at h1; cases h1
    rw [hp] at h2; cases h2
  · obtain ⟨_, o, e⟩ := h.opn p z
    rw [hp] at e; cases e
/-- a new list, a new tuple -/
theorem WOk.newL (h : WOk M m W H) {p : Addr} (hp : H p = none) {vs : List V} {ds : List D} (r : IsAll M m H vs ds) : Is M m (upd H p (.lst vs)) (.ref p) (.lst ds) :=
  .lst (h.notIn hp) upd_same (r.mono (Step.upd hp))
theorem WOk.newT (h : WOk M m W H) {p : Addr} (hp : H p = none) {vs : List V} {ds : List D} (r : IsAll M m H vs ds) : Is M m (upd H p (.tup vs)) (.ref p) (.tup ds) :=
  .tup (.inl ⟨h.notIn hp, .inl upd_same⟩) (r.mono (Step.upd hp))
end
end PL

/-! PO7: t * 1, t * 0, () * n. -/
namespace TM
open PySem PySem.Spec PyProof.Rows L2
theorem mul_one (l : Addr) (items : Array Value) (n : Nat) (dd : Option Addr) (sl : Array (Option Value)) (x : Int) (u : Tok) (c0 : (decide (x < -(2 ^ 63)) || decide (x ≥ 2 ^ 63)) = false) (c1 : (items.isEmpty || x == 1) = true) :
    Meets (Builtin.«tuple.__mul__» ⟨[.ref l, .int x u], []⟩) (fun _ R s => s.heap.get? l = some { cls := .type "tuple", dict := dd, data := .seq items n, slots := sl } ∧ R (.ok (.ret (Value.ref l))) s) :=
  .of_wp fun prog w A R s h => by
    obtain ⟨hp, g, d, tk, os⟩ := s
    obtain ⟨hl, h⟩ := h
    have f1 := AutoSeq1.idx_int
    wp_walk using AutoSeq1.wpAny_loadPart' hl
    repeat (first
      | (refine wpAny_ite_false (decide_eq_false (by rw [c0]; exact Bool.false_ne_true)) ?_; wp_walk using AutoSeq1.wpAny_loadPart' hl)
      | (refine wpAny_ite_true (decide_eq_true (by rw [c1])) ?_; wp_walk using AutoSeq1.wpAny_loadPart' hl))
    exact ⟨_, rfl, h⟩
theorem mul_zero (l : Addr) (items : Array Value) (n : Nat) (dd : Option Addr) (sl : Array (Option Value)) (x : Int) (u : Tok) (c0 : (decide (x < -(2 ^ 63)) || decide (x ≥ 2 ^ 63)) = false) (c1 : (items.isEmpty || x == 1) = false) (c2 : (decide (x ≤ 0) || items.isEmpty) = true) :
    Meets (Builtin.«tuple.__mul__» ⟨[.ref l, .int x u], []⟩) (fun _ R s => s.heap.get? l = some { cls := .type "tuple", dict := dd, data := .seq items n, slots := sl } ∧
      R (.ok (.ret (Value.ref s.heap.objs.size))) { s with heap := s.heap.push { cls := Value.type "tuple", data := Data.seq #[] }, toks := s.toks }) :=
  .of_wp fun prog w A R s h => by
    obtain ⟨hp, g, d, tk, os⟩ := s
    obtain ⟨hl, h⟩ := h
    have f1 := AutoSeq1.idx_int
    wp_walk using AutoSeq1.wpAny_loadPart' hl
    repeat (first
      | (refine wpAny_ite_false (decide_eq_false (by rw [c0]; exact Bool.false_ne_true)) ?_; wp_walk using AutoSeq1.wpAny_loadPart' hl)
      | (refine wpAny_ite_false (decide_eq_false (by rw [c1]; exact Bool.false_ne_true)) ?_; wp_walk using AutoSeq1.wpAny_loadPart' hl)
      | (refine wpAny_ite_true (decide_eq_true (by rw [c2])) ?_; wp_walk using AutoSeq1.wpAny_loadPart' hl)
      | (refine wpAny_ite_false (decide_eq_false (Nat.not_lt.mpr (by simp))) ?_; wp_walk using AutoSeq1.wpAny_loadPart' hl))
    exact ⟨_, rfl, h⟩
def rRep1 (K : PySem.W.Frag) : R2 := fun x y H Q => ∃ l k xs, x = .ref l ∧ y = .int k ∧ SqT K H l xs ∧ -1000 ≤ k ∧ k ≤ 1000 ∧ (((xs = [] ∨ k = 1) ∧ Q (.ref l) H) ∨ (xs ≠ [] ∧ k ≤ 0 ∧ ∀ p, H p = none → Q (.ref p) (upd H p (.tup []))))
section
variable {X : Cx}
theorem op_rep1 : OpR X (binaryOp .Mult) (rRep1 X.K) := by
  intro pins s σ H x y v u Q I rx ry h
  obtain ⟨l, k, xs, rfl, rfl, hT, h0, h1, q⟩ := h
  cases rx
  obtain ⟨t, rfl⟩ := ry
  obtain ⟨its, r, ⟨⟨cls, dd, data, sl⟩, ho, hc, n, hd⟩, hs⟩ := I.tuple hT
  simp only at hc hd
  subst hc hd
  have hle : its.length = xs.length := r.length.symm
  have c0 : (decide (k < -(2 ^ 63)) || decide (k ≥ 2 ^ 63)) = false := by
    rw [decide_eq_false (by omega), decide_eq_false (by omega)] <;> rfl
  rcases q with ⟨hone, q⟩ | ⟨hne, hk, q⟩
  · have c1 : (its.toArray.isEmpty || k == 1) = true := by
      rcases hone with e | e
      · rw [e] at hle
        have : its = [] := List.eq_nil_of_length_eq_zero hle
        subst this; rfl
      · subst e; simp
    refine wpAny_binaryOp_repeat_ref (T := "tuple") (U := "int") (by decide) ⟨_, ho, rfl⟩ (fun s' => typeIs_int s' k t) noFill_tuple_mul F.fills_int_mul F.slot_int_rmul repeat_tuple F.slot_int_index.lookup
      (call_meets F.slot_int_rmul (typeIs_int s k t) F.entry_int_rmul (F.args_int_rmul_2 _ _) (int_rmul_tuple k t l its.toArray n dd sl)
        ⟨ho, rfl, ⟨_, ho, rfl⟩, call_meets F.slot_tuple_mul ⟨_, ho, rfl⟩ F.entry_tuple_mul (F.args_tuple_mul_2 _ _) (mul_one l its.toArray n dd sl k t c0 c1) ⟨ho, ?_⟩⟩)
    exact ⟨.ref l, H, I, rfl, q⟩
  · have hn : its.toArray.isEmpty = false := by
      cases its with
      | nil => exact absurd (List.eq_nil_of_length_eq_zero hle.symm) hne
      | cons a b => rfl
    have c1 : (its.toArray.isEmpty || k == 1) = false := by
      rw [hn, Bool.false_or]
      exact beq_eq_false_iff_ne.mpr (by omega)
    have c2 : (decide (k ≤ 0) || its.toArray.isEmpty) = true := by
      rw [decide_eq_true hk] <;> rfl
    refine wpAny_binaryOp_repeat_ref (T := "tuple") (U := "int") (by decide) ⟨_, ho, rfl⟩ (fun s' => typeIs_int s' k t) noFill_tuple_mul F.fills_int_mul F.slot_int_rmul repeat_tuple F.slot_int_index.lookup
      (call_meets F.slot_int_rmul (typeIs_int s k t) F.entry_int_rmul (F.args_int_rmul_2 _ _) (int_rmul_tuple k t l its.toArray n dd sl)
        ⟨ho, rfl, ⟨_, ho, rfl⟩, call_meets F.slot_tuple_mul ⟨_, ho, rfl⟩ F.entry_tuple_mul (F.args_tuple_mul_2 _ _) (mul_zero l its.toArray n dd sl k t c0 c1 c2) ⟨ho, ?_⟩⟩)
    refine ⟨.ref s.heap.objs.size, _, I.laid (t' := s.toks) (o := .tup []) (fun b ob q => Heap.get?_push_of_some _ q) (Nat.le_refl _) ?_, rfl, q _ (I.hok.fresh (Nat.le_refl _))⟩
    exact ⟨by simp, _, .nil, IsTup.new _ _⟩
end
end TM

/-! PO1: the order of data. -/
namespace PL
open PySem PySem.Spec PyProof.Rows L2

mutual
def D.same : D → D → Bool
  | .non, .non => true
  | .bl a, .bl b => a == b
  | .int a, .int b => a == b
  | .str a, .str b => a == b
  | .tup a, .tup b => D.sames a b
  | .lst a, .lst b => D.sames a b
  | .fn a, .fn b => a == b
  | _, _ => false
def D.sames : List D → List D → Bool
  | [], [] => true
  | a :: as, b :: bs => D.same a b && D.sames as bs
  | _, _ => false
end
mutual
theorem D.same_ok : ∀ {a b : D}, D.same a b = true → a = b
  | .non, .non, _ => rfl
  | .bl a, .bl b, h => by simp [D.same] at h; rw [h]
  | .int a, .int b, h => by simp [D.same] at h; rw [h]
  | .str a, .str b, h => by simp [D.same] at h; rw [h]
  | .tup a, .tup b, h => by simp only [D.same] at h; rw [D.sames_ok h]
  | .lst a, .lst b, h => by simp only [D.same] at h; rw [D.sames_ok h]
  | .fn a, .fn b, h => by simp [D.same] at h; rw [h]
  | .dct a, b, h => by cases b <;> simp [D.same] at h
  | .set a, b, h => by cases b <;> simp [D.same] at h
  | .dtt _ _, b, h => by cases b <;> simp [D.same] at h
  | .ref a, b, h => by cases b <;> simp [D.same] at h
  | .scr a, b, h => by cases b <;> simp [D.same] at h
theorem D.sames_ok : ∀ {a b : List D}, D.sames a b = true → a = b
  | [], [], _ => rfl
  | a :: as, b :: bs, h => by
    simp only [D.sames, Bool.and_eq_true] at h
    rw [D.same_ok h.1, D.sames_ok h.2]
  | [], _ :: _, h => by simp [D.sames] at h
  | _ :: _, [], h => by simp [D.sames] at h
end

/-! ### data that can be compared: ints, texts, tuples of such -/
mutual
def D.ltb : D → D → Bool
  | .int a, .int b => decide (a < b)
  | .str a, .str b => decide (a.cps.toList < b.cps.toList)
  | .tup a, .tup b => D.ltbs a b
  | _, _ => false
def D.ltbs : List D → List D → Bool
  | a :: as, b :: bs => if D.same a b = true then D.ltbs as bs else D.ltb a b
  | [], _ :: _ => true
  | _, _ => false
end
mutual
/-- a, b can be set beside one another -/
def D.alk : D → D → Bool
  | .int _, .int _ => true
  | .str _, .str _ => true
  | .tup a, .tup b => D.alks a b
  | _, _ => false
def D.alks : List D → List D → Bool
  | a :: as, b :: bs => D.alk a b && D.alks as bs
  | _, _ => true
end
/-- of one make -/
def D.isInt : D → Bool
  | .int _ => true
  | _ => false
mutual
def D.she : D → D → Bool
  | .int _, .int _ => true
  | .str _, .str _ => true
  | .tup a, .tup b => (a.all D.isInt && b.all D.isInt) || D.shes a b
  | _, _ => false
def D.shes : List D → List D → Bool
  | a :: as, b :: bs => D.she a b && D.shes as bs
  | [], [] => true
  | _, _ => false
end
theorem alks_ints : ∀ {a b : List D}, a.all D.isInt = true → b.all D.isInt = true → D.alks a b = true
  | [], b, _, _ => by simp [D.alks]
  | x :: a, [], _, _ => by simp [D.alks]
  | x :: a, y :: b, h, h' => by
    simp only [List.all_cons, Bool.and_eq_true] at h h'
    simp only [D.alks, Bool.and_eq_true]
    refine ⟨?_, alks_ints h.2 h'.2⟩
    cases x with
    | int _ => cases y with
      | int _ => rfl
      | _ => exact absurd h'.1 (by simp [D.isInt])
    | _ => exact absurd h.1 (by simp [D.isInt])
theorem shes_ints : ∀ {c b : List D}, c.all D.isInt = true → D.shes c b = true → b.all D.isInt = true
  | [], [], _, _ => rfl
  | [], _ :: _, _, h => by simp [D.shes] at h
  | _ :: _, [], _, h => by simp [D.shes] at h
  | x :: c, y :: b, h, h' => by
    simp only [List.all_cons, Bool.and_eq_true] at h ⊢
    simp only [D.shes, Bool.and_eq_true] at h'
    refine ⟨?_, shes_ints h.2 h'.2⟩
    cases x with
    | int _ => cases y with
      | int _ => rfl
      | _ => exact absurd h'.1 (by simp [D.she])
    | _ => exact absurd h.1 (by simp [D.isInt])
mutual
theorem D.she_alk : ∀ {c a b : D}, D.she c a = true → D.she c b = true → D.alk a b = true
  | .int _, a, b, h, h' => by
    cases a <;> simp [D.she] at h
    cases b <;> simp [D.she] at h'
    rfl
  | .str _, a, b, h, h' => by
    cases a <;> simp [D.she] at h
    cases b <;> simp [D.she] at h'
    rfl
  | .tup c, a, b, h, h' => by
    cases a with
    | tup a => cases b with
      | tup b =>
        simp only [D.she, Bool.or_eq_true, Bool.and_eq_true] at h h'
        simp only [D.alk]
        rcases h with h | h
        · rcases h' with h' | h'
          · exact alks_ints h.2 h'.2
          · exact alks_ints h.2 (shes_ints h.1 h')
        · rcases h' with h' | h'
          · exact alks_ints (shes_ints h'.1 h) h'.2
          · exact D.shes_alk h h'
      | _ => simp [D.she] at h'
    | _ => simp [D.she] at h
  | .non, a, b, h, h' => by cases a <;> simp [D.she] at h
  | .bl _, a, b, h, h' => by cases a <;> simp [D.she] at h
  | .lst _, a, b, h, h' => by cases a <;> simp [D.she] at h
  | .dct _, a, b, h, h' => by cases a <;> simp [D.she] at h
  | .set _, a, b, h, h' => by cases a <;> simp [D.she] at h
  | .dtt _ _, a, b, h, h' => by cases a <;> simp [D.she] at h
  | .fn _, a, b, h, h' => by cases a <;> simp [D.she] at h
  | .ref _, a, b, h, h' => by cases a <;> simp [D.she] at h
  | .scr _, a, b, h, h' => by cases a <;> simp [D.she] at h
theorem D.shes_alk : ∀ {c a b : List D}, D.shes c a = true → D.shes c b = true → D.alks a b = true
  | [], a, b, h, h' => by
    cases a <;> simp [D.shes] at h
    simp [D.alks]
  | x :: c, a, b, h, h' => by
    cases a with
    | nil => simp [D.shes] at h
    | cons y a => cases b with
      | nil => simp [D.shes] at h'
      | cons z b =>
        simp only [D.shes, Bool.and_eq_true] at h h'
        simp only [D.alks, Bool.and_eq_true]
        exact ⟨D.she_alk h.1 h'.1, D.shes_alk h.2 h'.2⟩
end
/-! ### what the model says of them -/
mutual
theorem alk_py : ∀ {a b : D}, D.alk a b = true → ∀ {p q : PyData}, a.py = some p → b.py = some q → PySem.W.alike p q = true ∧ PyData.eqv p q = D.same a b ∧ PySem.W.dataLt p q = D.ltb a b ∧ p ≠ .none
  | .int a, b, h, p, q, e1, e2 => by
    cases b <;> simp [D.alk] at h
    simp [D.py] at e1 e2
    subst e1; subst e2
    refine ⟨by simp [PySem.W.alike], by simp [PyData.eqv, D.same], ?_, by simp⟩
    rw [PySem.W.dataLt_int]; simp [D.ltb]
  | .str a, b, h, p, q, e1, e2 => by
    cases b <;> simp [D.alk] at h
    simp [D.py] at e1 e2
    subst e1; subst e2
    refine ⟨by simp [PySem.W.alike], by simp [PyData.eqv, D.same], ?_, by simp⟩
    rw [PySem.W.dataLt_str]; simp [D.ltb]
  | .tup a, b, h, p, q, e1, e2 => by
    cases b with
    | tup b =>
      simp only [D.alk] at h
      simp only [D.py] at e1 e2
      cases f1 : D.pys a with
      | none => rw [f1] at e1; simp at e1
      | some ps =>
        cases f2 : D.pys b with
        | none => rw [f2] at e2; simp at e2
        | some qs =>
          rw [f1] at e1; rw [f2] at e2
          simp at e1 e2
          subst e1; subst e2
          obtain ⟨h1, h2, h3⟩ := alks_py h f1 f2
          refine ⟨by simpa [PySem.W.alike] using h1, by simpa [PyData.eqv, D.same] using h2, ?_, by simp⟩
          rw [PySem.W.dataLt_tuple, h3]; simp [D.ltb]
    | _ => simp [D.alk] at h
  | .non, b, h, _, _, _, _ => by cases b <;> simp [D.alk] at h
  | .bl _, b, h, _, _, _, _ => by cases b <;> simp [D.alk] at h
  | .lst _, b, h, _, _, _, _ => by cases b <;> simp [D.alk] at h
  | .dct _, b, h, _, _, _, _ => by cases b <;> simp [D.alk] at h
  | .set _, b, h, _, _, _, _ => by cases b <;> simp [D.alk] at h
  | .dtt _ _, b, h, _, _, _, _ => by cases b <;> simp [D.alk] at h
  | .fn _, b, h, _, _, _, _ => by cases b <;> simp [D.alk] at h
  | .ref _, b, h, _, _, _, _ => by cases b <;> simp [D.alk] at h
  | .scr _, b, h, _, _, _, _ => by cases b <;> simp [D.alk] at h
theorem alks_py : ∀ {a b : List D}, D.alks a b = true → ∀ {p q : List PyData}, D.pys a = some p → D.pys b = some q → PySem.W.alikeAll p q = true ∧ PyData.eqvAll p q = D.sames a b ∧ PyProof.Rows.lexLt PyProof.Rows.itemOrd (PySem.W.keyToksAll p) (PySem.W.keyToksAll q) = D.ltbs a b
  | [], [], h, p, q, e1, e2 => by
    simp [D.pys] at e1 e2
    subst e1; subst e2
    exact ⟨by simp [PySem.W.alikeAll], by simp [PyData.eqvAll, D.sames], by rw [PyProof.Rows.lex_irrefl]; simp [D.ltbs]⟩
  | [], y :: b, h, p, q, e1, e2 => by
    simp [D.pys] at e1
    subst e1
    simp only [D.pys] at e2
    split at e2
    · rename_i q1 f
      obtain ⟨qs, e3, rfl⟩ := Option.map_eq_some_iff.mp e2
      refine ⟨by simp [PySem.W.alikeAll], by simp [PyData.eqvAll, D.sames], ?_⟩
      rw [PySem.W.toks_all_cons]
      simp only [PySem.W.keyToksAll, D.ltbs]
      rw [PyProof.Rows.lex_diff (O := PyProof.Rows.itemOrd) (by simp)]
      rfl
    · cases e2
  | x :: a, [], h, p, q, e1, e2 => by
    simp [D.pys] at e2
    subst e2
    simp only [D.pys] at e1
    split at e1
    · rename_i q1 f
      obtain ⟨qs, e3, rfl⟩ := Option.map_eq_some_iff.mp e1
      refine ⟨by simp [PySem.W.alikeAll], by simp [PyData.eqvAll, D.sames], ?_⟩
      rw [PySem.W.toks_all_cons]
      simp only [PySem.W.keyToksAll, D.ltbs]
      rw [PyProof.Rows.lex_diff (O := PyProof.Rows.itemOrd) (by simp)]
      rfl
    · cases e1
  | x :: a, y :: b, h, p, q, e1, e2 => by
    simp only [D.alks, Bool.and_eq_true] at h
    simp only [D.pys] at e1 e2
    split at e1
    · rename_i p1 f1
      obtain ⟨ps, g1, rfl⟩ := Option.map_eq_some_iff.mp e1
      split at e2
      · rename_i q1 f2
        obtain ⟨qs, g2, rfl⟩ := Option.map_eq_some_iff.mp e2
        obtain ⟨a1, a2, a3, _⟩ := alk_py h.1 f1 f2
        obtain ⟨b1, b2, b3⟩ := alks_py h.2 g1 g2
        refine ⟨by simp [PySem.W.alikeAll, a1, b1], by simp [PyData.eqvAll, D.sames, a2, b2], ?_⟩
        rw [PySem.W.dataLt_cons a1, b3, a3, a2]
        simp [D.ltbs]
      · cases e2
    · cases e1
end

/-! ### sorting -/
def insD (x : D) : List D → List D
  | [] => [x]
  | y :: ys => if D.ltb y x = true then y :: insD x ys else x :: y :: ys
def sortD : List D → List D
  | [] => []
  | x :: xs => insD x (sortD xs)
/-- each once -/
def insU (x : D) : List D → List D
  | [] => [x]
  | y :: ys => if D.same x y = true then y :: ys else if D.ltb y x = true then y :: insU x ys else x :: y :: ys
def usortD : List D → List D
  | [] => []
  | x :: xs => insU x (usortD xs)
/-- the order of all, by signs -/
def tkD (a : D) : List (Int ⊕ List Nat) := PySem.W.keyToks ((a.py).getD .none)
def leT (a b : D) : Bool := !PyProof.Rows.lexLt PyProof.Rows.itemOrd (tkD b) (tkD a)
theorem leT_total (a b : D) : leT a b = true ∨ leT b a = true := by
  unfold leT
  cases h : PyProof.Rows.lexLt PyProof.Rows.itemOrd (tkD b) (tkD a) with
  | false => simp
  | true =>
    cases h' : PyProof.Rows.lexLt PyProof.Rows.itemOrd (tkD a) (tkD b) with
    | false => simp
    | true =>
      have := PyProof.Rows.lex_trans _ _ _ h h'
      rw [PyProof.Rows.lex_irrefl] at this
      cases this
theorem leT_trans {a b c : D} (h : leT a b = true) (h' : leT b c = true) : leT a c = true := by
  unfold leT at *
  simp only [Bool.not_eq_true'] at *
  cases q : PyProof.Rows.lexLt PyProof.Rows.itemOrd (tkD c) (tkD a) with
  | false => rfl
  | true =>
    cases h1 : PyProof.Rows.lexLt PyProof.Rows.itemOrd (tkD a) (tkD b) with
    | true =>
      have := PyProof.Rows.lex_trans _ _ _ q h1
      rw [h'] at this; cases this
    | false =>
      have e := PyProof.Rows.lex_total _ _ h h1
      rw [e, q] at h'; cases h'
/-- data that == tells -/
def Pyd (a : D) : Prop := ∃ p, a.py = some p
theorem ltb_leT {a b : D} (h : D.alk a b = true) (ha : Pyd a) (hb : Pyd b) : D.ltb a b = !leT b a := by
  obtain ⟨p, e1⟩ := ha
  obtain ⟨q, e2⟩ := hb
  have := (alk_py h e1 e2).2.2.1
  unfold leT tkD
  rw [e1, e2, ← this]
  simp [PySem.W.dataLt]
theorem alk_comm : ∀ {a b : D}, D.alk a b = true → D.alk b a = true := by
  have key : ∀ n : Nat, (∀ a b : D, sizeOf a ≤ n → D.alk a b = true → D.alk b a = true) ∧ (∀ a b : List D, sizeOf a ≤ n → D.alks a b = true → D.alks b a = true) := by
    intro n
    induction n with
    | zero => exact ⟨fun a b h => by cases a <;> simp at h, fun a b h => by cases a <;> simp at h⟩
    | succ n ih =>
      refine ⟨fun a b h k => ?_, fun a b h k => ?_⟩
      · cases a with
        | tup a => cases b with
          | tup b =>
            simp only [D.alk] at k ⊢
            exact ih.2 a b (by simp at h; omega) k
          | _ => simp [D.alk] at k
        | _ => cases b <;> first | (simp [D.alk] at k; done) | rfl
      · cases a with
        | nil => cases b <;> simp [D.alks]
        | cons x a => cases b with
          | nil => simp [D.alks]
          | cons y b =>
            simp only [D.alks, Bool.and_eq_true] at k ⊢
            simp at h
            exact ⟨ih.1 x y (by omega) k.1, ih.2 a b (by omega) k.2⟩
  exact fun {a b} h => (key _).1 a b (Nat.le_refl _) h
theorem leT_anti {a b : D} (h : D.alk a b = true) (ha : Pyd a) (hb : Pyd b) (h1 : leT a b = true) (h2 : leT b a = true) : a = b := by
  obtain ⟨p, e1⟩ := ha
  obtain ⟨q, e2⟩ := hb
  obtain ⟨k1, k2, k3, _⟩ := alk_py h e1 e2
  unfold leT tkD at h1 h2
  rw [e1, e2] at h1 h2
  simp only [Option.getD_some, Bool.not_eq_true'] at h1 h2
  have e := PyProof.Rows.lex_total _ _ h2 h1
  cases c : D.same a b with
  | true => exact D.same_ok c
  | false =>
    rw [c] at k2
    have z := (PySem.W.toks_eqv p q k1).2 k2 [.inl 0] [.inl 1]
    rw [e, PyProof.Rows.lex_irrefl, PySem.W.lex_pre] at z
    rw [PyProof.Rows.lex_diff (O := PyProof.Rows.itemOrd) (by simp)] at z
    exact absurd z (by decide)
theorem same_self {a b : D} (h : D.alk a b = true) (ha : Pyd a) (hb : Pyd b) : D.same a b = true ↔ a = b := by
  refine ⟨D.same_ok, fun e => ?_⟩
  subst e
  obtain ⟨p, e1⟩ := ha
  obtain ⟨k1, k2, k3, _⟩ := alk_py h e1 e1
  rw [← k2]
  exact PySem.W.eqv_refl_alike p k1
/-- all can be set beside one another -/
structure Ord (l : List D) : Prop where
  alk : ∀ a ∈ l, ∀ b ∈ l, D.alk a b = true
  py : ∀ a ∈ l, Pyd a
theorem Ord.tail {x : D} {l : List D} (h : Ord (x :: l)) : Ord l := ⟨fun a ha b hb => h.alk a (.tail _ ha) b (.tail _ hb), fun a ha => h.py a (.tail _ ha)⟩
theorem Ord.drop2 {x y : D} {l : List D} (h : Ord (x :: y :: l)) : Ord (x :: l) := by
  have m : ∀ a, a ∈ x :: l → a ∈ x :: y :: l := fun a ha => by
    rcases List.mem_cons.mp ha with rfl | ha
    · simp
    · simp [ha]
  exact ⟨fun a ha b hb => h.alk a (m a ha) b (m b hb), fun a ha => h.py a (m a ha)⟩
theorem insD_perm (x : D) : ∀ l : List D, (insD x l).Perm (x :: l)
  | [] => .refl _
  | y :: ys => by
    unfold insD
    split
    · exact ((insD_perm x ys).cons y).trans (.swap x y ys)
    · exact .refl _
theorem sortD_perm : ∀ l : List D, (sortD l).Perm l
  | [] => .refl _
  | x :: xs => (insD_perm x _).trans ((sortD_perm xs).cons x)
theorem insD_pw {x : D} : ∀ {l : List D}, Ord (x :: l) → l.Pairwise (fun a b => leT a b = true) → (insD x l).Pairwise (fun a b => leT a b = true)
  | [], _, _ => by simp [insD]
  | y :: ys, o, h => by
    obtain ⟨h1, h2⟩ := List.pairwise_cons.mp h
    have e : D.ltb y x = !leT x y := ltb_leT (o.alk y (by simp) x (by simp)) (o.py y (by simp)) (o.py x (by simp))
    unfold insD
    split
    · rename_i c
      have hxy : leT y x = true := by
        rw [e, Bool.not_eq_true'] at c
        rcases leT_total x y with q | q
        · rw [q] at c; cases c
        · exact q
      refine List.pairwise_cons.mpr ⟨fun z hz => ?_, insD_pw o.drop2 h2⟩
      · rcases List.mem_cons.mp ((insD_perm x ys).mem_iff.mp hz) with rfl | hz
        · exact hxy
        · exact h1 z hz
    · rename_i c
      have hxy : leT x y = true := by
        rw [e] at c
        simpa using c
      refine List.pairwise_cons.mpr ⟨fun z hz => ?_, h⟩
      rcases List.mem_cons.mp hz with rfl | hz
      · exact hxy
      · exact leT_trans hxy (h1 z hz)
theorem sortD_pw : ∀ {l : List D}, Ord l → (sortD l).Pairwise (fun a b => leT a b = true)
  | [], _ => .nil
  | x :: xs, o => by
    have m : ∀ a, a ∈ x :: sortD xs → a ∈ x :: xs := fun a ha => by
      rcases List.mem_cons.mp ha with rfl | ha
      · simp
      · exact .tail _ ((sortD_perm xs).mem_iff.mp ha)
    exact insD_pw ⟨fun a ha b hb => o.alk a (m a ha) b (m b hb), fun a ha => o.py a (m a ha)⟩ (sortD_pw o.tail)
/-- there is one such list -/
theorem pw_one : ∀ {m n : List D}, Ord m → m.Perm n → m.Pairwise (fun a b => leT a b = true) → n.Pairwise (fun a b => leT a b = true) → m = n
  | [], n, _, p, _, _ => (List.Perm.eq_nil p.symm).symm
  | x :: m, [], _, p, _, _ => absurd p.length_eq (by simp)
  | x :: m, y :: n, o, p, hm, hn => by
    obtain ⟨m1, m2⟩ := List.pairwise_cons.mp hm
    obtain ⟨n1, n2⟩ := List.pairwise_cons.mp hn
    have hy : y ∈ x :: m := p.mem_iff.mpr (by simp)
    have e : x = y := by
      rcases List.mem_cons.mp hy with e | hy'
      · exact e.symm
      · rcases List.mem_cons.mp (p.mem_iff.mp (List.mem_cons_self (a := x) (l := m))) with e | hx
        · exact e
        · exact leT_anti (o.alk x (by simp) y hy) (o.py x (by simp)) (o.py y hy) (m1 y hy') (n1 x hx)
    subst e
    rw [pw_one o.tail p.cons_inv m2 n2]
/-! each once -/
theorem insU_mem {x z : D} : ∀ {l : List D}, Ord (x :: l) → (z ∈ insU x l ↔ z = x ∨ z ∈ l)
  | [], _ => by simp [insU]
  | y :: ys, o => by
    have o' : Ord (x :: ys) := o.drop2
    unfold insU
    split
    · rename_i c
      have e := D.same_ok c
      subst e
      simp
    · split
      · rw [List.mem_cons, insU_mem o', List.mem_cons]
        constructor
        · rintro (h | h | h)
          · exact .inr (.inl h)
          · exact .inl h
          · exact .inr (.inr h)
        · rintro (h | h | h)
          · exact .inr (.inl h)
          · exact .inl h
          · exact .inr (.inr h)
      · simp
theorem usortD_mem {z : D} : ∀ {l : List D}, Ord l → (z ∈ usortD l ↔ z ∈ l)
  | [], _ => by simp [usortD]
  | x :: xs, o => by
    have m : ∀ a, a ∈ x :: usortD xs → a ∈ x :: xs := fun a ha => by
      rcases List.mem_cons.mp ha with rfl | ha
      · simp
      · exact .tail _ ((usortD_mem o.tail).mp ha)
    rw [usortD, insU_mem ⟨fun a ha b hb => o.alk a (m a ha) b (m b hb), fun a ha => o.py a (m a ha)⟩, usortD_mem o.tail, List.mem_cons]
/-- less, by signs -/
def ltT (a b : D) : Prop := leT b a = false
theorem ltT_le {a b : D} (h : ltT a b) : leT a b = true := by
  rcases leT_total a b with q | q
  · exact q
  · unfold ltT at h; rw [q] at h; cases h
theorem ltT_trans {a b c : D} (h : ltT a b) (h' : leT b c = true) : ltT a c := by
  unfold ltT at *
  cases q : leT c a with
  | false => rfl
  | true => rw [leT_trans h' q] at h; cases h
theorem ltT_irr (a : D) : ¬ ltT a a := fun h => by
  unfold ltT at h
  rcases leT_total a a with q | q <;> (rw [q] at h; cases h)
theorem insU_pw {x : D} : ∀ {l : List D}, Ord (x :: l) → l.Pairwise ltT → (insU x l).Pairwise ltT
  | [], _, _ => by simp [insU]
  | y :: ys, o, h => by
    have o' : Ord (x :: ys) := o.drop2
    obtain ⟨h1, h2⟩ := List.pairwise_cons.mp h
    have e : D.ltb y x = !leT x y := ltb_leT (o.alk y (by simp) x (by simp)) (o.py y (by simp)) (o.py x (by simp))
    unfold insU
    split
    · exact h
    · rename_i ne
      split
      · rename_i c
        have hyx : ltT y x := by
          rw [e, Bool.not_eq_true'] at c
          exact c
        refine List.pairwise_cons.mpr ⟨fun z hz => ?_, insU_pw o' h2⟩
        rcases (insU_mem o').mp hz with rfl | hz
        · exact hyx
        · exact h1 z hz
      · rename_i c
        have hxy : leT x y = true := by
          rw [e] at c
          simpa using c
        have lt : ltT x y := by
          unfold ltT
          cases q : leT y x with
          | false => rfl
          | true =>
            have := leT_anti (o.alk x (by simp) y (by simp)) (o.py x (by simp)) (o.py y (by simp)) hxy q
            subst this
            exact absurd ((same_self (o.alk x (by simp) x (by simp)) (o.py x (by simp)) (o.py x (by simp))).mpr rfl) ne
        refine List.pairwise_cons.mpr ⟨fun z hz => ?_, h⟩
        rcases List.mem_cons.mp hz with rfl | hz
        · exact lt
        · exact ltT_trans lt (ltT_le (h1 z hz))
theorem usortD_pw : ∀ {l : List D}, Ord l → (usortD l).Pairwise ltT
  | [], _ => .nil
  | x :: xs, o => by
    have m : ∀ a, a ∈ x :: usortD xs → a ∈ x :: xs := fun a ha => by
      rcases List.mem_cons.mp ha with rfl | ha
      · simp
      · exact .tail _ ((usortD_mem o.tail).mp ha)
    exact insU_pw ⟨fun a ha b hb => o.alk a (m a ha) b (m b hb), fun a ha => o.py a (m a ha)⟩ (usortD_pw o.tail)
theorem ltT_one : ∀ {m n : List D}, m.Pairwise ltT → n.Pairwise ltT → (∀ z, z ∈ m ↔ z ∈ n) → m = n
  | [], [], _, _, _ => rfl
  | [], y :: n, _, _, h => absurd ((h y).mpr (by simp)) (by simp)
  | x :: m, [], _, _, h => absurd ((h x).mp (by simp)) (by simp)
  | x :: m, y :: n, hm, hn, h => by
    obtain ⟨m1, m2⟩ := List.pairwise_cons.mp hm
    obtain ⟨n1, n2⟩ := List.pairwise_cons.mp hn
    have e : x = y := by
      rcases List.mem_cons.mp ((h x).mp (by simp)) with e | hx
      · exact e
      · rcases List.mem_cons.mp ((h y).mpr (by simp)) with e | hy
        · exact e.symm
        · exact absurd (ltT_trans (m1 y hy) (ltT_le (n1 x hx))) (ltT_irr x)
    subst e
    congr 1
    refine ltT_one m2 n2 fun z => ⟨fun hz => ?_, fun hz => ?_⟩
    · rcases List.mem_cons.mp ((h z).mp (by simp [hz])) with e | hz'
      · subst e; exact absurd (m1 z hz) (ltT_irr z)
      · exact hz'
    · rcases List.mem_cons.mp ((h z).mpr (by simp [hz])) with e | hz'
      · subst e; exact absurd (n1 z hz) (ltT_irr z)
      · exact hz'
/-- a sorted list of which none is twice -/
theorem ltT_of {m : List D} (o : Ord m) (h : m.Pairwise (fun a b => leT a b = true)) (nd : m.Nodup) : m.Pairwise ltT := by
  refine List.Pairwise.imp_of_mem (fun {a b} ha hb h => ?_) (h.and nd)
  unfold ltT
  cases q : leT b a with
  | false => rfl
  | true => exact absurd (leT_anti (o.alk a ha b hb) (o.py a ha) (o.py b hb) h.1 q) h.2
/-! ### depth -/
mutual
def D.depth : D → Nat
  | .tup a => D.depths a + 1
  | .lst a => D.depths a + 1
  | _ => 0
def D.depths : List D → Nat
  | [] => 0
  | a :: as => max (D.depth a) (D.depths as)
end
mutual
theorem depth_py : ∀ {a : D} {p : PyData}, a.py = some p → p.depth = D.depth a
  | .non, p, h => by simp [D.py] at h; subst h; simp [PyData.depth, D.depth]
  | .bl _, p, h => by simp [D.py] at h; subst h; simp [PyData.depth, D.depth]
  | .int _, p, h => by simp [D.py] at h; subst h; simp [PyData.depth, D.depth]
  | .str _, p, h => by simp [D.py] at h; subst h; simp [PyData.depth, D.depth]
  | .tup a, p, h => by
    simp only [D.py] at h
    obtain ⟨ps, e, rfl⟩ := Option.map_eq_some_iff.mp h
    simp [PyData.depth, D.depth, depths_py e]
  | .lst a, p, h => by
    simp only [D.py] at h
    obtain ⟨ps, e, rfl⟩ := Option.map_eq_some_iff.mp h
    simp [PyData.depth, D.depth, depths_py e]
  | .dct _, p, h => by simp [D.py] at h
  | .dtt _ _, p, h => by simp [D.py] at h
  | .fn _, p, h => by simp [D.py] at h
  | .ref _, p, h => by simp [D.py] at h
  | .scr _, p, h => by simp [D.py] at h
theorem depths_py : ∀ {a : List D} {p : List PyData}, D.pys a = some p → PyData.depthAll p = D.depths a
  | [], p, h => by simp [D.pys] at h; subst h; simp [PyData.depthAll, D.depths]
  | x :: a, p, h => by
    simp only [D.pys] at h
    split at h
    · rename_i p1 f1
      obtain ⟨ps, g1, rfl⟩ := Option.map_eq_some_iff.mp h
      simp [PyData.depthAll, D.depths, depth_py f1, depths_py g1]
    · cases h
end
theorem depth_mem : ∀ {l : List D} {x : D}, x ∈ l → D.depth x ≤ D.depths l
  | y :: l, x, h => by
    simp only [D.depths]
    rcases List.mem_cons.mp h with rfl | h
    · omega
    · have := depth_mem h; omega
theorem depth_le {l : List D} {x : D} (h : x ∈ l) : ((x.py).getD .none).depth ≤ D.depths l := by
  cases e : x.py with
  | none => simp [PyData.depth]
  | some p => simp only [Option.getD_some]; rw [depth_py e]; exact depth_mem h
end PL

/-! PL2: operations by data, and that the layer's operations keep them. -/
namespace PL
open PySem PySem.Spec PyProof.Rows L2

abbrev mdOf (X : Cx) : Md := ⟨X.K, X.mg, X.prog, X.w⟩

/-! ### looks at data -/
def asL (W : Wd) : D → Option (List D)
  | .lst xs => some xs
  | .ref i => W[i]?
  | _ => none
def asQ (W : Wd) : D → Option (List D)
  | .tup xs => some xs
  | .lst xs => some xs
  | .ref i => W[i]?
  | _ => none
def pyW (W : Wd) : D → Option PyData
  | .ref i => match W[i]? with
    | some xs => (D.pys xs).map .list
    | none => none
  | d => d.py
section
variable {M : Md} {m : Ms} {H : Hp} {W : Wd} {v : V} {d : D}
theorem Is.asL (h : Is M m H v d) (hw : WOk M m W H) {ds : List D} (e : asL W d = some ds) : ∃ a xs, v = .ref a ∧ H a = some (.lst xs) ∧ IsAll M m H xs ds := by
  cases h with
  | lst _ h r => cases e; exact ⟨_, _, rfl, h, r⟩
  | ref h =>
    obtain ⟨a, vs, h1, h2, h3⟩ := hw.at_ _ ds e
    rw [h] at h1; cases h1
    exact ⟨_, _, rfl, h2, h3⟩
  | _ => cases e
theorem Is.asT {ds : List D} (h : Is M m H v (.tup ds)) : ∃ a xs, v = .ref a ∧ FzT M.K m H a xs ∧ IsAll M m H xs ds := by
  cases h with
  | tup h r => exact ⟨_, _, rfl, h, r⟩
theorem Is.asQ (h : Is M m H v d) (hw : WOk M m W H) {ds : List D} (e : asQ W d = some ds) : ∃ a xs, v = .ref a ∧ (SqL M.K H a xs ∨ SqT M.K H a xs) ∧ IsAll M m H xs ds := by
  cases h with
  | tup h r => cases e; exact ⟨_, _, rfl, .inr h.seq, r⟩
  | lst _ h r => cases e; exact ⟨_, _, rfl, .inl (SqL.of h), r⟩
  | ref h =>
    obtain ⟨a, vs, h1, h2, h3⟩ := hw.at_ _ ds e
    rw [h] at h1; cases h1
    exact ⟨_, _, rfl, .inl (SqL.of h2), h3⟩
  | _ => cases e
theorem Is.dpW (h : Is M m H v d) (hw : WOk M m W H) {p : PyData} (e : pyW W d = some p) : Dp M.K H v p ∧ p.canLay0 = true := by
  cases h with
  | ref h =>
    simp only [pyW] at e
    rename_i a i
    cases q : W[i]? with
    | none => rw [q] at e; cases e
    | some xs =>
      rw [q] at e
      obtain ⟨a', vs, h1, h2, h3⟩ := hw.at_ _ xs q
      rw [h] at h1; cases h1
      have e' : (D.pys xs).map PyData.list = some p := e
      cases q2 : D.pys xs with
      | none => rw [q2] at e'; cases e'
      | some ps =>
        rw [q2] at e'; cases e'
        obtain ⟨h4, h5⟩ := h3.dp q2
        exact ⟨.lst (SqL.of h2) h4, by simpa [PyData.canLay0] using h5⟩
  | non => exact Is.dp (m := m) .non e
  | bl b => exact Is.dp (m := m) (.bl b) e
  | int i => exact Is.dp (m := m) (.int i) e
  | str x h => exact Is.dp (m := m) (.str x h) e
  | tup h r => exact Is.dp (.tup h r) e
  | lst n h r => exact Is.dp (.lst n h r) e
  | dct a b c => exact Is.dp (.dct a b c) e
  | set a b c d => exact Is.dp (.set a b c d) e
  | dtt a b c d f g => exact Is.dp (.dtt a b c d f g) e
  | fn h => exact Is.dp (m := m) (.fn h) e
  | scr h => exact Is.dp (.scr h) e
theorem Is.cutT {n : Nat} {xs : List V} {ds : List D} (h : IsAll M m H xs ds) (lo hi : Option Int) : IsAll M m H (cutV xs lo hi) ((ds.drop (HT.sIx ds.length 0 lo)).take (HT.sIx ds.length ds.length hi - HT.sIx ds.length 0 lo)) := by
  unfold cutV
  rw [h.length]
  exact (h.drop _).take _
end

/-! ### operations of two values -/
def rD (M : Md) (g : Wd → D → D → Option D) : R2 := fun x y H Q => ∃ m W a b d, WOk M m W H ∧ Is M m H x a ∧ Is M m H y b ∧ g W a b = some d ∧ ∀ v H', Same H H' → Is M m H' v d → Q v H'

def dAdd (W : Wd) : D → D → Option D
  | .int i, .int j => some (.int (i + j))
  | .str x, .str y => if x.length + y.length ≤ 16777216 then some (.str (x ++ y)) else none
  | .tup xs, .tup ys => if xs.length + ys.length ≤ 16777216 then some (.tup (xs ++ ys)) else none
  | a, b => match asL W a, asL W b with
    | some xs, some ys => if xs.length + ys.length ≤ 16777216 then some (.lst (xs ++ ys)) else none
    | _, _ => none
def dSub (W : Wd) : D → D → Option D
  | .int i, .int j => some (.int (i - j))
  | _, _ => none
def dMul (W : Wd) : D → D → Option D
  | .int i, .int j => if i.natAbs < 2 ^ 64 ∨ j.natAbs < 2 ^ 64 then some (.int (i * j)) else none
  | .tup xs, .int k => if -1000 ≤ k ∧ k ≤ 1000 ∧ xs.length ≤ 1000 then some (.tup (List.replicate k.toNat xs).flatten) else none
  | .lst xs, .int k => if k ≤ 16777216 ∧ -16777216 ≤ k ∧ xs.length * k.toNat ≤ 16777216 then some (.lst (List.replicate k.toNat xs).flatten) else none
  | _, _ => none
def dDiv (W : Wd) : D → D → Option D
  | .int i, .int j => if 0 < j ∧ j < 1073741824 then some (.int (i / j)) else none
  | _, _ => none
def dMod (W : Wd) : D → D → Option D
  | .int i, .int j => if 0 < j then some (.int (i % j)) else none
  | _, _ => none
def dPow (W : Wd) : D → D → Option D
  | .int i, .int j => if 0 ≤ j ∧ j ≤ 1000000 ∧ i.natAbs < 2 ^ 64 then some (.int (i ^ j.toNat)) else none
  | _, _ => none

theorem strOk_app {x y : Str} (h : PyData.strOk x = true) (h' : PyData.strOk y = true) : PyData.strOk (x ++ y) = true := by
  unfold PyData.strOk at *
  have e : (x ++ y).cps.toList = x.cps.toList ++ y.cps.toList := TL.tl_append x y
  rw [← Array.all_toList] at *
  rw [e, List.all_append, h, h']
  rfl
section
variable {X : Cx}
theorem opd_add : OpR X (binaryOp .Add) (rD (mdOf X) dAdd) := by
  intro pins s σ H x y v u Q I rx ry ⟨m, W, a, b, d, hw, ha, hb, hg, k⟩
  unfold dAdd at hg
  split at hg
  · cases ha; cases hb; cases hg
    exact op_add pins s σ H _ _ v u Q I rx ry ⟨_, _, rfl, rfl, k _ _ (Same.refl H) (.int _)⟩
  · split at hg
    · cases hg
      rename_i hl
      cases ha with
      | str _ h1 => cases hb with
        | str _ h2 => exact op_add_str pins s σ H _ _ v u Q I rx ry ⟨_, _, rfl, rfl, by rw [sizeLine_eq]; exact hl, k _ _ (Same.refl H) (.str _ (strOk_app h1 h2))⟩
    · cases hg
  · split at hg
    · cases hg
      rename_i xs ys hl
      obtain ⟨a1, vs, rfl, h1, r1⟩ := ha.asT
      obtain ⟨a2, ws, rfl, h2, r2⟩ := hb.asT
      have e1 := r1.length
      have e2 := r2.length
      refine op_catA pins s σ H _ _ v u Q I rx ry ⟨_, _, _, _, rfl, rfl, h1.seq, h2.seq, by rw [e1, e2, sizeLine_eq]; exact hl, fun z => ?_, fun _ z => ?_, fun _ _ p hp => ?_⟩
      · subst z
        cases r1
        exact k _ _ (Same.refl H) (.tup h2 r2)
      · subst z
        cases r2
        rw [List.append_nil] at k
        exact k _ _ (Same.refl H) (.tup h1 r1)
      · exact k _ _ (same_upd hp) (hw.newT hp (r1.append r2))
    · cases hg
  · split at hg
    · rename_i xs ys q1 q2
      split at hg
      · cases hg
        rename_i hl
        obtain ⟨a1, vs, rfl, h1, r1⟩ := ha.asL hw q1
        obtain ⟨a2, ws, rfl, h2, r2⟩ := hb.asL hw q2
        have e1 := r1.length
        have e2 := r2.length
        exact op_cat pins s σ H _ _ v u Q I rx ry ⟨_, _, _, _, rfl, rfl, h1, h2, by rw [e1, e2, sizeLine_eq]; exact hl, fun p hp => k _ _ (same_upd hp) (hw.newL hp (r1.append r2))⟩
      · cases hg
    · cases hg
theorem opd_sub : OpR X (binaryOp .Sub) (rD (mdOf X) dSub) := by
  intro pins s σ H x y v u Q I rx ry ⟨m, W, a, b, d, hw, ha, hb, hg, k⟩
  unfold dSub at hg
  split at hg
  · cases ha; cases hb; cases hg
    exact op_sub pins s σ H _ _ v u Q I rx ry ⟨_, _, rfl, rfl, k _ _ (Same.refl H) (.int _)⟩
  · cases hg
theorem abs_lt {i : Int} {n : Nat} (h : i.natAbs < n) : -(n : Int) < i ∧ i < n := by omega
theorem opd_mul : OpR X (binaryOp .Mult) (rD (mdOf X) dMul) := by
  intro pins s σ H x y v u Q I rx ry ⟨m, W, a, b, d, hw, ha, hb, hg, k⟩
  unfold dMul at hg
  split at hg
  · split at hg
    · rename_i i j hl
      cases ha; cases hb; cases hg
      refine op_mul pins s σ H _ _ v u Q I rx ry ⟨_, _, rfl, rfl, ?_, k _ _ (Same.refl H) (.int _)⟩
      rcases hl with hl | hl
      · exact .inl (abs_lt hl)
      · exact .inr (abs_lt hl)
    · cases hg
  · split at hg
    · rename_i xs j hl
      obtain ⟨a1, vs, rfl, h1, r1⟩ := ha.asT
      cases hb; cases hg
      have e1 := r1.length
      by_cases hone : vs = [] ∨ j = 1
      · have er : (List.replicate j.toNat xs).flatten = xs := by
          rcases hone with e | e
          · subst e; cases r1; simp
          · subst e; simp
        rw [er] at k
        exact TM.op_rep1 pins s σ H _ _ v u Q I rx ry ⟨_, _, _, rfl, rfl, h1.seq, hl.1, hl.2.1, .inl ⟨hone, k _ _ (Same.refl H) (.tup h1 r1)⟩⟩
      · obtain ⟨o1, o2⟩ := not_or.mp hone
        by_cases h0 : j ≤ 0
        · have er : (List.replicate j.toNat xs).flatten = [] := by
            have : j.toNat = 0 := by omega
            rw [this]; rfl
          rw [er] at k
          exact TM.op_rep1 pins s σ H _ _ v u Q I rx ry ⟨_, _, _, rfl, rfl, h1.seq, hl.1, hl.2.1, .inr ⟨o1, h0, fun p hp => k _ _ (same_upd hp) (hw.newT hp .nil)⟩⟩
        · exact op_repT pins s σ H _ _ v u Q I rx ry ⟨_, _, _, rfl, rfl, h1.seq, o1, by omega, hl.2.1, by rw [e1]; exact hl.2.2, fun p hp => k _ _ (same_upd hp) (hw.newT hp (r1.rep _))⟩
    · cases hg
  · split at hg
    · rename_i xs j hl
      cases ha with
      | lst hn h r1 =>
        cases hb; cases hg
        have e1 := r1.length
        exact op_rep pins s σ H _ _ v u Q I rx ry ⟨_, _, _, rfl, rfl, h, by have := hl.2.1; omega, by have := hl.1; omega, by rw [e1, sizeLine_eq]; exact hl.2.2, fun p hp => k _ _ (same_upd hp) (hw.newL hp (r1.rep _))⟩
    · cases hg
  · cases hg
end
end PL

/-! PL3: further operations: division, comparisons, membership. -/
namespace PL
open PySem PySem.Spec PyProof.Rows L2

def dEq (W : Wd) (a b : D) : Option Bool := match pyW W a, pyW W b with
  | some p, some q => if min p.depth q.depth ≤ 100 then some (PyData.eqv p q) else none
  | _, _ => none
def strIn (x y : Str) : Bool := !(Builtin.Str.occurrences y x 0 y.length 1).isEmpty
/-- a key's datum -/
def asKey : D → Option Key
  | .int i => some (.inl i)
  | .str x => some (.inr x)
  | _ => none
def keyGet (kvs : List (Key × D)) (k : Key) : Option D := (kvs.find? fun kv => decide (kv.1 = k)).map (·.2)
def keyPut (kvs : List (Key × D)) (k : Key) (v : D) : List (Key × D) :=
  if (kvs.any fun kv => decide (kv.1 = k)) = true then kvs.map (fun kv => if kv.1 = k then (kv.1, v) else kv) else kvs ++ [(k, v)]
def nums : List D → Option (List Int)
  | [] => some []
  | .int i :: r => (nums r).map (i :: ·)
  | _ => none
def dIn (W : Wd) (a b : D) : Option Bool := match b with
  | .str y => match a with
    | .str x => some (strIn x y)
    | _ => none
  | .dct kvs => match asKey a with
    | some k => some (keyGet kvs k).isSome
    | none => match a with
      | .tup xs => if kvs.isEmpty = true ∧ (nums xs).isSome = true then some false else none
      | _ => none
  | .dtt ks _ => match a with
    | .tup xs => (nums xs).map fun k => decide (k ∈ ks)
    | _ => none
  | b => match asQ W b with
    | some ds => match D.pys ds, pyW W a with
      | some ps, some p => if min (PyData.depthAll ps) p.depth ≤ 100 then some (ps.any fun y => PyData.eqv y p) else none
      | _, _ => none
    | none => none
/-- tuples that can be set beside one another -/
def cmpT (xs ys : List D) : Bool := D.alks xs ys && (D.pys xs).isSome && (D.pys ys).isSome && decide (D.depths xs < 100)
def dLt (W : Wd) : D → D → Option Bool
  | .int i, .int j => some (decide (i < j))
  | .str x, .str y => some (decide (x.cps.toList < y.cps.toList))
  | .tup xs, .tup ys => if cmpT xs ys = true then some (D.ltbs xs ys) else none
  | _, _ => none
def dLe (W : Wd) : D → D → Option Bool
  | .int i, .int j => some (decide (i ≤ j))
  | .tup xs, .tup ys => if cmpT xs ys = true then some (!D.ltbs ys xs) else none
  | _, _ => none
def dGt (W : Wd) : D → D → Option Bool
  | .int i, .int j => some (decide (j < i))
  | .tup xs, .tup ys => if cmpT xs ys = true then some (D.ltbs ys xs) else none
  | _, _ => none
def dGe (W : Wd) : D → D → Option Bool
  | .int i, .int j => some (decide (j ≤ i))
  | .tup xs, .tup ys => if cmpT xs ys = true then some (!D.ltbs xs ys) else none
  | _, _ => none
def dIs (W : Wd) : D → D → Option Bool
  | .non, .non => some true
  | .bl a, .bl b => some (decide (a = b))
  | _, .non => some false
  | _, _ => none
def oB (f : Wd → D → D → Option Bool) (W : Wd) (a b : D) : Option D := (f W a b).map .bl
def oNB (f : Wd → D → D → Option Bool) (W : Wd) (a b : D) : Option D := (f W a b).map fun c => .bl !c

theorem some_map {α β : Type} {o : Option α} {f : α → β} {d : β} (h : o.map f = some d) : ∃ c, o = some c ∧ d = f c := by
  cases o with
  | none => cases h
  | some c => exact ⟨c, rfl, (Option.some.inj h).symm⟩
section
variable {M : Md} {m : Ms} {H : Hp}
theorem IsAll.intsOf : ∀ {ds : List D} {bs : List Int} {vs : List V}, IsAll M m H vs ds → nums ds = some bs → vs = bs.map V.int
  | [], _, _, h, e => by cases h; cases e; rfl
  | d :: ds, bs, _, h, e => by
    cases h with
    | cons a b =>
      cases d with
      | int c =>
        obtain ⟨r, e1, rfl⟩ := some_map (show (PL.nums ds).map (c :: ·) = some bs from e)
        cases a
        rw [IsAll.intsOf b e1]
        rfl
      | _ => cases e
theorem Is.key {v : V} {d : D} {k : Key} (h : Is M m H v d) (e : asKey d = some k) : v = kV k := by
  cases h <;> first | cases e; rfl | cases e
theorem IsKvs.get {k : Key} : ∀ {vs : List (Key × V)} {ds : List (Key × D)}, IsKvs M m H vs ds → (∃ v d, valV vs k = some v ∧ keyGet ds k = some d ∧ Is M m H v d) ∨ (valV vs k = none ∧ keyGet ds k = none)
  | _, _, .nil => .inr ⟨rfl, rfl⟩
  | _, _, .cons (k := k') a b => by
    by_cases e : k' = k
    · left
      refine ⟨_, _, ?_, ?_, a⟩
      · unfold valV; simp [List.find?_cons, e]
      · unfold keyGet; simp [List.find?_cons, e]
    · have h1 : ∀ {α : Type} (x : α) (l : List (Key × α)), List.find? (fun kv => decide (kv.1 = k)) ((k', x) :: l) = List.find? (fun kv => decide (kv.1 = k)) l := fun x l => by simp [List.find?_cons, e]
      unfold valV keyGet
      rw [h1, h1]
      exact IsKvs.get (k := k) b
theorem Is.asK {v : V} {kvs : List (Key × D)} (h : Is M m H v (.dct kvs)) : ∃ a o ks, v = .ref a ∧ H a = some (.frz o (.dK ks)) ∧ IsKvs M m H ks kvs := by
  cases h with
  | dct h1 h2 h3 => exact ⟨_, _, _, rfl, h2, h3⟩
/-- a tuple of ints, as a key -/
theorem Is.rowOf {v : V} {xs : List D} {k : List Int} (h : Is M m H v (.tup xs)) (e : nums xs = some k) : ∃ b, v = .ref b ∧ SqT M.K H b (k.map V.int) := by
  cases h with
  | tup h1 r =>
    have := r.intsOf e
    subst this
    exact ⟨_, rfl, h1.seq⟩
theorem tup_pys {xs ys : List D} (h : cmpT xs ys = true) : ∃ p q, (D.tup xs).py = some p ∧ (D.tup ys).py = some q ∧ D.alk (.tup xs) (.tup ys) = true ∧ p.depth ≤ 101 := by
  simp only [cmpT, Bool.and_eq_true, decide_eq_true_eq] at h
  obtain ⟨⟨⟨h1, h2⟩, h3⟩, h4⟩ := h
  obtain ⟨ps, e1⟩ := Option.isSome_iff_exists.mp h2
  obtain ⟨qs, e2⟩ := Option.isSome_iff_exists.mp h3
  have e : (D.tup xs).py = some (.tuple ps) := by simp [D.py, e1]
  refine ⟨.tuple ps, .tuple qs, e, by simp [D.py, e2], by simpa [D.alk] using h1, ?_⟩
  rw [depth_py e]
  simp only [D.depth]
  omega
end

section
variable {X : Cx}
theorem opd_div : OpR X (binaryOp .FloorDiv) (rD (mdOf X) dDiv) := by
  intro pins s σ H x y v u Q I rx ry ⟨m, W, a, b, d, hw, ha, hb, hg, k⟩
  unfold dDiv at hg
  split at hg
  · split at hg
    · rename_i hl
      cases ha; cases hb; cases hg
      exact op_fdiv pins s σ H _ _ v u Q I rx ry ⟨_, _, rfl, rfl, hl, k _ _ (Same.refl H) (.int _)⟩
    · cases hg
  · cases hg
theorem opd_mod : OpR X (binaryOp .Mod) (rD (mdOf X) dMod) := by
  intro pins s σ H x y v u Q I rx ry ⟨m, W, a, b, d, hw, ha, hb, hg, k⟩
  unfold dMod at hg
  split at hg
  · split at hg
    · rename_i hl
      cases ha; cases hb; cases hg
      exact op_mod pins s σ H _ _ v u Q I rx ry ⟨_, _, rfl, rfl, hl, k _ _ (Same.refl H) (.int _)⟩
    · cases hg
  · cases hg
theorem opd_pow : OpR X (binaryOp .Pow) (rD (mdOf X) dPow) := by
  intro pins s σ H x y v u Q I rx ry ⟨m, W, a, b, d, hw, ha, hb, hg, k⟩
  unfold dPow at hg
  split at hg
  · split at hg
    · rename_i hl
      cases ha; cases hb; cases hg
      exact op_pow pins s σ H _ _ v u Q I rx ry ⟨_, _, rfl, rfl, hl, k _ _ (Same.refl H) (.int _)⟩
    · cases hg
  · cases hg
theorem dEq_inv {W : Wd} {a b : D} {c : Bool} (h : dEq W a b = some c) : ∃ p q, pyW W a = some p ∧ pyW W b = some q ∧ min p.depth q.depth ≤ 100 ∧ c = PyData.eqv p q := by
  unfold dEq at h
  split at h
  · rename_i p q e1 e2
    split at h
    · rename_i hd
      exact ⟨p, q, e1, e2, hd, (Option.some.inj h).symm⟩
    · cases h
  · cases h
theorem opd_eq (hu : X.A.units + 200 < cLine) : OpR X (compareOp .Eq) (rD (mdOf X) (oB dEq)) := by
  intro pins s σ H x y v u Q I rx ry ⟨m, W, a, b, d, hw, ha, hb, hg, k⟩
  obtain ⟨c, hc, rfl⟩ := some_map hg
  obtain ⟨p, q, e1, e2, hd, rfl⟩ := dEq_inv hc
  obtain ⟨d1, c1⟩ := ha.dpW hw e1
  obtain ⟨d2, c2⟩ := hb.dpW hw e2
  obtain ⟨as, r1⟩ := Dp.reads I p x v d1 rx
  obtain ⟨bs, r2⟩ := Dp.reads I q y u d2 ry
  exact SeqAt.compareEq_reads r1 r2 c1 c2 (by omega) ⟨.bl _, H, I, rfl, k _ _ (Same.refl H) (.bl _)⟩
theorem opd_ne (hu : X.A.units + 200 < cLine) : OpR X (compareOp .NotEq) (rD (mdOf X) (oNB dEq)) := by
  intro pins s σ H x y v u Q I rx ry ⟨m, W, a, b, d, hw, ha, hb, hg, k⟩
  obtain ⟨c, hc, rfl⟩ := some_map hg
  obtain ⟨p, q, e1, e2, hd, rfl⟩ := dEq_inv hc
  obtain ⟨d1, c1⟩ := ha.dpW hw e1
  obtain ⟨d2, c2⟩ := hb.dpW hw e2
  obtain ⟨as, r1⟩ := Dp.reads I p x v d1 rx
  obtain ⟨bs, r2⟩ := Dp.reads I q y u d2 ry
  exact SeqAt.compareNe_reads r1 r2 c1 c2 (by omega) ⟨.bl _, H, I, rfl, k _ _ (Same.refl H) (.bl _)⟩
theorem opd_lt (hu : X.A.units + 200 < cLine) : OpR X (compareOp .Lt) (rD (mdOf X) (oB dLt)) := by
  intro pins s σ H x y v u Q I rx ry ⟨m, W, a, b, d, hw, ha, hb, hg, k⟩
  obtain ⟨c, hc, rfl⟩ := some_map hg
  unfold dLt at hc
  split at hc
  · cases ha; cases hb; cases hc
    exact op_lt pins s σ H _ _ v u Q I rx ry ⟨_, _, rfl, rfl, k _ _ (Same.refl H) (.bl _)⟩
  · cases ha with
    | str x h1 => cases hb with
      | str y h2 =>
        cases hc
        exact op_lt_str pins s σ H _ _ v u Q I rx ry ⟨_, _, rfl, rfl, k _ _ (Same.refl H) (.bl _)⟩
  · split at hc
    · rename_i hk
      cases hc
      obtain ⟨p, q, e1, e2, hk, hd⟩ := tup_pys hk
      obtain ⟨d1, c1⟩ := ha.dp e1
      obtain ⟨d2, c2⟩ := hb.dp e2
      obtain ⟨as, r1⟩ := Dp.reads I p x v d1 rx
      obtain ⟨bs, r2⟩ := Dp.reads I q y u d2 ry
      obtain ⟨q1, q2, q3, q4⟩ := alk_py hk e1 e2
      obtain ⟨_, _, q5, _⟩ := alk_py (alk_comm hk) e2 e1
      refine PySem.W.lt_data r1 r2 q1 q4 (by omega) ⟨.bl _, H, I, rfl, k _ _ (Same.refl H) ?_⟩
      rw [q3]
      exact .bl _
    · cases hc
  · cases hc
theorem opd_gt (hu : X.A.units + 200 < cLine) : OpR X (compareOp .Gt) (rD (mdOf X) (oB dGt)) := by
  intro pins s σ H x y v u Q I rx ry ⟨m, W, a, b, d, hw, ha, hb, hg, k⟩
  obtain ⟨c, hc, rfl⟩ := some_map hg
  unfold dGt at hc
  split at hc
  · cases ha; cases hb; cases hc
    exact op_gt pins s σ H _ _ v u Q I rx ry ⟨_, _, rfl, rfl, k _ _ (Same.refl H) (.bl _)⟩
  · split at hc
    · rename_i hk
      cases hc
      obtain ⟨p, q, e1, e2, hk, hd⟩ := tup_pys hk
      obtain ⟨d1, c1⟩ := ha.dp e1
      obtain ⟨d2, c2⟩ := hb.dp e2
      obtain ⟨as, r1⟩ := Dp.reads I p x v d1 rx
      obtain ⟨bs, r2⟩ := Dp.reads I q y u d2 ry
      obtain ⟨q1, q2, q3, q4⟩ := alk_py hk e1 e2
      obtain ⟨_, _, q5, _⟩ := alk_py (alk_comm hk) e2 e1
      refine PySem.W.gt_data r1 r2 q1 q4 (by omega) ⟨.bl _, H, I, rfl, k _ _ (Same.refl H) ?_⟩
      rw [q5]
      exact .bl _
    · cases hc
  · cases hc
theorem opd_le (hu : X.A.units + 200 < cLine) : OpR X (compareOp .LtE) (rD (mdOf X) (oB dLe)) := by
  intro pins s σ H x y v u Q I rx ry ⟨m, W, a, b, d, hw, ha, hb, hg, k⟩
  obtain ⟨c, hc, rfl⟩ := some_map hg
  unfold dLe at hc
  split at hc
  · cases ha; cases hb; cases hc
    exact op_le pins s σ H _ _ v u Q I rx ry ⟨_, _, rfl, rfl, k _ _ (Same.refl H) (.bl _)⟩
  · split at hc
    · rename_i hk
      cases hc
      obtain ⟨p, q, e1, e2, hk, hd⟩ := tup_pys hk
      obtain ⟨d1, c1⟩ := ha.dp e1
      obtain ⟨d2, c2⟩ := hb.dp e2
      obtain ⟨as, r1⟩ := Dp.reads I p x v d1 rx
      obtain ⟨bs, r2⟩ := Dp.reads I q y u d2 ry
      obtain ⟨q1, q2, q3, q4⟩ := alk_py hk e1 e2
      obtain ⟨_, _, q5, _⟩ := alk_py (alk_comm hk) e2 e1
      refine PySem.W.le_data r1 r2 q1 q4 (by omega) ⟨.bl _, H, I, rfl, k _ _ (Same.refl H) ?_⟩
      rw [q5]
      exact .bl _
    · cases hc
  · cases hc
theorem opd_ge (hu : X.A.units + 200 < cLine) : OpR X (compareOp .GtE) (rD (mdOf X) (oB dGe)) := by
  intro pins s σ H x y v u Q I rx ry ⟨m, W, a, b, d, hw, ha, hb, hg, k⟩
  obtain ⟨c, hc, rfl⟩ := some_map hg
  unfold dGe at hc
  split at hc
  · cases ha; cases hb; cases hc
    exact op_ge pins s σ H _ _ v u Q I rx ry ⟨_, _, rfl, rfl, k _ _ (Same.refl H) (.bl _)⟩
  · split at hc
    · rename_i hk
      cases hc
      obtain ⟨p, q, e1, e2, hk, hd⟩ := tup_pys hk
      obtain ⟨d1, c1⟩ := ha.dp e1
      obtain ⟨d2, c2⟩ := hb.dp e2
      obtain ⟨as, r1⟩ := Dp.reads I p x v d1 rx
      obtain ⟨bs, r2⟩ := Dp.reads I q y u d2 ry
      obtain ⟨q1, q2, q3, q4⟩ := alk_py hk e1 e2
      obtain ⟨_, _, q5, _⟩ := alk_py (alk_comm hk) e2 e1
      refine PySem.W.ge_data r1 r2 q1 q4 (by omega) ⟨.bl _, H, I, rfl, k _ _ (Same.refl H) ?_⟩
      rw [q3]
      exact .bl _
    · cases hc
  · cases hc
theorem non_of {M : Md} {m : Ms} {H : Hp} {v : V} {d : D} (h : Is M m H v d) : decide (v = .non) = (match d with | .non => true | _ => false) := by
  cases h <;> rfl
theorem opd_is : OpR X (compareOp .Is) (rD (mdOf X) (oB dIs)) := by
  intro pins s σ H x y v u Q I rx ry ⟨m, W, a, b, d, hw, ha, hb, hg, k⟩
  obtain ⟨c, hc, rfl⟩ := some_map hg
  have e := non_of ha
  unfold dIs at hc
  split at hc
  · cases hb; cases hc
    exact op_isN pins s σ H _ _ v u Q I rx ry ⟨rfl, by rw [e]; exact k _ _ (Same.refl H) (.bl _)⟩
  · cases ha; cases hb; cases hc
    exact op_isBl pins s σ H _ _ v u Q I rx ry ⟨_, _, rfl, rfl, k _ _ (Same.refl H) (.bl _)⟩
  · rename_i q
    cases hb; cases hc
    refine op_isN pins s σ H _ _ v u Q I rx ry ⟨rfl, ?_⟩
    have e2 : decide (x = V.non) = false := by
      rw [e]
      split
      · exact (q rfl).elim
      · rfl
    rw [e2]
    exact k _ _ (Same.refl H) (.bl _)
  · cases hc
theorem opd_isnot : OpR X (compareOp .IsNot) (rD (mdOf X) (oNB dIs)) := by
  intro pins s σ H x y v u Q I rx ry ⟨m, W, a, b, d, hw, ha, hb, hg, k⟩
  obtain ⟨c, hc, rfl⟩ := some_map hg
  have e := non_of ha
  unfold dIs at hc
  split at hc
  · cases hb; cases hc
    exact op_notN pins s σ H _ _ v u Q I rx ry ⟨rfl, by rw [e]; exact k _ _ (Same.refl H) (.bl _)⟩
  · cases ha; cases hb; cases hc
    exact op_notBl pins s σ H _ _ v u Q I rx ry ⟨_, _, rfl, rfl, k _ _ (Same.refl H) (.bl _)⟩
  · rename_i q
    cases hb; cases hc
    refine op_notN pins s σ H _ _ v u Q I rx ry ⟨rfl, ?_⟩
    have e2 : decide (x = V.non) = false := by
      rw [e]
      split
      · exact (q rfl).elim
      · rfl
    rw [e2]
    exact k _ _ (Same.refl H) (.bl _)
  · cases hc
theorem dIn_inv {W : Wd} {a b : D} {c : Bool} (h : dIn W a b = some c) : (∃ x y, a = .str x ∧ b = .str y ∧ c = strIn x y) ∨ (∃ kvs kk, b = .dct kvs ∧ asKey a = some kk ∧ c = (keyGet kvs kk).isSome) ∨
    (∃ xs k, b = .dct [] ∧ a = .tup xs ∧ nums xs = some k ∧ c = false) ∨ (∃ ks ds xs k, b = .dtt ks ds ∧ a = .tup xs ∧ nums xs = some k ∧ c = decide (k ∈ ks)) ∨
    ∃ ds ps p, asQ W b = some ds ∧ D.pys ds = some ps ∧ pyW W a = some p ∧ min (PyData.depthAll ps) p.depth ≤ 100 ∧ c = ps.any fun y => PyData.eqv y p := by
  unfold dIn at h
  split at h
  · split at h
    · exact .inl ⟨_, _, rfl, rfl, (Option.some.inj h).symm⟩
    · cases h
  · split at h
    · rename_i kk e1
      exact .inr (.inl ⟨_, kk, rfl, e1, (Option.some.inj h).symm⟩)
    · split at h
      · rename_i kvs _ _ xs _
        split at h
        · rename_i hc
          obtain ⟨h1, h2⟩ := hc
          obtain ⟨k, hk⟩ := Option.isSome_iff_exists.mp h2
          have : kvs = [] := by simpa using h1
          subst this
          exact .inr (.inr (.inl ⟨xs, k, rfl, rfl, hk, (Option.some.inj h).symm⟩))
        · cases h
      · cases h
  · split at h
    · obtain ⟨k, e1, e2⟩ := some_map h
      exact .inr (.inr (.inr (.inl ⟨_, _, _, k, rfl, rfl, e1, e2⟩)))
    · cases h
  · split at h
    · rename_i ds e
      split at h
      · rename_i ps p e1 e2
        split at h
        · rename_i hd
          exact .inr (.inr (.inr (.inr ⟨ds, ps, p, e, e1, e2, hd, (Option.some.inj h).symm⟩)))
        · cases h
      · cases h
    · cases h
theorem atKey_some {xs : List (List Int × Addr × Value)} {k : List Int} : (atKey xs k).isSome = decide (k ∈ xs.map (·.1)) := by
  unfold atKey
  induction xs with
  | nil => rfl
  | cons x xs ih =>
    by_cases h : x.1 = k
    · simp [h]
    · have h' : ¬ k = x.1 := fun e => h e.symm
      rw [List.find?_cons_of_neg (by simpa using h)]
      simp only [List.map_cons, List.mem_cons, h', false_or] at ih ⊢
      exact ih
/-- a sequence that is read, as data -/
theorem Is.seqDp {M : Md} {m : Ms} {H : Hp} {W : Wd} {v : V} {d : D} (h : Is M m H v d) (hw : WOk M m W H) {ds : List D} {ps : List PyData} (e : PL.asQ W d = some ds) (e1 : D.pys ds = some ps) :
    (Dp M.K H v (.list ps) ∨ Dp M.K H v (.tuple ps)) ∧ PyData.canLayAll0 ps = true := by
  obtain ⟨a, xs, rfl, hs, r⟩ := h.asQ hw e
  obtain ⟨h4, h5⟩ := r.dp e1
  rcases hs with hs | hs
  · exact ⟨.inl (.lst hs h4), h5⟩
  · exact ⟨.inr (.tup hs h4), h5⟩
theorem opd_in (hu : X.A.units + 200 < cLine) : OpR X (compareOp .In) (rD (mdOf X) (oB dIn)) := by
  intro pins s σ H x y v u Q I rx ry ⟨m, W, a, b, d, hw, ha, hb, hg, k⟩
  obtain ⟨c, hc, rfl⟩ := some_map hg
  rcases dIn_inv hc with ⟨x1, y1, rfl, rfl, rfl⟩ | ⟨kvs, kk, rfl, ek, rfl⟩ | ⟨xs0, k0, rfl, rfl, en, rfl⟩ | ⟨ks0, ds0, xs0, k0, rfl, rfl, en, rfl⟩ | ⟨ds, ps, p, e, e1, e2, hd, rfl⟩
  · cases ha; cases hb
    exact op_in_str pins s σ H _ _ v u Q I rx ry ⟨_, _, rfl, rfl, k _ _ (Same.refl H) (.bl _)⟩
  · obtain ⟨p, o, ks, rfl, hp, r⟩ := hb.asK
    cases (show u = Value.ref p from ry)
    have hx := ha.key ek
    subst hx
    refine d_in (by omega) I (.inl ⟨ks, kk, .inr ⟨o, hp⟩, rfl, rfl⟩) rx fun s' I' => ⟨.bl _, H, I', rfl, ?_⟩
    rcases r.get (k := kk) with ⟨w, d', e3, e4, is⟩ | ⟨e3, e4⟩
    · rw [e3]; rw [e4] at k; exact k _ _ (Same.refl H) (.bl _)
    · rw [e3]; rw [e4] at k; exact k _ _ (Same.refl H) (.bl _)
  · obtain ⟨p, o, ks, rfl, hp, r⟩ := hb.asK
    cases r
    cases (show u = Value.ref p from ry)
    obtain ⟨b1, rfl, hq⟩ := ha.rowOf en
    cases (show v = Value.ref b1 from rx)
    exact TD.e_in (by omega) I hp hq fun s' I' => ⟨.bl _, H, I', rfl, k _ _ (Same.refl H) (.bl _)⟩
  · cases hb with
    | dtt n e kk eq vv rr =>
      subst eq
      cases (show u = Value.ref _ from ry)
      obtain ⟨b1, rfl, hq⟩ := ha.rowOf en
      cases (show v = Value.ref b1 from rx)
      refine TD.t_in (by omega) I e (fun x hx => (kk x hx).seq) hq fun s' I' => ⟨.bl _, H, I', rfl, ?_⟩
      rw [atKey_some]
      exact k _ _ (Same.refl H) (.bl _)
  · obtain ⟨d1, c1⟩ := ha.dpW hw e2
    obtain ⟨as, r1⟩ := Dp.reads I p x v d1 rx
    obtain ⟨d2, c2⟩ := hb.seqDp hw e e1
    rcases d2 with d2 | d2
    · obtain ⟨bs, r2⟩ := Dp.reads I _ y u d2 ry
      exact SeqAt.in_list_reads r2 r1 c2 c1 (by omega) ⟨.bl _, H, I, rfl, k _ _ (Same.refl H) (.bl _)⟩
    · obtain ⟨bs, r2⟩ := Dp.reads I _ y u d2 ry
      exact SeqAt.in_tuple_reads r2 r1 c2 c1 (by omega) ⟨.bl _, H, I, rfl, k _ _ (Same.refl H) (.bl _)⟩
theorem opd_notin (hu : X.A.units + 200 < cLine) : OpR X (compareOp .NotIn) (rD (mdOf X) (oNB dIn)) := by
  intro pins s σ H x y v u Q I rx ry ⟨m, W, a, b, d, hw, ha, hb, hg, k⟩
  obtain ⟨c, hc, rfl⟩ := some_map hg
  rcases dIn_inv hc with ⟨x1, y1, rfl, rfl, rfl⟩ | ⟨kvs, kk, rfl, ek, rfl⟩ | ⟨xs0, k0, rfl, rfl, en, rfl⟩ | ⟨ks0, ds0, xs0, k0, rfl, rfl, en, rfl⟩ | ⟨ds, ps, p, e, e1, e2, hd, rfl⟩
  · cases ha; cases hb
    exact op_notin_str pins s σ H _ _ v u Q I rx ry ⟨_, _, rfl, rfl, k _ _ (Same.refl H) (.bl _)⟩
  · obtain ⟨p, o, ks, rfl, hp, r⟩ := hb.asK
    cases (show u = Value.ref p from ry)
    have hx := ha.key ek
    subst hx
    refine d_notIn (by omega) I (.inl ⟨ks, kk, .inr ⟨o, hp⟩, rfl, rfl⟩) rx fun s' I' => ⟨.bl _, H, I', rfl, ?_⟩
    rcases r.get (k := kk) with ⟨w, d', e3, e4, is⟩ | ⟨e3, e4⟩
    · rw [e3]; rw [e4] at k; exact k _ _ (Same.refl H) (.bl _)
    · rw [e3]; rw [e4] at k; exact k _ _ (Same.refl H) (.bl _)
  · obtain ⟨p, o, ks, rfl, hp, r⟩ := hb.asK
    cases r
    cases (show u = Value.ref p from ry)
    obtain ⟨b1, rfl, hq⟩ := ha.rowOf en
    cases (show v = Value.ref b1 from rx)
    exact TD.e_notIn (by omega) I hp hq fun s' I' => ⟨.bl _, H, I', rfl, k _ _ (Same.refl H) (.bl _)⟩
  · cases hb with
    | dtt n e kk eq vv rr =>
      subst eq
      cases (show u = Value.ref _ from ry)
      obtain ⟨b1, rfl, hq⟩ := ha.rowOf en
      cases (show v = Value.ref b1 from rx)
      refine TD.t_notIn (by omega) I e (fun x hx => (kk x hx).seq) hq fun s' I' => ⟨.bl _, H, I', rfl, ?_⟩
      rw [atKey_some]
      exact k _ _ (Same.refl H) (.bl _)
  · obtain ⟨d1, c1⟩ := ha.dpW hw e2
    obtain ⟨as, r1⟩ := Dp.reads I p x v d1 rx
    obtain ⟨d2, c2⟩ := hb.seqDp hw e e1
    rcases d2 with d2 | d2
    · obtain ⟨bs, r2⟩ := Dp.reads I _ y u d2 ry
      exact SeqAt.notIn_list_reads r2 r1 c2 c1 (by omega) ⟨.bl _, H, I, rfl, k _ _ (Same.refl H) (.bl _)⟩
    · obtain ⟨bs, r2⟩ := Dp.reads I _ y u d2 ry
      exact SeqAt.notIn_tuple_reads r2 r1 c2 c1 (by omega) ⟨.bl _, H, I, rfl, k _ _ (Same.refl H) (.bl _)⟩

/-! ### operations of one value -/
def uD (M : Md) (g : Wd → D → Option D) : V → Hp → VK → Prop := fun x H Q => ∃ m W a d, WOk M m W H ∧ Is M m H x a ∧ g W a = some d ∧ ∀ v H', Same H H' → Is M m H' v d → Q v H'
def dNeg (W : Wd) : D → Option D
  | .int i => some (.int (-i))
  | _ => none
theorem und_neg : UnR X (unaryOp .USub) (uD (mdOf X) dNeg) := by
  intro pins s σ H x v Q I rx ⟨m, W, a, d, hw, ha, hg, k⟩
  unfold dNeg at hg
  split at hg
  · cases ha; cases hg
    exact un_neg pins s σ H _ v Q I rx ⟨_, rfl, k _ _ (Same.refl H) (.int _)⟩
  · cases hg
/-- a value's truth -/
def truth (W : Wd) : D → Option Bool
  | .non => some false
  | .bl b => some b
  | .int i => some (i != 0)
  | .str x => if x.length ≤ 16777216 then some ((x.length : Int) != 0) else none
  | .dct _ => none
  | .dtt _ _ => none
  | .fn _ => none
  | d => (asQ W d).map fun xs => !xs.isEmpty
theorem empty_len {α β : Type} {xs : List α} {ys : List β} (h : xs.length = ys.length) : (!xs.isEmpty) = !ys.isEmpty := by
  cases xs <;> cases ys <;> first | rfl | cases h
theorem IsKvs.length {M : Md} {m : Ms} {H : Hp} : ∀ {vs : List (Key × V)} {ds : List (Key × D)}, IsKvs M m H vs ds → vs.length = ds.length
  | _, _, .nil => rfl
  | _, _, .cons _ b => by simp [IsKvs.length b]
theorem Is.tru {M : Md} {m : Ms} {H : Hp} {W : Wd} {v : V} {d : D} (h : Is M m H v d) (hw : WOk M m W H) {c : Bool} (e : truth W d = some c) : TruV M.K v H c := by
  cases h with
  | non => cases e; rfl
  | bl b => cases e; rfl
  | int i => cases e; rfl
  | str x h1 =>
    have e' : (if x.length ≤ 16777216 then some ((x.length : Int) != 0) else none) = some c := e
    split at e'
    · rename_i hl
      cases e'
      exact ⟨by rw [sizeLine_eq]; exact hl, rfl⟩
    · cases e'
  | dct n e1 r => cases e
  | dtt _ _ _ _ _ _ => cases e
  | tup h1 r =>
    cases e
    exact .inr (.inl ⟨_, h1.seq, empty_len r.length.symm⟩)
  | lst n h1 r =>
    cases e
    exact .inl ⟨_, SqL.of h1, empty_len r.length.symm⟩
  | ref h1 =>
    obtain ⟨ds, e1, rfl⟩ := some_map e
    obtain ⟨a', vs, h2, h3, h4⟩ := hw.at_ _ ds e1
    rw [h1] at h2; cases h2
    exact .inl ⟨_, SqL.of h3, empty_len h4.length.symm⟩
  | set _ _ _ _ => cases e
  | fn h => cases e
  | scr h => cases e
end
end PL

/-! PL4: built-in functions and types by data. -/
namespace PL
open PySem PySem.Spec PyProof.Rows L2

def cD (M : Md) (g : Wd → List D → Option D) : List V → Hp → VK → Prop := fun xs H Q => ∃ m W ds d, WOk M m W H ∧ IsAll M m H xs ds ∧ g W ds = some d ∧ ∀ v H', Same H H' → Is M m H' v d → Q v H'

def bls : List D → Option (List Bool)
  | [] => some []
  | .bl b :: r => (bls r).map (b :: ·)
  | _ => none
def pairsK : List D → Option (List (Key × D))
  | [] => some []
  | .tup [a, b] :: r => match asKey a, pairsK r with
    | some k, some kvs => some ((k, b) :: kvs)
    | _, _ => none
  | _ => none
/-- pairs of a row and a value -/
def pairsT : List D → Option (List (List Int × D))
  | [] => some []
  | .tup [.tup xs, b] :: r => match nums xs, pairsT r with
    | some k, some kvs => some ((k, b) :: kvs)
    | _, _ => none
  | _ => none
def tabPut (acc : List (List Int × D)) (k : List Int) (v : D) : List (List Int × D) :=
  if (acc.any fun kv => decide (kv.1 = k)) = true then acc.map (fun kv => if kv.1 = k then (kv.1, v) else kv) else acc ++ [(k, v)]
def tabMerge (acc more : List (List Int × D)) : List (List Int × D) := more.foldl (fun acc kv => tabPut acc kv.1 kv.2) acc
def keyMerge (kvs more : List (Key × D)) : List (Key × D) := more.foldl (fun acc kv => keyPut acc kv.1 kv.2) kvs

def dLen (W : Wd) : List D → Option D
  | [.str x] => if x.length ≤ 16777216 then some (.int x.length) else none
  | [d] => (asQ W d).map fun xs => .int xs.length
  | _ => none
def dAll (W : Wd) : List D → Option D
  | [d] => match asL W d with
    | some xs => (bls xs).map fun bs => .bl (bs.all id)
    | none => none
  | _ => none
def dAny (W : Wd) : List D → Option D
  | [d] => match asL W d with
    | some xs => (bls xs).map fun bs => .bl (bs.any id)
    | none => none
  | _ => none
def dSum (W : Wd) : List D → Option D
  | [d] => match asL W d with
    | some xs => (nums xs).map fun ns => .int ns.sum
    | none => none
  | _ => none
def dList (W : Wd) : List D → Option D
  | [.scr ns] => some (.lst (ns.map .int))
  | [d] => (asQ W d).map .lst
  | _ => none
def dTuple (W : Wd) : List D → Option D
  | [d] => (asQ W d).map .tup
  | _ => none
def dAbs (W : Wd) : List D → Option D
  | [.int i] => some (.int (if i < 0 then -i else i))
  | _ => none
def dInt (W : Wd) : List D → Option D
  | [.int i] => some (.int i)
  | [.bl b] => some (.int (if b then 1 else 0))
  | _ => none
def dRepr (W : Wd) : List D → Option D
  | [.bl b] => some (.str (if b then "True" else "False"))
  | _ => none
def dDict (W : Wd) : List D → Option D
  | [d] => match asL W d with
    | some xs => match pairsK xs with
      | some kvs => some (.dct (keyMerge [] kvs))
      | none => (pairsT xs).map fun kvs => .dtt ((tabMerge [] kvs).map (·.1)) ((tabMerge [] kvs).map (·.2))
    | none => none
  | _ => none

section
variable {M : Md} {m : Ms} {H : Hp}
theorem IsAll.bls : ∀ {ds : List D} {bs : List Bool} {vs : List V}, IsAll M m H vs ds → bls ds = some bs → vs = bs.map V.bl
  | [], _, _, h, e => by cases h; cases e; rfl
  | d :: ds, bs, _, h, e => by
    cases h with
    | cons a b =>
      cases d with
      | bl c =>
        obtain ⟨r, e1, rfl⟩ := some_map (show (PL.bls ds).map (c :: ·) = some bs from e)
        cases a
        rw [IsAll.bls b e1]
        rfl
      | _ => cases e
theorem Is.unkey {k : Key} {v : V} {d : D} (h : Is M m H v d) (e : asKey d = some k) : v = kV k := h.key e
theorem IsAll.pairsK : ∀ {ds : List D} {kvs : List (Key × D)} {vs : List V}, IsAll M m H vs ds → pairsK ds = some kvs →
    ∃ (ps : List Addr) (ks : List (Key × V)), vs = ps.map V.ref ∧ Paired (fun p kv => SqT M.K H p [kV kv.1, kv.2]) ps ks ∧ IsKvs M m H ks kvs
  | [], _, _, h, e => by cases h; cases e; exact ⟨[], [], rfl, .nil, .nil⟩
  | d :: ds, kvs, _, h, e => by
    cases h with
    | cons a b =>
      unfold PL.pairsK at e
      split at e
      · rename_i q; cases q
      · rename_i q
        cases q
        split at e
        · rename_i k kr e1 e2
          cases e
          obtain ⟨ps, ks, rfl, hp, hk⟩ := IsAll.pairsK b e2
          obtain ⟨p, xs, rfl, ht, r⟩ := a.asT
          cases r with
          | cons r1 r2 => cases r2 with
            | cons r3 r4 =>
              cases r4
              rw [r1.key e1] at ht
              exact ⟨p :: ps, (k, _) :: ks, rfl, .cons ht.seq hp, .cons r3 hk⟩
        · cases e
      · cases e
theorem IsKvs.any {k : Key} : ∀ {vs : List (Key × V)} {ds : List (Key × D)}, IsKvs M m H vs ds → (vs.any fun kv => decide (kv.1 = k)) = ds.any fun kv => decide (kv.1 = k)
  | _, _, .nil => rfl
  | _, _, .cons _ b => by simp only [List.any_cons, IsKvs.any b]
theorem IsKvs.repl {k : Key} {v : V} {d : D} (h : Is M m H v d) : ∀ {vs : List (Key × V)} {ds : List (Key × D)}, IsKvs M m H vs ds → IsKvs M m H (vs.map fun kv => if kv.1 = k then (kv.1, v) else kv) (ds.map fun kv => if kv.1 = k then (kv.1, d) else kv)
  | _, _, .nil => .nil
  | _, _, .cons (k := k') a b => by
    simp only [List.map_cons]
    by_cases e : k' = k
    · simp only [if_pos e]
      exact .cons h (IsKvs.repl h b)
    · simp only [if_neg e]
      exact .cons a (IsKvs.repl h b)
theorem IsKvs.app {k : Key} {v : V} {d : D} (h : Is M m H v d) : ∀ {vs : List (Key × V)} {ds : List (Key × D)}, IsKvs M m H vs ds → IsKvs M m H (vs ++ [(k, v)]) (ds ++ [(k, d)])
  | _, _, .nil => .cons h .nil
  | _, _, .cons a b => .cons a (IsKvs.app h b)
theorem IsKvs.put {k : Key} {v : V} {d : D} (h : Is M m H v d) {vs : List (Key × V)} {ds : List (Key × D)} (r : IsKvs M m H vs ds) : IsKvs M m H (putK vs k v) (keyPut ds k d) := by
  unfold putK keyPut
  rw [r.any]
  split
  · exact r.repl h
  · exact r.app h
theorem IsKvs.merge : ∀ {more : List (Key × V)} {moreD : List (Key × D)} {vs : List (Key × V)} {ds : List (Key × D)}, IsKvs M m H more moreD → IsKvs M m H vs ds → IsKvs M m H (mergeK vs more) (keyMerge ds moreD)
  | _, _, _, _, .nil, r => r
  | _, _, _, _, .cons (k := k) a b, r => by
    have h := IsKvs.merge b (r.put (k := k) a)
    exact h
end

section
variable {X : Cx}
theorem isAll1 {M : Md} {m : Ms} {H : Hp} {xs : List V} {d : D} (h : IsAll M m H xs [d]) : ∃ v, xs = [v] ∧ Is M m H v d := by
  cases h with
  | cons a b => cases b; exact ⟨_, rfl, a⟩
theorem cd_len : CallR X (.builtin "len") (cD (mdOf X) dLen) := by
  intro pins s σ H xs us Q I r ⟨m, W, ds, d, hw, ha, hg, k⟩
  unfold dLen at hg
  split at hg
  · split at hg
    · rename_i hl
      cases hg
      obtain ⟨v, rfl, h⟩ := isAll1 ha
      cases h
      exact call_len pins s σ H _ us Q I r ⟨_, _, rfl, ⟨by rw [sizeLine_eq]; exact hl, rfl⟩, k _ _ (Same.refl H) (.int _)⟩
    · cases hg
  · obtain ⟨ds, e, rfl⟩ := some_map hg
    obtain ⟨v, rfl, h⟩ := isAll1 ha
    obtain ⟨a, ys, rfl, hs, r1⟩ := h.asQ hw e
    refine call_len pins s σ H _ us Q I r ⟨_, ys.length, rfl, hs.imp (fun z => ⟨_, z, rfl⟩) fun z => ⟨_, z, rfl⟩, ?_⟩
    rw [r1.length]
    exact k _ _ (Same.refl H) (.int _)
  · cases hg
theorem cd_all (hc : X.calm = true) : CallR X (.builtin "all") (cD (mdOf X) dAll) := by
  intro pins s σ H xs us Q I r ⟨m, W, ds, d, hw, ha, hg, k⟩
  unfold dAll at hg
  split at hg
  · split at hg
    · rename_i ys e
      obtain ⟨bs, e1, rfl⟩ := some_map hg
      obtain ⟨v, rfl, h⟩ := isAll1 ha
      obtain ⟨a, vs, rfl, hs, r1⟩ := h.asL hw e
      rw [r1.bls e1] at hs
      exact cr_all hc pins s σ H _ us Q I r ⟨_, bs, rfl, SqL.of hs, k _ _ (Same.refl H) (.bl _)⟩
    · cases hg
  · cases hg
theorem cd_any (hc : X.calm = true) : CallR X (.builtin "any") (cD (mdOf X) dAny) := by
  intro pins s σ H xs us Q I r ⟨m, W, ds, d, hw, ha, hg, k⟩
  unfold dAny at hg
  split at hg
  · split at hg
    · rename_i ys e
      obtain ⟨bs, e1, rfl⟩ := some_map hg
      obtain ⟨v, rfl, h⟩ := isAll1 ha
      obtain ⟨a, vs, rfl, hs, r1⟩ := h.asL hw e
      rw [r1.bls e1] at hs
      exact cr_any hc pins s σ H _ us Q I r ⟨_, bs, rfl, SqL.of hs, k _ _ (Same.refl H) (.bl _)⟩
    · cases hg
  · cases hg
theorem cd_sum (hc : X.calm = true) : CallR X (.builtin "sum") (cD (mdOf X) dSum) := by
  intro pins s σ H xs us Q I r ⟨m, W, ds, d, hw, ha, hg, k⟩
  unfold dSum at hg
  split at hg
  · split at hg
    · rename_i ys e
      obtain ⟨bs, e1, rfl⟩ := some_map hg
      obtain ⟨v, rfl, h⟩ := isAll1 ha
      obtain ⟨a, vs, rfl, hs, r1⟩ := h.asL hw e
      rw [r1.intsOf e1] at hs
      exact cr_sum hc pins s σ H _ us Q I r ⟨_, bs, rfl, SqL.of hs, k _ _ (Same.refl H) (.int _)⟩
    · cases hg
  · cases hg
theorem cd_list : CallR X (.type "list") (cD (mdOf X) dList) := by
  intro pins s σ H xs us Q I r ⟨m, W, ds, d, hw, ha, hg, k⟩
  unfold dList at hg
  split at hg
  · cases hg
    obtain ⟨v, rfl, h⟩ := isAll1 ha
    cases h with
    | scr h => exact call_list_of pins s σ H _ us Q I r ⟨_, _, rfl, .inl h.seq, fun l hl => k _ _ (same_upd hl) (hw.newL hl (IsAll.ints _))⟩
  · obtain ⟨ds, e, rfl⟩ := some_map hg
    obtain ⟨v, rfl, h⟩ := isAll1 ha
    obtain ⟨a, ys, rfl, hs, r1⟩ := h.asQ hw e
    exact call_list_of pins s σ H _ us Q I r ⟨_, _, rfl, hs, fun l hl => k _ _ (same_upd hl) (hw.newL hl r1)⟩
  · cases hg
theorem cd_tuple : CallR X (.type "tuple") (cD (mdOf X) dTuple) := by
  intro pins s σ H xs us Q I r ⟨m, W, ds, d, hw, ha, hg, k⟩
  unfold dTuple at hg
  split at hg
  · obtain ⟨ds, e, rfl⟩ := some_map hg
    obtain ⟨v, rfl, h⟩ := isAll1 ha
    cases h with
    | tup h1 r1 =>
      cases e
      exact call_tuple_of pins s σ H _ us Q I r ⟨_, _, rfl, .inr ⟨h1.seq, k _ _ (Same.refl H) (.tup h1 r1)⟩⟩
    | lst n h1 r1 =>
      cases e
      exact call_tuple_of pins s σ H _ us Q I r ⟨_, _, rfl, .inl ⟨SqL.of h1, fun l hl => k _ _ (same_upd hl) (hw.newT hl r1)⟩⟩
    | ref h1 =>
      obtain ⟨a', vs, h2, h3, h4⟩ := hw.at_ _ ds e
      rw [h1] at h2; cases h2
      exact call_tuple_of pins s σ H _ us Q I r ⟨_, _, rfl, .inl ⟨SqL.of h3, fun l hl => k _ _ (same_upd hl) (hw.newT hl h4)⟩⟩
    | _ => cases e
  · cases hg
theorem cd_abs : CallR X (.builtin "abs") (cD (mdOf X) dAbs) := by
  intro pins s σ H xs us Q I r ⟨m, W, ds, d, hw, ha, hg, k⟩
  unfold dAbs at hg
  split at hg
  · cases hg
    obtain ⟨v, rfl, h⟩ := isAll1 ha
    cases h
    exact call_abs pins s σ H _ us Q I r ⟨_, rfl, k _ _ (Same.refl H) (.int _)⟩
  · cases hg
theorem cd_int : CallR X (.type "int") (cD (mdOf X) dInt) := by
  intro pins s σ H xs us Q I r ⟨m, W, ds, d, hw, ha, hg, k⟩
  unfold dInt at hg
  split at hg
  · cases hg
    obtain ⟨v, rfl, h⟩ := isAll1 ha
    cases h
    exact call_int1 pins s σ H _ us Q I r (.inl ⟨_, rfl, k _ _ (Same.refl H) (.int _)⟩)
  · cases hg
    obtain ⟨v, rfl, h⟩ := isAll1 ha
    cases h
    exact call_int1 pins s σ H _ us Q I r (.inr ⟨_, rfl, k _ _ (Same.refl H) (.int _)⟩)
  · cases hg
theorem cd_repr : CallR X (.builtin "repr") (cD (mdOf X) dRepr) := by
  intro pins s σ H xs us Q I r ⟨m, W, ds, d, hw, ha, hg, k⟩
  unfold dRepr at hg
  split at hg
  · rename_i b
    cases hg
    obtain ⟨v, rfl, h⟩ := isAll1 ha
    cases h
    obtain ⟨u, rfl, ru⟩ := vals1 r
    cases ru
    have ok : PyData.strOk (if b then ("True" : Str) else ("False" : Str)) = true := by cases b <;> decide +kernel
    exact PySem.P.repr_of_bool ⟨.str _, H, I.tok _, ⟨_, rfl⟩, k _ _ (Same.refl H) (.str _ ok)⟩
  · cases hg
/-- the value beside a row -/
def tabGet : List (List Int) → List D → List Int → Option D
  | k' :: ks, d :: ds, k => if k' = k then some d else tabGet ks ds k
  | _, _, _ => none
theorem tab_get {M : Md} {m : Ms} {H : Hp} {k : List Int} : ∀ {xs : List (List Int × Addr × Value)} {vs : List V} {ds : List D}, Vals vs (xs.map (·.2.2)) → IsAll M m H vs ds →
    (atKey xs k = none ∧ tabGet (xs.map (·.1)) ds k = none) ∨ ∃ p v d, atKey xs k = some p ∧ tabGet (xs.map (·.1)) ds k = some d ∧ RelV v p.2 ∧ Is M m H v d
  | [], _, _, h, r => by cases h; cases r; exact .inl ⟨rfl, rfl⟩
  | x :: xs, _, _, h, r => by
    rw [List.map_cons] at h
    cases h with
    | cons r1 r2 =>
      cases r with
      | cons i1 i2 =>
        rename_i v vs d ds
        by_cases e : x.1 = k
        · refine .inr ⟨x.2, v, d, ?_, ?_, r1, i1⟩
          · unfold atKey
            rw [List.find?_cons_of_pos (by simpa using e)]
            rfl
          · rw [List.map_cons]
            unfold tabGet
            rw [if_pos e]
        · have e1 : atKey (x :: xs) k = atKey xs k := by
            unfold atKey
            rw [List.find?_cons_of_neg (by simpa using e)]
          have e2 : tabGet ((x :: xs).map (·.1)) (d :: ds) k = tabGet (xs.map (·.1)) ds k := by
            rw [List.map_cons]
            show (if x.1 = k then some d else _) = _
            rw [if_neg e]
          rw [e1, e2]
          exact tab_get r2 i2
theorem Is.asX {M : Md} {m : Ms} {H : Hp} {v : V} {ks : List (List Int)} {ds : List D} (h : Is M m H v (.dtt ks ds)) : ∃ a o xs vs, v = .ref a ∧ ¬ m.has a ∧ H a = some (TD.DObj M.P M.w a o xs) ∧ (∀ x ∈ xs, FzT M.K m H x.2.1 (x.1.map V.int)) ∧ ks = xs.map (·.1) ∧ Vals vs (xs.map (·.2.2)) ∧ IsAll M m H vs ds := by
  cases h with
  | dtt h1 h2 h3 h4 h5 h6 => exact ⟨_, _, _, _, rfl, h1, h2, h3, h4, h5, h6⟩
/-- the dict's rows beside the data -/
structure TabR (M : Md) (m : Ms) (H : Hp) (xs : List (List Int × Addr × Value)) (acc : List (List Int × D)) : Prop where
  ks : xs.map (·.1) = acc.map (·.1)
  key : ∀ x ∈ xs, FzT M.K m H x.2.1 (x.1.map V.int)
  val : ∃ vs, Vals vs (xs.map (·.2.2)) ∧ IsAll M m H vs (acc.map (·.2))
theorem tab_any {xs : List (List Int × Addr × Value)} {acc : List (List Int × D)} (h : xs.map (·.1) = acc.map (·.1)) (k : List Int) : (atKey xs k).isSome = acc.any fun kv => decide (kv.1 = k) := by
  rw [atKey_some, h]
  clear h xs
  induction acc with
  | nil => rfl
  | cons a acc ih =>
    rw [List.map_cons, List.any_cons, ← ih]
    by_cases e : a.1 = k
    · simp [e]
    · have e' : ¬ k = a.1 := fun z => e z.symm
      rw [decide_eq_false e, Bool.false_or]
      simp only [List.mem_cons, e', false_or]
theorem repl_ks {α : Type} (k : List Int) (f : α → α) (xs : List (List Int × α)) : (xs.map fun x => if x.1 = k then (x.1, f x.2) else x).map (·.1) = xs.map (·.1) := by
  induction xs with
  | nil => rfl
  | cons x xs ih =>
    simp only [List.map_cons, List.map_map] at ih ⊢
    rw [ih]
    congr 1
    split <;> rfl
theorem IsAll.repl {M : Md} {m : Ms} {H : Hp} {k : List Int} {u : Value} {v : V} {d : D} (ru : RelV v u) (hd : Is M m H v d) : ∀ {xs : List (List Int × Addr × Value)} {acc : List (List Int × D)} {vs : List V}, xs.map (·.1) = acc.map (·.1) → Vals vs (xs.map (·.2.2)) → IsAll M m H vs (acc.map (·.2)) →
    ∃ vs', Vals vs' ((xs.map (putAt k u)).map (·.2.2)) ∧ IsAll M m H vs' ((acc.map fun kv => if kv.1 = k then (kv.1, d) else kv).map (·.2))
  | [], acc, vs, h, hv, hi => by
    cases acc with
    | nil => exact ⟨[], .nil, .nil⟩
    | cons _ _ => cases h
  | x :: xs, acc, vs, h, hv, hi => by
    cases acc with
    | nil => cases h
    | cons a acc =>
      simp only [List.map_cons, List.cons.injEq] at h
      cases hv with
      | cons r1 r2 =>
        rw [List.map_cons] at hi
        cases hi with
        | cons i1 i2 =>
          rename_i w0 ws0
          obtain ⟨vs', h1, h2⟩ := IsAll.repl ru hd h.2 r2 i2
          by_cases e : x.1 = k
          · refine ⟨v :: vs', ?_, ?_⟩
            · simp only [List.map_cons, putAt, if_pos e]
              exact .cons ru h1
            · simp only [List.map_cons]
              rw [if_pos (h.1 ▸ e)]
              exact .cons hd h2
          · refine ⟨w0 :: vs', ?_, ?_⟩
            · simp only [List.map_cons, putAt, if_neg e]
              exact .cons r1 h1
            · simp only [List.map_cons]
              rw [if_neg (fun z => e (h.1.trans z))]
              exact .cons i1 h2
theorem vals_app {xs ys : List V} {us ws : List Value} (a : Vals xs us) (b : Vals ys ws) : Vals (xs ++ ys) (us ++ ws) := a.append b
theorem TabR.put {M : Md} {m : Ms} {H : Hp} {xs : List (List Int × Addr × Value)} {acc : List (List Int × D)} (R : TabR M m H xs acc) {k : List Int} {b : Addr} {u : Value} {v : V} {d : D} (hb : FzT M.K m H b (k.map V.int)) (ru : RelV v u) (hd : Is M m H v d) : TabR M m H (storedH xs k b u) (tabPut acc k d) := by
  obtain ⟨vs, h1, h2⟩ := R.val
  unfold storedH tabPut
  rw [tab_any R.ks]
  split
  · obtain ⟨vs', g1, g2⟩ := IsAll.repl (k := k) ru hd R.ks h1 h2
    refine ⟨?_, fun x hx => ?_, vs', g1, g2⟩
    · have e1 : xs.map (putAt k u) = xs.map fun x => if x.1 = k then (x.1, (fun p : Addr × Value => (p.1, u)) x.2) else x := rfl
      rw [e1, repl_ks k (fun p : Addr × Value => (p.1, u)) xs, R.ks]
      exact (repl_ks k (fun _ => d) acc).symm
    · obtain ⟨y, hy, rfl⟩ := List.mem_map.mp hx
      have := R.key y hy
      unfold putAt
      split
      · exact this
      · exact this
  · refine ⟨by simp [R.ks], fun x hx => ?_, vs ++ [v], ?_, ?_⟩
    · rcases List.mem_append.mp hx with hx | hx
      · exact R.key x hx
      · rw [List.mem_singleton.mp hx]; exact hb
    · rw [List.map_append]; exact vals_app h1 (.cons ru .nil)
    · rw [List.map_append]; exact h2.append (.cons hd .nil)
theorem TabR.merge {M : Md} {m : Ms} {H : Hp} : ∀ {kvs : List (List Int × Addr × V)} {us : List Value} {ds : List (List Int × D)} {xs : List (List Int × Addr × Value)} {acc : List (List Int × D)}, TabR M m H xs acc → kvs.map (·.1) = ds.map (·.1) → (∀ kv ∈ kvs, FzT M.K m H kv.2.1 (kv.1.map V.int)) →
    Vals (kvs.map (·.2.2)) us → IsAll M m H (kvs.map (·.2.2)) (ds.map (·.2)) → TabR M m H (storedAllH xs (TD.trip kvs us)) (tabMerge acc ds)
  | [], us, ds, xs, acc, R, h, hk, hv, hi => by
    cases ds with
    | nil => exact R
    | cons _ _ => cases h
  | kv :: kvs, us, ds, xs, acc, R, h, hk, hv, hi => by
    cases ds with
    | nil => cases h
    | cons d ds =>
      simp only [List.map_cons, List.cons.injEq] at h
      rw [List.map_cons] at hv
      cases hv with
      | cons r1 r2 =>
        rw [List.map_cons, List.map_cons] at hi
        cases hi with
        | cons i1 i2 =>
          have R' := R.put (hk kv (by simp)) r1 i1
          have e : tabPut acc kv.1 d.2 = tabPut acc d.1 d.2 := by rw [h.1]
          rw [e] at R'
          have := TabR.merge R' h.2 (fun z hz => hk z (by simp [hz])) r2 i2
          exact this
theorem IsAll.pairsT {M : Md} {m : Ms} {H : Hp} : ∀ {ds : List D} {kvs : List (List Int × D)} {vs : List V}, IsAll M m H vs ds → pairsT ds = some kvs →
    ∃ (ps : List Addr) (ks : List (List Int × Addr × V)), vs = ps.map V.ref ∧ Paired (fun p (kv : List Int × Addr × V) => SqT M.K H p [.ref kv.2.1, kv.2.2]) ps ks ∧ ks.map (·.1) = kvs.map (·.1) ∧ (∀ kv ∈ ks, FzT M.K m H kv.2.1 (kv.1.map V.int)) ∧ IsAll M m H (ks.map (·.2.2)) (kvs.map (·.2))
  | [], _, _, h, e => by cases h; cases e; exact ⟨[], [], rfl, .nil, rfl, by simp, .nil⟩
  | d :: ds, kvs, _, h, e => by
    cases h with
    | cons a b =>
      unfold PL.pairsT at e
      split at e
      · rename_i q; cases q
      · rename_i q
        cases q
        split at e
        · rename_i k kr e1 e2
          cases e
          obtain ⟨ps, ks, rfl, hp, hk, hf, hi⟩ := IsAll.pairsT b e2
          obtain ⟨p, xs, rfl, ht, r⟩ := a.asT
          cases r with
          | cons r1 r2 => cases r2 with
            | cons r3 r4 =>
              cases r4
              obtain ⟨q, ys, rfl, hq, ry⟩ := r1.asT
              have := ry.intsOf e1
              subst this
              refine ⟨p :: ps, (k, q, _) :: ks, rfl, .cons ht.seq hp, by simp [hk], fun kv hkv => ?_, .cons r3 hi⟩
              rcases List.mem_cons.mp hkv with rfl | hkv
              · exact hq
              · exact hf kv hkv
        · cases e
      · cases e
theorem cd_dict (hc : X.calm = true) (hu : X.A.units + 200 < cLine) : CallR X (.type "dict") (cD (mdOf X) dDict) := by
  intro pins s σ H xs us Q I r ⟨m, W, ds, d, hw, ha, hg, k⟩
  unfold dDict at hg
  split at hg
  · split at hg
    · rename_i ys e
      obtain ⟨v, rfl, h⟩ := isAll1 ha
      obtain ⟨a, vs, rfl, hs, r1⟩ := h.asL hw e
      split at hg
      · rename_i kvs e1
        cases hg
        obtain ⟨ps, ks, rfl, hp, hk⟩ := r1.pairsK e1
        exact TD.cr_dictF hc pins s σ H _ us Q I r ⟨_, ps, ks, rfl, SqL.of hs, hp, fun p o hq => k _ _ (same_upd hq) (.dct (hw.notIn hq) upd_same ((hk.merge .nil).mono (Step.upd hq)))⟩
      · obtain ⟨kvs, e1, rfl⟩ := some_map hg
        obtain ⟨ps, ks, rfl, hp, hk, hf, hi⟩ := r1.pairsT e1
        refine TD.cr_dictT hc (by omega) pins s σ H _ us Q I r ⟨_, ps, ks, rfl, SqL.of hs, hp, fun kv hkv => (hf kv hkv).seq, fun p o us' hv hq => ?_⟩
        have st : Step m H m (upd H p (TD.DObj X.prog X.w p o (storedAllH [] (TD.trip ks us')))) := Step.upd hq
        have R := TabR.merge (M := mdOf X) (m := m) (H := upd H p (TD.DObj X.prog X.w p o (storedAllH [] (TD.trip ks us')))) (kvs := ks) (us := us') (ds := kvs) (xs := []) (acc := []) ⟨rfl, by simp, [], .nil, .nil⟩ hk (fun kv hkv => (hf kv hkv).mono st) hv (hi.mono st)
        obtain ⟨vs', h1, h2⟩ := R.val
        exact k _ _ (same_upd hq) (.dtt (hw.notIn hq) upd_same R.key R.ks.symm h1 h2)
    · cases hg
  · cases hg

/-! ### isinstance -/
def tyName (W : Wd) : D → Option String
  | .non => some "NoneType"
  | .bl _ => some "bool"
  | .int _ => some "int"
  | .str _ => some "str"
  | .tup _ => some "tuple"
  | .lst _ => some "list"
  | .dct _ => some "dict"
  | .dtt _ _ => none
  | .ref _ => some "list"
  | _ => none
/-- the classes asked for: int, bool, str, tuple, list, dict -/
def isiB (a T : String) : Bool := a == T || (a == "bool" && T == "int")
theorem Is.tyx {M : Md} {m : Ms} {H : Hp} {W : Wd} {v : V} {d : D} (h : Is M m H v d) (hw : WOk M m W H) {T : String} (e : tyName W d = some T) : TyX M.K H v (.type T) := by
  cases h with
  | non => cases e; exact .base .non
  | bl b => cases e; exact .base (.bl b)
  | int i => cases e; exact .base (.int i)
  | str x _ => cases e; exact .base (.str x)
  | tup h1 _ =>
    cases e
    rcases h1 with ⟨_, h1 | ⟨o, h1⟩⟩ | ⟨o, its, n, h1, h2, _⟩
    · exact .base (.tup h1)
    · exact .fTuple h1
    · exact .kTuple h1 h2
  | lst _ h1 _ => cases e; exact .base (.lst h1)
  | dct _ h1 _ => cases e; exact .fDict h1
  | dtt _ _ _ _ _ _ => cases e
  | ref h1 =>
    cases e
    rename_i a i
    have hl : i < W.length := by rw [← hw.len]; exact (List.getElem?_eq_some_iff.mp h1).1
    obtain ⟨a', vs, h2, h3, _⟩ := hw.at_ i _ (List.getElem?_eq_getElem hl)
    rw [h1] at h2; cases h2
    exact .base (.lst h3)
  | set _ _ _ _ => cases e
  | fn _ => cases e
  | scr _ => cases e
def isiTs : List String := ["int", "bool", "str", "tuple", "list", "dict"]
theorem kit_all : ∀ a ∈ ["NoneType", "bool", "int", "str", "tuple", "list", "dict"], ∀ T ∈ isiTs, kitB a T = some (isiB a T) := by decide +kernel
theorem tyName_mem {W : Wd} {d : D} {a : String} (e : tyName W d = some a) : a ∈ ["NoneType", "bool", "int", "str", "tuple", "list", "dict"] := by
  cases d <;> first | (cases e; decide) | cases e
def rIsiD (M : Md) : List V → Hp → VK → Prop := fun xs H Q => ∃ m W v d a T, xs = [v, .ty T] ∧ WOk M m W H ∧ Is M m H v d ∧ tyName W d = some a ∧ T ∈ isiTs ∧ Q (.bl (isiB a T)) H
theorem cd_isi : CallR X (.builtin "isinstance") (rIsiD (mdOf X)) := by
  intro pins s σ H xs us Q I r ⟨m, W, v, d, a, T, e, hw, h, ea, hT, q⟩
  subst e
  exact call_isi pins s σ H _ us Q I r ⟨v, .ty T, _, _, _, rfl, .ty T, h.tyx hw ea, kit_ty (kit_all a (tyName_mem ea) T hT), q⟩
end
end PL

/-! PO2: sorted(a list), by data. -/
namespace PL
open PySem PySem.Spec PyProof.Rows L2

theorem alks_all : ∀ {a : List D}, D.alks a a = true → ∀ x ∈ a, D.alk x x = true
  | [], _, x, hx => by cases hx
  | y :: a, h, x, hx => by
    simp only [D.alks, Bool.and_eq_true] at h
    rcases List.mem_cons.mp hx with rfl | hx
    · exact h.1
    · exact alks_all h.2 x hx
mutual
theorem alk_pyd : ∀ {a : D}, D.alk a a = true → Pyd a
  | .int _, _ => ⟨_, rfl⟩
  | .str _, _ => ⟨_, rfl⟩
  | .tup a, h => by
    obtain ⟨ps, e⟩ := alks_pyd (a := a) (by simpa only [D.alk] using h)
    exact ⟨.tuple ps, by simp [D.py, e]⟩
  | .non, h => by simp [D.alk] at h
  | .bl _, h => by simp [D.alk] at h
  | .lst _, h => by simp [D.alk] at h
  | .dct _, h => by simp [D.alk] at h
  | .set _, h => by simp [D.alk] at h
  | .dtt _ _, h => by simp [D.alk] at h
  | .fn _, h => by simp [D.alk] at h
  | .ref _, h => by simp [D.alk] at h
  | .scr _, h => by simp [D.alk] at h
theorem alks_pyd : ∀ {a : List D}, D.alks a a = true → ∃ ps, D.pys a = some ps
  | [], _ => ⟨[], rfl⟩
  | x :: a, h => by
    simp only [D.alks, Bool.and_eq_true] at h
    obtain ⟨p, e1⟩ := alk_pyd h.1
    obtain ⟨ps, e2⟩ := alks_pyd h.2
    exact ⟨p :: ps, by simp [D.pys, e1, e2]⟩
end
/-- a list of one make -/
def sheB : List D → Bool
  | [] => true
  | x :: r => D.she x x && r.all (D.she x)
theorem sheB_ord {l : List D} (h : sheB l = true) : Ord l := by
  cases l with
  | nil => exact ⟨fun _ ha => (nomatch ha), fun _ ha => (nomatch ha)⟩
  | cons x r =>
    simp only [sheB, Bool.and_eq_true, List.all_eq_true] at h
    have s : ∀ a ∈ x :: r, D.she x a = true := fun a ha => by
      rcases List.mem_cons.mp ha with rfl | ha
      · exact h.1
      · exact h.2 a ha
    have k : ∀ a ∈ x :: r, ∀ b ∈ x :: r, D.alk a b = true := fun a ha b hb => D.she_alk (s a ha) (s b hb)
    exact ⟨k, fun a ha => alk_pyd (k a ha a ha)⟩
def tupNe : D → Bool
  | .tup (_ :: _) => true
  | _ => false
def notTup : D → Bool
  | .int _ => true
  | .str _ => true
  | _ => false
/-- what can be sorted -/
def srtB (l : List D) : Bool := sheB l && (decide (l.length < 2) || l.all tupNe || l.all notTup)
def dSorted (W : Wd) : List D → Option D
  | [d] => match asL W d with
    | some xs => if srtB xs = true ∧ D.depths xs ≤ 100 then some (.lst (sortD xs)) else none
    | none => none
  | _ => none

section
variable {M : Md} {m : Ms} {H : Hp}
theorem IsAll.zip : ∀ {vs : List V} {ds : List D}, IsAll M m H vs ds → ∀ p ∈ vs.zip ds, Is M m H p.1 p.2
  | _, _, .nil, p, hp => by cases hp
  | _, _, .cons a b, p, hp => by
    rcases List.mem_cons.mp hp with rfl | hp
    · exact a
    · exact IsAll.zip b p hp
theorem IsAll.unzip : ∀ {L : List (V × D)}, (∀ p ∈ L, Is M m H p.1 p.2) → IsAll M m H (L.map (·.1)) (L.map (·.2))
  | [], _ => .nil
  | p :: L, h => .cons (h p (by simp)) (IsAll.unzip fun q hq => h q (by simp [hq]))
end
theorem vals_each : ∀ {vs : List V} {us : List Value} {ds : List D}, Vals vs us → vs.length = ds.length → PySem.W.EachIs (fun u (b : V × D) => RelV b.1 u) us (vs.zip ds)
  | _, _, [], .nil, _ => .nil
  | _, _, d :: ds, .cons r t, h => .cons r (vals_each t (by simpa using h))
theorem each_vals : ∀ {us : List Value} {L : List (V × D)}, PySem.W.EachIs (fun u (b : V × D) => RelV b.1 u) us L → Vals (L.map (·.1)) us
  | _, _, .nil => .nil
  | _, _, .cons r t => .cons r (each_vals t)
theorem each_of_mem {α β : Type} {R R' : α → β → Prop} : ∀ {as : List α} {bs : List β}, PySem.W.EachIs R as bs → (∀ a b, b ∈ bs → R a b → R' a b) → PySem.W.EachIs R' as bs
  | _, _, .nil, _ => .nil
  | _, _, .cons r t, h => .cons (h _ _ (by simp) r) (each_of_mem t fun a b hb => h a b (by simp [hb]))
theorem zip_vals {us : List Value} {L : List (V × D)} (h : Vals (L.map (·.1)) us) : PySem.W.EachIs (fun u (b : V × D) => RelV b.1 u) us L := by
  induction L generalizing us with
  | nil => cases h; exact .nil
  | cons p L ih => cases h with
    | cons r t => exact .cons r (ih t)
theorem perm_each {us us' : List Value} {L : List (V × D)} (h : PySem.W.EachIs (fun u (b : V × D) => RelV b.1 u) us L) (p : us'.Perm us) : ∃ L', L'.Perm L ∧ PySem.W.EachIs (fun u (b : V × D) => RelV b.1 u) us' L' := by
  have hl := h.length
  have e1 : us = (us.zip L).map (·.1) := (List.map_fst_zip (by omega)).symm
  have e2 : L = (us.zip L).map (·.2) := (List.map_snd_zip (by omega)).symm
  rw [e1] at p
  obtain ⟨Z, pz, rfl⟩ := perm_map_inv _ p
  refine ⟨Z.map (·.2), by rw [e2]; simpa using pz.map Prod.snd, PySem.W.EachIs.of fun q hq => h.zip q (pz.mem_iff.mp hq)⟩
section
variable {X : Cx}
/-- sorted(xs) -/
theorem cd_sorted (hu : X.A.units + 200 < cLine) : CallR X (.builtin "sorted") (cD (mdOf X) dSorted) := by
  intro pins s σ H xs us Q I r ⟨m, W, ds, d, hw, ha, hg, k⟩
  unfold dSorted at hg
  split at hg
  · split at hg
    · rename_i ys e
      split at hg
      · rename_i hc
        cases hg
        obtain ⟨v, rfl, h⟩ := isAll1 ha
        obtain ⟨a, vs, rfl, hs, r1⟩ := h.asL hw e
        rw [Vals.ref1 r]
        obtain ⟨its, rv, pl, hz⟩ := I.list (SqL.of hs)
        obtain ⟨hc, hdp⟩ := hc
        simp only [srtB, Bool.and_eq_true, Bool.or_eq_true, decide_eq_true_eq, List.all_eq_true] at hc
        have o := sheB_ord hc.1
        have hl := r1.length
        have hzl : (vs.zip ys).map Prod.snd = ys := List.map_snd_zip (by omega)
        have ee := vals_each rv hl
        have fin : ∀ (L : List (V × D)) (out : List Value) (h' : Heap), L.Perm (vs.zip ys) → (L.map Prod.snd).Pairwise (fun a b => leT a b = true) → PySem.W.EachIs (fun u (b : V × D) => RelV b.1 u) out L →
            (∀ b o, s.heap.get? b = some o → h'.get? b = some o) → (∃ n, h'.get? (s.heap.objs.size + 1) = some (seqObj "list" out.toArray n)) →
            EP X pins σ Q (.ref (s.heap.objs.size + 1)) { s with heap := h' } := by
          intro L out h' pL pw eo kp ⟨n, hn⟩
          have hp : H (s.heap.objs.size + 1) = none := I.hok.fresh (Nat.le_succ _)
          have es : L.map Prod.snd = sortD ys := by
            refine (pw_one (n := L.map Prod.snd) (m := sortD ys) ⟨fun a ha b hb => o.alk a ((sortD_perm ys).mem_iff.mp ha) b ((sortD_perm ys).mem_iff.mp hb), fun a ha => o.py a ((sortD_perm ys).mem_iff.mp ha)⟩ ((sortD_perm ys).trans ?_) (sortD_pw o) pw).symm
            have := pL.map Prod.snd
            rw [hzl] at this
            exact this.symm
          have hall : IsAll (mdOf X) m H (L.map Prod.fst) (sortD ys) := by
            rw [← es]
            exact IsAll.unzip fun p hp => r1.zip p (pL.mem_iff.mp hp)
          have hlen : (L.map Prod.fst).length ≤ sizeLine := by
            rw [List.length_map, pL.length_eq, List.length_zip]
            omega
          refine ⟨.ref (s.heap.objs.size + 1), upd H (s.heap.objs.size + 1) (.lst (L.map Prod.fst)), I.laid (t' := s.toks) kp (Nat.le_succ _) ⟨hlen, out, n, each_vals eo, hn⟩, rfl, k _ _ (same_upd hp) (hw.newL hp hall)⟩
        by_cases h2 : vs.length < 2
        · refine SrtO.sorted_ord (ltv := fun _ _ => false) ⟨fun _ _ h => (Bool.noConfusion h), fun _ _ _ _ _ => rfl⟩ pl.isList (by rw [← rv.length]; exact hz) (fun z => absurd (by rw [← rv.length] at z; exact z) (by omega)) fun out h1 hb => ?_
          obtain ⟨L', p1, e1⟩ := perm_each ee hb.perm
          refine fin L' out _ p1 ?_ e1 (fun b o e => sortedAll_old e) (sortedAll_at s.heap its out.toArray)
          have hL : (L'.map Prod.snd).length < 2 := by rw [List.length_map, p1.length_eq, List.length_zip]; omega
          match L'.map Prod.snd, hL with
          | [], _ => exact .nil
          | [x], _ => exact List.pairwise_singleton _ _
          | _ :: _ :: _, hL => simp at hL; omega
        · have enc : (vs.zip ys).map (fun b : V × D => (b.2.py).getD .none) = ys.map fun y => (y.py).getD .none := by
            rw [← hzl, List.map_map, hzl]; rfl
          have er : PySem.W.EachIs (fun u (b : V × D) => ∃ as, Reads s.heap u ((b.2.py).getD .none) as) its (vs.zip ys) := each_of_mem ee fun u b hb hr => by
            obtain ⟨p, ep⟩ := o.py b.2 (List.of_mem_zip hb).2
            rw [ep]
            exact Dp.reads I p b.1 u ((r1.zip b hb).dp ep).1 hr
          have hal : PySem.W.AllAlike ((vs.zip ys).map fun b : V × D => (b.2.py).getD .none) := by
            rw [enc]
            intro d hd d' hd'
            obtain ⟨x, hx, rfl⟩ := List.mem_map.mp hd
            obtain ⟨y, hy, rfl⟩ := List.mem_map.mp hd'
            obtain ⟨p, ep⟩ := o.py x hx
            obtain ⟨q, eq⟩ := o.py y hy
            rw [ep, eq]
            exact (alk_py (o.alk x hx y hy) ep eq).1
          have hk : PySem.W.Sortable ((vs.zip ys).map fun b : V × D => (b.2.py).getD .none) := by
            rw [enc]
            rcases hc.2 with (hc | hc) | hc
            · exact absurd hc (by omega)
            · refine .inl fun d hd => ?_
              obtain ⟨x, hx, rfl⟩ := List.mem_map.mp hd
              have t := hc x hx
              obtain ⟨p, ep⟩ := o.py x hx
              cases x with
              | tup zs => cases zs with
                | nil => cases t
                | cons z zs =>
                  rw [ep]
                  simp only [D.py, D.pys] at ep
                  cases q1 : D.py z with
                  | none => rw [q1] at ep; simp at ep
                  | some p1 =>
                    rw [q1] at ep
                    cases q2 : D.pys zs with
                    | none => rw [q2] at ep; simp at ep
                    | some p2 =>
                      rw [q2] at ep
                      simp at ep
                      subst ep
                      exact ⟨p1, p2, rfl⟩
              | _ => cases t
            · refine .inr fun d hd => ?_
              obtain ⟨x, hx, rfl⟩ := List.mem_map.mp hd
              have t := hc x hx
              cases x with
              | int i => simp [D.py]
              | str i => simp [D.py]
              | _ => cases t
          refine PySem.W.sorted_data (R := fun u (b : V × D) => RelV b.1 u) (enc := fun b : V × D => (b.2.py).getD .none) pl.isList ee er hal hk (by rw [List.length_zip]; omega) (fun b hb => ?_) fun out hlo eo => ?_
          · have := depth_le (List.of_mem_zip hb).2
            omega
          · refine fin _ out _ (List.mergeSort_perm _ _) ?_ eo (fun b o e => sortedAll_old e) (sortedAll_at s.heap its out.toArray)
            have hp := PySem.W.sort_pairwise (PySem.W.sortLe_total (PyProof.Rows.listOrd PyProof.Rows.itemOrd) false fun b : V × D => PySem.W.keyToks ((b.2.py).getD .none)) (vs.zip ys)
            refine List.pairwise_map.mpr (hp.imp fun {a b} h => ?_)
            exact h
      · cases hg
    · cases hg
  · cases hg
end
end PL

/-! PO5: sets by data: made of ints, of tuples of ints; sorted, len. -/
namespace PL
open PySem PySem.Spec PyProof.Rows L2

/-- the rows, ascending, each once -/
def insL (x : List Int) : List (List Int) → List (List Int)
  | [] => [x]
  | y :: ys => if x = y then y :: ys else if x < y then x :: y :: ys else y :: insL x ys
def sortL : List (List Int) → List (List Int)
  | [] => []
  | x :: xs => insL x (sortL xs)
def tupsI : List D → Option (List (List Int))
  | [] => some []
  | .tup xs :: r => match nums xs, tupsI r with
    | some k, some ks => some (k :: ks)
    | _, _ => none
  | _ => none
/-! ### the rows' order -/
theorem ltL_irr (x : List Int) : ¬ x < x := List.lt_irrefl x
theorem ltL_trans {x y z : List Int} (h : x < y) (h' : y < z) : x < z := List.lt_trans h h'
theorem insL_mem {x z : List Int} : ∀ {l : List (List Int)}, z ∈ insL x l ↔ z = x ∨ z ∈ l
  | [] => by simp [insL]
  | y :: ys => by
    unfold insL
    split
    · rename_i e; subst e; simp
    · split
      · simp
      · rw [List.mem_cons, insL_mem (l := ys), List.mem_cons]
        constructor
        · rintro (h | h | h)
          · exact .inr (.inl h)
          · exact .inl h
          · exact .inr (.inr h)
        · rintro (h | h | h)
          · exact .inr (.inl h)
          · exact .inl h
          · exact .inr (.inr h)
theorem insL_pw {x : List Int} : ∀ {l : List (List Int)}, l.Pairwise (· < ·) → (insL x l).Pairwise (· < ·)
  | [], _ => by simp [insL]
  | y :: ys, h => by
    obtain ⟨h1, h2⟩ := List.pairwise_cons.mp h
    unfold insL
    split
    · exact h
    · rename_i ne
      split
      · rename_i lt
        refine List.pairwise_cons.mpr ⟨fun z hz => ?_, h⟩
        rcases List.mem_cons.mp hz with rfl | hz
        · exact lt
        · exact ltL_trans lt (h1 z hz)
      · rename_i nlt
        refine List.pairwise_cons.mpr ⟨fun z hz => ?_, insL_pw h2⟩
        rcases insL_mem.mp hz with rfl | hz
        · have hle : y ≤ z := List.not_lt.mp nlt
          rcases List.le_total z y with h' | h'
          · exact absurd (List.le_antisymm h' hle) ne
          · by_cases q : y < z
            · exact q
            · exact absurd (List.le_antisymm (List.not_lt.mp q) hle) ne
        · exact h1 z hz
theorem sortL_pw : ∀ l : List (List Int), (sortL l).Pairwise (· < ·)
  | [] => .nil
  | x :: xs => insL_pw (sortL_pw xs)
theorem sortL_mem {z : List Int} : ∀ {l : List (List Int)}, z ∈ sortL l ↔ z ∈ l
  | [] => by simp [sortL]
  | x :: xs => by rw [sortL, insL_mem, sortL_mem, List.mem_cons]
theorem strict_one : ∀ {m n : List (List Int)}, m.Pairwise (· < ·) → n.Pairwise (· < ·) → (∀ z, z ∈ m ↔ z ∈ n) → m = n
  | [], [], _, _, _ => rfl
  | [], y :: n, _, _, h => absurd ((h y).mpr (by simp)) (by simp)
  | x :: m, [], _, _, h => absurd ((h x).mp (by simp)) (by simp)
  | x :: m, y :: n, hm, hn, h => by
    obtain ⟨m1, m2⟩ := List.pairwise_cons.mp hm
    obtain ⟨n1, n2⟩ := List.pairwise_cons.mp hn
    have e : x = y := by
      rcases List.mem_cons.mp ((h x).mp (by simp)) with e | hx
      · exact e
      · rcases List.mem_cons.mp ((h y).mpr (by simp)) with e | hy
        · exact e.symm
        · exact absurd (ltL_trans (m1 y hy) (n1 x hx)) (ltL_irr x)
    subst e
    congr 1
    refine strict_one m2 n2 fun z => ⟨fun hz => ?_, fun hz => ?_⟩
    · rcases List.mem_cons.mp ((h z).mp (by simp [hz])) with e | hz'
      · subst e; exact absurd (m1 z hz) (ltL_irr z)
      · exact hz'
    · rcases List.mem_cons.mp ((h z).mpr (by simp [hz])) with e | hz'
      · subst e; exact absurd (n1 z hz) (ltL_irr z)
      · exact hz'

/-! ### ascending ints -/
def insI (x : Int) : List Int → List Int
  | [] => [x]
  | y :: ys => if x = y then y :: ys else if x < y then x :: y :: ys else y :: insI x ys
def sortI : List Int → List Int
  | [] => []
  | x :: xs => insI x (sortI xs)
theorem insI_mem {x z : Int} : ∀ {l : List Int}, z ∈ insI x l ↔ z = x ∨ z ∈ l
  | [] => by simp [insI]
  | y :: ys => by
    unfold insI
    split
    · rename_i e; subst e; simp
    · split
      · simp
      · rw [List.mem_cons, insI_mem (l := ys), List.mem_cons]
        constructor
        · rintro (h | h | h)
          · exact .inr (.inl h)
          · exact .inl h
          · exact .inr (.inr h)
        · rintro (h | h | h)
          · exact .inr (.inl h)
          · exact .inl h
          · exact .inr (.inr h)
theorem insI_pw {x : Int} : ∀ {l : List Int}, l.Pairwise (· < ·) → (insI x l).Pairwise (· < ·)
  | [], _ => by simp [insI]
  | y :: ys, h => by
    obtain ⟨h1, h2⟩ := List.pairwise_cons.mp h
    unfold insI
    split
    · exact h
    · rename_i ne
      split
      · rename_i lt
        refine List.pairwise_cons.mpr ⟨fun z hz => ?_, h⟩
        rcases List.mem_cons.mp hz with rfl | hz
        · exact lt
        · exact Int.lt_trans lt (h1 z hz)
      · rename_i nlt
        refine List.pairwise_cons.mpr ⟨fun z hz => ?_, insI_pw h2⟩
        rcases insI_mem.mp hz with rfl | hz
        · omega
        · exact h1 z hz
theorem sortI_pw : ∀ l : List Int, (sortI l).Pairwise (· < ·)
  | [] => .nil
  | x :: xs => insI_pw (sortI_pw xs)
theorem sortI_mem {z : Int} : ∀ {l : List Int}, z ∈ sortI l ↔ z ∈ l
  | [] => by simp [sortI]
  | x :: xs => by rw [sortI, insI_mem, sortI_mem, List.mem_cons]
theorem strict_oneI : ∀ {m n : List Int}, m.Pairwise (· < ·) → n.Pairwise (· < ·) → (∀ z, z ∈ m ↔ z ∈ n) → m = n
  | [], [], _, _, _ => rfl
  | [], y :: n, _, _, h => absurd ((h y).mpr (by simp)) (by simp)
  | x :: m, [], _, _, h => absurd ((h x).mp (by simp)) (by simp)
  | x :: m, y :: n, hm, hn, h => by
    obtain ⟨m1, m2⟩ := List.pairwise_cons.mp hm
    obtain ⟨n1, n2⟩ := List.pairwise_cons.mp hn
    have e : x = y := by
      rcases List.mem_cons.mp ((h x).mp (by simp)) with e | hx
      · exact e
      · rcases List.mem_cons.mp ((h y).mpr (by simp)) with e | hy
        · exact e.symm
        · have := m1 y hy
          have := n1 x hx
          omega
    subst e
    congr 1
    refine strict_oneI m2 n2 fun z => ⟨fun hz => ?_, fun hz => ?_⟩
    · rcases List.mem_cons.mp ((h z).mp (by simp [hz])) with e | hz'
      · subst e; exact absurd (m1 z hz) (by omega)
      · exact hz'
    · rcases List.mem_cons.mp ((h z).mpr (by simp [hz])) with e | hz'
      · subst e; exact absurd (n1 z hz) (by omega)
      · exact hz'

/-! ### usortD on ints, on rows -/
theorem insU_int (x : Int) : ∀ l : List Int, insU (.int x) (l.map .int) = (insI x l).map .int
  | [] => rfl
  | y :: ys => by
    simp only [List.map_cons, insU, insI, D.same, D.ltb, beq_iff_eq, decide_eq_true_eq]
    by_cases e : x = y
    · rw [if_pos e, if_pos e]; rfl
    · rw [if_neg e, if_neg e]
      by_cases lt : x < y
      · rw [if_pos lt, if_neg (by omega)]; rfl
      · rw [if_neg lt, if_pos (by omega), insU_int x ys]; rfl
theorem usortD_int : ∀ l : List Int, usortD (l.map .int) = (sortI l).map .int
  | [] => rfl
  | x :: xs => by rw [List.map_cons, usortD, usortD_int xs, insU_int]; rfl
theorem sames_int : ∀ a b : List Int, D.sames (a.map .int) (b.map .int) = decide (a = b)
  | [], [] => rfl
  | [], _ :: _ => rfl
  | _ :: _, [] => rfl
  | x :: a, y :: b => by
    simp only [List.map_cons, D.sames, D.same, sames_int a b, List.cons.injEq, Bool.decide_and]
    congr 1
theorem ltbs_int : ∀ a b : List Int, D.ltbs (a.map .int) (b.map .int) = decide (a < b)
  | [], [] => rfl
  | [], y :: b => by
    have h : ([] : List Int) < y :: b := List.nil_lt_cons _ _
    simp [D.ltbs, h]
  | x :: a, [] => by
    have h : ¬ (x :: a < ([] : List Int)) := List.not_lt_nil _
    simp [D.ltbs]
  | x :: a, y :: b => by
    simp only [List.map_cons, D.ltbs, D.same, D.ltb, ltbs_int a b, beq_iff_eq]
    by_cases e : x = y
    · subst e
      rw [if_pos rfl]
      have : x :: a < x :: b ↔ a < b := by rw [List.cons_lt_cons_iff]; simp
      exact decide_eq_decide.mpr this.symm
    · rw [if_neg e]
      have : x :: a < y :: b ↔ x < y := by rw [List.cons_lt_cons_iff]; simp [e]
      exact decide_eq_decide.mpr this.symm
theorem insU_tup (x : List Int) : ∀ l : List (List Int), insU (tupD x) (l.map tupD) = (insL x l).map tupD
  | [] => rfl
  | y :: ys => by
    have e1 : D.same (tupD x) (tupD y) = decide (x = y) := by simp only [tupD, D.same, sames_int]
    have e2 : D.ltb (tupD y) (tupD x) = decide (y < x) := by simp only [tupD, D.ltb, ltbs_int]
    simp only [List.map_cons, insU, insL, e1, e2, decide_eq_true_eq]
    by_cases e : x = y
    · rw [if_pos e, if_pos e]; rfl
    · rw [if_neg e, if_neg e]
      by_cases lt : x < y
      · rw [if_pos lt, if_neg (fun z => ltL_irr x (ltL_trans lt z))]; rfl
      · have lt2 : y < x := by
          by_cases q : y < x
          · exact q
          · exact absurd (List.le_antisymm (List.not_lt.mp q) (List.not_lt.mp lt)) e
        rw [if_neg lt, if_pos lt2, insU_tup x ys]; rfl
theorem usortD_tup : ∀ l : List (List Int), usortD (l.map tupD) = (sortL l).map tupD
  | [] => rfl
  | x :: xs => by rw [List.map_cons, usortD, usortD_tup xs, insU_tup]; rfl

/-! ### set, sorted, len -/
theorem nums_eq : ∀ {ds : List D} {ns : List Int}, nums ds = some ns → ds = ns.map .int
  | [], _, h => by cases h; rfl
  | d :: ds, ns, h => by
    cases d with
    | int i =>
      obtain ⟨r, e1, rfl⟩ := some_map (show (nums ds).map (i :: ·) = some ns from h)
      rw [nums_eq e1]; rfl
    | _ => cases h
theorem tupsI_eq : ∀ {ds : List D} {ks : List (List Int)}, tupsI ds = some ks → ds = ks.map tupD
  | [], _, h => by cases h; rfl
  | d :: ds, ks, h => by
    unfold tupsI at h
    split at h
    · rename_i q; cases q
    · rename_i q
      cases q
      split at h
      · rename_i k kr e1 e2
        cases h
        rw [tupsI_eq e2, nums_eq e1]; rfl
      · cases h
    · cases h
def dSet (W : Wd) : List D → Option D
  | [d] => match asQ W d with
    | some xs => match nums xs with
      | some ns => if ns.length < 4095 then some (.set (usortD xs)) else none
      | none => match tupsI xs with
        | some ks => if ks.length < 1200 then some (.set (usortD xs)) else none
        | none => none
    | none => none
  | _ => none
/-- sorted, of a set too -/
def dSort (W : Wd) (ds : List D) : Option D := match ds with
  | [.set xs] => if xs.length < 2 ∨ xs.all tupNe = true ∨ xs.all notTup = true then some (.lst xs) else none
  | ds => dSorted W ds
/-- len, of a set too -/
def dLenS (W : Wd) (ds : List D) : Option D := match ds with
  | [.set xs] => some (.int xs.length)
  | [.dct kvs] => some (.int kvs.length)
  | [.dtt ks _] => some (.int ks.length)
  | ds => dLen W ds
section
variable {M : Md} {m : Ms} {H : Hp}
theorem IsAll.tups {M : Md} {m : Ms} {H : Hp} : ∀ {ds : List D} {ks : List (List Int)} {vs : List V}, IsAll M m H vs ds → tupsI ds = some ks → ∃ l : List (Addr × List Int), vs = l.map (fun p => V.ref p.1) ∧ l.map (·.2) = ks ∧ ∀ p ∈ l, FzT M.K m H p.1 (p.2.map V.int)
  | [], _, _, h, e => by cases h; cases e; exact ⟨[], rfl, rfl, by simp⟩
  | d :: ds, ks, _, h, e => by
    cases h with
    | cons a b =>
      unfold tupsI at e
      split at e
      · rename_i q; cases q
      · rename_i q
        cases q
        split at e
        · rename_i k kr e1 e2
          cases e
          obtain ⟨l, rfl, rfl, hl⟩ := IsAll.tups b e2
          obtain ⟨p, xs, rfl, ht, r⟩ := a.asT
          have ex := r.intsOf e1
          subst ex
          refine ⟨(p, k) :: l, rfl, rfl, fun z hz => ?_⟩
          rcases List.mem_cons.mp hz with rfl | hz
          · exact ht
          · exact hl z hz
        · cases e
      · cases e
theorem IsAll.tupsOf : ∀ {l : List (Addr × List Int)}, (∀ q ∈ l, FzT M.K m H q.1 (q.2.map V.int)) → IsAll M m H (l.map fun q => V.ref q.1) (l.map fun q => tupD q.2)
  | [], _ => .nil
  | q :: l, h => .cons (.tup (h q (by simp)) (IsAll.ints _)) (IsAll.tupsOf fun z hz => h z (by simp [hz]))
theorem IsAll.tupsInv : ∀ {l : List (Addr × List Int)}, IsAll M m H (l.map fun q => V.ref q.1) (l.map fun q => tupD q.2) → ∀ q ∈ l, FzT M.K m H q.1 (q.2.map V.int)
  | [], _, q, hq => by cases hq
  | p :: l, h, q, hq => by
    cases h with
    | cons a b =>
      rcases List.mem_cons.mp hq with rfl | hq
      · cases a with
        | tup ht r => rw [IsAll.int_inv r] at ht; exact ht
      · exact IsAll.tupsInv b q hq
theorem asc_one {L : List (Addr × List Int)} : ∀ {M N : List (Addr × List Int)}, (M.map (·.2)).Pairwise (· < ·) → (N.map (·.2)).Pairwise (· < ·) → M.Perm N → M = N
  | [], N, _, _, h => (List.nil_perm.mp h).symm
  | x :: M, N, hm, hn, h => by
    cases N with
    | nil => exact (List.perm_nil.mp h)
    | cons y N =>
      rw [List.map_cons, List.pairwise_cons] at hm hn
      have e : x = y := by
        rcases List.mem_cons.mp (h.mem_iff.mp (List.mem_cons_self (a := x) (l := M))) with e | hx
        · exact e
        · rcases List.mem_cons.mp (h.mem_iff.mpr (List.mem_cons_self (a := y) (l := N))) with e | hy
          · exact e.symm
          · exact absurd (ltL_trans (hm.1 _ (List.mem_map.mpr ⟨y, hy, rfl⟩)) (hn.1 _ (List.mem_map.mpr ⟨x, hx, rfl⟩))) (ltL_irr _)
      subst e
      rw [asc_one (L := L) hm.2 hn.2 (List.Perm.cons_inv h)]
theorem asc_ex {L : List (Addr × List Int)} (nd : (L.map (·.2)).Nodup) : ∃ L0 : List (Addr × List Int), L0.Perm L ∧ (L0.map (·.2)).Pairwise (· < ·) := by
  have p := List.mergeSort_perm L (fun q r => decide (q.2 ≤ r.2))
  refine ⟨_, p, ?_⟩
  have hp := List.pairwise_mergeSort (le := fun q r : Addr × List Int => decide (q.2 ≤ r.2)) (fun a b c h1 h2 => decide_eq_true (List.le_trans (of_decide_eq_true h1) (of_decide_eq_true h2))) (fun a b => by
    rcases List.le_total a.2 b.2 with h | h
    · simp [h]
    · simp [h]) L
  have pw2 : ((L.mergeSort fun q r => decide (q.2 ≤ r.2)).map (·.2)).Pairwise (· ≤ ·) := List.pairwise_map.mpr (hp.imp fun h => of_decide_eq_true h)
  have nd2 : ((L.mergeSort fun q r => decide (q.2 ≤ r.2)).map (·.2)).Nodup := (p.map (·.2)).nodup_iff.mpr nd
  refine (pw2.and nd2).imp fun {x y} h => ?_
  by_cases q : x < y
  · exact q
  · exact absurd (List.le_antisymm h.1 (List.not_lt.mp q)) h.2
end
section
variable {X : Cx}
/-- set(t), t a tuple of ints -/
def rSetTI (K : PySem.W.Frag) (w : World) : List V → Hp → VK → Prop := fun xs H Q => ∃ (l : Addr) (ns : List Int), xs = [.ref l] ∧ SqT K H l (ns.map V.int) ∧ ns.length + 1 < scanBound ∧ ∀ a c, H a = none → Q (.ref a) (upd H a (SetO w a (fun k => decide (k ∈ ns)) c))
theorem cr_setTI (hc : X.calm = true) : CallR X (.type "set") (rSetTI X.K X.w) := by
  intro pins s σ H xs us Q I r ⟨l, ns, e, hs, hb, q⟩
  subst e
  rw [Vals.ref1 r]
  obtain ⟨its, rv, pt, hz⟩ := I.tuple hs
  have hi : IntsAre its.toArray.toList ns := ints_of_vals rv
  refine call_set_tupI ns (I.ok.hd hc) (show s.heap.IsTuple l its.toArray from pt) hi hb fun h' tk c R1 hcn k => ?_
  have hn : H s.heap.objs.size = none := I.hok.fresh (Nat.le_refl _)
  exact ⟨.ref _, upd H s.heap.objs.size (SetO X.w s.heap.objs.size (fun k => decide (k ∈ ns)) c), I.laid (t' := tk) k (Nat.le_refl _) (setO_new R1), rfl, q _ c hn⟩
theorem cd_set (hc : X.calm = true) (hu : X.A.units + 200 < cLine) : CallR X (.type "set") (cD (mdOf X) dSet) := by
  intro pins s σ H xs us Q I r ⟨m, W, ds, d, hw, ha, hg, k⟩
  unfold dSet at hg
  split at hg
  · rename_i d0
    obtain ⟨v, rfl, h⟩ := isAll1 ha
    split at hg
    · rename_i ys e
      split at hg
      · rename_i ns en
        split at hg
        · rename_i hl
          cases hg
          have ey := nums_eq en
          obtain ⟨a, vs, rfl, hs, r1⟩ := h.asQ hw e
          have ev := r1.intsOf en
          subst ev
          have hb : ns.length + 1 < scanBound := by unfold scanBound; omega
          have fin : ∀ a c, H a = none → Q (.ref a) (upd H a (SetO X.w a (fun k => decide (k ∈ ns)) c)) := fun a c hn => by
            refine k _ _ (same_upd hn) ?_
            rw [ey, usortD_int]
            exact .set (hw.notIn hn) upd_same (.inl ⟨_, c, sortI ns, rfl, rfl, rfl, sortI_pw ns, fun z => by rw [sortI_mem, decide_eq_true_eq]⟩) (IsAll.ints _)
          rcases hs with hs | hs
          · exact SG.cr_setI hc (by omega) pins s σ H _ us Q I r ⟨a, ns, rfl, hs, hb, fin⟩
          · exact cr_setTI hc pins s σ H _ us Q I r ⟨a, ns, rfl, hs, hb, fin⟩
        · cases hg
      · split at hg
        · rename_i ks et
          split at hg
          · rename_i hl
            cases hg
            have ey := tupsI_eq et
            obtain ⟨a, vs, rfl, hs, r1⟩ := h.asQ hw e
            obtain ⟨l, rfl, rfl, ht⟩ := r1.tups et
            rw [List.length_map] at hl
            have fin : ∀ b L, H b = none → (L.map (·.2)).Nodup → (∀ p ∈ L, p ∈ l) → (∀ p ∈ l, p.2 ∈ L.map (·.2)) → Q (.ref b) (upd H b (GT.GSet X.prog X.w b L)) := fun b L hb nd hsub hall => ?fin
            case fin =>
              obtain ⟨L0, p0, pw0⟩ := asc_ex nd
              have e0 : L0.map (·.2) = sortL (l.map (·.2)) := strict_one pw0 (sortL_pw _) fun z => by
                rw [sortL_mem, (p0.map (·.2)).mem_iff]
                constructor
                · intro hz
                  obtain ⟨q, hq, rfl⟩ := List.mem_map.mp hz
                  exact List.mem_map.mpr ⟨q, hsub q hq, rfl⟩
                · intro hz
                  obtain ⟨q, hq, rfl⟩ := List.mem_map.mp hz
                  exact hall q hq
              refine k _ _ (same_upd hb) ?_
              rw [ey, usortD_tup, ← e0, List.map_map]
              exact .set (hw.notIn hb) upd_same (.inr ⟨L, L0, rfl, p0, rfl, rfl, pw0⟩) (IsAll.tupsOf fun q hq => (ht q (hsub q (p0.mem_iff.mp hq))).mono (Step.upd hb))
            rcases hs with hs | hs
            · exact GT.cr_setG hc (by omega) pins s σ H _ us Q I r ⟨a, l, rfl, hs, fun q hq => (ht q hq).seq, hl, fin⟩
            · exact GT.cr_setGT hc (by omega) pins s σ H _ us Q I r ⟨a, l, rfl, hs, fun q hq => (ht q hq).seq, hl, fin⟩
          · cases hg
        · cases hg
    · cases hg
  · cases hg
theorem cd_sort (hc : X.calm = true) (hu : X.A.units + 200 < cLine) : CallR X (.builtin "sorted") (cD (mdOf X) dSort) := by
  intro pins s σ H xs us Q I r ⟨m, W, ds, d, hw, ha, hg, k⟩
  unfold dSort at hg
  split at hg
  · split at hg
    · rename_i ys hcnd
      cases hg
      obtain ⟨v, rfl, h⟩ := isAll1 ha
      cases h with
      | set n e so r1 =>
        rcases so with ⟨S, c, ns, rfl, rfl, rfl, pw, hm⟩ | ⟨L, L0, rfl, p0, rfl, rfl, pw⟩
        · refine SG.cr_sortI hc (by omega) pins s σ H _ us Q I r ⟨_, S, c, rfl, e, fun ns' p pw' hm' hp => ?_⟩
          have : ns' = ns := strict_oneI pw' pw fun z => (hm' z).trans (hm z).symm
          subst this
          exact k _ _ (same_upd hp) (hw.newL hp (IsAll.ints _))
        · have ht := r1.tupsInv
          refine GT.cr_sortG hc (by omega) pins s σ H _ us Q I r ⟨_, L, rfl, e, fun q hq => (ht q (p0.mem_iff.mpr hq)).seq, fun h2 q hq => ?_, fun L' p hperm hpw hp => ?_⟩
          · have hq0 := p0.mem_iff.mpr hq
            have hl0 : 2 ≤ L0.length := by rw [p0.length_eq]; exact h2
            rcases hcnd with z | z | z
            · rw [List.length_map] at z; omega
            · have := List.all_eq_true.mp z (tupD q.2) (List.mem_map.mpr ⟨q, hq0, rfl⟩)
              intro e0
              rw [e0] at this
              cases this
            · have := List.all_eq_true.mp z (tupD q.2) (List.mem_map.mpr ⟨q, hq0, rfl⟩)
              cases this
          · have e2 : L' = L0 := by
              refine asc_one (L := []) ?_ pw (hperm.trans p0.symm)
              have pw2 : (L'.map (·.2)).Pairwise (· ≤ ·) := List.pairwise_map.mpr hpw
              have nd0 : (L0.map (·.2)).Nodup := List.Pairwise.imp (R := fun x y : List Int => x < y) (S := fun x y => x ≠ y) (fun {x y} h e => ltL_irr x (by rw [← e] at h; exact h)) pw
              have nd : (L'.map (·.2)).Nodup := ((hperm.trans p0.symm).map (·.2)).nodup_iff.mpr nd0
              refine (pw2.and nd).imp fun {x y} h => ?_
              by_cases q : x < y
              · exact q
              · exact absurd (List.le_antisymm h.1 (List.not_lt.mp q)) h.2
            subst e2
            exact k _ _ (same_upd hp) (hw.newL hp r1)
    · cases hg
  · exact cd_sorted hu pins s σ H xs us Q I r ⟨m, W, ds, d, hw, ha, hg, k⟩
theorem cd_lenS : CallR X (.builtin "len") (cD (mdOf X) dLenS) := by
  intro pins s σ H xs us Q I r ⟨m, W, ds, d, hw, ha, hg, k⟩
  unfold dLenS at hg
  split at hg
  · cases hg
    obtain ⟨v, rfl, h⟩ := isAll1 ha
    cases h with
    | set n e so r1 =>
      rcases so with ⟨S, c, ns, rfl, rfl, rfl, pw, hm⟩ | ⟨L, L0, rfl, p0, rfl, rfl, pw⟩
      · refine GT.cr_lenG pins s σ H _ us Q I r (.inl ⟨_, S, c, rfl, e, fun ns' nd hm' => ?_⟩)
        have hl : ns'.length = ns.length := by
          have nd2 : ns.Nodup := pw.imp fun {x y} h e => by omega
          exact Nat.le_antisymm (nd.length_le_of_subset fun z hz => (hm z).mpr ((hm' z).mp hz)) (nd2.length_le_of_subset fun z hz => (hm' z).mpr ((hm z).mp hz))
        rw [hl, ← List.length_map (f := D.int)]
        exact k _ _ (Same.refl H) (.int _)
      · refine GT.cr_lenG pins s σ H _ us Q I r (.inr ⟨_, L, rfl, e, ?_⟩)
        rw [← p0.length_eq, ← List.length_map (f := fun p : Addr × List Int => tupD p.2)]
        exact k _ _ (Same.refl H) (.int _)
  · cases hg
    obtain ⟨v, rfl, h⟩ := isAll1 ha
    obtain ⟨a, o, ks, rfl, e, rk⟩ := h.asK
    rw [Vals.ref1 r]
    refine TD.f_len I e fun t s' I' => ⟨.int ks.length, H, I', ⟨t, rfl⟩, ?_⟩
    rw [rk.length]
    exact k _ _ (Same.refl H) (.int _)
  · cases hg
    obtain ⟨v, rfl, h⟩ := isAll1 ha
    obtain ⟨a, o, ys, vs, rfl, n, e, hk, ek, hv, ri⟩ := h.asX
    rw [Vals.ref1 r]
    refine TD.t_len I e (fun x hx => (hk x hx).seq) fun t s' I' => ⟨.int ys.length, H, I', ⟨t, rfl⟩, ?_⟩
    rw [ek, List.length_map] at k
    exact k _ _ (Same.refl H) (.int _)
  · exact cd_len pins s σ H xs us Q I r ⟨m, W, ds, d, hw, ha, hg, k⟩
/-! ### max, min -/
def maxI : Int → List Int → Int
  | m, [] => m
  | m, x :: xs => maxI (if m < x then x else m) xs
def minI : Int → List Int → Int
  | m, [] => m
  | m, x :: xs => minI (if x < m then x else m) xs
theorem maxI_ok : ∀ (l : List Int) (m : Int), maxI m l ∈ m :: l ∧ ∀ y ∈ m :: l, y ≤ maxI m l
  | [], m => by simp [maxI]
  | x :: xs, m => by
    obtain ⟨h1, h2⟩ := maxI_ok xs (if m < x then x else m)
    rw [maxI]
    refine ⟨?_, fun y hy => ?_⟩
    · rcases List.mem_cons.mp h1 with h | h
      · rw [h]; split <;> simp
      · simp [h]
    · have h3 := h2 (if m < x then x else m) (by simp)
      rcases List.mem_cons.mp hy with rfl | hy
      · refine Int.le_trans ?_ h3; split <;> omega
      · rcases List.mem_cons.mp hy with rfl | hy
        · refine Int.le_trans ?_ h3; split <;> omega
        · exact h2 y (by simp [hy])
theorem minI_ok : ∀ (l : List Int) (m : Int), minI m l ∈ m :: l ∧ ∀ y ∈ m :: l, minI m l ≤ y
  | [], m => by simp [minI]
  | x :: xs, m => by
    obtain ⟨h1, h2⟩ := minI_ok xs (if x < m then x else m)
    rw [minI]
    refine ⟨?_, fun y hy => ?_⟩
    · rcases List.mem_cons.mp h1 with h | h
      · rw [h]; split <;> simp
      · simp [h]
    · have h3 := h2 (if x < m then x else m) (by simp)
      rcases List.mem_cons.mp hy with rfl | hy
      · refine Int.le_trans h3 ?_; split <;> omega
      · rcases List.mem_cons.mp hy with rfl | hy
        · refine Int.le_trans h3 ?_; split <;> omega
        · exact h2 y (by simp [hy])
def dMax (W : Wd) : List D → Option D
  | [.int i, .int j] => some (.int (if j > i then j else i))
  | [d] => match asL W d with
    | some xs => match nums xs with
      | some (n :: ns) => some (.int (maxI n ns))
      | _ => none
    | none => none
  | _ => none
def dMin (W : Wd) : List D → Option D
  | [.int i, .int j] => some (.int (if j < i then j else i))
  | [d] => match asL W d with
    | some xs => match nums xs with
      | some (n :: ns) => some (.int (minI n ns))
      | _ => none
    | none => none
  | _ => none
theorem isAll2 {M : Md} {m : Ms} {H : Hp} {xs : List V} {d e : D} (h : IsAll M m H xs [d, e]) : ∃ v w, xs = [v, w] ∧ Is M m H v d ∧ Is M m H w e := by
  cases h with
  | cons a b => cases b with
    | cons b c => cases c; exact ⟨_, _, rfl, a, b⟩
theorem cd_max (hc : X.calm = true) : CallR X (.builtin "max") (cD (mdOf X) dMax) := by
  intro pins s σ H xs us Q I r ⟨m, W, ds, d, hw, ha, hg, k⟩
  unfold dMax at hg
  split at hg
  · cases hg
    obtain ⟨v, w, rfl, h1, h2⟩ := isAll2 ha
    cases h1; cases h2
    exact call_max2 hc pins s σ H _ us Q I r ⟨_, _, rfl, k _ _ (Same.refl H) (.int _)⟩
  · split at hg
    · rename_i e
      split at hg
      · rename_i n ns en
        cases hg
        obtain ⟨v, rfl, h⟩ := isAll1 ha
        obtain ⟨a, vs, rfl, hs, r1⟩ := h.asL hw e
        have ev := r1.intsOf en
        subst ev
        obtain ⟨q1, q2⟩ := maxI_ok ns n
        refine cr_max hc pins s σ H _ us Q I r ⟨a, n :: ns, rfl, SqL.of hs, by simp, fun z hz hle => ?_⟩
        have : z = maxI n ns := Int.le_antisymm (q2 z hz) (hle _ q1)
        subst this
        exact k _ _ (Same.refl H) (.int _)
      · cases hg
    · cases hg
  · cases hg
theorem cd_min (hc : X.calm = true) : CallR X (.builtin "min") (cD (mdOf X) dMin) := by
  intro pins s σ H xs us Q I r ⟨m, W, ds, d, hw, ha, hg, k⟩
  unfold dMin at hg
  split at hg
  · cases hg
    obtain ⟨v, w, rfl, h1, h2⟩ := isAll2 ha
    cases h1; cases h2
    exact call_min2 hc pins s σ H _ us Q I r ⟨_, _, rfl, k _ _ (Same.refl H) (.int _)⟩
  · split at hg
    · rename_i e
      split at hg
      · rename_i n ns en
        cases hg
        obtain ⟨v, rfl, h⟩ := isAll1 ha
        obtain ⟨a, vs, rfl, hs, r1⟩ := h.asL hw e
        have ev := r1.intsOf en
        subst ev
        obtain ⟨q1, q2⟩ := minI_ok ns n
        refine cr_min hc pins s σ H _ us Q I r ⟨a, n :: ns, rfl, SqL.of hs, by simp, fun z hz hle => ?_⟩
        have : z = minI n ns := Int.le_antisymm (hle _ q1) (q2 z hz)
        subst this
        exact k _ _ (Same.refl H) (.int _)
      · cases hg
    · cases hg
  · cases hg
end
end PL

/-! PL5: the small language: codes, and what they give. -/
namespace PL
open PySem PySem.Spec PyProof.Rows L2

/-- an own error: its class's name, its field -/
structure Ex where
  cls : Str
  fld : Option (Str × D)
inductive R (α : Type) where
  | ok (a : α) (W : Wd)
  | err (e : Ex) (W : Wd)
  | bad
abbrev EnvD := List (Option D)
def R.bnd {α β : Type} : R α → (α → Wd → R β) → R β
  | .ok a W, f => f a W
  | .err e W, _ => .err e W
  | .bad, _ => .bad
/-- where nothing may be raised -/
def R.bndX {α β : Type} : R α → (α → Wd → R β) → R β
  | .ok a W, f => f a W
  | _, _ => .bad
def ofO {α : Type} (o : Option α) (W : Wd) : R α := match o with
  | some a => .ok a W
  | none => .bad

inductive T where
  | nm (i : Nat)
  | tp (ts : List T)
/-- methods of one argument -/
inductive Mt where
  | index
  | count
  | join
  deriving DecidableEq
mutual
inductive C where
  | var (i : Nat)
  | cst (d : D)
  | glo (x : Str) (d : D)
  | tup (es : Cs)
  | lst (es : Cs)
  | bin (o : Operator) (a b : C)
  | neg (a : C)
  | not (a : C)
  | and (es : Cs)
  | or (es : Cs)
  | cmp (o : CmpOp) (a b : C)
  | cmp2 (o p : CmpOp) (a b c : C)
  | ite (t a b : C)
  | call (f : Str) (es : Cs)
  | bi (f : Str) (es : Cs)
  | isi (a : C) (T : String)
  | get (o k d : C)
  | ix (a i : C)
  | sl (a : C) (lo hi : Co)
  | lc (own : List (Str × Nat)) (t : T) (w : I) (ifs : Cs) (e : C)
  | lzip (a b : C)
  | lrg1 (a : C)
  | lrg2 (a b : C)
  | new (es : Cs)
  | lc2 (own : List (Str × Nat)) (t : T) (w : I) (ifs : Cs) (vs1 : List Nat) (t1 : T) (w1 : I) (ifs1 : Cs) (e : C)
  | mt1 (k : Mt) (a e : C)
  | rev (a : C)
inductive Cs where
  | nil
  | cons (c : C) (cs : Cs)
inductive Co where
  | no
  | yes (c : C)
inductive I where
  | seq (c : C)
  | rng1 (c : C)
  | rng2 (a b : C)
  | enum (c : C)
  | zip (a b : C)
end
mutual
inductive S where
  | asg (t : T) (c : C)
  | put (a i v : C)
  | app (i : Nat) (c : C)
  | ex (c : C)
  | ret (c : C)
  | ret0
  | ife (c : C) (a b : Ss)
  | for_ (t : T) (w : I) (b : Ss)
  | whl (c : C) (b : Ss)
  | pass
  | no
inductive Ss where
  | nil
  | cons (s : S) (r : Ss)
end

/-! ### targets -/
mutual
def T.put (W : Wd) : T → D → EnvD → Option EnvD
  | .nm i, d, ρ => if i < ρ.length then some (ρ.set i (some d)) else none
  | .tp ts, d, ρ => match d with
    | .tup xs => if xs.length = ts.length then T.puts W ts xs ρ else none
    | _ => none
def T.puts (W : Wd) : List T → List D → EnvD → Option EnvD
  | t :: ts, d :: ds, ρ => match T.put W t d ρ with
    | some ρ' => T.puts W ts ds ρ'
    | none => none
  | _, _, ρ => some ρ
end
/-- own names forgotten -/
def wipeD (ρ : EnvD) : List Nat → EnvD
  | [] => ρ
  | v :: vs => (wipeD ρ vs).set v none

/-! ### operators by their signs -/
def dBin : Operator → Wd → D → D → Option D
  | .Add => dAdd
  | .Sub => dSub
  | .Mult => dMul
  | .FloorDiv => dDiv
  | .Mod => dMod
  | .Pow => dPow
  | _ => fun _ _ _ => none
def dCmp : CmpOp → Wd → D → D → Option D
  | .Eq => oB dEq
  | .NotEq => oNB dEq
  | .Lt => oB dLt
  | .LtE => oB dLe
  | .Gt => oB dGt
  | .GtE => oB dGe
  | .Is => oB dIs
  | .IsNot => oNB dIs
  | .In => oB dIn
  | .NotIn => oNB dIn
def biOf (f : Str) : Option (Wd → List D → Option D) :=
  if f = "len" then some dLenS else if f = "all" then some dAll else if f = "any" then some dAny else if f = "sum" then some dSum
  else if f = "list" then some dList else if f = "tuple" then some dTuple else if f = "abs" then some dAbs else if f = "int" then some dInt
  else if f = "repr" then some dRepr else if f = "dict" then some dDict
  else if f = "set" then some dSet else if f = "sorted" then some dSort else if f = "max" then some dMax else if f = "min" then some dMin else none
def dIx (W : Wd) (a i : D) : Option D := match i with
  | .int j => match a with
    | .str x => if x.length ≤ 16777216 then (atI x.cps.toList j).map fun c => .str ⟨#[c]⟩ else none
    | a => (asQ W a).bind fun xs => atI xs j
  | _ => none
/-- d[k], the key there -/
def dDx (a i : D) : Option D := match a with
  | .dct kvs => (asKey i).bind fun k => keyGet kvs k
  | _ => none
/-- x[i], of lists, of dicts -/
def dIxA (W : Wd) (a i : D) : Option D := match a with
  | .dct kvs => (asKey i).bind fun k => keyGet kvs k
  | .dtt ks ds => match i with
    | .tup xs => (nums xs).bind fun k => tabGet ks ds k
    | _ => none
  | a => dIx W a i
def isDct : D → Bool
  | .dct _ => true
  | .dtt _ _ => true
  | _ => false
def strsD : List D → Option (List Str)
  | [] => some []
  | .str x :: r => (strsD r).map (x :: ·)
  | _ => none
/-- x.m(y) -/
def dMt (k : Mt) (W : Wd) (a x : D) : Option D := match k with
  | .index => match asL W a with
    | some xs => match D.pys xs, pyW W x with
      | some ps, some p => if SeqAt.shaped (.list ps) = true ∧ SeqAt.shaped p = true then (ps.findIdx? fun z => PyData.eqv z p).map fun (j : Nat) => .int (j : Int) else none
      | _, _ => none
    | none => none
  | .count => match asL W a with
    | some xs => match D.pys xs, pyW W x with
      | some ps, some p => if PyData.plainAll ps = true ∧ p.plain = true ∧ min (PyData.depthAll ps) p.depth ≤ 100 then some (.int ((ps.countP fun z => PyData.eqv z p : Nat) : Int)) else none
      | _, _ => none
    | none => none
  | .join => match a with
    | .str z => match asQ W x with
      | some xs => match strsD xs with
        | some ys => if (ys.map (·.length)).sum + ys.length * z.length ≤ 16777216 then some (.str (Txt.join z ys)) else none
        | none => none
      | none => none
    | _ => none
def mtOk (k : Mt) (a : D) : Bool := match k, a with
  | .join, .str _ => true
  | .join, _ => false
  | _, .lst _ => true
  | _, .ref _ => true
  | _, _ => false
def dRev (W : Wd) (a : D) : Option D := (asL W a).map fun xs => .lst xs.reverse
def cutD {α : Type} (xs : List α) (lo hi : Option Int) : List α := (xs.drop (HT.sIx xs.length 0 lo)).take (HT.sIx xs.length xs.length hi - HT.sIx xs.length 0 lo)
def dSl (W : Wd) (a : D) (lo hi : Option Int) : Option D := match a with
  | .str x => if x.length ≤ 16777216 then some (.str ⟨(cutD x.cps.toList lo hi).toArray⟩) else none
  | .tup xs => some (.tup (cutD xs lo hi))
  | a => (asL W a).map fun xs => .lst (cutD xs lo hi)
def dGet (kvs : List (Key × D)) (k d : D) : Option D := (asKey k).map fun k => (keyGet kvs k).getD d
/-- x.get(y, z), whatever the keys -/
def dGetD : D → D → D → Option D
  | .dct kvs, .tup xs, z => match kvs with
    | [] => (nums xs).map fun _ => z
    | _ => none
  | .dct kvs, y, z => dGet kvs y z
  | .dtt ks ds, .tup xs, z => (nums xs).map fun k => (tabGet ks ds k).getD z
  | _, _, _ => none
def keyD : Key → Option D
  | .inl i => some (.int i)
  | .inr x => if PyData.strOk x = true then some (.str x) else none
def keysD : List (Key × D) → Option (List D)
  | [] => some []
  | kv :: r => match keyD kv.1, keysD r with
    | some d, some ds => some (d :: ds)
    | _, _ => none
def dRange (lo hi : Int) : Option (List D) := if -(2 ^ 62) ≤ lo ∧ lo < 2 ^ 62 ∧ -(2 ^ 62) ≤ hi ∧ hi < 2 ^ 62 then some ((List.range (hi - lo).toNat).map fun (i : Nat) => D.int (lo + (i : Int))) else none
/-- list(range(a, b)) -/
def dLrg (a b : D) : Option D := match a, b with
  | .int i, .int j => if (j - i).toNat ≤ 16777216 then (dRange i j).map .lst else none
  | _, _ => none
def pairD (a b : D) : D := .tup [a, b]
def dEnum (W : Wd) (a : D) : Option (List D) := (asL W a).map fun xs => (List.range xs.length).zipWith (fun i x => pairD (.int (i : Nat)) x) xs
def dZip (W : Wd) (a b : D) : Option (List D) := match asQ W a, asQ W b with
  | some xs, some ys => some (xs.zipWith pairD ys)
  | _, _ => none

/-! ### loops -/
def lcLoop (asg : D → Wd → Option EnvD) (tst : EnvD → Wd → R Bool) (elt : EnvD → Wd → R D) : List D → Wd → R (List D)
  | [], W => .ok [] W
  | d :: ds, W => match asg d W with
    | none => .bad
    | some ρ => (tst ρ W).bndX fun b W1 => if b = true then (elt ρ W1).bndX fun y W2 => (lcLoop asg tst elt ds W2).bndX fun ys W3 => .ok (y :: ys) W3 else lcLoop asg tst elt ds W1
def lc2Loop (asg : D → Wd → Option EnvD) (tst : EnvD → Wd → R Bool) (inn : EnvD → Wd → R (List D)) : List D → Wd → R (List D)
  | [], W => .ok [] W
  | d :: ds, W => match asg d W with
    | none => .bad
    | some ρ => (tst ρ W).bndX fun b W1 => if b = true then (inn ρ W1).bndX fun ys W2 => (lc2Loop asg tst inn ds W2).bndX fun zs W3 => .ok (ys ++ zs) W3 else lc2Loop asg tst inn ds W1
inductive SR where
  | nx (ρ : EnvD) (W : Wd)
  | rt (d : D) (W : Wd)
  | err (e : Ex) (W : Wd)
  | bad
def SR.thn : SR → (EnvD → Wd → SR) → SR
  | .nx ρ W, f => f ρ W
  | r, _ => r
def R.thnS {α : Type} : R α → (α → Wd → SR) → SR
  | .ok a W, f => f a W
  | .err e W, _ => .err e W
  | .bad, _ => .bad
def forLoop (asg : D → EnvD → Wd → Option EnvD) (body : EnvD → Wd → SR) : List D → EnvD → Wd → SR
  | [], ρ, W => .nx ρ W
  | d :: ds, ρ, W => match asg d ρ W with
    | none => .bad
    | some ρ1 => (body ρ1 W).thn fun ρ2 W2 => forLoop asg body ds ρ2 W2
def whlLoop (c : EnvD → Wd → R Bool) (body : EnvD → Wd → SR) : Nat → EnvD → Wd → SR
  | 0, _, _ => .bad
  | n + 1, ρ, W => (c ρ W).thnS fun b W1 => if b = true then (body ρ W1).thn fun ρ2 W2 => whlLoop c body n ρ2 W2 else .nx ρ W1

/-! ### what codes give; Δ: what the defs give -/
abbrev Tab := Str → List D → Wd → R D
def truR (r : R D) : R Bool := r.bnd fun d W => ofO (truth W d) W
section
variable (Δ : Tab)
mutual
def run : C → EnvD → Wd → R D
  | .var i, ρ, W => match ρ[i]? with
    | some (some d) => .ok d W
    | _ => .bad
  | .cst d, _, W => .ok d W
  | .glo _ d, _, W => .ok d W
  | .tup es, ρ, W => (runs es ρ W).bnd fun ds W => if ds.length ≤ 16777216 then .ok (.tup ds) W else .bad
  | .lst es, ρ, W => (runs es ρ W).bnd fun ds W => if ds.length ≤ 16777216 then .ok (.lst ds) W else .bad
  | .bin o a b, ρ, W => (run a ρ W).bnd fun x W => (run b ρ W).bnd fun y W => ofO (dBin o W x y) W
  | .neg a, ρ, W => (run a ρ W).bnd fun x W => ofO (dNeg W x) W
  | .not a, ρ, W => (run a ρ W).bnd fun x W => (ofO (truth W x) W).bnd fun b W => .ok (.bl !b) W
  | .and es, ρ, W => runAnd es ρ W
  | .or es, ρ, W => runOr es ρ W
  | .cmp o a b, ρ, W => (run a ρ W).bnd fun x W => (run b ρ W).bnd fun y W => ofO (dCmp o W x y) W
  | .cmp2 o p a b c, ρ, W => (run a ρ W).bnd fun x W => (run b ρ W).bnd fun y W => (ofO (dCmp o W x y) W).bnd fun z W => match z with
    | .bl true => (run c ρ W).bnd fun w W => ofO (dCmp p W y w) W
    | .bl false => .ok (.bl false) W
    | _ => .bad
  | .ite t a b, ρ, W => (truR (run t ρ W)).bnd fun k W => if k = true then run a ρ W else run b ρ W
  | .call f es, ρ, W => (runs es ρ W).bnd fun ds W => Δ f ds W
  | .bi f es, ρ, W => (runs es ρ W).bnd fun ds W => match biOf f with
    | some g => ofO (g W ds) W
    | none => .bad
  | .isi a T, ρ, W => (run a ρ W).bnd fun x W => match tyName W x with
    | some A => .ok (.bl (isiB A T)) W
    | none => .bad
  | .get o k d, ρ, W => (run o ρ W).bnd fun x W => if isDct x = true then (run k ρ W).bnd fun y W => (run d ρ W).bnd fun z W => ofO (dGetD x y z) W else .bad
  | .ix a i, ρ, W => (run a ρ W).bnd fun x W => (run i ρ W).bnd fun y W => ofO (dIxA W x y) W
  | .sl a lo hi, ρ, W => (run a ρ W).bnd fun x W => (runo lo ρ W).bnd fun l W => (runo hi ρ W).bnd fun h W => ofO (dSl W x l h) W
  | .lc own t w ifs e, ρ, W => (runI w ρ W).bnd fun ds W => (lcLoop (fun d W => t.put W d (wipeD ρ (own.map (·.2)))) (runT ifs) (run e) ds W).bndX fun ys W => if ys.length ≤ 16777216 then .ok (.lst ys) W else .bad
  | .lzip a b, ρ, W => (run a ρ W).bnd fun x W => (run b ρ W).bnd fun y W => (ofO (dZip W x y) W).bnd fun ds W => if ds.length ≤ 16777216 then .ok (.lst ds) W else .bad
  | .lrg1 a, ρ, W => (run a ρ W).bnd fun x W => ofO (dLrg (.int 0) x) W
  | .lrg2 a b, ρ, W => (run a ρ W).bnd fun x W => (run b ρ W).bnd fun y W => ofO (dLrg x y) W
  | .lc2 own t w ifs vs1 t1 w1 ifs1 e, ρ, W => (runI w ρ W).bnd fun ds W => (lc2Loop (fun d W => t.put W d (wipeD ρ (own.map (·.2)))) (runT ifs) (fun ρ1 W => (runI w1 ρ1 W).bndX fun es W => lcLoop (fun d W => t1.put W d (wipeD ρ1 vs1)) (runT ifs1) (run e) es W) ds W).bndX fun ys W => if ys.length ≤ 16777216 then .ok (.lst ys) W else .bad
  | .mt1 k a e, ρ, W => (run a ρ W).bnd fun x W => if mtOk k x = true then (run e ρ W).bnd fun y W => ofO (dMt k W x y) W else .bad
  | .rev a, ρ, W => (run a ρ W).bnd fun x W => ofO (dRev W x) W
  | .new es, ρ, W => (runs es ρ W).bnd fun ds W => if ds.length ≤ 16777216 then .ok (.ref W.length) (W ++ [ds]) else .bad
def runs : Cs → EnvD → Wd → R (List D)
  | .nil, _, W => .ok [] W
  | .cons c cs, ρ, W => (run c ρ W).bnd fun x W => (runs cs ρ W).bnd fun xs W => .ok (x :: xs) W
def runAnd : Cs → EnvD → Wd → R D
  | .nil, _, _ => .bad
  | .cons a .nil, ρ, W => run a ρ W
  | .cons a (.cons b cs), ρ, W => (run a ρ W).bnd fun x W => (ofO (truth W x) W).bnd fun t W => if t = true then runAnd (.cons b cs) ρ W else .ok x W
def runOr : Cs → EnvD → Wd → R D
  | .nil, _, _ => .bad
  | .cons a .nil, ρ, W => run a ρ W
  | .cons a (.cons b cs), ρ, W => (run a ρ W).bnd fun x W => (ofO (truth W x) W).bnd fun t W => if t = true then .ok x W else runOr (.cons b cs) ρ W
/-- tests, all of them -/
def runT : Cs → EnvD → Wd → R Bool
  | .nil, _, W => .ok true W
  | .cons c .nil, ρ, W => truR (run c ρ W)
  | .cons _ (.cons _ _), _, _ => .bad
def runo : Co → EnvD → Wd → R (Option Int)
  | .no, _, W => .ok none W
  | .yes c, ρ, W => (run c ρ W).bnd fun x W => match x with
    | .int i => .ok (some i) W
    | _ => .bad
def runI : I → EnvD → Wd → R (List D)
  | .seq c, ρ, W => (run c ρ W).bnd fun x W => match x with
    | .lst xs => .ok xs W
    | .tup xs => .ok xs W
    | .dct kvs => ofO (keysD kvs) W
    | .dtt ks _ => .ok (ks.map tupD) W
    | _ => .bad
  | .rng1 c, ρ, W => (run c ρ W).bnd fun x W => match x with
    | .int j => ofO (dRange 0 j) W
    | _ => .bad
  | .rng2 a b, ρ, W => (run a ρ W).bnd fun x W => (run b ρ W).bnd fun y W => match x, y with
    | .int i, .int j => ofO (dRange i j) W
    | _, _ => .bad
  | .enum c, ρ, W => (run c ρ W).bnd fun x W => match x with
    | .lst _ => ofO (dEnum W x) W
    | _ => .bad
  | .zip a b, ρ, W => (run a ρ W).bnd fun x W => (run b ρ W).bnd fun y W => match x, y with
    | .lst _, .lst _ => ofO (dZip W x y) W
    | .tup _, .tup _ => ofO (dZip W x y) W
    | _, _ => .bad
end
mutual
def runS : S → EnvD → Wd → SR
  | .asg t c, ρ, W => (run Δ c ρ W).thnS fun d W => match t.put W d ρ with
    | some ρ' => .nx ρ' W
    | none => .bad
  | .put a i v, ρ, W => (run Δ v ρ W).thnS fun z W => (run Δ a ρ W).thnS fun x W => (run Δ i ρ W).thnS fun y W => match x, y with
    | .ref r, .int j => match W[r]? with
      | some xs => match ixN xs.length j with
        | some n => .nx ρ (W.set r (xs.set n z))
        | none => .bad
      | none => .bad
    | _, _ => .bad
  | .app i c, ρ, W => match ρ[i]? with
    | some (some (.ref r)) => (run Δ c ρ W).thnS fun z W => match W[r]? with
      | some xs => if xs.length < 16777216 then .nx ρ (W.set r (xs ++ [z])) else .bad
      | none => .bad
    | _ => .bad
  | .ex c, ρ, W => (run Δ c ρ W).thnS fun _ W => .nx ρ W
  | .ret c, ρ, W => (run Δ c ρ W).thnS fun d W => .rt d W
  | .ret0, _, W => .rt .non W
  | .ife c a b, ρ, W => (truR (run Δ c ρ W)).thnS fun k W => if k = true then runSs a ρ W else runSs b ρ W
  | .for_ t w b, ρ, W => (runI Δ w ρ W).thnS fun ds W => forLoop (fun d ρ W => t.put W d ρ) (runSs b) ds ρ W
  | .whl c b, ρ, W => whlLoop (fun ρ W => truR (run Δ c ρ W)) (runSs b) 1000000000 ρ W
  | .pass, ρ, W => .nx ρ W
  | .no, _, _ => .bad
def runSs : Ss → EnvD → Wd → SR
  | .nil, ρ, W => .nx ρ W
  | .cons s r, ρ, W => (runS s ρ W).thn fun ρ W => runSs r ρ W
end
end

/-! ### a program -/
structure Fn where
  many : Nat
  slots : Nat
  maker : Bool
  body : Ss
mutual
def D.low (n : Nat) : D → Bool
  | .ref i => decide (i < n)
  | .tup xs => D.lows n xs
  | .lst xs => D.lows n xs
  | .dct kvs => D.lowK n kvs
  | .dtt _ ds => D.lows n ds
  | .set xs => D.lows n xs
  | _ => true
def D.lows (n : Nat) : List D → Bool
  | [] => true
  | x :: xs => D.low n x && D.lows n xs
def D.lowK (n : Nat) : List (Key × D) → Bool
  | [] => true
  | (_, x) :: xs => D.low n x && D.lowK n xs
end
/-- the changing lists made within go; the value given back is a list of its own then -/
def leave (n : Nat) (d : D) (W : Wd) : R D :=
  if W.length ≤ n then .ok d W else if ((W.take n).all (D.lows n)) = true then match d with
  | .ref i => if i < n then .ok (.ref i) (W.take n) else match W[i]? with
    | some xs => if D.lows n xs = true then .ok (.lst xs) (W.take n) else .bad
    | none => .bad
  | d => if D.low n d = true then .ok d (W.take n) else .bad
  else .bad
def fnRun (Δ : Tab) (f : Fn) (ds : List D) (W : Wd) : R D :=
  if ds.length = f.many then match runSs Δ f.body (ds.map some ++ List.replicate (f.slots - f.many) none) W with
    | .nx _ W' => if f.maker = true then .bad else leave W.length .non W'
    | .rt d W' => if f.maker = true then .ok d W' else leave W.length d W'
    | .err e W' => if W'.length ≤ W.length then .err e W' else .bad
    | .bad => .bad
  else .bad
abbrev Prog := List (Str × Fn)
def callK (P : Prog) : Nat → Tab
  | 0, _, _, _ => .bad
  | k + 1, f, ds, W => match P.lookup f with
    | some fn => fnRun (callK P k) fn ds W
    | none => .bad
end PL

/-! PL6: readings by data. -/
namespace PL
open PySem PySem.Spec PyProof.Rows L2

/-! ### items and slices by data -/
theorem atI_all {M : Md} {m : Ms} {H : Hp} {vs : List V} {ds : List D} {i : Int} {d : D} (h : IsAll M m H vs ds) (e : atI ds i = some d) : ∃ v, atI vs i = some v ∧ Is M m H v d := by
  unfold atI at e ⊢
  rw [h.length]
  cases q : ixN ds.length i with
  | none => rw [q] at e; cases e
  | some j =>
    rw [q] at e
    exact h.get e
theorem strOk_one {x : Str} (h : PyData.strOk x = true) {c : Nat} (hc : c ∈ x.cps.toList) : PyData.strOk ⟨#[c]⟩ = true := by
  unfold PyData.strOk at *
  rw [← Array.all_toList] at *
  have := List.all_eq_true.mp h c hc
  simpa using this
theorem atI_mem {α : Type} {xs : List α} {i : Int} {c : α} (h : atI xs i = some c) : c ∈ xs := by
  unfold atI at h
  cases q : ixN xs.length i with
  | none => rw [q] at h; cases h
  | some j => rw [q] at h; exact List.mem_of_getElem? h
theorem strOk_cut {x : Str} (h : PyData.strOk x = true) (lo hi : Option Int) : PyData.strOk ⟨(cutD x.cps.toList lo hi).toArray⟩ = true := by
  unfold PyData.strOk at *
  rw [← Array.all_toList] at *
  refine List.all_eq_true.mpr fun c hc => List.all_eq_true.mp h c ?_
  unfold cutD at hc
  exact List.mem_of_mem_drop (List.mem_of_mem_take hc)
section
variable {X : Cx}
/-- x[i] -/
def rIxD (M : Md) : R2 := fun x y H Q => ∃ m W a b d, WOk M m W H ∧ Is M m H x a ∧ Is M m H y b ∧ dIx W a b = some d ∧ ∀ v, Is M m H v d → Q v H
theorem ixd : IxR X (rIxD (mdOf X)) := by
  intro value slice pins s σ H x y v u Q I rx ry ⟨m, W, a, b, d, hw, ha, hb, hg, k⟩ hs
  unfold dIx at hg
  split at hg
  · cases hb
    split at hg
    · split at hg
      · rename_i hl
        obtain ⟨c, e, rfl⟩ := some_map hg
        cases ha with
        | str z h1 => exact ix_seq value slice pins s σ H _ _ v u Q I rx ry (.inr (.inr ⟨_, _, c, rfl, rfl, by rw [sizeLine_eq]; exact hl, e, k _ (.str _ (strOk_one h1 (atI_mem e)))⟩)) hs
      · cases hg
    · obtain ⟨xs, e1, e2⟩ := Option.bind_eq_some_iff.mp hg
      obtain ⟨p, ys, rfl, hq, r⟩ := ha.asQ hw e1
      obtain ⟨w, e3, h3⟩ := atI_all r e2
      rcases hq with hq | hq
      · exact ix_seq value slice pins s σ H _ _ v u Q I rx ry (.inl ⟨_, _, _, _, rfl, rfl, hq, e3, k _ h3⟩) hs
      · exact ix_seq value slice pins s σ H _ _ v u Q I rx ry (.inr (.inl ⟨_, _, _, _, rfl, rfl, hq, e3, k _ h3⟩)) hs
  · cases hg
def rSlD (M : Md) : V → Option Int → Option Int → Hp → VK → Prop := fun x lo hi H Q => ∃ m W a d, WOk M m W H ∧ Is M m H x a ∧ dSl W a lo hi = some d ∧ ∀ v H', Same H H' → Is M m H' v d → Q v H'
theorem cutS_eq (z : Str) (lo hi : Option Int) : cutS z lo hi = ⟨(cutD z.cps.toList lo hi).toArray⟩ := by
  have e : z.length = z.cps.toList.length := TL.len_tl z
  unfold cutS cutD
  rw [e]
theorem IsAll.cut {M : Md} {m : Ms} {H : Hp} {vs : List V} {ds : List D} (h : IsAll M m H vs ds) (lo hi : Option Int) : IsAll M m H (cutV vs lo hi) (cutD ds lo hi) := by
  unfold cutV cutD
  rw [h.length]
  exact (h.drop _).take _
theorem cut_whole {α : Type} {xs : List α} {lo hi : Option Int} (h : HT.sIx xs.length 0 lo = 0 ∧ HT.sIx xs.length xs.length hi = xs.length) : cutD xs lo hi = xs := by
  unfold cutD
  rw [h.1, h.2]
  simp
theorem sld : SlR X (rSlD (mdOf X)) := by
  intro pins s σ H x v vl vu lo hi sl Q I rx hs pl pu ⟨m, W, a, d, hw, ha, hg, k⟩
  unfold dSl at hg
  split at hg
  · split at hg
    · rename_i z hl
      cases hg
      cases ha with
      | str z h1 => exact sl_str pins s σ H _ v vl vu lo hi sl Q I rx hs pl pu ⟨_, rfl, by rw [sizeLine_eq]; exact hl, by rw [cutS_eq]; exact k _ _ (Same.refl H) (.str _ (strOk_cut h1 lo hi))⟩
    · cases hg
  · cases hg
    obtain ⟨p, ys, rfl, hq, r⟩ := ha.asT
    refine sl_tupA pins s σ H _ v vl vu lo hi sl Q I rx hs pl pu ⟨p, ys, rfl, hq.seq, fun z => ?_, fun _ q hp => k _ _ (same_upd hp) (hw.newT hp (r.cut lo hi))⟩
    rw [r.length] at z
    rw [cut_whole z] at k
    exact k _ _ (Same.refl H) (.tup hq r)
  · obtain ⟨xs, e, rfl⟩ := some_map hg
    obtain ⟨p, ys, rfl, hq, r⟩ := ha.asL hw e
    exact sl_list pins s σ H _ v vl vu lo hi sl Q I rx hs pl pu ⟨p, ys, rfl, SqL.of hq, fun q hp => k _ _ (same_upd hp) (hw.newL hp (r.cut lo hi))⟩
end

/-! ### what is wanted behind a result -/
/-- the own error that lies in the air -/
def ExIs (M : Md) (m : Ms) (H : Hp) (cls : Value) (dx : Option Addr) (e : Ex) : Prop :=
  ∃ a, M.mg e.cls = some (.ref a) ∧ cls = .ref a ∧ match e.fld with
    | none => dx = none
    | some (f, d) => ∃ p v, dx = some p ∧ H p = some (.xd [(f, v)]) ∧ Is M m H v d
def aft {α : Type} (M : Md) (Wx : WX) (m : Ms) (H : Hp) (r : R α) (k : α → Ms → Wd → Hp → Prop) : Prop := match r with
  | .ok a W' => ∀ m' H', Step m H m' H' → WOk M m' W' H' → k a m' W' H'
  | .err e W' => ∀ cls dx σ' m' H', Step m H m' H' → WOk M m' W' H' → ExIs M m' H' cls dx e → Wx cls dx σ' H'
  | .bad => False
section
variable {α β : Type} {M : Md} {Wx : WX} {m m1 : Ms} {W : Wd} {H H1 : Hp}
theorem aft.step {r : R α} {k : α → Ms → Wd → Hp → Prop} (h : aft M Wx m H r k) (s : Step m H m1 H1) : aft M Wx m1 H1 r k := by
  cases r with
  | ok a W' => exact fun m' H' s' hw => h m' H' (s.trans s') hw
  | err e W' => exact fun c d σ' m' H' s' hw => h c d σ' m' H' (s.trans s') hw
  | bad => exact h
theorem aft.imp {r : R α} {k k' : α → Ms → Wd → Hp → Prop} (h : aft M Wx m H r k) (f : ∀ a m' W' H', Step m H m' H' → WOk M m' W' H' → k a m' W' H' → k' a m' W' H') : aft M Wx m H r k' := by
  cases r with
  | ok a W' => exact fun m' H' s hw => f a m' W' H' s hw (h m' H' s hw)
  | err e W' => exact h
  | bad => exact h
theorem aft.bnd {r : R α} {f : α → Wd → R β} {k : β → Ms → Wd → Hp → Prop} (h : aft M Wx m H (r.bnd f) k) : aft M Wx m H r fun a m' W' H' => aft M Wx m' H' (f a W') k := by
  cases r with
  | ok a W' => exact fun m' H' s _ => aft.step (show aft M Wx m H (f a W') k from h) s
  | err e W' => exact h
  | bad => exact h
theorem aft.bndX {r : R α} {f : α → Wd → R β} {k : β → Ms → Wd → Hp → Prop} (h : aft M Wx m H (r.bndX f) k) : aft M (fun _ _ _ _ => False) m H r fun a m' W' H' => aft M Wx m' H' (f a W') k := by
  cases r with
  | ok a W' => exact fun m' H' s _ => aft.step (show aft M Wx m H (f a W') k from h) s
  | err e W' => exact h.elim
  | bad => exact h
theorem aft.ofO {o : Option α} {k : α → Ms → Wd → Hp → Prop} (h : aft M Wx m H (PL.ofO o W) k) (hw : WOk M m W H) : ∃ a, o = some a ∧ ∀ H', Same H H' → k a m W H' := by
  cases o with
  | none => exact h.elim
  | some a => exact ⟨a, rfl, fun H' s => h m H' (Step.same s) (hw.mono s)⟩
theorem aft.okI {a : α} {k : α → Ms → Wd → Hp → Prop} (h : aft M Wx m H (.ok a W) k) (hw : WOk M m W H) : k a m W H := h m H Step.refl hw
theorem aft.okS {a : α} {k : α → Ms → Wd → Hp → Prop} (h : aft M Wx m H (.ok a W) k) (hw : WOk M m W H) {H' : Hp} (s : Same H H') : k a m W H' := h m H' (Step.same s) (hw.mono s)
theorem aft.ite {c : Prop} [Decidable c] {r : R α} {k : α → Ms → Wd → Hp → Prop} (h : aft M Wx m H (if c then r else .bad) k) : c ∧ aft M Wx m H r k := by
  split at h
  · exact ⟨by assumption, h⟩
  · exact h.elim
end

/-! ### readings -/
def tE (M : Md) (Wx : WX) (f : EnvD → Wd → R D) : TE := fun σ H Q => ∃ ρ m W, EnvOk M m H σ ρ ∧ WOk M m W H ∧ aft M Wx m H (f ρ W) fun d m' _ H' => ∀ v, Is M m' H' v d → Q v H'
def tB (M : Md) (Wx : WX) (f : EnvD → Wd → R Bool) : TT := fun σ H Q => ∃ ρ m W, EnvOk M m H σ ρ ∧ WOk M m W H ∧ aft M Wx m H (f ρ W) fun b _ _ H' => Q b H'
def tAs (M : Md) (Wx : WX) (f : EnvD → Wd → R (List D)) : TA := fun σ H Q => ∃ ρ m W, EnvOk M m H σ ρ ∧ WOk M m W H ∧ aft M Wx m H (f ρ W) fun ds m' _ H' => ∀ vs, IsAll M m' H' vs ds → Q vs H'
def tO (M : Md) (Wx : WX) (f : EnvD → Wd → R (Option Int)) : TO := fun σ H Q => ∃ ρ m W, EnvOk M m H σ ρ ∧ WOk M m W H ∧ aft M Wx m H (f ρ W) fun o _ _ H' => Q o H'
/-- the promise of a def, by data -/
def spD (M : Md) (g : List D → Wd → R D) : Sp := fun vs H Q E => ∃ m W ds, WOk M m W H ∧ IsAll M m H vs ds ∧ aft M (fun c d _ H' => E c d H') m H (g ds W) fun d m' _ H' => ∀ v, Is M m' H' v d → Q v H'
section
variable {X : Cx} {e : Expr} {es : List Expr}
theorem _root_.L2.PE.imp {t t' : TE} (h : PE X e t) (f : ∀ σ H Q, t' σ H Q → t σ H Q) : PE X e t' := ⟨fun pins s σ H Q I q => h.run pins s σ H Q I (f σ H Q q)⟩
theorem _root_.L2.PT.imp {t t' : TT} (h : PT X e t) (f : ∀ σ H Q, t' σ H Q → t σ H Q) : PT X e t' := ⟨fun pins s σ H Q I q => h.run pins s σ H Q I (f σ H Q q)⟩
theorem _root_.L2.PW.imp {t t' : TT} (h : PW X e t) (f : ∀ σ H Q, t' σ H Q → t σ H Q) : PW X e t' := ⟨fun wh pins s σ H Q I q => h.run wh pins s σ H Q I (f σ H Q q)⟩
theorem _root_.L2.PA.imp {t t' : TA} (h : PA X es t) (f : ∀ σ H Q, t' σ H Q → t σ H Q) : PA X es t' := ⟨fun pos pins s σ H Q I q => h.run pos pins s σ H Q I (f σ H Q q)⟩
theorem _root_.L2.PO.imp {o : Option Expr} {t t' : TO} (h : PO X o t) (f : ∀ σ H Q, t' σ H Q → t σ H Q) : PO X o t' := ⟨fun pins s σ H Q I q => h.run pins s σ H Q I (f σ H Q q)⟩
end
end PL

/-! PLZ: list(zip(a, b)): the tuples given out stay. -/
namespace ZL
open PySem
section
variable {prog : Program} {w : World}
/-- an iterator at i over the items at l -/
structure Drw (prog : Program) (w : World) (i l : Addr) (items : Array Value) (It : Nat → Heap → Prop) (Sq : Heap → Prop) : Prop where
  item : ∀ (A : Around) (E : Value → Shared → Prop) (s : Shared) (k : Nat) (x : Value) (Q : Value → Shared → Prop), It k s.heap → Sq s.heap → items[k]? = some x →
    (∀ h', It (k + 1) h' → Heap.SameBut i s.heap h' → Q x { s with heap := h' }) → wpAny (model prog w) A (Builtin.SmallTypes.nextOf (.ref i)) Q E s
  stop : ∀ (A : Around) (E : Value → Shared → Prop) (s : Shared) (k : Nat) (Q : Value → Shared → Prop), A.handled = none → It k s.heap → Sq s.heap → items[k]? = none →
    (∀ h' e, Heap.ExtBut i s.heap h' → (∃ o, h'.get? e = some o ∧ o.cls = .type "StopIteration") → E (.ref e) { s with heap := h' }) → wpAny (model prog w) A (Builtin.SmallTypes.nextOf (.ref i)) Q E s
  itF : ∀ (k : Nat) (h h' : Heap), It k h → (∀ o, h.get? i = some o → h'.get? i = some o) → It k h'
  sqF : ∀ (h h' : Heap), Sq h → (∀ o, h.get? l = some o → h'.get? l = some o) → Sq h'
theorem drwL (i l : Addr) (items : Array Value) : Drw prog w i l items (fun k h => h.IsListIter i l k) (fun h => h.IsList l items) :=
  ⟨fun A E s k x Q h1 h2 h3 hq => wpAny_nextOf_list_item h1 h2 h3 hq, fun A E s k Q hh h1 h2 h3 hq => wpAny_nextOf_list_end hh h1 h2 h3 hq,
    fun k h h' h1 f => h1.at f, fun h h' h1 f => h1.at f⟩
theorem drwT (i l : Addr) (items : Array Value) : Drw prog w i l items (fun k h => h.IsTupleIter i l k) (fun h => h.IsTuple l items) :=
  ⟨fun A E s k x Q h1 h2 h3 hq => RZ.nextOf_tuple_item h1 h2 h3 hq, fun A E s k Q hh h1 h2 h3 hq => RZ.nextOf_tuple_end hh h1 h2 h3 hq,
    fun k h h' h1 f => h1.at f, fun h h' h1 f => h1.at f⟩
variable {A : Around} {E : Value → Shared → Prop} {s : Shared} {z TI TO T i1 i2 l1 l2 : Addr} {f : Bool} {oT : Obj} {k : Nat} {xs ys : Array Value} {x y : Value} {I1 I2 : Nat → Heap → Prop} {S1 S2 : Heap → Prop}
theorem held_item {Q : Value → Shared → Prop} (D : ZipApart z TI TO i1 i2 l1 l2) (d1 : Drw prog w i1 l1 xs I1 S1) (d2 : Drw prog w i2 l2 ys I2 S2)
    (hz : IsZipHeld s.heap z TI TO T f) (hT : s.heap.get? T = some oT) (hTI : IsPair s.heap TI (.ref i1) (.ref i2))
    (h1 : I1 k s.heap) (h2 : I2 k s.heap) (q1 : S1 s.heap) (q2 : S2 s.heap) (hx : xs[k]? = some x) (hy : ys[k]? = some y)
    (hQ : ∀ h', IsZipHeld h' z TI TO T true → I1 (k + 1) h' → I2 (k + 1) h' → IsPair h' s.heap.objs.size x y → h'.objs.size = s.heap.objs.size + 1 →
      (∀ c o, c ≠ z → c ≠ i1 → c ≠ i2 → s.heap.get? c = some o → h'.get? c = some o) → Q (.ref s.heap.objs.size) { s with heap := h' }) :
    wpAny (model prog w) A (Builtin.«zip.__next__» ⟨[.ref z], []⟩) (fun fin s' => ∃ v, fin = .done (.ret v) ∧ Q v s') E s := by
  show wpAny _ _ (field (.ref z) 2 >>= _) _ _ _
  refine wpAny_bind (wpAny_field hz rfl (x := .bool false) rfl ?_)
  show wpAny _ _ (field (.ref z) 3 >>= _) _ _ _
  refine wpAny_bind (wpAny_field hz rfl (x := .ref TI) rfl ?_)
  refine wpAny_bind (wpAny_seqItems hTI rfl ?_)
  show wpAny _ _ (Builtin.SmallTypes.ownedTupleIsFree (.ref z) >>= _) _ _ _
  refine wpAny_bind (wpAny_tupleHeld_zip hz hT fun ha hza sa => ?_)
  simp only [Bool.false_eq_true, if_false]
  refine wpAny_bind ?_
  rw [← Array.forIn_toList]
  simp only [List.forIn_cons, List.forIn_nil]
  refine wpAny_bind (wpAny_bind (wpAny_holding ?_))
  show wpAny _ _ (Builtin.SmallTypes.nextOf (.ref i1) >>= _) _ _ _
  have ea := sa.extBut
  refine wpAny_bind (d1.item A E { s with heap := ha } k x _ (d1.itF _ _ _ h1 fun o e => ea _ _ D.i1z e) (d1.sqF _ _ q1 fun o e => ea _ _ D.l1z e) hx fun hb h1b sb => wpAny_pure ?_)
  have eb := sb.extBut
  refine wpAny_pure ?_
  refine wpAny_bind (wpAny_bind (wpAny_holding ?_))
  show wpAny _ _ (Builtin.SmallTypes.nextOf (.ref i2) >>= _) _ _ _
  refine wpAny_bind (d2.item A E { s with heap := hb } k y _ (d2.itF _ _ _ h2 fun o e => eb _ _ D.i12.symm (ea _ _ D.i2z e)) (d2.sqF _ _ q2 fun o e => eb _ _ D.l2i1 (ea _ _ D.l2z e)) hy fun hc h2c sc => wpAny_pure ?_)
  have ec := sc.extBut
  refine wpAny_pure (wpAny_pure ?_)
  show wpAny _ _ (newTuple [x, y] >>= _) _ _ _
  refine wpAny_bind (wpAny_newTuple ?_)
  have hsz : hc.objs.size = s.heap.objs.size := by rw [sc.1, sb.1, sa.1]
  have hzc : IsZipHeld hc z TI TO T true := ec _ _ D.i2z.symm (eb _ _ D.i1z.symm hza)
  have hk : ∀ c o, c ≠ z → c ≠ i1 → c ≠ i2 → s.heap.get? c = some o → hc.get? c = some o := fun c o c1 c2 c3 e => ec _ _ c3 (eb _ _ c2 (ea _ _ c1 e))
  have h1c : I1 (k + 1) hc := d1.itF _ _ _ h1b fun o e => ec _ _ D.i12 e
  refine wpAny_pure ⟨_, rfl, ?_⟩
  show Q (.ref hc.objs.size) _
  have hp : IsPair (hc.push { cls := .type "tuple", data := .seq #[x, y] }) hc.objs.size x y := Heap.get?_push_size _ rfl
  have hz4 : (hc.push { cls := .type "tuple", data := .seq #[x, y] }).objs.size = hc.objs.size + 1 := Heap.size_push ..
  rw [hsz] at hp hz4 ⊢
  exact hQ _ (Heap.get?_push_of_some _ hzc) (d1.itF _ _ _ h1c fun o e => Heap.get?_push_of_some _ e) (d2.itF _ _ _ h2c fun o e => Heap.get?_push_of_some _ e) hp hz4 fun c o c1 c2 c3 e => Heap.get?_push_of_some _ (hk c o c1 c2 c3 e)
theorem held_end {Q : Fin → Shared → Prop} (hh : A.handled = none) (D : ZipApart z TI TO i1 i2 l1 l2) (d1 : Drw prog w i1 l1 xs I1 S1) (d2 : Drw prog w i2 l2 ys I2 S2)
    (hz : IsZipHeld s.heap z TI TO T f) (hT : s.heap.get? T = some oT) (hTI : IsPair s.heap TI (.ref i1) (.ref i2))
    (h1 : I1 k s.heap) (h2 : I2 k s.heap) (q1 : S1 s.heap) (q2 : S2 s.heap) (hend : xs[k]? = none ∨ ys[k]? = none)
    (hE : ∀ h' e, (∀ c o, c ≠ z → c ≠ i1 → c ≠ i2 → s.heap.get? c = some o → h'.get? c = some o) → (∃ o, h'.get? e = some o ∧ o.cls = .type "StopIteration") → E (.ref e) { s with heap := h' }) :
    wpAny (model prog w) A (Builtin.«zip.__next__» ⟨[.ref z], []⟩) Q E s := by
  show wpAny _ _ (field (.ref z) 2 >>= _) _ _ _
  refine wpAny_bind (wpAny_field hz rfl (x := .bool false) rfl ?_)
  show wpAny _ _ (field (.ref z) 3 >>= _) _ _ _
  refine wpAny_bind (wpAny_field hz rfl (x := .ref TI) rfl ?_)
  refine wpAny_bind (wpAny_seqItems hTI rfl ?_)
  show wpAny _ _ (Builtin.SmallTypes.ownedTupleIsFree (.ref z) >>= _) _ _ _
  refine wpAny_bind (wpAny_tupleHeld_zip hz hT fun ha hza sa => ?_)
  simp only [Bool.false_eq_true, if_false]
  refine wpAny_bind ?_
  rw [← Array.forIn_toList]
  simp only [List.forIn_cons, List.forIn_nil]
  refine wpAny_bind (wpAny_bind (wpAny_holding ?_))
  show wpAny _ _ (Builtin.SmallTypes.nextOf (.ref i1) >>= _) _ _ _
  have ea := sa.extBut
  have h1a : I1 k ha := d1.itF _ _ _ h1 fun o e => ea _ _ D.i1z e
  have q1a : S1 ha := d1.sqF _ _ q1 fun o e => ea _ _ D.l1z e
  cases hx : xs[k]? with
  | none => exact wpAny_bind (d1.stop A E { s with heap := ha } k _ hh h1a q1a hx fun hb e sb he => hE hb e (fun c o c1 c2 _ x => sb _ _ c2 (ea _ _ c1 x)) he)
  | some x =>
    have hy : ys[k]? = none := by rcases hend with h | h; rw [hx] at h; cases h; exact h
    refine wpAny_bind (d1.item A E { s with heap := ha } k x _ h1a q1a hx fun hb h1b sb => wpAny_pure ?_)
    have eb := sb.extBut
    refine wpAny_pure ?_
    refine wpAny_bind (wpAny_bind (wpAny_holding ?_))
    show wpAny _ _ (Builtin.SmallTypes.nextOf (.ref i2) >>= _) _ _ _
    exact wpAny_bind (d2.stop A E { s with heap := hb } k _ hh (d2.itF _ _ _ h2 fun o e => eb _ _ D.i12.symm (ea _ _ D.i2z e)) (d2.sqF _ _ q2 fun o e => eb _ _ D.l2i1 (ea _ _ D.l2z e)) hy fun hc e sc he =>
      hE hc e (fun c o c1 c2 c3 x => sc _ _ c3 (eb _ _ c2 (ea _ _ c1 x))) he)
theorem pyNext_held {Q : Option Value → Shared → Prop} (D : ZipApart z TI TO i1 i2 l1 l2) (d1 : Drw prog w i1 l1 xs I1 S1) (d2 : Drw prog w i2 l2 ys I2 S2)
    (hz : IsZipHeld s.heap z TI TO T f) (hT : s.heap.get? T = some oT) (hTI : IsPair s.heap TI (.ref i1) (.ref i2))
    (h1 : I1 k s.heap) (h2 : I2 k s.heap) (q1 : S1 s.heap) (q2 : S2 s.heap) (hx : xs[k]? = some x) (hy : ys[k]? = some y)
    (hQ : ∀ h', IsZipHeld h' z TI TO T true → I1 (k + 1) h' → I2 (k + 1) h' → IsPair h' s.heap.objs.size x y → h'.objs.size = s.heap.objs.size + 1 →
      (∀ c o, c ≠ z → c ≠ i1 → c ≠ i2 → s.heap.get? c = some o → h'.get? c = some o) → Q (some (.ref s.heap.objs.size)) { s with heap := h' }) :
    wpAny (model prog w) A (pyNext (.ref z)) Q E s := by
  have hTy : s.TypeIs (.ref z) "zip" := ⟨_, hz, rfl⟩
  unfold pyNext
  exact wpAny_bind (wpAny_attempt (wpAny_callSpecial?_slot (name := Str.ofString "__next__") hTy F.slot_zip_next
    (wpAny_call_entry F.slot_zip_next hTy F.entry_zip_next
      (held_item D d1 d2 hz hT hTI h1 h2 q1 q2 hx hy fun h' a1 a3 a4 a5 a6 a7 => wpAny_pure (hQ h' a1 a3 a4 a5 a6 a7)) (F.args_zip_next_1 _))))
theorem pyNext_held_end {Q : Option Value → Shared → Prop} (hh : A.handled = none) (D : ZipApart z TI TO i1 i2 l1 l2) (d1 : Drw prog w i1 l1 xs I1 S1) (d2 : Drw prog w i2 l2 ys I2 S2)
    (hz : IsZipHeld s.heap z TI TO T f) (hT : s.heap.get? T = some oT) (hTI : IsPair s.heap TI (.ref i1) (.ref i2))
    (h1 : I1 k s.heap) (h2 : I2 k s.heap) (q1 : S1 s.heap) (q2 : S2 s.heap) (hend : xs[k]? = none ∨ ys[k]? = none)
    (hQ : ∀ h', (∀ c o, c ≠ z → c ≠ i1 → c ≠ i2 → s.heap.get? c = some o → h'.get? c = some o) → Q none { s with heap := h' }) : wpAny (model prog w) A (pyNext (.ref z)) Q E s := by
  have hTy : s.TypeIs (.ref z) "zip" := ⟨_, hz, rfl⟩
  unfold pyNext
  refine wpAny_bind (wpAny_attempt (wpAny_callSpecial?_slot (name := Str.ofString "__next__") hTy F.slot_zip_next
    (wpAny_call_entry F.slot_zip_next hTy F.entry_zip_next (held_end hh D d1 d2 hz hT hTI h1 h2 q1 q2 hend fun h' e hk he => ?_) (F.args_zip_next_1 _))))
  obtain ⟨o, ho, hc⟩ := he
  refine wpAny_bind (wpAny_isInstance (T := "StopIteration") (b := true) ⟨o, ho, hc⟩ isSubtype_stop ?_)
  exact wpAny_pure (hQ h' hk)

/-- all that is known of a zip -/
structure Zs (prog : Program) (w : World) (z TI TO i1 i2 l1 l2 : Addr) (xs ys : Array Value) (I1 I2 : Nat → Heap → Prop) (S1 S2 : Heap → Prop) : Prop where
  D : ZipApart z TI TO i1 i2 l1 l2
  d1 : Drw prog w i1 l1 xs I1 S1
  d2 : Drw prog w i2 l2 ys I2 S2
  first : ∀ (A : Around) (E : Value → Shared → Prop) (s : Shared) (x y a b : Value) (Q : Option Value → Shared → Prop), IsZip s.heap z TI TO .none → IsPair s.heap TI (.ref i1) (.ref i2) → IsPair s.heap TO a b →
    I1 0 s.heap → I2 0 s.heap → S1 s.heap → S2 s.heap → xs[0]? = some x → ys[0]? = some y →
    (∀ h', IsZip h' z TI TO (rawInt s.heap.objs.size) → IsPair h' TO x y → I1 1 h' → I2 1 h' → IsPair h' s.heap.objs.size x y → h'.objs.size = s.heap.objs.size + 1 →
      (∀ c o, c ≠ z → c ≠ TO → c ≠ i1 → c ≠ i2 → s.heap.get? c = some o → h'.get? c = some o) → Q (some (.ref s.heap.objs.size)) { s with heap := h' }) → wpAny (model prog w) A (pyNext (.ref z)) Q E s
  none_ : ∀ (A : Around) (E : Value → Shared → Prop) (s : Shared) (a b : Value) (Q : Option Value → Shared → Prop), A.handled = none → IsZip s.heap z TI TO .none → IsPair s.heap TI (.ref i1) (.ref i2) → IsPair s.heap TO a b →
    I1 0 s.heap → I2 0 s.heap → S1 s.heap → S2 s.heap → xs[0]? = none ∨ ys[0]? = none →
    (∀ h', (∀ c o, c ≠ z → c ≠ TO → c ≠ i1 → c ≠ i2 → s.heap.get? c = some o → h'.get? c = some o) → Q none { s with heap := h' }) → wpAny (model prog w) A (pyNext (.ref z)) Q E s
variable {z TI TO i1 i2 l1 l2 : Addr} {xs ys : Array Value} {I1 I2 : Nat → Heap → Prop} {S1 S2 : Heap → Prop}
theorem zsL (D : ZipApart z TI TO i1 i2 l1 l2) (xs ys : Array Value) : Zs prog w z TI TO i1 i2 l1 l2 xs ys (fun k h => h.IsListIter i1 l1 k) (fun k h => h.IsListIter i2 l2 k) (fun h => h.IsList l1 xs) (fun h => h.IsList l2 ys) :=
  ⟨D, drwL _ _ _, drwL _ _ _, fun A E s x y a b Q hz hTI hTO h1 h2 q1 q2 hx hy hq => wpAny_pyNext_zip_item D hz hTI hTO h1 h2 q1 q2 hx hy hq,
    fun A E s a b Q hh hz hTI hTO h1 h2 q1 q2 he hq => wpAny_pyNext_zip_end hh D hz hTI hTO h1 h2 q1 q2 he hq⟩
theorem zsT (D : ZipApart z TI TO i1 i2 l1 l2) (xs ys : Array Value) : Zs prog w z TI TO i1 i2 l1 l2 xs ys (fun k h => h.IsTupleIter i1 l1 k) (fun k h => h.IsTupleIter i2 l2 k) (fun h => h.IsTuple l1 xs) (fun h => h.IsTuple l2 ys) :=
  ⟨D, drwT _ _ _, drwT _ _ _, fun A E s x y a b Q hz hTI hTO h1 h2 q1 q2 hx hy hq => RZ.pyNext_zipT_item D hz hTI hTO h1 h2 q1 q2 hx hy hq,
    fun A E s a b Q hh hz hTI hTO h1 h2 q1 q2 he hq => RZ.pyNext_zipT_end hh D hz hTI hTO h1 h2 q1 q2 he hq⟩
/-- the pairs taken so far -/
def Took (b0 : Addr) (xs ys : Array Value) (acc : Array Value) (i : Nat) (h : Heap) : Prop :=
  acc.size = i ∧ ∀ j, j < i → ∃ T x y, acc[j]? = some (.ref T) ∧ b0 ≤ T ∧ xs[j]? = some x ∧ ys[j]? = some y ∧ IsPair h T x y
theorem Took.push {b0 : Addr} {acc : Array Value} {i : Nat} {h h' : Heap} {T : Addr} {x y : Value} (t : Took b0 xs ys acc i h) (k : ∀ c o, b0 ≤ c → h.get? c = some o → h'.get? c = some o)
    (hT : b0 ≤ T) (hx : xs[i]? = some x) (hy : ys[i]? = some y) (p : IsPair h' T x y) : Took b0 xs ys (acc.push (.ref T)) (i + 1) h' := by
  refine ⟨by rw [Array.size_push, t.1], fun j hj => ?_⟩
  by_cases e : j = i
  · subst e
    exact ⟨T, x, y, by rw [← t.1]; simp, hT, hx, hy, p⟩
  · obtain ⟨T', x', y', a1, a2, a3, a4, a5⟩ := t.2 j (by omega)
    have hlt : j < acc.size := by rw [t.1]; omega
    exact ⟨T', x', y', by rw [Array.getElem?_push_lt hlt]; rw [Array.getElem?_eq_getElem hlt] at a1; exact a1, a2, a3, a4, k _ _ a2 a5⟩
theorem Took.keep {b0 : Addr} {acc : Array Value} {i : Nat} {h h' : Heap} (t : Took b0 xs ys acc i h) (k : ∀ c o, b0 ≤ c → h.get? c = some o → h'.get? c = some o) : Took b0 xs ys acc i h' := by
  refine ⟨t.1, fun j hj => ?_⟩
  obtain ⟨T', x', y', a1, a2, a3, a4, a5⟩ := t.2 j hj
  exact ⟨T', x', y', a1, a2, a3, a4, k _ _ a2 a5⟩
variable {A : Around} {R : Result → Shared → Prop} {S b0 : Addr} {res : Value}
/-- behind the first item -/
theorem loop_held (hh : A.handled = none) (Z : Zs prog w z TI TO i1 i2 l1 l2 xs ys I1 I2 S1 S2) (b : z < b0 ∧ TI < b0 ∧ i1 < b0 ∧ i2 < b0 ∧ S < b0) (hS : S ≠ z ∧ S ≠ TI ∧ S ≠ i1 ∧ S ≠ i2 ∧ S ≠ l1 ∧ S ≠ l2) (hn : min xs.size ys.size ≤ sizeLine) :
    ∀ (k i : Nat) (s : Shared) (acc : Array Value) (c : Nat) (T : Addr) (f : Bool) (oT : Obj), min xs.size ys.size - i = k → i ≤ min xs.size ys.size → b0 ≤ s.heap.objs.size → IsZipHeld s.heap z TI TO T f → s.heap.get? T = some oT →
    T ≠ S → b0 ≤ T → IsPair s.heap TI (.ref i1) (.ref i2) → I1 i s.heap → I2 i s.heap → S1 s.heap → S2 s.heap → Took b0 xs ys acc i s.heap →
    s.heap.get? S = some { cls := .type "list", dict := none, data := .seq acc c, slots := #[] } →
    (∀ h' acc' c', (∀ c o, c ≠ z → c ≠ i1 → c ≠ i2 → c ≠ S → s.heap.get? c = some o → h'.get? c = some o) → Took b0 xs ys acc' (min xs.size ys.size) h' → h'.get? S = some { cls := .type "list", dict := none, data := .seq acc' c', slots := #[] } → R (.ok (.ret res)) { s with heap := h' }) →
    codeAny (model prog w) A (.builtin "list.extend.loop" ⟨[.ref S, .ref z, res], []⟩) R s := by
  obtain ⟨bz, bTI, b1, b2, bS⟩ := b
  obtain ⟨Sz, STI, S_1, S_2, Sl1, Sl2⟩ := hS
  have low : ∀ {c x : Addr}, b0 ≤ c → x < b0 → c ≠ x := fun {c x} h h' e => by
    have h1 : b0 ≤ c := h
    have h2 : x < b0 := h'
    rw [e] at h1
    exact absurd (Nat.lt_of_lt_of_le h2 h1) (Nat.lt_irrefl _)
  intro k
  induction k with
  | zero =>
    intro i s acc c T f oT hk hi hb hz hT hTS hTb hTI h1 h2 q1 q2 t hS hR
    refine codeAny_builtin F.entry_extend_loop ?_
    rw [Around.under_plainId F.plain_extend_loop _]
    show wpAny _ A.in1 (pyNext (.ref z) >>= _) _ _ s
    have hend : xs[i]? = none ∨ ys[i]? = none := by
      by_cases q : xs.size ≤ i
      · exact .inl (by simp [q])
      · exact .inr (by simp; omega)
    have e : i = min xs.size ys.size := by omega
    refine wpAny_bind (pyNext_held_end (by exact hh) Z.D Z.d1 Z.d2 hz hT hTI h1 h2 q1 q2 hend fun h' hk' => ?_)
    refine wpAny_pure (hR h' acc c (fun c o c1 c2 c3 _ e => hk' c o c1 c2 c3 e) ?_ (hk' _ _ Sz S_1 S_2 hS))
    rw [← e]
    exact t.keep fun c o hc e => hk' c o (low hc bz) (low hc b1) (low hc b2) e
  | succ k ih =>
    intro i s acc c T f oT hk hi hb hz hT hTS hTb hTI h1 h2 q1 q2 t hS hR
    have hlt : i < min xs.size ys.size := by omega
    have hx : xs[i]? = some xs[i] := Array.getElem?_eq_getElem (by omega)
    have hy : ys[i]? = some ys[i] := Array.getElem?_eq_getElem (by omega)
    refine codeAny_builtin F.entry_extend_loop ?_
    rw [Around.under_plainId F.plain_extend_loop _]
    show wpAny _ A.in1 (pyNext (.ref z) >>= _) _ _ s
    refine wpAny_bind (pyNext_held Z.D Z.d1 Z.d2 hz hT hTI h1 h2 q1 q2 hx hy fun h' a1 a2 a3 a4 a5 a6 => ?_)
    have hS' := a6 _ _ Sz S_1 S_2 hS
    have ez : ∀ cc o, cc ≠ S → h'.get? cc = some o → (h'.update S (Obj.mapSeq (·.push (Value.ref s.heap.objs.size)))).get? cc = some o := fun cc o hc e => (Heap.get?_update_other _ _ (Ne.symm hc)).trans e
    have szS : s.heap.objs.size ≠ S := Nat.ne_of_gt (Heap.lt_size hS)
    show wpAny _ A.in1 (updateSeq S (·.push (.ref s.heap.objs.size)) >>= _) _ _ _
    refine wpAny_bind ?_
    refine wpAny_updateSeq hS' rfl (wpAny_pure ⟨plainId_quiet F.plain_extend_loop _, ih (i + 1) _ (acc.push (.ref s.heap.objs.size)) _ T true oT (by omega) hlt ?_ (ez _ _ (Ne.symm Sz) a1) (ez _ _ hTS (a6 _ _ (low hTb bz) (low hTb b1) (low hTb b2) hT)) hTS hTb
      (ez _ _ (Ne.symm STI) (a6 _ _ Z.D.TIz Z.D.TIi1 Z.D.TIi2 hTI)) (Z.d1.itF _ _ _ a2 fun o e => ez _ _ (Ne.symm S_1) e) (Z.d2.itF _ _ _ a3 fun o e => ez _ _ (Ne.symm S_2) e)
      (Z.d1.sqF _ _ q1 fun o e => ez _ _ (Ne.symm Sl1) (a6 _ _ Z.D.l1z Z.D.l1i1 Z.D.l1i2 e)) (Z.d2.sqF _ _ q2 fun o e => ez _ _ (Ne.symm Sl2) (a6 _ _ Z.D.l2z Z.D.l2i1 Z.D.l2i2 e))
      (t.push (fun cc o hc e => ez _ _ (low hc bS) (a6 _ _ (low hc bz) (low hc b1) (low hc b2) e)) hb hx hy (ez _ _ szS a4)) (Heap.get?_update_self _ hS' rfl) fun h'' acc' c' kp t' hS'' => ?_⟩)
      (by rw [t.1]; omega) (by show (acc.push _).size ≤ sizeLine + 1; rw [Array.size_push, t.1]; omega)
    · show b0 ≤ (h'.update S _).objs.size
      rw [Heap.size_update, a5]
      exact Nat.le_succ_of_le hb
    · exact hR h'' acc' c' (fun c o c1 c2 c3 c4 e => kp c o c1 c2 c3 c4 (ez _ _ c4 (a6 _ _ c1 c2 c3 e))) t' hS''
theorem loop_all (hh : A.handled = none) (Z : Zs prog w z TI TO i1 i2 l1 l2 xs ys I1 I2 S1 S2) {s : Shared} {c : Nat} {a b : Value} (bnd : z < s.heap.objs.size ∧ TI < s.heap.objs.size ∧ i1 < s.heap.objs.size ∧ i2 < s.heap.objs.size ∧ S < s.heap.objs.size)
    (hS : S ≠ z ∧ S ≠ TI ∧ S ≠ TO ∧ S ≠ i1 ∧ S ≠ i2 ∧ S ≠ l1 ∧ S ≠ l2) (hn : min xs.size ys.size ≤ sizeLine)
    (hz : IsZip s.heap z TI TO .none) (hTI : IsPair s.heap TI (.ref i1) (.ref i2)) (hTO : IsPair s.heap TO a b) (h1 : I1 0 s.heap) (h2 : I2 0 s.heap) (q1 : S1 s.heap) (q2 : S2 s.heap)
    (hSo : s.heap.get? S = some { cls := .type "list", dict := none, data := .seq #[] c, slots := #[] })
    (hR : ∀ h' acc' c', (∀ c o, c ≠ z → c ≠ TO → c ≠ i1 → c ≠ i2 → c ≠ S → s.heap.get? c = some o → h'.get? c = some o) → Took s.heap.objs.size xs ys acc' (min xs.size ys.size) h' →
      h'.get? S = some { cls := .type "list", dict := none, data := .seq acc' c', slots := #[] } → R (.ok (.ret res)) { s with heap := h' }) :
    codeAny (model prog w) A (.builtin "list.extend.loop" ⟨[.ref S, .ref z, res], []⟩) R s := by
  obtain ⟨bz, bTI, b1, b2, bS⟩ := bnd
  obtain ⟨Sz, STI, STO, S_1, S_2, Sl1, Sl2⟩ := hS
  refine codeAny_builtin F.entry_extend_loop ?_
  rw [Around.under_plainId F.plain_extend_loop _]
  show wpAny _ A.in1 (pyNext (.ref z) >>= _) _ _ s
  by_cases h0 : 0 < min xs.size ys.size
  · have hx : xs[0]? = some xs[0] := Array.getElem?_eq_getElem (by omega)
    have hy : ys[0]? = some ys[0] := Array.getElem?_eq_getElem (by omega)
    refine wpAny_bind (Z.first A.in1 _ s _ _ _ _ _ hz hTI hTO h1 h2 q1 q2 hx hy fun h' a1 a2 a3 a4 a5 a6 a7 => ?_)
    have hS' := a7 _ _ Sz STO S_1 S_2 hSo
    have ez : ∀ cc o, cc ≠ S → h'.get? cc = some o → (h'.update S (Obj.mapSeq (·.push (Value.ref s.heap.objs.size)))).get? cc = some o := fun cc o hc e => (Heap.get?_update_other _ _ (Ne.symm hc)).trans e
    have szS : s.heap.objs.size ≠ S := Nat.ne_of_gt bS
    have D := Z.D
    show wpAny _ A.in1 (updateSeq S (·.push (.ref s.heap.objs.size)) >>= _) _ _ _
    refine wpAny_bind ?_
    refine wpAny_updateSeq hS' rfl (wpAny_pure ⟨plainId_quiet F.plain_extend_loop _, loop_held hh Z ⟨bz, bTI, b1, b2, bS⟩ ⟨Sz, STI, S_1, S_2, Sl1, Sl2⟩ hn (min xs.size ys.size - 1) 1 _ ((#[] : Array Value).push (.ref s.heap.objs.size)) _ s.heap.objs.size false { cls := .type "tuple", data := .seq #[xs[0], ys[0]] } (by omega) (by omega) ?_
      (ez _ _ (Ne.symm Sz) a1) (ez _ _ szS a5) szS (Nat.le_refl _) (ez _ _ (Ne.symm STI) (a7 _ _ D.TIz D.TITO D.TIi1 D.TIi2 hTI)) (Z.d1.itF _ _ _ a3 fun o e => ez _ _ (Ne.symm S_1) e) (Z.d2.itF _ _ _ a4 fun o e => ez _ _ (Ne.symm S_2) e)
      (Z.d1.sqF _ _ q1 fun o e => ez _ _ (Ne.symm Sl1) (a7 _ _ D.l1z D.l1TO D.l1i1 D.l1i2 e)) (Z.d2.sqF _ _ q2 fun o e => ez _ _ (Ne.symm Sl2) (a7 _ _ D.l2z D.l2TO D.l2i1 D.l2i2 e)) ?_ (Heap.get?_update_self _ hS' rfl) fun h'' acc' c' kp t' hS'' => ?_⟩)
      (by rw [sizeLine_eq]; exact Nat.zero_le _) (by rw [sizeLine_eq]; exact (by decide : 1 ≤ 16777217))
    · show s.heap.objs.size ≤ (h'.update S _).objs.size
      rw [Heap.size_update, a6]
      exact Nat.le_succ _
    · exact Took.push (h := h') (acc := #[]) (i := 0) ⟨rfl, fun j hj => absurd hj (Nat.not_lt_zero _)⟩ (fun cc o hc e => ez _ _ (fun q => by rw [q] at hc; exact absurd (Nat.lt_of_lt_of_le bS hc) (Nat.lt_irrefl _)) e) (Nat.le_refl _) hx hy (ez _ _ szS a5)
    · exact hR h'' acc' c' (fun c o c1 c2 c3 c4 c5 e => kp c o c1 c3 c4 c5 (ez _ _ c5 (a7 _ _ c1 c2 c3 c4 e))) t' hS''
  · have hend : xs[0]? = none ∨ ys[0]? = none := by
      by_cases q : xs.size ≤ 0
      · exact .inl (Array.getElem?_eq_none q)
      · exact .inr (Array.getElem?_eq_none (by omega))
    have e0 : min xs.size ys.size = 0 := by omega
    refine wpAny_bind (Z.none_ A.in1 _ s _ _ _ (by exact hh) hz hTI hTO h1 h2 q1 q2 hend fun h' hk => ?_)
    refine wpAny_pure (hR h' #[] c (fun c o c1 c2 c3 c4 _ e => hk c o c1 c2 c3 c4 e) ?_ (hk _ _ Sz STO S_1 S_2 hSo))
    rw [e0]
    exact ⟨rfl, fun j hj => absurd hj (Nat.not_lt_zero _)⟩
theorem nolen_zip : typeLookup (.type "zip") "__len__" = pure none := am_miss_of_fast (by decide +kernel)
theorem nohint_zip : typeLookup (.type "zip") "__length_hint__" = pure none := am_miss_of_fast (by decide +kernel)

/-- what a zip needs of the heap -/
structure Lay (h : Heap) (z TI TO i1 i2 : Addr) (I1 I2 : Nat → Heap → Prop) (S1 S2 : Heap → Prop) (a b : Value) : Prop where
  hz : IsZip h z TI TO .none
  hTI : IsPair h TI (.ref i1) (.ref i2)
  hTO : IsPair h TO a b
  h1 : I1 0 h
  h2 : I2 0 h
  q1 : S1 h
  q2 : S2 h
theorem Lay.keep {h h' : Heap} {a b : Value} (Z : Zs prog w z TI TO i1 i2 l1 l2 xs ys I1 I2 S1 S2) (L : Lay h z TI TO i1 i2 I1 I2 S1 S2 a b) (k : ∀ c o, h.get? c = some o → c ∈ [z, TI, TO, i1, i2, l1, l2] → h'.get? c = some o) : Lay h' z TI TO i1 i2 I1 I2 S1 S2 a b :=
  ⟨k _ _ L.hz (by simp), k _ _ L.hTI (by simp), k _ _ L.hTO (by simp), Z.d1.itF _ _ _ L.h1 fun o e => k _ _ e (by simp), Z.d2.itF _ _ _ L.h2 fun o e => k _ _ e (by simp),
    Z.d1.sqF _ _ L.q1 fun o e => k _ _ e (by simp), Z.d2.sqF _ _ L.q2 fun o e => k _ _ e (by simp)⟩
theorem zl_extend (hh : A.handled = none) (Z : Zs prog w z TI TO i1 i2 l1 l2 xs ys I1 I2 S1 S2) {s : Shared} {a b : Value} {c₀ : Nat} (L : Lay s.heap z TI TO i1 i2 I1 I2 S1 S2 a b)
    (bnd : z < s.heap.objs.size ∧ TI < s.heap.objs.size ∧ i1 < s.heap.objs.size ∧ i2 < s.heap.objs.size) (hS : S ∉ [z, TI, TO, i1, i2, l1, l2]) (hn : min xs.size ys.size ≤ sizeLine)
    (hSo : s.heap.get? S = some { cls := .type "list", data := .seq #[] c₀ })
    (hR : ∀ h' acc' c', (∀ c o, c ≠ z → c ≠ TO → c ≠ i1 → c ≠ i2 → c ≠ S → s.heap.get? c = some o → h'.get? c = some o) → Took s.heap.objs.size xs ys acc' (min xs.size ys.size) h' →
      h'.get? S = some { cls := .type "list", dict := none, data := .seq acc' c', slots := #[] } → R (.ok (.ret res)) { s with heap := h' }) :
    wpAny (model prog w) A.in1 (Builtin.List.listExtendWith (.ref S) (.ref z) res)
      (fun fin s' => match fin with | .done f => R (.ok f) s' | .again c' => c'.quiet = true ∧ codeAny (model prog w) A c' R s') (fun e s' => R (.error e) s') s := by
  have ne : ∀ c, c ∈ [z, TI, TO, i1, i2, l1, l2] → S ≠ c := fun c hc e => hS (e ▸ hc)
  have hTy : ∀ t : Shared, t.heap.get? z = s.heap.get? z → t.TypeIs (.ref z) "zip" := fun t e => ⟨_, e.trans L.hz, rfl⟩
  have key : ∀ (h : Heap) (c₁ : Nat), h.objs.size = s.heap.objs.size → (∀ b o, b ≠ S → s.heap.get? b = some o → h.get? b = some o) →
      h.get? S = some { cls := .type "list", data := .seq #[] c₁ } → codeAny (model prog w) A (.builtin "list.extend.loop" ⟨[.ref S, .ref z, res], []⟩) R { s with heap := h } := by
    intro h c₁ hsz hk hS₁
    have L' : Lay h z TI TO i1 i2 I1 I2 S1 S2 a b := L.keep Z fun c o e hc => hk c o (Ne.symm (ne c hc)) e
    refine loop_all (s := { s with heap := h }) hh Z ⟨?_, ?_, ?_, ?_, ?_⟩ ⟨ne _ (by simp), ne _ (by simp), ne _ (by simp), ne _ (by simp), ne _ (by simp), ne _ (by simp), ne _ (by simp)⟩ hn L'.hz L'.hTI L'.hTO L'.h1 L'.h2 L'.q1 L'.q2 hS₁ fun h' acc' c' k t e => ?_
    · show z < h.objs.size; rw [hsz]; exact bnd.1
    · show TI < h.objs.size; rw [hsz]; exact bnd.2.1
    · show i1 < h.objs.size; rw [hsz]; exact bnd.2.2.1
    · show i2 < h.objs.size; rw [hsz]; exact bnd.2.2.2
    · exact Heap.lt_size hS₁
    · refine hR h' acc' c' (fun c o e1 e2 e3 e4 e5 q => k c o e1 e2 e3 e4 e5 (hk c o e5 q)) ?_ e
      have t' : Took h.objs.size xs ys acc' (min xs.size ys.size) h' := t
      rw [hsz] at t'
      exact t'
  unfold Builtin.List.listExtendWith
  refine wpAny_bind (wpAny_typeOf (T := "zip") (hTy s rfl) ?_)
  have h1 : Builtin.List.listSameRef (.ref S) (.ref z) = false := by simp [Builtin.List.listSameRef, ne z (by simp)]
  have h2 : (Value.type "zip" == Value.type "list") = false := by decide
  have h3 : (Value.type "zip" == Value.type "tuple") = false := by decide
  simp only [h1, h2, h3, Bool.or_false, Bool.false_eq_true, if_false]
  refine wpAny_bind (wpAny_pyIter_zip L.hz ?_)
  refine wpAny_bind (wpAny_holding ?_)
  unfold Builtin.List.listLengthHint
  refine wpAny_bind (wpAny_specialOf (hTy s rfl) nolen_zip ?_)
  show wpAny _ A.in1 (specialOf (Value.ref z) (Str.ofString "__length_hint__") >>= _) _ _ _
  refine wpAny_bind (wpAny_specialOf (hTy s rfl) nohint_zip ?_)
  refine wpAny_pure ?_
  show wpAny _ A.in1 (rule "list.extend.makes-room" >>= fun _ => Builtin.List.listTouch (.ref S) >>= fun _ => again (.builtin "list.extend.loop" ⟨[.ref S, .ref z, res], []⟩)) _ _ _
  refine wpAny_bind (wpAny_rule ?_)
  refine wpAny_bind ?_
  show wpAny _ _ (updateSeq S (·.push .none) >>= fun _ => updateSeq S (·.pop)) _ _ _
  refine wpAny_bind (wpAny_updateSeq hSo rfl ?_)
  have hS₂ := Heap.get?_update_self (Obj.mapSeq (·.push Value.none)) hSo rfl
  refine wpAny_updateSeq hS₂ rfl ?_
  have hS₃ := Heap.get?_update_self (Obj.mapSeq (·.pop)) hS₂ rfl
  exact wpAny_pure ⟨plainId_quiet PySem.F.plain_extend_loop _, key _ _ (by rw [Heap.size_update, Heap.size_update]) (fun b o hb e => (Heap.get?_update_other _ _ (Ne.symm hb)).trans ((Heap.get?_update_other _ _ (Ne.symm hb)).trans e)) hS₃⟩
theorem zl_call {Q : Value → Shared → Prop} (hh : A.handled = none) (Z : Zs prog w z TI TO i1 i2 l1 l2 xs ys I1 I2 S1 S2) {s : Shared} {a b : Value} (L : Lay s.heap z TI TO i1 i2 I1 I2 S1 S2 a b)
    (bnd : ∀ c ∈ [z, TI, TO, i1, i2, l1, l2], c < s.heap.objs.size) (hn : min xs.size ys.size ≤ sizeLine)
    (hQ : ∀ h' acc' c', (∀ c o, c ≠ z → c ≠ TO → c ≠ i1 → c ≠ i2 → s.heap.get? c = some o → h'.get? c = some o) → Took (s.heap.objs.size + 1) xs ys acc' (min xs.size ys.size) h' →
      h'.get? s.heap.objs.size = some { cls := .type "list", dict := none, data := .seq acc' c', slots := #[] } → Q (.ref s.heap.objs.size) { s with heap := h' }) :
    wpAny (model prog w) A (call (.type "list") [.ref z]) Q E s := by
  refine callType_codes (Q₁ := fun obj s₁ => obj = .ref s.heap.objs.size ∧ s₁ = { s with heap := s.heap.push { cls := .type "list", data := .seq #[] } }) PySem.F.called_list (PySem.F.typeCall_list_1 _) PySem.F.entry_list_init
    (code_list_new _ ⟨rfl, rfl⟩) fun obj s₁ h₁ => ?_
  obtain ⟨rfl, rfl⟩ := h₁
  have hS : (s.heap.push { cls := .type "list", data := .seq #[] }).get? s.heap.objs.size = some { cls := .type "list", data := .seq #[] } := Heap.get?_push_size _ rfl
  have hSn : s.heap.objs.size ∉ [z, TI, TO, i1, i2, l1, l2] := fun hc => Nat.lt_irrefl _ (bnd _ hc)
  refine ⟨⟨_, hS, rfl⟩, PySem.F.args_list_init_2 _ _, ?_⟩
  show wpAny _ _ (do let old ← Builtin.List.listItems (.ref s.heap.objs.size); Builtin.List.listUpdate (.ref s.heap.objs.size) (fun _ => #[]); letGo old.toList.reverse; Builtin.List.listExtendWith (.ref s.heap.objs.size) (.ref z) .none) _ _ _
  refine wpAny_bind ?_
  unfold Builtin.List.listItems
  refine wpAny_bind (wpAny_seqItems hS rfl (wpAny_pure ?_))
  show wpAny _ _ (updateSeq s.heap.objs.size (fun _ => #[]) >>= fun _ => letGo (#[] : Array Value).toList.reverse >>= fun _ => Builtin.List.listExtendWith (.ref s.heap.objs.size) (.ref z) .none) _ _ _
  refine wpAny_bind (wpAny_updateSeq hS rfl ?_)
  have hS₂ := Heap.get?_update_self (Obj.mapSeq (fun _ => (#[] : Array Value))) hS rfl
  have oth : ∀ b o, s.heap.get? b = some o → ((s.heap.push { cls := .type "list", data := .seq #[] }).update s.heap.objs.size (Obj.mapSeq (fun _ => (#[] : Array Value)))).get? b = some o :=
    fun b o e => (Heap.get?_update_other _ _ (Nat.ne_of_gt (Heap.lt_size e))).trans (Heap.get?_push_of_some _ e)
  have sz : ((s.heap.push { cls := .type "list", data := .seq #[] }).update s.heap.objs.size (Obj.mapSeq (fun _ => (#[] : Array Value)))).objs.size = s.heap.objs.size + 1 := by rw [Heap.size_update]; exact Heap.size_push ..
  refine wpAny_bind (wpAny_letGo ?_)
  refine zl_extend (A := A.in1) (s := { s with heap := _ }) (by exact hh) Z (L.keep Z fun c o e _ => oth c o e) ⟨?_, ?_, ?_, ?_⟩ hSn hn hS₂ fun h' acc' c' hk t hS' => ?_
  · show z < Array.size _; rw [sz]; exact Nat.lt_succ_of_lt (bnd _ (by simp))
  · show TI < Array.size _; rw [sz]; exact Nat.lt_succ_of_lt (bnd _ (by simp))
  · show i1 < Array.size _; rw [sz]; exact Nat.lt_succ_of_lt (bnd _ (by simp))
  · show i2 < Array.size _; rw [sz]; exact Nat.lt_succ_of_lt (bnd _ (by simp))
  · refine ⟨rfl, hQ h' acc' c' (fun c o e1 e2 e3 e4 e => hk c o e1 e2 e3 e4 (Nat.ne_of_lt (Heap.lt_size e)) (oth c o e)) ?_ hS'⟩
    have t' := t
    rw [show ({ s with heap := (s.heap.push { cls := .type "list", data := .seq #[] }).update s.heap.objs.size (Obj.mapSeq (fun _ => (#[] : Array Value))) } : Shared).heap.objs.size = s.heap.objs.size + 1 from sz] at t'
    exact t'
end
end ZL

/-! PLM: zip of a list and a tuple, of a tuple and a list. -/
namespace ZL
open PySem
section
variable {prog : Program} {w : World} {A : Around} {E : Value → Shared → Prop} {s : Shared} {z TI TO i1 i2 l1 l2 : Addr} {xs ys : Array Value} {I1 I2 : Nat → Heap → Prop} {S1 S2 : Heap → Prop}
theorem fst_item {k : Nat} {x y a b : Value} {Q : Value → Shared → Prop} (D : ZipApart z TI TO i1 i2 l1 l2) (d1 : Drw prog w i1 l1 xs I1 S1) (d2 : Drw prog w i2 l2 ys I2 S2)
    (hz : IsZip s.heap z TI TO .none) (hTI : IsPair s.heap TI (.ref i1) (.ref i2)) (hTO : IsPair s.heap TO a b)
    (h1 : I1 k s.heap) (h2 : I2 k s.heap) (q1 : S1 s.heap) (q2 : S2 s.heap) (hx : xs[k]? = some x) (hy : ys[k]? = some y)
    (hQ : ∀ h', IsZip h' z TI TO (rawInt s.heap.objs.size) → IsPair h' TO x y → I1 (k + 1) h' → I2 (k + 1) h' → IsPair h' s.heap.objs.size x y → h'.objs.size = s.heap.objs.size + 1 →
      (∀ c o, c ≠ z → c ≠ TO → c ≠ i1 → c ≠ i2 → s.heap.get? c = some o → h'.get? c = some o) → Q (.ref s.heap.objs.size) { s with heap := h' }) :
    wpAny (model prog w) A (Builtin.«zip.__next__» ⟨[.ref z], []⟩) (fun fin s' => ∃ v, fin = .done (.ret v) ∧ Q v s') E s := by
  show wpAny _ _ (field (.ref z) 2 >>= _) _ _ _
  refine wpAny_bind (wpAny_field hz rfl (x := .bool false) rfl ?_)
  show wpAny _ _ (field (.ref z) 3 >>= _) _ _ _
  refine wpAny_bind (wpAny_field hz rfl (x := .ref TI) rfl ?_)
  refine wpAny_bind (wpAny_seqItems hTI rfl ?_)
  show wpAny _ _ (Builtin.SmallTypes.ownedTupleIsFree (.ref z) >>= _) _ _ _
  refine wpAny_bind ?_
  unfold Builtin.SmallTypes.ownedTupleIsFree
  refine wpAny_bind (wpAny_field hz rfl (x := .none) rfl (wpAny_pure ?_))
  simp only [if_true]
  refine wpAny_bind (wpAny_rule ?_)
  refine wpAny_bind (wpAny_field hz rfl (x := .ref TO) rfl ?_)
  refine wpAny_bind (wpAny_setField_rec hz (by simp) fun ha hza sa => ?_)
  have hza' : IsZip ha z TI TO .ellipsis := hza
  have ea := sa.extBut
  refine wpAny_bind ?_
  simp only [List.zipIdx_cons, List.zipIdx_nil, List.forIn_cons, List.forIn_nil]
  refine wpAny_bind (wpAny_bind (wpAny_onRaise ?_))
  show wpAny _ _ (Builtin.SmallTypes.nextOf (.ref i1) >>= _) _ _ _
  refine wpAny_bind (d1.item A _ { s with heap := ha } k x _ (d1.itF _ _ _ h1 fun o e => ea _ _ D.i1z e) (d1.sqF _ _ q1 fun o e => ea _ _ D.l1z e) hx fun hb h1b sb => wpAny_pure ?_)
  have eb := sb.extBut
  have Tb : IsPair hb TO a b := eb _ _ D.TOi1 (ea _ _ D.TOz hTO)
  refine wpAny_bind (wpAny_seqItems Tb rfl ?_)
  refine wpAny_bind (wpAny_updateSeq_pair Tb fun hc Tc sc => ?_)
  have Tc' : IsPair hc TO x b := Tc
  have ec := sc.extBut
  refine wpAny_bind (wpAny_letGo (wpAny_pure ?_))
  refine wpAny_bind (wpAny_bind (wpAny_onRaise ?_))
  show wpAny _ _ (Builtin.SmallTypes.nextOf (.ref i2) >>= _) _ _ _
  refine wpAny_bind (d2.item A _ { s with heap := hc } k y _ (d2.itF _ _ _ h2 fun o e => ec _ _ D.TOi2.symm (eb _ _ D.i12.symm (ea _ _ D.i2z e))) (d2.sqF _ _ q2 fun o e => ec _ _ D.l2TO (eb _ _ D.l2i1 (ea _ _ D.l2z e))) hy fun hd h2d sd => wpAny_pure ?_)
  have ed := sd.extBut
  have Td : IsPair hd TO x b := ed _ _ D.TOi2 Tc'
  refine wpAny_bind (wpAny_seqItems Td rfl ?_)
  refine wpAny_bind (wpAny_updateSeq_pair Td fun he Te se => ?_)
  have Te' : IsPair he TO x y := Te
  have ee := se.extBut
  refine wpAny_bind (wpAny_letGo (wpAny_pure (wpAny_pure ?_)))
  refine wpAny_bind (wpAny_seqItems Te' rfl ?_)
  refine wpAny_bind (wpAny_newTuple ?_)
  have hsz : he.objs.size = s.heap.objs.size := by rw [se.1, sd.1, sc.1, sb.1, sa.1]
  have ze : IsZip he z TI TO .ellipsis := ee _ _ D.TOz.symm (ed _ _ D.i2z.symm (ec _ _ D.TOz.symm (eb _ _ D.i1z.symm hza')))
  have hk : ∀ c o, c ≠ z → c ≠ TO → c ≠ i1 → c ≠ i2 → s.heap.get? c = some o → he.get? c = some o := fun c o c1 c2 c3 c4 e => ee _ _ c2 (ed _ _ c4 (ec _ _ c2 (eb _ _ c3 (ea _ _ c1 e))))
  have h1e : I1 (k + 1) he := d1.itF _ _ _ h1b fun o e => ee _ _ D.TOi1.symm (ed _ _ D.i12 (ec _ _ D.TOi1.symm e))
  have h2e : I2 (k + 1) he := d2.itF _ _ _ h2d fun o e => ee _ _ D.TOi2.symm e
  have hzlt : z < he.objs.size := Heap.lt_size ze
  show wpAny _ _ (Builtin.SmallTypes.ownedTupleHandOut (.ref z) (.ref he.objs.size) >>= _) _ _ _
  refine wpAny_bind ?_
  unfold Builtin.SmallTypes.ownedTupleHandOut
  have zf : IsZip (he.push { cls := .type "tuple", data := .seq #[x, y] }) z TI TO .ellipsis := Heap.get?_push_of_some _ ze
  refine wpAny_bind (wpAny_setField_rec zf (by simp) fun hg zg sg => ?_)
  have zg' : IsZip hg z TI TO (rawInt he.objs.size) := zg
  refine wpAny_setField_rec zg' (by simp) fun hh zh sh => ?_
  have zh' : IsZip hh z TI TO (rawInt he.objs.size) := zh
  have up : ∀ c o, c ≠ z → he.get? c = some o → hh.get? c = some o := fun c o c1 e => sh.extBut _ _ c1 (sg.extBut _ _ c1 (Heap.get?_push_of_some _ e))
  have Th : IsPair hh he.objs.size x y := sh.extBut _ _ (Nat.ne_of_gt hzlt) (sg.extBut _ _ (Nat.ne_of_gt hzlt) (Heap.get?_push_size _ rfl))
  have hz8 : hh.objs.size = he.objs.size + 1 := by rw [sh.1, sg.1, Heap.size_push]
  rw [hsz] at zh' Th hz8
  refine wpAny_pure ⟨_, rfl, ?_⟩
  show Q (.ref he.objs.size) _
  rw [hsz]
  exact hQ hh zh' (up _ _ D.TOz Te') (d1.itF _ _ _ h1e fun o e => up _ o D.i1z e) (d2.itF _ _ _ h2e fun o e => up _ o D.i2z e) Th hz8 fun c o c1 c2 c3 c4 e => up c o c1 (hk c o c1 c2 c3 c4 e)
theorem fst_end {k : Nat} {a b : Value} {Q : Fin → Shared → Prop} (hh : A.handled = none) (D : ZipApart z TI TO i1 i2 l1 l2) (d1 : Drw prog w i1 l1 xs I1 S1) (d2 : Drw prog w i2 l2 ys I2 S2)
    (hz : IsZip s.heap z TI TO .none) (hTI : IsPair s.heap TI (.ref i1) (.ref i2)) (hTO : IsPair s.heap TO a b)
    (h1 : I1 k s.heap) (h2 : I2 k s.heap) (q1 : S1 s.heap) (q2 : S2 s.heap) (hend : xs[k]? = none ∨ ys[k]? = none)
    (hE : ∀ h' e, (∀ c o, c ≠ z → c ≠ TO → c ≠ i1 → c ≠ i2 → s.heap.get? c = some o → h'.get? c = some o) → (∃ o, h'.get? e = some o ∧ o.cls = .type "StopIteration") → E (.ref e) { s with heap := h' }) :
    wpAny (model prog w) A (Builtin.«zip.__next__» ⟨[.ref z], []⟩) Q E s := by
  show wpAny _ _ (field (.ref z) 2 >>= _) _ _ _
  refine wpAny_bind (wpAny_field hz rfl (x := .bool false) rfl ?_)
  show wpAny _ _ (field (.ref z) 3 >>= _) _ _ _
  refine wpAny_bind (wpAny_field hz rfl (x := .ref TI) rfl ?_)
  refine wpAny_bind (wpAny_seqItems hTI rfl ?_)
  show wpAny _ _ (Builtin.SmallTypes.ownedTupleIsFree (.ref z) >>= _) _ _ _
  refine wpAny_bind ?_
  unfold Builtin.SmallTypes.ownedTupleIsFree
  refine wpAny_bind (wpAny_field hz rfl (x := .none) rfl (wpAny_pure ?_))
  simp only [if_true]
  refine wpAny_bind (wpAny_rule ?_)
  refine wpAny_bind (wpAny_field hz rfl (x := .ref TO) rfl ?_)
  refine wpAny_bind (wpAny_setField_rec hz (by simp) fun ha hza sa => ?_)
  have hza' : IsZip ha z TI TO .ellipsis := hza
  have ea := sa.extBut
  refine wpAny_bind ?_
  simp only [List.zipIdx_cons, List.zipIdx_nil, List.forIn_cons, List.forIn_nil]
  refine wpAny_bind (wpAny_bind (wpAny_onRaise ?_))
  show wpAny _ _ (Builtin.SmallTypes.nextOf (.ref i1) >>= _) _ _ _
  have h1a : I1 k ha := d1.itF _ _ _ h1 fun o e => ea _ _ D.i1z e
  have q1a : S1 ha := d1.sqF _ _ q1 fun o e => ea _ _ D.l1z e
  cases hx : xs[k]? with
  | none =>
    refine wpAny_bind (d1.stop A _ { s with heap := ha } k _ hh h1a q1a hx fun hb e eb he => ?_)
    obtain ⟨oe, hoe, hce⟩ := he
    have zb : IsZip hb z TI TO .ellipsis := eb _ _ D.i1z.symm hza'
    have hez : e ≠ z := fun q => by subst q; rw [zb] at hoe; cases hoe; simp at hce
    exact wpAny_setField_rec zb (by simp) fun hc _ sc => hE hc e (fun c o c1 _ c3 _ q => sc.extBut _ _ c1 (eb _ _ c3 (ea _ _ c1 q))) ⟨oe, sc.extBut _ _ hez hoe, hce⟩
  | some x =>
    have hy : ys[k]? = none := by rcases hend with h | h; rw [hx] at h; cases h; exact h
    refine wpAny_bind (d1.item A _ { s with heap := ha } k x _ h1a q1a hx fun hb h1b sb => wpAny_pure ?_)
    have eb := sb.extBut
    have Tb : IsPair hb TO a b := eb _ _ D.TOi1 (ea _ _ D.TOz hTO)
    refine wpAny_bind (wpAny_seqItems Tb rfl ?_)
    refine wpAny_bind (wpAny_updateSeq_pair Tb fun hc Tc sc => ?_)
    have ec := sc.extBut
    refine wpAny_bind (wpAny_letGo (wpAny_pure ?_))
    refine wpAny_bind (wpAny_bind (wpAny_onRaise ?_))
    show wpAny _ _ (Builtin.SmallTypes.nextOf (.ref i2) >>= _) _ _ _
    refine wpAny_bind (d2.stop A _ { s with heap := hc } k _ hh (d2.itF _ _ _ h2 fun o e => ec _ _ D.TOi2.symm (eb _ _ D.i12.symm (ea _ _ D.i2z e))) (d2.sqF _ _ q2 fun o e => ec _ _ D.l2TO (eb _ _ D.l2i1 (ea _ _ D.l2z e))) hy fun hd e ed he => ?_)
    obtain ⟨oe, hoe, hce⟩ := he
    have zd : IsZip hd z TI TO .ellipsis := ed _ _ D.i2z.symm (ec _ _ D.TOz.symm (eb _ _ D.i1z.symm hza'))
    have hez : e ≠ z := fun q => by subst q; rw [zd] at hoe; cases hoe; simp at hce
    exact wpAny_setField_rec zd (by simp) fun hf _ sf => hE hf e (fun c o c1 c2 c3 c4 q => sf.extBut _ _ c1 (ed _ _ c4 (ec _ _ c2 (eb _ _ c3 (ea _ _ c1 q))))) ⟨oe, sf.extBut _ _ hez hoe, hce⟩
/-- any two that can be drawn from -/
theorem zsAny (D : ZipApart z TI TO i1 i2 l1 l2) (d1 : Drw prog w i1 l1 xs I1 S1) (d2 : Drw prog w i2 l2 ys I2 S2) : Zs prog w z TI TO i1 i2 l1 l2 xs ys I1 I2 S1 S2 := by
  refine ⟨D, d1, d2, fun A E s x y a b Q hz hTI hTO h1 h2 q1 q2 hx hy hq => ?_, fun A E s a b Q hh hz hTI hTO h1 h2 q1 q2 he hq => ?_⟩
  · have hT : s.TypeIs (.ref z) "zip" := ⟨_, hz, rfl⟩
    unfold pyNext
    exact wpAny_bind (wpAny_attempt (wpAny_callSpecial?_slot (name := Str.ofString "__next__") hT F.slot_zip_next
      (wpAny_call_entry F.slot_zip_next hT F.entry_zip_next
        (fst_item D d1 d2 hz hTI hTO h1 h2 q1 q2 hx hy fun h' a1 a2 a3 a4 a5 a6 a7 => wpAny_pure (hq h' a1 a2 a3 a4 a5 a6 a7)) (F.args_zip_next_1 _))))
  · have hT : s.TypeIs (.ref z) "zip" := ⟨_, hz, rfl⟩
    unfold pyNext
    refine wpAny_bind (wpAny_attempt (wpAny_callSpecial?_slot (name := Str.ofString "__next__") hT F.slot_zip_next
      (wpAny_call_entry F.slot_zip_next hT F.entry_zip_next (fst_end hh D d1 d2 hz hTI hTO h1 h2 q1 q2 he fun h' e hk he => ?_) (F.args_zip_next_1 _))))
    obtain ⟨o, ho, hc⟩ := he
    refine wpAny_bind (wpAny_isInstance (T := "StopIteration") (b := true) ⟨o, ho, hc⟩ isSubtype_stop ?_)
    exact wpAny_pure (hq _ hk)
end
/-! ### the call -/
abbrev itOb (T : String) (l : Addr) : Obj := { cls := .type T, data := .fields #[.ref l, .int 0 0] }
abbrev m1 (T1 : String) (h : Heap) (l1 : Addr) : Heap := h.push (itOb T1 l1)
abbrev m2 (T1 T2 : String) (h : Heap) (l1 l2 : Addr) : Heap := (m1 T1 h l1).push (itOb T2 l2)
abbrev m3 (T1 T2 : String) (h : Heap) (l1 l2 : Addr) : Heap := (m2 T1 T2 h l1 l2).push { cls := .type "tuple", data := .seq #[.ref h.objs.size, .ref (m1 T1 h l1).objs.size] }
abbrev m4 (T1 T2 : String) (h : Heap) (l1 l2 : Addr) : Heap := (m3 T1 T2 h l1 l2).push { cls := .type "tuple", data := .seq #[.none, .none] }
abbrev m5 (T1 T2 : String) (h : Heap) (l1 l2 : Addr) : Heap := (m4 T1 T2 h l1 l2).push { cls := .type "zip", data := .fields #[.none, .bool false, .bool false, .ref (m2 T1 T2 h l1 l2).objs.size, .ref (m3 T1 T2 h l1 l2).objs.size] }
theorem meets_lt (l1 l2 : Addr) (xs ys : Array Value) :
    Meets (Builtin.«zip.__new__» ⟨[.type "zip", .ref l1, .ref l2], []⟩) (fun _ R s => s.heap.IsList l1 xs ∧ s.heap.IsTuple l2 ys ∧
      R (.ok (.ret (.ref (m4 "list_iterator" "tuple_iterator" s.heap l1 l2).objs.size))) { s with heap := m5 "list_iterator" "tuple_iterator" s.heap l1 l2 }) :=
  .of_wp fun prog w A R s h => by
    obtain ⟨hp, g, d, tk, os⟩ := s; obtain ⟨hl1, hl2, h⟩ := h
    have hsub := sub_zip
    have hL1 : Heap.IsList (Shared.heap ⟨hp, g, d, tk, os⟩) l1 xs := hl1
    have hL2 : Heap.IsTuple (Shared.heap ⟨hp.push { cls := .type "list_iterator", data := .fields #[.ref l1, .int 0 0] }, g, d, tk, os⟩) l2 ys := Heap.IsTuple.push hl2 _
    wp_walk using wpAny_pyIter_list hL1, wpAny_pyIter_tuple hL2
    exact ⟨_, rfl, h⟩
theorem meets_tl (l1 l2 : Addr) (xs ys : Array Value) :
    Meets (Builtin.«zip.__new__» ⟨[.type "zip", .ref l1, .ref l2], []⟩) (fun _ R s => s.heap.IsTuple l1 xs ∧ s.heap.IsList l2 ys ∧
      R (.ok (.ret (.ref (m4 "tuple_iterator" "list_iterator" s.heap l1 l2).objs.size))) { s with heap := m5 "tuple_iterator" "list_iterator" s.heap l1 l2 }) :=
  .of_wp fun prog w A R s h => by
    obtain ⟨hp, g, d, tk, os⟩ := s; obtain ⟨hl1, hl2, h⟩ := h
    have hsub := sub_zip
    have hL1 : Heap.IsTuple (Shared.heap ⟨hp, g, d, tk, os⟩) l1 xs := hl1
    have hL2 : Heap.IsList (Shared.heap ⟨hp.push { cls := .type "tuple_iterator", data := .fields #[.ref l1, .int 0 0] }, g, d, tk, os⟩) l2 ys := Heap.IsList.push hl2 _
    wp_walk using wpAny_pyIter_tuple hL1, wpAny_pyIter_list hL2
    exact ⟨_, rfl, h⟩
section
variable {prog : Program} {w : World} {A : Around} {E : Value → Shared → Prop} {s : Shared}
theorem lay5 {T1 T2 : String} {h0 : Heap} {l1 l2 : Addr} {I : Heap → Prop} (h : ∀ h', IsZip h' (h0.objs.size + 4) (h0.objs.size + 2) (h0.objs.size + 3) .none → IsPair h' (h0.objs.size + 2) (.ref h0.objs.size) (.ref (h0.objs.size + 1)) →
      IsPair h' (h0.objs.size + 3) .none .none → h'.get? h0.objs.size = some (itOb T1 l1) → h'.get? (h0.objs.size + 1) = some (itOb T2 l2) → h'.objs.size = h0.objs.size + 5 →
      (∀ c o, h0.get? c = some o → h'.get? c = some o) → I h') : (m4 T1 T2 h0 l1 l2).objs.size = h0.objs.size + 4 ∧ I (m5 T1 T2 h0 l1 l2) := by
  have z1 : (m1 T1 h0 l1).objs.size = h0.objs.size + 1 := Heap.size_push ..
  have z2 : (m2 T1 T2 h0 l1 l2).objs.size = h0.objs.size + 2 := by rw [Heap.size_push, z1]
  have z3 : (m3 T1 T2 h0 l1 l2).objs.size = h0.objs.size + 3 := by rw [Heap.size_push, z2]
  have z4 : (m4 T1 T2 h0 l1 l2).objs.size = h0.objs.size + 4 := by rw [Heap.size_push, z3]
  have z5 : (m5 T1 T2 h0 l1 l2).objs.size = h0.objs.size + 5 := by rw [Heap.size_push, z4]
  have g5 : (m5 T1 T2 h0 l1 l2).get? (m4 T1 T2 h0 l1 l2).objs.size = some _ := Heap.get?_push_size _ rfl
  have g4 : (m5 T1 T2 h0 l1 l2).get? (m3 T1 T2 h0 l1 l2).objs.size = some _ := Heap.get?_push_of_some _ (Heap.get?_push_size _ rfl)
  have g3 : (m5 T1 T2 h0 l1 l2).get? (m2 T1 T2 h0 l1 l2).objs.size = some _ := Heap.get?_push_of_some _ (Heap.get?_push_of_some _ (Heap.get?_push_size _ rfl))
  have g2 : (m5 T1 T2 h0 l1 l2).get? (m1 T1 h0 l1).objs.size = some _ := Heap.get?_push_of_some _ (Heap.get?_push_of_some _ (Heap.get?_push_of_some _ (Heap.get?_push_size _ rfl)))
  have g1 : (m5 T1 T2 h0 l1 l2).get? h0.objs.size = some _ := Heap.get?_push_of_some _ (Heap.get?_push_of_some _ (Heap.get?_push_of_some _ (Heap.get?_push_of_some _ (Heap.get?_push_size _ rfl))))
  rw [z2, z3, z4] at g5
  rw [z1, z2] at g3
  rw [z3] at g4
  rw [z1] at g2
  exact ⟨z4, h _ g5 g3 g4 g1 g2 z5 fun c o x => Heap.get?_push_of_some _ (Heap.get?_push_of_some _ (Heap.get?_push_of_some _ (Heap.get?_push_of_some _ (Heap.get?_push_of_some _ x))))⟩
theorem call_lt {l1 l2 : Addr} {xs ys : Array Value} {Q : Value → Shared → Prop} (hl1 : s.heap.IsList l1 xs) (hl2 : s.heap.IsTuple l2 ys)
    (h : ∀ h', IsZip h' (s.heap.objs.size + 4) (s.heap.objs.size + 2) (s.heap.objs.size + 3) .none → IsPair h' (s.heap.objs.size + 2) (.ref s.heap.objs.size) (.ref (s.heap.objs.size + 1)) →
      IsPair h' (s.heap.objs.size + 3) .none .none → h'.IsListIter s.heap.objs.size l1 0 → h'.IsTupleIter (s.heap.objs.size + 1) l2 0 → h'.objs.size = s.heap.objs.size + 5 →
      (∀ c o, s.heap.get? c = some o → h'.get? c = some o) → Q (.ref (s.heap.objs.size + 4)) { s with heap := h' }) :
    wpAny (model prog w) A (call (.type "zip") [.ref l1, .ref l2]) Q E s := by
  refine callType_new F.called_zip (by decide) (F.typeCall_zip_2 _ _) (F.newCall_zip_2 _ _) (fun obj => F.args_object_init_3 obj _ _) F.entry_zip_new (meets_lt l1 l2 xs ys) ⟨hl1, hl2, ?_⟩
  obtain ⟨e, q⟩ := lay5 (T1 := "list_iterator") (T2 := "tuple_iterator") (h0 := s.heap) (l1 := l1) (l2 := l2) (I := fun h' => (∃ o, h'.get? (s.heap.objs.size + 4) = some o ∧ o.cls = .type "zip") ∧ Q (.ref (s.heap.objs.size + 4)) { s with heap := h' })
    fun h' a1 a2 a3 a4 a5 a6 a7 => ⟨⟨_, a1, rfl⟩, h h' a1 a2 a3 ⟨_, a4, rfl, rfl⟩ ⟨_, a5, rfl, rfl⟩ a6 a7⟩
  show _ ∧ _
  rw [e]
  exact q
theorem call_tl {l1 l2 : Addr} {xs ys : Array Value} {Q : Value → Shared → Prop} (hl1 : s.heap.IsTuple l1 xs) (hl2 : s.heap.IsList l2 ys)
    (h : ∀ h', IsZip h' (s.heap.objs.size + 4) (s.heap.objs.size + 2) (s.heap.objs.size + 3) .none → IsPair h' (s.heap.objs.size + 2) (.ref s.heap.objs.size) (.ref (s.heap.objs.size + 1)) →
      IsPair h' (s.heap.objs.size + 3) .none .none → h'.IsTupleIter s.heap.objs.size l1 0 → h'.IsListIter (s.heap.objs.size + 1) l2 0 → h'.objs.size = s.heap.objs.size + 5 →
      (∀ c o, s.heap.get? c = some o → h'.get? c = some o) → Q (.ref (s.heap.objs.size + 4)) { s with heap := h' }) :
    wpAny (model prog w) A (call (.type "zip") [.ref l1, .ref l2]) Q E s := by
  refine callType_new F.called_zip (by decide) (F.typeCall_zip_2 _ _) (F.newCall_zip_2 _ _) (fun obj => F.args_object_init_3 obj _ _) F.entry_zip_new (meets_tl l1 l2 xs ys) ⟨hl1, hl2, ?_⟩
  obtain ⟨e, q⟩ := lay5 (T1 := "tuple_iterator") (T2 := "list_iterator") (h0 := s.heap) (l1 := l1) (l2 := l2) (I := fun h' => (∃ o, h'.get? (s.heap.objs.size + 4) = some o ∧ o.cls = .type "zip") ∧ Q (.ref (s.heap.objs.size + 4)) { s with heap := h' })
    fun h' a1 a2 a3 a4 a5 a6 a7 => ⟨⟨_, a1, rfl⟩, h h' a1 a2 a3 ⟨_, a4, rfl, rfl⟩ ⟨_, a5, rfl, rfl⟩ a6 a7⟩
  show _ ∧ _
  rw [e]
  exact q
end
end ZL

/-! PLY: list(zip(a, b)) in the layer. -/
namespace ZL
open PySem PySem.Spec PyProof.Rows L2

/-- behind list(zip(..)): the list, its pairs, all new -/
def Zipped (H H2 : Hp) (S : Addr) (ps : List Addr) (xs ys : List V) : Prop :=
  Same H H2 ∧ H S = none ∧ H2 S = some (.lst (ps.map V.ref)) ∧ ps.length = min xs.length ys.length ∧
    ∀ (j : Nat) (T : Addr) (x y : V), ps[j]? = some T → xs[j]? = some x → ys[j]? = some y → H T = none ∧ H2 T = some (.tup [x, y])
def tZL (K : PySem.W.Frag) (ta : TA) : TE := fun σ H Q => ta σ H fun vs H1 => ∃ a b xs ys, vs = [V.ref a, V.ref b] ∧ (SqL K H1 a xs ∨ SqT K H1 a xs) ∧ (SqL K H1 b ys ∨ SqT K H1 b ys) ∧ min xs.length ys.length ≤ sizeLine ∧
  ∀ S ps H2, Zipped H1 H2 S ps xs ys → Q (.ref S) H2
section
variable {X : Cx} {pins : List (Addr × Obj)} {σ : L2.St} {H : Hp} {s : Shared}
open Classical in
/-- what is tracked behind -/
noncomputable def newH (H : Hp) (h' : Heap) (n S : Addr) (refs : List V) (Ts : List Value) : Hp := fun b =>
  if b = S then some (.lst refs) else if p : n ≤ b ∧ Value.ref b ∈ Ts ∧ ∃ p : V × V, ∃ u w, IsPair h' b u w ∧ RelV p.1 u ∧ RelV p.2 w then some (.tup [(Classical.choose p.2.2).1, (Classical.choose p.2.2).2]) else H b
theorem newH_S {H : Hp} {h' : Heap} {n S : Addr} {refs : List V} {Ts : List Value} : newH H h' n S refs Ts S = some (.lst refs) := by unfold newH; rw [if_pos rfl]
theorem newH_T {H : Hp} {h' : Heap} {n S T : Addr} {refs : List V} {Ts : List Value} {x y : V} {u w : Value} (hS : T ≠ S) (hn : n ≤ T) (ht : Value.ref T ∈ Ts) (p : IsPair h' T u w) (rx : RelV x u) (ry : RelV y w) :
    newH H h' n S refs Ts T = some (.tup [x, y]) := by
  unfold newH
  have q : n ≤ T ∧ Value.ref T ∈ Ts ∧ ∃ p : V × V, ∃ u w, IsPair h' T u w ∧ RelV p.1 u ∧ RelV p.2 w := ⟨hn, ht, (x, y), u, w, p, rx, ry⟩
  rw [if_neg hS, dif_pos q]
  obtain ⟨u', w', p', r1, r2⟩ := Classical.choose_spec q.2.2
  unfold IsPair at p p'
  rw [p] at p'
  injection p' with p'
  have e : (#[u, w] : Array Value) = #[u', w'] := by
    have := congrArg Obj.data p'
    injection this
  have el : [u, w] = [u', w'] := congrArg Array.toList e
  injection el with e1 el
  injection el with e2 _
  subst e1; subst e2
  rw [RelV.inj r1 rx, RelV.inj r2 ry]
theorem newH_old {H : Hp} {h' : Heap} {n S b : Addr} {refs : List V} {Ts : List Value} (hS : b ≠ S) (hn : ¬ n ≤ b) : newH H h' n S refs Ts b = H b := by
  unfold newH
  rw [if_neg hS, dif_neg fun q => hn q.1]
theorem Inv.zipped {h' : Heap} {S : Addr} {acc : Array Value} {c : Nat} {xs ys : List V} {us ws : List Value} (I : Inv X pins σ H s) (k : ∀ c o, s.heap.get? c = some o → h'.get? c = some o)
    (hS : s.heap.objs.size ≤ S) (rx : Vals xs us) (ry : Vals ys ws) (t : Took (S + 1) us.toArray ws.toArray acc (min us.length ws.length) h') (hn : min xs.length ys.length ≤ sizeLine)
    (hSo : h'.get? S = some { cls := .type "list", dict := none, data := .seq acc c, slots := #[] }) :
    ∃ ps H2, Inv X pins σ H2 { s with heap := h' } ∧ Zipped H H2 S ps xs ys := by
  have ex := rx.length
  have ey := ry.length
  have hps : ∃ ps : List Addr, acc.toList = ps.map Value.ref := by
    have : ∀ v ∈ acc.toList, ∃ T, v = Value.ref T := fun v hv => by
      obtain ⟨j, hj⟩ := List.getElem?_of_mem hv
      have hl : j < min us.length ws.length := by
        rw [← t.1, ← Array.length_toList]
        exact (List.getElem?_eq_some_iff.mp hj).1
      obtain ⟨T, x, y, a1, _⟩ := t.2 j hl
      rw [Array.getElem?_toList] at hj
      rw [a1] at hj
      exact ⟨T, (Option.some.inj hj).symm⟩
    generalize acc.toList = l at this
    induction l with
    | nil => exact ⟨[], rfl⟩
    | cons v l ih =>
      obtain ⟨T, rfl⟩ := this v (by simp)
      obtain ⟨ps, rfl⟩ := ih fun v hv => this v (List.mem_cons_of_mem _ hv)
      exact ⟨T :: ps, rfl⟩
  obtain ⟨ps, hps⟩ := hps
  have hlen : ps.length = min xs.length ys.length := by
    have := congrArg List.length hps
    rw [Array.length_toList, List.length_map, t.1] at this
    omega
  have hat : ∀ (j : Nat) (T : Addr) (x y : V), ps[j]? = some T → xs[j]? = some x → ys[j]? = some y → S + 1 ≤ T ∧ Value.ref T ∈ acc.toList ∧ ∃ u w, IsPair h' T u w ∧ RelV x u ∧ RelV y w := by
    intro j T x y e1 e2 e3
    have hj : j < min us.length ws.length := by
      have h1 := (List.getElem?_eq_some_iff.mp e1).1
      omega
    obtain ⟨T', u, w, a1, a2, a3, a4, a5⟩ := t.2 j hj
    have e4 : acc.toList[j]? = some (Value.ref T) := by rw [hps, List.getElem?_map, e1]; rfl
    rw [Array.getElem?_toList, a1] at e4
    have e5 : T' = T := by injection e4 with e4; injection e4
    subst e5
    obtain ⟨u', e6, r1⟩ := rx.get e2
    obtain ⟨w', e7, r2⟩ := ry.get e3
    rw [List.getElem?_toArray] at a3 a4
    rw [a3] at e6; cases e6
    rw [a4] at e7; cases e7
    exact ⟨a2, by rw [hps]; exact List.mem_map.mpr ⟨T', List.mem_of_getElem? e1, rfl⟩, u, w, a5, r1, r2⟩
  have lt1 : ∀ {b o}, s.heap.get? b = some o → b < s.heap.objs.size := fun e => Heap.lt_size e
  have old : ∀ b o, H b = some o → newH H h' s.heap.objs.size S (ps.map V.ref) acc.toList b = some o := fun b o e => by
    have hb : b < s.heap.objs.size := I.hok.lt e
    rw [newH_old (fun q => by rw [q] at hb; exact absurd (Nat.lt_of_lt_of_le hb hS) (Nat.lt_irrefl _)) (Nat.not_le.mpr hb)]
    exact e
  have nw : ∀ b o, newH H h' s.heap.objs.size S (ps.map V.ref) acc.toList b = some o → H b = some o ∨ (b = S ∧ o = .lst (ps.map V.ref)) ∨ ∃ x y u w, o = .tup [x, y] ∧ IsPair h' b u w ∧ RelV x u ∧ RelV y w := fun b o e => by
    unfold newH at e
    split at e
    · rename_i q
      cases e
      exact .inr (.inl ⟨q, rfl⟩)
    · split at e
      · rename_i q
        cases e
        obtain ⟨u, w, r0, r1, r2⟩ := Classical.choose_spec q.2.2
        exact .inr (.inr ⟨_, _, u, w, rfl, r0, r1, r2⟩)
      · exact .inl e
  refine ⟨ps, newH H h' s.heap.objs.size S (ps.map V.ref) acc.toList, ?_, fun b o e => old b o e, I.hok.fresh hS, newH_S, hlen, fun j T x y e1 e2 e3 => ?_⟩
  · refine I.un (t' := s.toks) ⟨fun b o e _ _ _ => k b o e, fun b o e _ _ _ => ⟨o.slots, k b o e⟩, fun b o e n _ => ?_, fun b o e _ => ⟨o, k b o e⟩, fun b xs e => old _ _ e, fun b o u e => old _ _ e, fun b p e => ⟨#[], by rw [old _ _ e]; simp⟩⟩ ?_
    · have hb := lt1 e
      rw [newH_old (fun q => by rw [q] at hb; exact absurd (Nat.lt_of_lt_of_le hb hS) (Nat.lt_irrefl _)) (Nat.not_le.mpr hb)]
      exact n
    · intro b o e
      rcases nw b o e with q | ⟨rfl, rfl⟩ | ⟨x, y, u, w, rfl, p, r1, r2⟩
      · exact (I.hok b o q).stay (fun b u _ q => k b u q) (fun _ q => old _ _ q) fun _ _ q => old _ _ q
      · refine ⟨by rw [List.length_map, hlen]; exact hn, acc.toList, c, ?_, by simpa using hSo⟩
        rw [hps]
        clear hps hlen hat old nw e
        induction ps with
        | nil => exact .nil
        | cons T r ih => exact .cons rfl ih
      · exact ⟨by rw [sizeLine_eq]; exact (by decide : 2 ≤ 16777216), [u, w], .cons r1 (.cons r2 .nil), _, p, rfl, _, rfl⟩
  · obtain ⟨a1, a2, u, w, p, r1, r2⟩ := hat j T x y e1 e2 e3
    have hST : s.heap.objs.size ≤ T := Nat.le_trans hS (Nat.le_of_succ_le a1)
    exact ⟨I.hok.fresh hST, newH_T (Nat.ne_of_gt a1) hST a2 p r1 r2⟩
theorem pe_lzip {e e2 : Expr} {ta : TA} {p pos p2 pos2 : Pos} (hc : X.calm = true) (hg : Gl X "zip") (hm : X.mg "zip" = none) (hg2 : Gl X "list") (hm2 : X.mg "list" = none) (ha : PA X [e, e2] ta)
    (hs : starEach [e, e2] X.env = (false, eval e X.env) :: starEach [e2] X.env := by rfl) (hpl : (backTo pos (starEach [e2] X.env)).any (·.1) = false := by rfl)
    (hs2 : starEach [.Call (.Name "zip" p) [e, e2] [] pos] X.env = (false, eval (.Call (.Name "zip" p) [e, e2] [] pos) X.env) :: starEach [] X.env := by rfl) (hpl2 : (backTo pos2 (starEach [] X.env)).any (·.1) = false := by rfl) :
    PE X (.Call (.Name "list" p2) [.Call (.Name "zip" p) [e, e2] [] pos] [] pos2) (tZL X.K ta) := by
  refine ⟨fun pins s σ H Q I h => ?_⟩
  refine Call_ (ld_blt I hg2 hm2 PyProof.Rows.boot_list (PyProof.Rows.callWith_type1 ?_ hs2 hpl2))
  rw [hs2]
  show wpAny _ _ (spliced ((false, eval _ X.env) :: backTo pos2 (starEach [] X.env))) _ _ s
  refine Calls.spliced_cons ?_
  refine Call_ (ld_blt I hg hm PyProof.Rows.boot_zip (PyProof.Rows.callWith_type1 (thn (ha.run pos pins s σ H _ I h) fun us s1 ⟨vs, H1, I1, r1, q1⟩ => ?_) hs hpl))
  obtain ⟨a, b, xs, ys, ex, hqa, hqb, hn, q⟩ := q1
  subst ex
  cases r1 with
  | cons r rr =>
    cases rr with
    | cons r' rr =>
      cases rr
      cases r
      cases r'
      have fin : ∀ {us ws : List Value} {I1' I2' : Nat → Heap → Prop} {S1' S2' : Heap → Prop} {h' : Heap}, Vals xs us → Vals ys ws → a < s1.heap.objs.size → b < s1.heap.objs.size →
          Zs X.prog X.w (s1.heap.objs.size + 4) (s1.heap.objs.size + 2) (s1.heap.objs.size + 3) s1.heap.objs.size (s1.heap.objs.size + 1) a b us.toArray ws.toArray I1' I2' S1' S2' →
          Lay h' (s1.heap.objs.size + 4) (s1.heap.objs.size + 2) (s1.heap.objs.size + 3) s1.heap.objs.size (s1.heap.objs.size + 1) I1' I2' S1' S2' .none .none → h'.objs.size = s1.heap.objs.size + 5 →
          (∀ c o, s1.heap.get? c = some o → h'.get? c = some o) →
          wpAny (model X.prog X.w) X.A (spliced (backTo pos2 (starEach [] X.env))) (fun vs s2 => wpAny (model X.prog X.w) X.A (call (.type "list") (.ref (s1.heap.objs.size + 4) :: vs)) (EP X pins σ Q) X.xe s2) X.xe { s1 with heap := h' } := by
        intro us ws I1' I2' S1' S2' h' ru rw' hla hlb Z L hsz hk
        refine Calls.spliced_nil ?_
        have lu := ru.length
        have lw := rw'.length
        have e1 : us.toArray.size = us.length := by simp
        have e2 : ws.toArray.size = ws.length := by simp
        have hla' : a < s1.heap.objs.size + 5 := Nat.lt_of_lt_of_le hla (Nat.le_add_right _ _)
        have hlb' : b < s1.heap.objs.size + 5 := Nat.lt_of_lt_of_le hlb (Nat.le_add_right _ _)
        refine zl_call (s := { s1 with heap := h' }) (I1.ok.hd hc) Z L (fun c hcm => ?_) (by rw [e1, e2]; omega) fun h'' acc' c' k t hS => ?_
        · show c < h'.objs.size
          rw [hsz]
          have h5 : ∀ i, i < 5 → s1.heap.objs.size + i < s1.heap.objs.size + 5 := fun i hi => Nat.add_lt_add_left hi _
          simp only [List.mem_cons, List.not_mem_nil, or_false] at hcm
          rcases hcm with q | q | q | q | q | q | q
          · rw [q]; exact h5 4 (by decide)
          · rw [q]; exact h5 2 (by decide)
          · rw [q]; exact h5 3 (by decide)
          · rw [q]; exact h5 0 (by decide)
          · rw [q]; exact h5 1 (by decide)
          · rw [q]; exact hla'
          · rw [q]; exact hlb'
        · have hsz' : ({ s1 with heap := h' } : Shared).heap.objs.size = s1.heap.objs.size + 5 := hsz
          rw [hsz'] at t hS
          rw [hsz']
          have ne : ∀ i c o, s1.heap.get? c = some o → c ≠ s1.heap.objs.size + i := fun i c o e => Nat.ne_of_lt (Nat.lt_of_lt_of_le (Heap.lt_size e) (Nat.le_add_right _ _))
          rw [e1, e2] at t
          obtain ⟨ps, H2, I2, z⟩ := ZL.Inv.zipped I1 (fun c o e => k c o (ne 4 c o e) (ne 3 c o e) (ne 0 c o e) (ne 1 c o e) (hk c o e)) (Nat.le_add_right _ 5) ru rw' t hn hS
          exact ⟨.ref _, H2, I2, rfl, q _ ps H2 z⟩
      rcases hqa with hqx | hqx <;> rcases hqb with hqy | hqy
      · obtain ⟨its, rv, p1, _⟩ := I1.list hqx
        obtain ⟨its2, rv2, p2, _⟩ := I1.list hqy
        refine call_zip_2 p1.isList p2.isList fun h' hz hTI hTO h1 h2 hsz hk => ?_
        exact fin rv rv2 p1.lt p2.lt (zsAny (PySem.W.ktu_apart s1.heap.objs.size a b p1.lt p2.lt) (drwL _ _ _) (drwL _ _ _)) ⟨hz, hTI, hTO, h1, h2, (p1.isList).at fun o e => hk _ o e, (p2.isList).at fun o e => hk _ o e⟩ hsz hk
      · obtain ⟨its, rv, p1, _⟩ := I1.list hqx
        obtain ⟨its2, rv2, p2, _⟩ := I1.tuple hqy
        obtain ⟨o2, ho2, _⟩ := id p2
        have p2' : s1.heap.IsTuple b its2.toArray := p2
        refine call_lt p1.isList p2' fun h' hz hTI hTO h1 h2 hsz hk => ?_
        exact fin rv rv2 p1.lt (Heap.lt_size ho2) (zsAny (PySem.W.ktu_apart s1.heap.objs.size a b p1.lt (Heap.lt_size ho2)) (drwL _ _ _) (drwT _ _ _)) ⟨hz, hTI, hTO, h1, h2, (p1.isList).at fun o e => hk _ o e, p2'.at fun o e => hk _ o e⟩ hsz hk
      · obtain ⟨its, rv, p1, _⟩ := I1.tuple hqx
        obtain ⟨its2, rv2, p2, _⟩ := I1.list hqy
        obtain ⟨o1, ho1, _⟩ := id p1
        have p1' : s1.heap.IsTuple a its.toArray := p1
        refine call_tl p1' p2.isList fun h' hz hTI hTO h1 h2 hsz hk => ?_
        exact fin rv rv2 (Heap.lt_size ho1) p2.lt (zsAny (PySem.W.ktu_apart s1.heap.objs.size a b (Heap.lt_size ho1) p2.lt) (drwT _ _ _) (drwL _ _ _)) ⟨hz, hTI, hTO, h1, h2, p1'.at fun o e => hk _ o e, (p2.isList).at fun o e => hk _ o e⟩ hsz hk
      · obtain ⟨its, rv, p1, _⟩ := I1.tuple hqx
        obtain ⟨its2, rv2, p2, _⟩ := I1.tuple hqy
        obtain ⟨o1, ho1, _⟩ := id p1
        obtain ⟨o2, ho2, _⟩ := id p2
        have p1' : s1.heap.IsTuple a its.toArray := p1
        have p2' : s1.heap.IsTuple b its2.toArray := p2
        refine RZ.call_zipT p1' p2' fun h' hz hTI hTO h1 h2 hsz hk => ?_
        exact fin rv rv2 (Heap.lt_size ho1) (Heap.lt_size ho2) (zsAny (PySem.W.ktu_apart s1.heap.objs.size a b (Heap.lt_size ho1) (Heap.lt_size ho2)) (drwT _ _ _) (drwT _ _ _)) ⟨hz, hTI, hTO, h1, h2, p1'.at fun o e => hk _ o e, p2'.at fun o e => hk _ o e⟩ hsz hk
end
end ZL

/-! PRG: list(range(..)) in the layer. -/
namespace RG
open PySem PySem.Spec PyProof.Rows L2

def rints (lo : Int) (n : Nat) : List Int := (List.range n).map fun (i : Nat) => lo + (i : Int)
theorem ints_at : ∀ (n : Nat) (lo : Int) (vs : List Value), vs.length = n → (∀ (j : Nat) (v : Value), vs[j]? = some v → ∃ t, v = .int (lo + (j : Int) * 1) t) → Vals ((rints lo n).map V.int) vs
  | 0, lo, vs, e, _ => by
    have : vs = [] := List.eq_nil_of_length_eq_zero e
    subst this
    exact .nil
  | n + 1, lo, vs, e, h => by
    cases vs with
    | nil => cases e
    | cons v vs =>
      have e1 : rints lo (n + 1) = lo :: rints (lo + 1) n := by
        unfold rints
        rw [List.range_succ_eq_map, List.map_cons, List.map_map]
        congr 1
        · simp
        · apply List.map_congr_left
          intro i _
          simp only [Function.comp]
          omega
      rw [e1, List.map_cons]
      obtain ⟨t, ht⟩ := h 0 v rfl
      refine .cons ⟨t, by rw [ht]; simp⟩ (ints_at n (lo + 1) vs (by simpa using e) fun j v hj => ?_)
      obtain ⟨t', ht'⟩ := h (j + 1) v (by simpa using hj)
      refine ⟨t', ht'.trans ?_⟩
      congr 1
      omega
section
variable {X : Cx}
theorem rng_list {pins : List (Addr × Obj)} {σ : L2.St} {H : Hp} {s : Shared} {Q : VK} {lo hi : Int} {t u v : Tok} {tk : Nat} (hc : X.calm = true) (I : Inv X pins σ H s) (h1 : -(2 ^ 62) ≤ lo) (h2 : lo < 2 ^ 62) (h3 : -(2 ^ 62) ≤ hi) (h4 : hi < 2 ^ 62) (hl : (hi - lo).toNat ≤ 16777216)
    (q : ∀ S, H S = none → Q (.ref S) (upd H S (.lst ((rints lo (hi - lo).toNat).map V.int)))) :
    wpAny (model X.prog X.w) X.A (call (.type "list") [.ref s.heap.objs.size]) (EP X pins σ Q) X.xe { s with heap := s.heap.push { cls := .type "range", data := .fields #[.int lo t, .int hi u, .int 1 v] }, toks := tk } := by
  have I1 : Inv X pins σ H { s with heap := s.heap.push { cls := .type "range", data := .fields #[.int lo t, .int hi u, .int 1 v] }, toks := tk } := I.kept fun b o e => Heap.get?_push_of_some _ e
  refine call_list_range (I1.ok.hd hc) (IsRange.new ..) (small_one h1 h2 h3 h4) (n := (hi - lo).toNat) (by rw [rangeSize_one]; split <;> omega) (by omega) fun h' tk' acc c' hk hS hi' => ?_
  refine ⟨.ref _, _, I1.laid (t' := tk') (o := .lst ((rints lo (hi - lo).toNat).map V.int)) hk (Nat.le_refl _) ⟨?_, acc.toList, c', ints_at _ _ _ (by rw [Array.length_toList]; exact hi'.1) fun j v hj => hi'.2 j v (by rw [← hj, Array.getElem?_toList]), ?_⟩, rfl, q _ (I1.hok.fresh (Nat.le_refl _))⟩
  · rw [List.length_map]; unfold rints; rw [List.length_map, List.length_range, sizeLine_eq]; omega
  · exact hS
def tLR1 (ta : TA) : TE := fun σ H Q => ta σ H fun vs H1 => ∃ j : Int, vs = [.int j] ∧ (-(2 ^ 62) ≤ j ∧ j < 2 ^ 62) ∧ (j - 0).toNat ≤ 16777216 ∧ ∀ S, H1 S = none → Q (.ref S) (upd H1 S (.lst ((rints 0 (j - 0).toNat).map V.int)))
def tLR2 (ta : TA) : TE := fun σ H Q => ta σ H fun vs H1 => ∃ i j : Int, vs = [.int i, .int j] ∧ (-(2 ^ 62) ≤ i ∧ i < 2 ^ 62 ∧ -(2 ^ 62) ≤ j ∧ j < 2 ^ 62) ∧ (j - i).toNat ≤ 16777216 ∧ ∀ S, H1 S = none → Q (.ref S) (upd H1 S (.lst ((rints i (j - i).toNat).map V.int)))
theorem pe_lrg1 {a : Expr} {ta : TA} {p pos p2 pos2 : Pos} (hc : X.calm = true) (hg : Gl X "range") (hm : X.mg "range" = none) (hg2 : Gl X "list") (hm2 : X.mg "list" = none) (ha : PA X [a] ta) (hs : starEach [a] X.env = [(false, eval a X.env)] := by rfl)
    (hs2 : starEach [.Call (.Name "range" p) [a] [] pos] X.env = (false, eval (.Call (.Name "range" p) [a] [] pos) X.env) :: starEach [] X.env := by rfl) (hpl2 : (backTo pos2 (starEach [] X.env)).any (·.1) = false := by rfl) :
    PE X (.Call (.Name "list" p2) [.Call (.Name "range" p) [a] [] pos] [] pos2) (tLR1 ta) := by
  refine ⟨fun pins s σ H Q I h => ?_⟩
  refine Call_ (ld_blt I hg2 hm2 PyProof.Rows.boot_list (PyProof.Rows.callWith_type1 ?_ hs2 hpl2))
  rw [hs2]
  show wpAny _ _ (spliced ((false, eval _ X.env) :: backTo pos2 (starEach [] X.env))) _ _ s
  refine Calls.spliced_cons ?_
  refine Call_ (ld_blt I hg hm boot_range (PyProof.Rows.callWith_type1 (thn (ha.run pos pins s σ H _ I h) fun us s1 ⟨vs, H1, I1, r1, q1⟩ => ?_) hs rfl))
  obtain ⟨j, ex, ⟨c1, c2⟩, hl, q⟩ := q1
  subst ex
  cases r1 with
  | cons r rr =>
    cases rr
    obtain ⟨t, rfl⟩ := r
    refine call_range_1 (Calls.spliced_nil ?_)
    exact rng_list hc I1 (by omega) (by omega) c1 c2 hl q
theorem pe_lrg2 {a b : Expr} {ta : TA} {p pos p2 pos2 : Pos} (hc : X.calm = true) (hg : Gl X "range") (hm : X.mg "range" = none) (hg2 : Gl X "list") (hm2 : X.mg "list" = none) (ha : PA X [a, b] ta) (hs : starEach [a, b] X.env = [(false, eval a X.env), (false, eval b X.env)] := by rfl)
    (hs1 : starEach [b] X.env = [(false, eval b X.env)] := by rfl)
    (hs2 : starEach [.Call (.Name "range" p) [a, b] [] pos] X.env = (false, eval (.Call (.Name "range" p) [a, b] [] pos) X.env) :: starEach [] X.env := by rfl) (hpl2 : (backTo pos2 (starEach [] X.env)).any (·.1) = false := by rfl) :
    PE X (.Call (.Name "list" p2) [.Call (.Name "range" p) [a, b] [] pos] [] pos2) (tLR2 ta) := by
  refine ⟨fun pins s σ H Q I h => ?_⟩
  refine Call_ (ld_blt I hg2 hm2 PyProof.Rows.boot_list (PyProof.Rows.callWith_type1 ?_ hs2 hpl2))
  rw [hs2]
  show wpAny _ _ (spliced ((false, eval _ X.env) :: backTo pos2 (starEach [] X.env))) _ _ s
  refine Calls.spliced_cons ?_
  refine Call_ (ld_blt I hg hm boot_range (PyProof.Rows.callWith_type1 (thn (ha.run pos pins s σ H _ I h) fun us s1 ⟨vs, H1, I1, r1, q1⟩ => ?_) (by rw [hs, hs1]) (by rw [hs1]; rfl)))
  obtain ⟨i, j, ex, ⟨c1, c2, c3, c4⟩, hl, q⟩ := q1
  subst ex
  cases r1 with
  | cons r rr =>
    cases rr with
    | cons r' rr =>
      cases rr
      obtain ⟨t, rfl⟩ := r
      obtain ⟨t', rfl⟩ := r'
      refine call_range_2 (Calls.spliced_nil ?_)
      exact rng_list hc I1 c1 c2 c3 c4 hl q
end
end RG

/-! PL7: rules for expressions, by data. -/
namespace PL
open PySem PySem.Spec PyProof.Rows L2

/-- exceptions that leave here are taken -/
abbrev WE (Wx : WX) : XK := fun c d H => ∀ σ, Wx c d σ H
section
variable {X : Cx} {Wx : WX} {e a b c : Expr} {es : List Expr} {pos : Pos} {fa fb fc : EnvD → Wd → R D}
theorem e_var {i : Nat} {x : Str} (hN : X.N[i]? = some x) (hv : Vis X.env.scope x) (hd : (x == ("__debug__" : Str)) = false) (hcd : (x == ("__classdict__" : Str)) = false) :
    PE X (.Name x pos) (tE (mdOf X) Wx fun ρ W => match ρ[i]? with | some (some d) => .ok d W | _ => .bad) := by
  refine (pe_var hN hv hd hcd).imp fun σ H Q ⟨ρ, m, W, he, hw, h⟩ => ?_
  dsimp only at h
  split at h
  · rename_i d e
    obtain ⟨v, h1, h2⟩ := he.at_ i d e
    exact ⟨v, h1, h.okI hw v h2⟩
  · exact h.elim
theorem e_cst {v : V} {d : D} (h : PE X e (tC v)) (hd : ∀ m H, Is (mdOf X) m H v d) : PE X e (tE (mdOf X) Wx fun _ W => .ok d W) :=
  h.imp fun σ H Q ⟨ρ, m, W, he, hw, h⟩ => h.okI hw v (hd m H)
theorem e_bin {op : Operator} {g : Wd → D → D → Option D} (ho : OpR X (binaryOp op) (rD (mdOf X) g)) (ha : PE X a (tE (mdOf X) Wx fa)) (hb : PE X b (tE (mdOf X) Wx fb)) :
    PE X (.BinOp a op b pos) (tE (mdOf X) Wx fun ρ W => (fa ρ W).bnd fun x W => (fb ρ W).bnd fun y W => ofO (g W x y) W) :=
  (pe_op ho ha hb).imp fun σ H Q ⟨ρ, m, W, he, hw, h⟩ => ⟨ρ, m, W, he, hw, h.bnd.imp fun x m1 W1 H1 s1 hw1 h1 v hv => ⟨ρ, m1, W1, he.mono s1, hw1, h1.bnd.imp fun y m2 W2 H2 s2 hw2 h2 u hu => by
    obtain ⟨d, e, k⟩ := h2.ofO hw2
    exact ⟨m2, W2, x, y, d, hw2, hv.mono s2, hu, e, fun v' H' s' is => k H' s' v' is⟩⟩⟩
theorem e_cmp {op : CmpOp} {g : Wd → D → D → Option D} (ho : OpR X (compareOp op) (rD (mdOf X) g)) (ha : PE X a (tE (mdOf X) Wx fa)) (hb : PE X b (tE (mdOf X) Wx fb)) (hm : behindInMarks op b = false) :
    PE X (.Compare a [op] [b] pos) (tE (mdOf X) Wx fun ρ W => (fa ρ W).bnd fun x W => (fb ρ W).bnd fun y W => ofO (g W x y) W) :=
  (pe_cmpR ho ha hb hm).imp fun σ H Q ⟨ρ, m, W, he, hw, h⟩ => ⟨ρ, m, W, he, hw, h.bnd.imp fun x m1 W1 H1 s1 hw1 h1 v hv => ⟨ρ, m1, W1, he.mono s1, hw1, h1.bnd.imp fun y m2 W2 H2 s2 hw2 h2 u hu => by
    obtain ⟨d, e, k⟩ := h2.ofO hw2
    exact ⟨m2, W2, x, y, d, hw2, hv.mono s2, hu, e, fun v' H' s' is => k H' s' v' is⟩⟩⟩
/-- what comparisons give is a bool -/
def Bo (g : Wd → D → D → Option D) : Prop := ∀ W x y d, g W x y = some d → ∃ k, d = .bl k
theorem is_bl {M : Md} {m : Ms} {H : Hp} {v : V} {k : Bool} (h : Is M m H v (.bl k)) : v = .bl k := by cases h; rfl
theorem t_cmp {op : CmpOp} {g : Wd → D → D → Option D} (bo : Bo g) (ho : OpR X (compareOp op) (rD (mdOf X) g)) (ha : PE X a (tE (mdOf X) Wx fa)) (hb : PE X b (tE (mdOf X) Wx fb)) (hm : behindInMarks op b = false) :
    PT X (.Compare a [op] [b] pos) (tB (mdOf X) Wx fun ρ W => truR ((fa ρ W).bnd fun x W => (fb ρ W).bnd fun y W => ofO (g W x y) W)) :=
  (pt_cmpR ho ha hb hm).imp fun σ H Q ⟨ρ, m, W, he, hw, h⟩ => by
    refine ⟨ρ, m, W, he, hw, h.bnd.bnd.imp fun x m1 W1 H1 s1 hw1 h1 v hv => ⟨ρ, m1, W1, he.mono s1, hw1, h1.bnd.imp fun y m2 W2 H2 s2 hw2 h2 u hu => ?_⟩⟩
    obtain ⟨d, e, k⟩ := h2.ofO hw2
    obtain ⟨q, rfl⟩ := bo _ _ _ _ e
    refine ⟨m2, W2, x, y, _, hw2, hv.mono s2, hu, e, fun v' H' s' is => ⟨q, is_bl is, ?_⟩⟩
    exact (k H' s').okI (hw2.mono s')
theorem e_chain {op op' : CmpOp} {g g' : Wd → D → D → Option D} (bo : Bo g) (ho : OpR X (compareOp op) (rD (mdOf X) g)) (ho' : OpR X (compareOp op') (rD (mdOf X) g')) (ha : PE X a (tE (mdOf X) Wx fa)) (hb : PE X b (tE (mdOf X) Wx fb)) (hc : PE X c (tE (mdOf X) Wx fc))
    (hm : lastMarks [op, op'] [b, c] = false) :
    PE X (.Compare a [op, op'] [b, c] pos) (tE (mdOf X) Wx fun ρ W => (fa ρ W).bnd fun x W => (fb ρ W).bnd fun y W => (ofO (g W x y) W).bnd fun z W => match z with
      | .bl true => (fc ρ W).bnd fun w W => ofO (g' W y w) W
      | .bl false => .ok (.bl false) W
      | _ => .bad) :=
  (pe_chain ho ho' ha hb hc hm).imp fun σ H Q ⟨ρ, m, W, he, hw, h⟩ => by
    refine ⟨ρ, m, W, he, hw, h.bnd.imp fun x m1 W1 H1 s1 hw1 h1 v hv => ⟨ρ, m1, W1, he.mono s1, hw1, h1.bnd.imp fun y m2 W2 H2 s2 hw2 h2 u hu => ?_⟩⟩
    obtain ⟨d, e, k⟩ := h2.bnd.ofO hw2
    obtain ⟨q, rfl⟩ := bo _ _ _ _ e
    refine ⟨m2, W2, x, y, _, hw2, hv.mono s2, hu, e, fun v' H' s' is => ⟨q, is_bl is, ?_⟩⟩
    have k' := k H' s'
    cases q with
    | true =>
      refine ⟨ρ, m2, W2, (he.mono s1).mono (s2.trans (.same s')), hw2.mono s', k'.bnd.imp fun z m3 W3 H3 s3 hw3 h3 w hz => ?_⟩
      obtain ⟨d, e, k⟩ := h3.ofO hw3
      exact ⟨m3, W3, y, z, d, hw3, (hu.mono (.same s')).mono s3, hz, e, fun v' H' s' is => k H' s' v' is⟩
    | false => exact k'.okI (hw2.mono s') _ (.bl _)
theorem t_chain {op op' : CmpOp} {g g' : Wd → D → D → Option D} (bo : Bo g) (bo' : Bo g') (ho : OpR X (compareOp op) (rD (mdOf X) g)) (ho' : OpR X (compareOp op') (rD (mdOf X) g')) (ha : PE X a (tE (mdOf X) Wx fa)) (hb : PE X b (tE (mdOf X) Wx fb)) (hc : PE X c (tE (mdOf X) Wx fc))
    (hm : lastMarks [op, op'] [b, c] = false) :
    PT X (.Compare a [op, op'] [b, c] pos) (tB (mdOf X) Wx fun ρ W => truR ((fa ρ W).bnd fun x W => (fb ρ W).bnd fun y W => (ofO (g W x y) W).bnd fun z W => match z with
      | .bl true => (fc ρ W).bnd fun w W => ofO (g' W y w) W
      | .bl false => .ok (.bl false) W
      | _ => .bad)) :=
  (pt_chain ho ho' ha hb hc hm).imp fun σ H Q ⟨ρ, m, W, he, hw, h⟩ => by
    refine ⟨ρ, m, W, he, hw, h.bnd.bnd.imp fun x m1 W1 H1 s1 hw1 h1 v hv => ⟨ρ, m1, W1, he.mono s1, hw1, h1.bnd.imp fun y m2 W2 H2 s2 hw2 h2 u hu => ?_⟩⟩
    obtain ⟨d, e, k⟩ := h2.bnd.ofO hw2
    obtain ⟨q, rfl⟩ := bo _ _ _ _ e
    refine ⟨m2, W2, x, y, _, hw2, hv.mono s2, hu, e, fun v' H' s' is => ⟨q, is_bl is, ?_⟩⟩
    have k' := k H' s'
    cases q with
    | true =>
      refine ⟨ρ, m2, W2, (he.mono s1).mono (s2.trans (.same s')), hw2.mono s', k'.bnd.imp fun z m3 W3 H3 s3 hw3 h3 w hz => ?_⟩
      obtain ⟨d, e, k⟩ := h3.ofO hw3
      obtain ⟨q', rfl⟩ := bo' _ _ _ _ e
      refine ⟨m3, W3, y, z, _, hw3, (hu.mono (.same s')).mono s3, hz, e, fun v' H' s' is => ⟨q', is_bl is, ?_⟩⟩
      exact (k H' s').okI (hw3.mono s')
    | false => exact ⟨false, rfl, (k'.okI (hw2.mono s')).okI (hw2.mono s')⟩
theorem e_neg (ha : PE X a (tE (mdOf X) Wx fa)) : PE X (.UnaryOp .USub a pos) (tE (mdOf X) Wx fun ρ W => (fa ρ W).bnd fun x W => ofO (dNeg W x) W) :=
  (pe_un und_neg ha).imp fun σ H Q ⟨ρ, m, W, he, hw, h⟩ => ⟨ρ, m, W, he, hw, h.bnd.imp fun x m1 W1 H1 s1 hw1 h1 v hv => by
    obtain ⟨d, e, k⟩ := h1.ofO hw1
    exact ⟨m1, W1, x, d, hw1, hv, e, fun v' H' s' is => k H' s' v' is⟩⟩
theorem e_not (ha : PE X a (tE (mdOf X) Wx fa)) : PE X (.UnaryOp .Not a pos) (tE (mdOf X) Wx fun ρ W => (fa ρ W).bnd fun x W => (ofO (truth W x) W).bnd fun b W => .ok (.bl !b) W) :=
  (pe_notT ha).imp fun σ H Q ⟨ρ, m, W, he, hw, h⟩ => ⟨ρ, m, W, he, hw, h.bnd.imp fun x m1 W1 H1 s1 hw1 h1 v hv => by
    obtain ⟨d, e, k⟩ := h1.bnd.ofO hw1
    exact ⟨d, hv.tru hw1 e, (k H1 (Same.refl _)).okI hw1 _ (.bl _)⟩⟩
theorem t_not {fb : EnvD → Wd → R Bool} (ha : PT X a (tB (mdOf X) Wx fb)) : PT X (.UnaryOp .Not a pos) (tB (mdOf X) Wx fun ρ W => (fb ρ W).bnd fun b W => .ok (!b) W) :=
  (pt_not ha).imp fun σ H Q ⟨ρ, m, W, he, hw, h⟩ => ⟨ρ, m, W, he, hw, h.bnd.imp fun x m1 W1 H1 s1 hw1 h1 => h1.okI hw1⟩
theorem e_and {rest : List Expr} (ha : PE X a (tE (mdOf X) Wx fa)) (hb : PE X (.BoolOp .And (b :: rest) pos) (tE (mdOf X) Wx fb)) :
    PE X (.BoolOp .And (a :: b :: rest) pos) (tE (mdOf X) Wx fun ρ W => (fa ρ W).bnd fun x W => (ofO (truth W x) W).bnd fun t W => if t = true then fb ρ W else .ok x W) :=
  (pe_andT ha hb).imp fun σ H Q ⟨ρ, m, W, he, hw, h⟩ => ⟨ρ, m, W, he, hw, h.bnd.imp fun x m1 W1 H1 s1 hw1 h1 v hv => by
    obtain ⟨d, e, k⟩ := h1.bnd.ofO hw1
    refine ⟨d, hv.tru hw1 e, ?_⟩
    have k' := k H1 (Same.refl _)
    cases d with
    | true => exact ⟨ρ, m1, W1, he.mono s1, hw1, k'⟩
    | false => exact k'.okI hw1 v hv⟩
theorem e_or {rest : List Expr} (ha : PE X a (tE (mdOf X) Wx fa)) (hb : PE X (.BoolOp .Or (b :: rest) pos) (tE (mdOf X) Wx fb)) :
    PE X (.BoolOp .Or (a :: b :: rest) pos) (tE (mdOf X) Wx fun ρ W => (fa ρ W).bnd fun x W => (ofO (truth W x) W).bnd fun t W => if t = true then .ok x W else fb ρ W) :=
  (pe_orT ha hb).imp fun σ H Q ⟨ρ, m, W, he, hw, h⟩ => ⟨ρ, m, W, he, hw, h.bnd.imp fun x m1 W1 H1 s1 hw1 h1 v hv => by
    obtain ⟨d, e, k⟩ := h1.bnd.ofO hw1
    refine ⟨d, hv.tru hw1 e, ?_⟩
    have k' := k H1 (Same.refl _)
    cases d with
    | true => exact k'.okI hw1 v hv
    | false => exact ⟨ρ, m1, W1, he.mono s1, hw1, k'⟩⟩
theorem w_and {rest : List Expr} {fa fb : EnvD → Wd → R Bool} (ha : PT X a (tB (mdOf X) Wx fa)) (hb : PW X (.BoolOp .And (b :: rest) pos) (tB (mdOf X) Wx fb)) :
    PW X (.BoolOp .And (a :: b :: rest) pos) (tB (mdOf X) Wx fun ρ W => (fa ρ W).bnd fun t W => if t = true then fb ρ W else .ok false W) :=
  (pw_and ha hb).imp fun σ H Q ⟨ρ, m, W, he, hw, h⟩ => ⟨ρ, m, W, he, hw, h.bnd.imp fun x m1 W1 H1 s1 hw1 h1 => by
    cases x with
    | true => exact ⟨ρ, m1, W1, he.mono s1, hw1, h1⟩
    | false => exact h1.okI hw1⟩
theorem w_or {rest : List Expr} {fa fb : EnvD → Wd → R Bool} (ha : PT X a (tB (mdOf X) Wx fa)) (hb : PW X (.BoolOp .Or (b :: rest) pos) (tB (mdOf X) Wx fb)) :
    PW X (.BoolOp .Or (a :: b :: rest) pos) (tB (mdOf X) Wx fun ρ W => (fa ρ W).bnd fun t W => if t = true then .ok true W else fb ρ W) :=
  (pw_or ha hb).imp fun σ H Q ⟨ρ, m, W, he, hw, h⟩ => ⟨ρ, m, W, he, hw, h.bnd.imp fun x m1 W1 H1 s1 hw1 h1 => by
    cases x with
    | true => exact h1.okI hw1
    | false => exact ⟨ρ, m1, W1, he.mono s1, hw1, h1⟩⟩
theorem t_truth (ha : PE X a (tE (mdOf X) Wx fa)) (hp : ∀ whole, isTrue a X.env whole = (do let v ← whole; standAt a.pos; holding [v] (truthy v))) : PT X a (tB (mdOf X) Wx fun ρ W => truR (fa ρ W)) :=
  (pt_truth ha hp).imp fun σ H Q ⟨ρ, m, W, he, hw, h⟩ => ⟨ρ, m, W, he, hw, h.bnd.imp fun x m1 W1 H1 s1 hw1 h1 v hv => by
    obtain ⟨d, e, k⟩ := h1.ofO hw1
    exact ⟨d, hv.tru hw1 e, k H1 (Same.refl _)⟩⟩
theorem e_ite {ft : EnvD → Wd → R Bool} (ht : PT X c (tB (mdOf X) Wx ft)) (ha : PE X a (tE (mdOf X) Wx fa)) (hb : PE X b (tE (mdOf X) Wx fb)) :
    PE X (.IfExp c a b pos) (tE (mdOf X) Wx fun ρ W => (ft ρ W).bnd fun k W => if k = true then fa ρ W else fb ρ W) :=
  (pe_ifExp ht ha hb).imp fun σ H Q ⟨ρ, m, W, he, hw, h⟩ => ⟨ρ, m, W, he, hw, h.bnd.imp fun x m1 W1 H1 s1 hw1 h1 => by
    cases x with
    | true => exact ⟨ρ, m1, W1, he.mono s1, hw1, h1⟩
    | false => exact ⟨ρ, m1, W1, he.mono s1, hw1, h1⟩⟩
/-! ### argument lists -/
theorem a_nil : PA X [] (tAs (mdOf X) Wx fun _ W => .ok [] W) := pa_nil.imp fun σ H Q ⟨ρ, m, W, he, hw, h⟩ => h.okI hw _ .nil
theorem a_cons {fs : EnvD → Wd → R (List D)} (ha : PE X e (tE (mdOf X) Wx fa)) (hr : PA X es (tAs (mdOf X) Wx fs)) (hs : starEach (e :: es) X.env = (false, eval e X.env) :: starEach es X.env) :
    PA X (e :: es) (tAs (mdOf X) Wx fun ρ W => (fa ρ W).bnd fun x W => (fs ρ W).bnd fun xs W => .ok (x :: xs) W) :=
  (pa_cons ha hr hs).imp fun σ H Q ⟨ρ, m, W, he, hw, h⟩ => ⟨ρ, m, W, he, hw, h.bnd.imp fun x m1 W1 H1 s1 hw1 h1 v hv => ⟨ρ, m1, W1, he.mono s1, hw1, h1.bnd.imp fun xs m2 W2 H2 s2 hw2 h2 vs hvs =>
    h2.okI hw2 _ (.cons (hv.mono s2) hvs)⟩⟩
variable {fs : EnvD → Wd → R (List D)}
theorem e_tup {k : Nat} (h : PA X es (tAs (mdOf X) Wx fs)) : PE X (.Tuple es k pos) (tE (mdOf X) Wx fun ρ W => (fs ρ W).bnd fun ds W => if ds.length ≤ 16777216 then .ok (.tup ds) W else .bad) :=
  (pe_tup h).imp fun σ H Q ⟨ρ, m, W, he, hw, h⟩ => ⟨ρ, m, W, he, hw, h.bnd.imp fun xs m1 W1 H1 s1 hw1 h1 vs hvs => by
    obtain ⟨hl, h1⟩ := h1.ite
    exact ⟨by rw [hvs.length, sizeLine_eq]; exact hl, fun p hp => h1.okS hw1 (same_upd hp) _ (hw1.newT hp hvs)⟩⟩
theorem e_lst (h : PA X es (tAs (mdOf X) Wx fs)) : PE X (.List es pos) (tE (mdOf X) Wx fun ρ W => (fs ρ W).bnd fun ds W => if ds.length ≤ 16777216 then .ok (.lst ds) W else .bad) :=
  (pe_lst h).imp fun σ H Q ⟨ρ, m, W, he, hw, h⟩ => ⟨ρ, m, W, he, hw, h.bnd.imp fun xs m1 W1 H1 s1 hw1 h1 vs hvs => by
    obtain ⟨hl, h1⟩ := h1.ite
    exact ⟨by rw [hvs.length, sizeLine_eq]; exact hl, fun p hp => h1.okS hw1 (same_upd hp) _ (hw1.newL hp hvs)⟩⟩
/-- a list that will change -/
theorem WOk.push {M : Md} {m : Ms} {W : Wd} {H : Hp} {p : Addr} {vs : List V} {ds : List D} (h : WOk M m W H) (hp : H p = none) (r : IsAll M m H vs ds) :
    Step m H ⟨m.ch ++ [p], m.op⟩ (upd H p (.lst vs)) ∧ WOk M ⟨m.ch ++ [p], m.op⟩ (W ++ [ds]) (upd H p (.lst vs)) ∧ Is M ⟨m.ch ++ [p], m.op⟩ (upd H p (.lst vs)) (.ref p) (.ref W.length) := by
  have ne : ∀ a o, H a = some o → a ≠ p := fun a o e q => by rw [q, hp] at e; cases e
  have st : Step m H ⟨m.ch ++ [p], m.op⟩ (upd H p (.lst vs)) := by
    refine ⟨⟨⟨[p], rfl⟩, fun a o n e => ⟨by rw [upd_ne (ne a o e)]; exact e, ?_⟩⟩, rfl, fun a _ o e => by rw [upd_ne (ne a o e)]; exact e⟩
    rintro (z | z)
    · rcases List.mem_append.mp z with z | z
      · exact n (.inl z)
      · exact ne a o e (List.mem_singleton.mp z)
    · exact n (.inr z)
  have at' : (m.ch ++ [p])[W.length]? = some p := by rw [← h.len]; simp
  refine ⟨st, ⟨by simp [h.len], ?_, fun i xs e => ?_, fun a ha => ?_⟩, .ref at'⟩
  · rw [List.nodup_append]
    exact ⟨h.nd, by simp, fun a ha b hb => by rw [List.mem_singleton.mp hb]; exact fun q => h.notIn hp (.inl (q ▸ ha))⟩
  · by_cases hi : i < W.length
    · rw [List.getElem?_append_left hi] at e
      obtain ⟨a, us, e1, e2, e3⟩ := h.at_ i xs e
      exact ⟨a, us, by show (m.ch ++ [p])[i]? = some a; rw [List.getElem?_append_left (by rw [h.len]; exact hi)]; exact e1, by rw [upd_ne (ne a _ e2)]; exact e2, e3.mono st⟩
    · have hi' : i = W.length := by
        have := (List.getElem?_eq_some_iff.mp e).1
        simp at this; omega
      subst hi'
      rw [List.getElem?_append_right (Nat.le_refl _)] at e
      simp at e
      subst e
      exact ⟨p, vs, at', upd_same, r.mono st⟩
  · obtain ⟨n, o, e⟩ := h.opn a ha
    refine ⟨fun z => ?_, o, by rw [upd_ne (ne a o e)]; exact e⟩
    rcases List.mem_append.mp z with z | z
    · exact n z
    · exact ne a o e (List.mem_singleton.mp z)
theorem e_new (h : PA X es (tAs (mdOf X) Wx fs)) : PE X (.List es pos) (tE (mdOf X) Wx fun ρ W => (fs ρ W).bnd fun ds W => if ds.length ≤ 16777216 then .ok (.ref W.length) (W ++ [ds]) else .bad) :=
  (pe_lst h).imp fun σ H Q ⟨ρ, m, W, he, hw, h⟩ => ⟨ρ, m, W, he, hw, h.bnd.imp fun xs m1 W1 H1 s1 hw1 h1 vs hvs => by
    obtain ⟨hl, h1⟩ := h1.ite
    refine ⟨by rw [hvs.length, sizeLine_eq]; exact hl, fun p hp => ?_⟩
    obtain ⟨a1, a2, a3⟩ := hw1.push hp hvs
    exact h1 _ _ a1 a2 _ a3⟩
/-! ### calls -/
theorem aft_we {α : Type} {M : Md} {m : Ms} {H : Hp} {r : R α} {k : α → Ms → Wd → Hp → Prop} (h : aft M Wx m H r k) : aft M (fun c d _ H' => WE Wx c d H') m H r k := by
  cases r with
  | ok a W => exact h
  | err e W => exact fun c d _ m' H' s hw x σ => h c d σ m' H' s hw x
  | bad => exact h
theorem e_call {k : Nat} {f : Addr} {fd : FuncData} {ps : List Str} {g : List D → Wd → R D} {x : Str} {p : Pos} (F : FnOk X.prog X.w X.K X.mg X.base (L2.CX X.prog X.w) k f fd ps (spD (mdOf X) g)) (hr : Room k X.A) (hg : Gl X x) (hm : X.mg x = some (.ref f)) (hk : PySem.W.keepIn X.K (.ref f) = true)
    (hb : Binds X.K fd ps []) (tk : Takes X Wx) (ha : PA X (e :: es) (tAs (mdOf X) Wx fs)) (hdb : (x == ("__debug__" : Str)) = false) (he : starEach (e :: es) X.env = (false, eval e X.env) :: starEach es X.env) (hpl : (backTo pos (starEach es X.env)).any (·.1) = false) :
    PE X (.Call (.Name x p) (e :: es) [] pos) (tE (mdOf X) Wx fun ρ W => (fs ρ W).bnd fun ds W => g ds W) :=
  (pe_call (E := WE Wx) F hr hg hm hk hb .nil (passes_call tk fun c d σ H h => h σ) ha hdb he hpl).imp fun σ H Q ⟨ρ, m, W, he, hw, h⟩ => ⟨ρ, m, W, he, hw, h.bnd.imp fun xs m1 W1 H1 s1 hw1 h1 vs hvs => by
    show spD (mdOf X) g (vs ++ []) H1 Q (WE Wx)
    rw [List.append_nil]
    exact ⟨m1, W1, xs, hw1, hvs, aft_we h1⟩⟩
theorem e_call0 {k : Nat} {f : Addr} {fd : FuncData} {ps : List Str} {g : List D → Wd → R D} {x : Str} {p : Pos} (F : FnOk X.prog X.w X.K X.mg X.base (L2.CX X.prog X.w) k f fd ps (spD (mdOf X) g)) (hr : Room k X.A) (hg : Gl X x) (hm : X.mg x = some (.ref f)) (hk : PySem.W.keepIn X.K (.ref f) = true)
    (hb : Binds X.K fd ps []) (tk : Takes X Wx) (hdb : (x == ("__debug__" : Str)) = false) :
    PE X (.Call (.Name x p) [] [] pos) (tE (mdOf X) Wx fun ρ W => g [] W) :=
  (pe_call0 (E := WE Wx) F hr hg hm hk hb .nil (passes_call tk fun c d σ H h => h σ) hdb).imp fun σ H Q ⟨ρ, m, W, he, hw, h⟩ => ⟨m, W, [], hw, .nil, aft_we h⟩
theorem e_callB {id : String} {g : Wd → List D → Option D} {x : Str} {p : Pos} (hc : CallR X (.builtin id) (cD (mdOf X) g)) (hg : Gl X x) (hm : X.mg x = none) (hv : bootBuiltins x = some (.builtin id)) (ha : PA X (e :: es) (tAs (mdOf X) Wx fs)) (hn : x ≠ "__name__") (hdb : (x == ("__debug__" : Str)) = false)
    (he : starEach (e :: es) X.env = (false, eval e X.env) :: starEach es X.env) (hpl : (backTo pos (starEach es X.env)).any (·.1) = false) :
    PE X (.Call (.Name x p) (e :: es) [] pos) (tE (mdOf X) Wx fun ρ W => (fs ρ W).bnd fun ds W => ofO (g W ds) W) :=
  (pe_callB hc hg hm hv ha hn hdb he hpl).imp fun σ H Q ⟨ρ, m, W, he, hw, h⟩ => ⟨ρ, m, W, he, hw, h.bnd.imp fun xs m1 W1 H1 s1 hw1 h1 vs hvs => by
    obtain ⟨d, e, k⟩ := h1.ofO hw1
    exact ⟨m1, W1, xs, d, hw1, hvs, e, fun v' H' s' is => k H' s' v' is⟩⟩
theorem e_callTy {T : String} {g : Wd → List D → Option D} {x : Str} {p : Pos} (hc : CallR X (.type T) (cD (mdOf X) g)) (hg : Gl X x) (hm : X.mg x = none) (hv : bootBuiltins x = some (.type T)) (ha : PA X (e :: es) (tAs (mdOf X) Wx fs)) (hn : x ≠ "__name__") (hdb : (x == ("__debug__" : Str)) = false)
    (he : starEach (e :: es) X.env = (false, eval e X.env) :: starEach es X.env) (hpl : (backTo pos (starEach es X.env)).any (·.1) = false) :
    PE X (.Call (.Name x p) (e :: es) [] pos) (tE (mdOf X) Wx fun ρ W => (fs ρ W).bnd fun ds W => ofO (g W ds) W) :=
  (pe_callTy hc hg hm hv ha hn hdb he hpl).imp fun σ H Q ⟨ρ, m, W, he, hw, h⟩ => ⟨ρ, m, W, he, hw, h.bnd.imp fun xs m1 W1 H1 s1 hw1 h1 vs hvs => by
    obtain ⟨d, e, k⟩ := h1.ofO hw1
    exact ⟨m1, W1, xs, d, hw1, hvs, e, fun v' H' s' is => k H' s' v' is⟩⟩
theorem e_isi {T : String} {x : Str} {p q : Pos} (hg : Gl X "isinstance") (hm : X.mg "isinstance" = none) (hgT : Gl X x) (hmT : X.mg x = none) (hv : bootBuiltins x = some (.type T)) (hT : T ∈ isiTs) (ha : PE X a (tE (mdOf X) Wx fa)) (hn : x ≠ "__name__") (hdb : (x == ("__debug__" : Str)) = false)
    (he : starEach [a, .Name x q] X.env = (false, eval a X.env) :: starEach [.Name x q] X.env) :
    PE X (.Call (.Name "isinstance" p) [a, .Name x q] [] pos) (tE (mdOf X) Wx fun ρ W => (fa ρ W).bnd fun x W => match tyName W x with | some A => .ok (.bl (isiB A T)) W | none => .bad) := by
  refine (pe_callB (X := X) (x := "isinstance") cd_isi hg hm (by decide +kernel) (pa_cons ha (pa_cons (pe_bltn (v := .ty T) hgT hmT hv rfl hn hdb) pa_nil rfl) he) (by decide +kernel) (by decide +kernel) he rfl).imp fun σ H Q ⟨ρ, m, W, he, hw, h⟩ => ⟨ρ, m, W, he, hw, h.bnd.imp fun x m1 W1 H1 s1 hw1 h1 v hv => ?_⟩
  split at h1
  · rename_i A e
    exact ⟨m1, W1, v, x, A, T, rfl, hw1, hv, e, hT, h1.okI hw1 _ (.bl _)⟩
  · exact h1.elim
/-! ### subscripts -/
theorem e_sl {lo hi : Option Expr} {p2 : Pos} {fl fh : EnvD → Wd → R (Option Int)} (he : PE X e (tE (mdOf X) Wx fa)) (hl : PO X lo (tO (mdOf X) Wx fl)) (hu : PO X hi (tO (mdOf X) Wx fh)) :
    PE X (.Subscript e (.Slice lo hi none p2) pos) (tE (mdOf X) Wx fun ρ W => (fa ρ W).bnd fun x W => (fl ρ W).bnd fun l W => (fh ρ W).bnd fun h W => ofO (dSl W x l h) W) :=
  (pe_slice sld he hl hu).imp fun σ H Q ⟨ρ, m, W, he, hw, h⟩ => ⟨ρ, m, W, he, hw, h.bnd.imp fun x m1 W1 H1 s1 hw1 h1 v hv => ⟨ρ, m1, W1, he.mono s1, hw1, h1.bnd.imp fun l m2 W2 H2 s2 hw2 h2 =>
    ⟨ρ, m2, W2, (he.mono s1).mono s2, hw2, h2.bnd.imp fun u m3 W3 H3 s3 hw3 h3 => by
      obtain ⟨d, e, k⟩ := h3.ofO hw3
      exact ⟨m3, W3, x, d, hw3, hv.mono (s2.trans s3), e, fun v' H' s' is => k H' s' v' is⟩⟩⟩⟩
theorem o_no : PO X none (tO (mdOf X) Wx fun _ W => .ok none W) := po_none.imp fun σ H Q ⟨ρ, m, W, he, hw, h⟩ => h.okI hw
theorem o_yes (ha : PE X e (tE (mdOf X) Wx fa)) : PO X (some e) (tO (mdOf X) Wx fun ρ W => (fa ρ W).bnd fun x W => match x with | .int i => .ok (some i) W | _ => .bad) :=
  (po_some ha).imp fun σ H Q ⟨ρ, m, W, he, hw, h⟩ => ⟨ρ, m, W, he, hw, h.bnd.imp fun x m1 W1 H1 s1 hw1 h1 v hv => by
    cases x with
    | int i =>
      cases hv
      exact ⟨i, rfl, h1.okI hw1⟩
    | _ => exact h1.elim⟩
end
end PL

/-! PL8: iterators and comprehensions, by data. -/
namespace PL
open PySem PySem.Spec PyProof.Rows L2

section
variable {X : Cx} {Wx : WX} {e a b c : Expr} {es : List Expr} {pos : Pos} {fa fb fc : EnvD → Wd → R D}
theorem e_ix0 (ha : PE X a (tE (mdOf X) Wx fa)) (hb : PE X b (tE (mdOf X) Wx fb)) (hs : PlainIx b) :
    PE X (.Subscript a b pos) (tE (mdOf X) Wx fun ρ W => (fa ρ W).bnd fun x W => (fb ρ W).bnd fun y W => ofO (dIx W x y) W) :=
  (pe_ix ixd ha hb hs).imp fun σ H Q ⟨ρ, m, W, he, hw, h⟩ => ⟨ρ, m, W, he, hw, h.bnd.imp fun x m1 W1 H1 s1 hw1 h1 v hv => ⟨ρ, m1, W1, he.mono s1, hw1, h1.bnd.imp fun y m2 W2 H2 s2 hw2 h2 u hu => by
    obtain ⟨d, e, k⟩ := h2.ofO hw2
    exact ⟨m2, W2, x, y, d, hw2, hv.mono s2, hu, e, fun v' is => k H2 (Same.refl _) v' is⟩⟩⟩
/-- d[y], a dict's -/
def dDxA (a i : D) : Option D := match a with
  | .dct kvs => (asKey i).bind fun k => keyGet kvs k
  | .dtt ks ds => match i with
    | .tup xs => (nums xs).bind fun k => tabGet ks ds k
    | _ => none
  | _ => none
theorem xget_of {m : Ms} {H : Hp} {v u : V} {x y d : D} (hv : Is (mdOf X) m H v x) (hu : Is (mdOf X) m H u y) (e : dDxA x y = some d) : ∃ a w, v = .ref a ∧ TD.XGet X.K X.prog X.w H a u (some w) ∧ Is (mdOf X) m H w d := by
  unfold dDxA at e
  split at e
  · rename_i kvs
    obtain ⟨kk, e1, e2⟩ := Option.bind_eq_some_iff.mp e
    obtain ⟨p, o, ks, rfl, hp, r⟩ := hv.asK
    rcases r.get (k := kk) with ⟨w, d', e3, e4, is⟩ | ⟨_, e4⟩
    · rw [e2] at e4; cases e4
      exact ⟨p, w, rfl, .inl (.inl ⟨ks, kk, .inr ⟨o, hp⟩, hu.key e1, e3.symm⟩), is⟩
    · rw [e2] at e4; cases e4
  · rename_i ks ds
    split at e
    · rename_i xs
      obtain ⟨kk, e1, e2⟩ := Option.bind_eq_some_iff.mp e
      obtain ⟨p, o, ys, vs, rfl, n, hp, hk, ek, hr, ri⟩ := hv.asX
      obtain ⟨b, rfl, hb⟩ := hu.rowOf e1
      subst ek
      rcases tab_get (k := kk) hr ri with ⟨_, e4⟩ | ⟨q, w, d', e3, e4, rw', is⟩
      · rw [e2] at e4; cases e4
      · rw [e2] at e4; cases e4
        exact ⟨p, w, rfl, .inr (.inr ⟨o, ys, kk, b, hp, fun x hx => (hk x hx).seq, rfl, hb, .inr ⟨w, q, rfl, e3, rw'⟩⟩), is⟩
    · cases e
  · cases e
theorem e_dx (hu : X.A.units + 1 < cLine) (ha : PE X a (tE (mdOf X) Wx fa)) (hb : PE X b (tE (mdOf X) Wx fb)) (hs : NoSl b) :
    PE X (.Subscript a b pos) (tE (mdOf X) Wx fun ρ W => (fa ρ W).bnd fun x W => (fb ρ W).bnd fun y W => ofO (dDxA x y) W) :=
  (TD.pe_xget hu ha hb hs).imp fun σ H Q ⟨ρ, m, W, he, hw, h⟩ => ⟨ρ, m, W, he, hw, h.bnd.imp fun x m1 W1 H1 s1 hw1 h1 v hv => ⟨ρ, m1, W1, he.mono s1, hw1, h1.bnd.imp fun y m2 W2 H2 s2 hw2 h2 u hu => by
    obtain ⟨d, e, k⟩ := h2.ofO hw2
    obtain ⟨p, w, rfl, g, is⟩ := xget_of (hv.mono s2) hu e
    exact ⟨p, w, rfl, g, k H2 (Same.refl _) w is⟩⟩⟩
theorem e_ix (hu : X.A.units + 1 < cLine) (ha : PE X a (tE (mdOf X) Wx fa)) (hb : PE X b (tE (mdOf X) Wx fb)) (hs : PlainIx b) (hs2 : NoSl b) :
    PE X (.Subscript a b pos) (tE (mdOf X) Wx fun ρ W => (fa ρ W).bnd fun x W => (fb ρ W).bnd fun y W => ofO (dIxA W x y) W) := by
  refine ⟨fun pins s σ H Q I h => ?_⟩
  obtain ⟨ρ, m, W, he, hw, h⟩ := h
  dsimp only at h
  cases q : fa ρ W with
  | bad => rw [q] at h; exact h.elim
  | err ex W' =>
    refine (e_ix0 (pos := pos) ha hb hs).run pins s σ H Q I ⟨ρ, m, W, he, hw, ?_⟩
    dsimp only
    rw [q] at h ⊢
    exact h
  | ok x W' =>
    cases x with
    | dct kvs =>
      refine (e_dx (pos := pos) hu ha hb hs2).run pins s σ H Q I ⟨ρ, m, W, he, hw, ?_⟩
      dsimp only
      rw [q] at h ⊢
      exact h
    | dtt ks ds =>
      refine (e_dx (pos := pos) hu ha hb hs2).run pins s σ H Q I ⟨ρ, m, W, he, hw, ?_⟩
      dsimp only
      rw [q] at h ⊢
      exact h
    | _ =>
      refine (e_ix0 (pos := pos) ha hb hs).run pins s σ H Q I ⟨ρ, m, W, he, hw, ?_⟩
      dsimp only
      rw [q] at h ⊢
      exact h
theorem xgetD_of {m : Ms} {H : Hp} {v u t : V} {x y z d : D} (hv : Is (mdOf X) m H v x) (hu : Is (mdOf X) m H u y) (ht : Is (mdOf X) m H t z) (e : dGetD x y z = some d) : ∃ a o, v = .ref a ∧ TD.XGet X.K X.prog X.w H a u o ∧ Is (mdOf X) m H (o.getD t) d := by
  have old : ∀ kvs, x = .dct kvs → dGet kvs y z = some d → ∃ a o, v = .ref a ∧ TD.XGet X.K X.prog X.w H a u o ∧ Is (mdOf X) m H (o.getD t) d := by
    intro kvs ex e0
    subst ex
    obtain ⟨kk, e1, rfl⟩ := some_map (show (asKey y).map (fun k => (keyGet kvs k).getD z) = some d from e0)
    obtain ⟨p, o, ks, rfl, hp, r⟩ := hv.asK
    refine ⟨p, valV ks kk, rfl, .inl (.inl ⟨ks, kk, .inr ⟨o, hp⟩, hu.key e1, rfl⟩), ?_⟩
    rcases r.get (k := kk) with ⟨w', d', e3, e4, is⟩ | ⟨e3, e4⟩
    · rw [e3, e4]; exact is
    · rw [e3, e4]; exact ht
  unfold dGetD at e
  split at e
  · rename_i kvs xs
    split at e
    · obtain ⟨kk, e1, rfl⟩ := some_map e
      obtain ⟨p, o, ks, rfl, hp, r⟩ := hv.asK
      cases r
      obtain ⟨b, rfl, hb⟩ := hu.rowOf e1
      exact ⟨p, none, rfl, .inr (.inl ⟨o, kk, b, hp, rfl, hb, rfl⟩), ht⟩
    · cases e
  · exact old _ rfl e
  · rename_i ks ds xs
    obtain ⟨kk, e1, rfl⟩ := some_map e
    obtain ⟨p, o, ys, vs, rfl, n, hp, hk, ek, hr, ri⟩ := hv.asX
    obtain ⟨b, rfl, hb⟩ := hu.rowOf e1
    subst ek
    rcases tab_get (k := kk) hr ri with ⟨e3, e4⟩ | ⟨q, w, d', e3, e4, rw', is⟩
    · rw [e4]
      exact ⟨p, none, rfl, .inr (.inr ⟨o, ys, kk, b, hp, fun x hx => (hk x hx).seq, rfl, hb, .inl ⟨rfl, e3⟩⟩), ht⟩
    · rw [e4]
      exact ⟨p, some w, rfl, .inr (.inr ⟨o, ys, kk, b, hp, fun x hx => (hk x hx).seq, rfl, hb, .inr ⟨w, q, rfl, e3, rw'⟩⟩), is⟩
  · cases e
theorem xrd_of {m : Ms} {H : Hp} {v : V} {x : D} (hv : Is (mdOf X) m H v x) (e : isDct x = true) : ∃ a, v = .ref a ∧ TD.XRd X.prog X.w H a := by
  cases x with
  | dct kvs =>
    obtain ⟨p, o, ks, rfl, hp, r⟩ := hv.asK
    exact ⟨p, rfl, .inl (.inl ⟨ks, .inr ⟨o, hp⟩⟩)⟩
  | dtt ks ds =>
    obtain ⟨p, o, ys, vs, rfl, n, hp, _⟩ := hv.asX
    exact ⟨p, rfl, .inr ⟨o, ys, hp⟩⟩
  | _ => cases e
theorem e_get {apos cpos : Pos} (hu : X.A.units + 1 < cLine) (ha : PE X a (tE (mdOf X) Wx fa)) (hb : PE X b (tE (mdOf X) Wx fb)) (hc : PE X c (tE (mdOf X) Wx fc)) (hm : M2 X a "get" apos b c cpos) :
    PE X (.Call (.Attribute a "get" apos) [b, c] [] cpos) (tE (mdOf X) Wx fun ρ W => (fa ρ W).bnd fun x W => if isDct x = true then (fb ρ W).bnd fun y W => (fc ρ W).bnd fun z W => ofO (dGetD x y z) W else .bad) :=
  (TD.pe_xget2 hu ha hb hc hm).imp fun σ H Q ⟨ρ, m, W, he, hw, h⟩ => ⟨ρ, m, W, he, hw, h.bnd.imp fun x m1 W1 H1 s1 hw1 h1 v hv => by
    obtain ⟨hi, h1⟩ := h1.ite
    obtain ⟨p, rfl, hd⟩ := xrd_of hv hi
    refine ⟨p, rfl, hd, ρ, m1, W1, he.mono s1, hw1, h1.bnd.imp fun y m2 W2 H2 s2 hw2 h2 u hu => ⟨ρ, m2, W2, (he.mono s1).mono s2, hw2, h2.bnd.imp fun z m3 W3 H3 s3 hw3 h3 w hz => ?_⟩⟩
    obtain ⟨d, e, k⟩ := h3.ofO hw3
    obtain ⟨p', o, ep, g, is⟩ := xgetD_of (hv.mono (s2.trans s3)) (hu.mono s3) hz e
    cases ep
    exact ⟨o, g, k H3 (Same.refl _) _ is⟩⟩
theorem rints_d (i : Int) (n : Nat) : (RG.rints i n).map D.int = (List.range n).map fun (k : Nat) => D.int (i + (k : Int)) := by
  unfold RG.rints
  rw [List.map_map]
  rfl
theorem dLrg_inv {a b d : D} (h : dLrg a b = some d) : ∃ i j, a = .int i ∧ b = .int j ∧ (j - i).toNat ≤ 16777216 ∧ (-(2 ^ 62) ≤ i ∧ i < 2 ^ 62 ∧ -(2 ^ 62) ≤ j ∧ j < 2 ^ 62) ∧ d = .lst ((RG.rints i (j - i).toNat).map D.int) := by
  unfold dLrg at h
  split at h
  · rename_i i j
    split at h
    · rename_i hl
      unfold dRange at h
      split at h
      · rename_i hb
        cases h
        exact ⟨i, j, rfl, rfl, hl, hb, by rw [rints_d]⟩
      · cases h
    · cases h
  · cases h
theorem e_lrg1 {p pos p2 pos2 : Pos} (hc : X.calm = true) (hg : Gl X "range") (hm : X.mg "range" = none) (hg2 : Gl X "list") (hm2 : X.mg "list" = none) (ha : PE X a (tE (mdOf X) Wx fa)) (hs : starEach [a] X.env = [(false, eval a X.env)]) :
    PE X (.Call (.Name "list" p2) [.Call (.Name "range" p) [a] [] pos] [] pos2) (tE (mdOf X) Wx fun ρ W => (fa ρ W).bnd fun x W => ofO (dLrg (.int 0) x) W) :=
  (RG.pe_lrg1 hc hg hm hg2 hm2 (pa_cons ha pa_nil hs) hs rfl rfl).imp fun σ H Q ⟨ρ, m, W, he, hw, h⟩ => ⟨ρ, m, W, he, hw, h.bnd.imp fun x m1 W1 H1 s1 hw1 h1 v hv => by
    obtain ⟨d, e, k⟩ := h1.ofO hw1
    obtain ⟨i, j, e1, rfl, hl, hb, rfl⟩ := dLrg_inv e
    cases e1
    cases hv
    exact ⟨j, rfl, ⟨hb.2.2.1, hb.2.2.2⟩, hl, fun S hS => k _ (same_upd hS) _ (hw1.newL hS (.ints _))⟩⟩
theorem e_lrg2 {p pos p2 pos2 : Pos} (hc : X.calm = true) (hg : Gl X "range") (hm : X.mg "range" = none) (hg2 : Gl X "list") (hm2 : X.mg "list" = none) (ha : PE X a (tE (mdOf X) Wx fa)) (hb : PE X b (tE (mdOf X) Wx fb)) (hs : starEach [a, b] X.env = [(false, eval a X.env), (false, eval b X.env)]) (hs1 : starEach [b] X.env = [(false, eval b X.env)]) :
    PE X (.Call (.Name "list" p2) [.Call (.Name "range" p) [a, b] [] pos] [] pos2) (tE (mdOf X) Wx fun ρ W => (fa ρ W).bnd fun x W => (fb ρ W).bnd fun y W => ofO (dLrg x y) W) :=
  (RG.pe_lrg2 hc hg hm hg2 hm2 (pa_cons ha (pa_cons hb pa_nil hs1) (by rw [hs, hs1])) hs hs1 rfl rfl).imp fun σ H Q ⟨ρ, m, W, he, hw, h⟩ => ⟨ρ, m, W, he, hw, h.bnd.imp fun x m1 W1 H1 s1 hw1 h1 v hv => ⟨ρ, m1, W1, he.mono s1, hw1, h1.bnd.imp fun y m2 W2 H2 s2 hw2 h2 u hu => by
    obtain ⟨d, e, k⟩ := h2.ofO hw2
    obtain ⟨i, j, rfl, rfl, hl, hb, rfl⟩ := dLrg_inv e
    cases hv
    cases hu
    exact ⟨i, j, rfl, hb, hl, fun S hS => k _ (same_upd hS) _ (hw2.newL hS (.ints _))⟩⟩⟩
theorem e_lzip {p pos p2 pos2 : Pos} (hc : X.calm = true) (hg : Gl X "zip") (hm : X.mg "zip" = none) (hg2 : Gl X "list") (hm2 : X.mg "list" = none) (ha : PE X a (tE (mdOf X) Wx fa)) (hb : PE X b (tE (mdOf X) Wx fb))
    (hs : starEach [a, b] X.env = (false, eval a X.env) :: starEach [b] X.env) (hs' : starEach [b] X.env = (false, eval b X.env) :: starEach [] X.env) (hpl : (backTo pos (starEach [b] X.env)).any (·.1) = false) :
    PE X (.Call (.Name "list" p2) [.Call (.Name "zip" p) [a, b] [] pos] [] pos2) (tE (mdOf X) Wx fun ρ W => (fa ρ W).bnd fun x W => (fb ρ W).bnd fun y W => (ofO (dZip W x y) W).bnd fun ds W => if ds.length ≤ 16777216 then .ok (.lst ds) W else .bad) :=
  (ZL.pe_lzip hc hg hm hg2 hm2 (pa_cons ha (pa_cons hb pa_nil hs') hs) hs hpl rfl rfl).imp fun σ H Q ⟨ρ, m, W, he, hw, h⟩ => ⟨ρ, m, W, he, hw, h.bnd.imp fun x m1 W1 H1 s1 hw1 h1 v hv => ⟨ρ, m1, W1, he.mono s1, hw1, h1.bnd.imp fun y m2 W2 H2 s2 hw2 h2 u hu => by
    obtain ⟨d, e, k⟩ := h2.bnd.ofO hw2
    obtain ⟨hl, k⟩ := (k H2 (Same.refl _)).ite
    have fin : ∀ (p q : Addr) (xs ys : List V) (ds es : List D), v = .ref p → u = .ref q → (SqL X.K H2 p xs ∨ SqT X.K H2 p xs) → (SqL X.K H2 q ys ∨ SqT X.K H2 q ys) → IsAll (mdOf X) m2 H2 xs ds → IsAll (mdOf X) m2 H2 ys es → d = ds.zipWith pairD es →
        ∃ a b xs ys, [v, u] = [V.ref a, V.ref b] ∧ (SqL X.K H2 a xs ∨ SqT X.K H2 a xs) ∧ (SqL X.K H2 b ys ∨ SqT X.K H2 b ys) ∧ min xs.length ys.length ≤ sizeLine ∧ ∀ S ps H3, ZL.Zipped H2 H3 S ps xs ys → Q (.ref S) H3 := by
      intro p q xs ys ds es hp hq hh hh2 r1 r2 ed
      subst hp; subst hq; subst ed
      rw [List.length_zipWith, ← r1.length, ← r2.length] at hl
      refine ⟨p, q, xs, ys, rfl, hh, hh2, by rw [sizeLine_eq]; exact hl, fun S ps H3 z => ?_⟩
      obtain ⟨z1, z2, z3, z4, z5⟩ := z
      have hw3 := hw2.mono z1
      refine k m2 H3 (.same z1) hw3 _ (.lst (hw2.notIn z2) z3 ?_)
      have go : ∀ (xs ys : List V) (ds es : List D) (ps : List Addr), IsAll (mdOf X) m2 H3 xs ds → IsAll (mdOf X) m2 H3 ys es → ps.length = min xs.length ys.length → (∀ (j : Nat) (T : Addr) (x y : V), ps[j]? = some T → xs[j]? = some x → ys[j]? = some y → H2 T = none ∧ H3 T = some (.tup [x, y])) →
          IsAll (mdOf X) m2 H3 (ps.map V.ref) (ds.zipWith pairD es) := by
        intro xs
        induction xs with
        | nil =>
          intro ys ds es ps r1 r2 hl _
          cases r1
          have : ps = [] := List.eq_nil_of_length_eq_zero (by simpa using hl)
          subst this
          exact .nil
        | cons x xs ih =>
          intro ys ds es ps r1 r2 hl hz
          cases r1 with
          | cons a1 b1 =>
            cases r2 with
            | nil =>
              have : ps = [] := List.eq_nil_of_length_eq_zero (by simpa using hl)
              subst this
              exact .nil
            | cons a2 b2 =>
              cases ps with
              | nil => simp at hl
              | cons T ps =>
                obtain ⟨n1, n2⟩ := hz 0 T _ _ rfl rfl rfl
                refine .cons (.tup (.inl ⟨hw2.notIn n1, .inl n2⟩) (.cons a1 (.cons a2 .nil))) (ih _ _ _ ps b1 b2 (by simp at hl; omega) fun j T x y h1 h2 h3 => hz (j + 1) T x y (by simpa using h1) (by simpa using h2) (by simpa using h3))
      exact go xs ys ds es ps (r1.mono (.same z1)) (r2.mono (.same z1)) z4 z5
    unfold dZip at e
    split at e
    · rename_i ds es h1 h2
      cases e
      obtain ⟨p, xs, e1, hp, r1⟩ := (hv.mono s2).asQ hw2 h1
      obtain ⟨q, ys, e2, hq, r2⟩ := hu.asQ hw2 h2
      exact fin p q xs ys _ _ e1 e2 hp hq r1 r2 rfl
    · cases e⟩⟩
end
end PL

/-! PO6: methods of one argument, [::-1], by data. -/
namespace PL
open PySem PySem.Spec PyProof.Rows L2

def mtName : Mt → Str
  | .index => "index"
  | .count => "count"
  | .join => "join"
def mD (M : Md) (g : Wd → D → D → Option D) : V → List V → Hp → VK → Prop := fun x xs H Q => ∃ m W d e r v, xs = [v] ∧ WOk M m W H ∧ Is M m H x d ∧ Is M m H v e ∧ g W d e = some r ∧ ∀ v H', Same H H' → Is M m H' v r → Q v H'
theorem findIdx_first {α : Type} {p : α → Bool} : ∀ {l : List α} {j : Nat}, l.findIdx? p = some j → ∃ z, l[j]? = some z ∧ p z = true ∧ ∀ (m : Nat) (z' : α), m < j → l[m]? = some z' → p z' = false := by
  intro l j h
  obtain ⟨h1, h2, h3⟩ := List.findIdx?_eq_some_iff_getElem.mp h
  refine ⟨l[j], List.getElem?_eq_getElem h1, h2, fun m z' hm e => ?_⟩
  obtain ⟨hl, rfl⟩ := List.getElem?_eq_some_iff.mp e
  simpa using h3 m hm
section
variable {X : Cx}
theorem Is.dpL {M : Md} {m : Ms} {H : Hp} {W : Wd} {v : V} {d : D} (h : Is M m H v d) (hw : WOk M m W H) {ds : List D} {ps : List PyData} (e : PL.asL W d = some ds) (e1 : D.pys ds = some ps) : ∃ a, v = .ref a ∧ Dp M.K H v (.list ps) := by
  obtain ⟨a, xs, rfl, hs, r⟩ := h.asL hw e
  exact ⟨a, rfl, .lst (SqL.of hs) (r.dp e1).1⟩
theorem md_index (hu : X.A.units + 200 < cLine) : MtR X "list.index" (mD (mdOf X) (dMt .index)) := by
  intro pins s σ H x xs v us Q I rx rxs ⟨m, W, d, e, r, y, hxs, hw, hx, hy, hg, k⟩
  subst hxs
  simp only [dMt] at hg
  split at hg
  · rename_i ds e1
    split at hg
    · rename_i ps p e2 e3
      split at hg
      · rename_i hs
        obtain ⟨j, hj, rfl⟩ := some_map hg
        obtain ⟨z, h1, h2, h3⟩ := findIdx_first hj
        obtain ⟨a, rfl, dl⟩ := hx.dpL hw e1 e2
        exact mt_indexD (by omega) pins s σ H _ _ v us Q I rx rxs ⟨a, y, p, ps, j, z, rfl, rfl, dl, (hy.dpW hw e3).1, hs.1, hs.2, h1, h2, h3, k _ _ (Same.refl H) (.int _)⟩
      · cases hg
    · cases hg
  · cases hg
theorem md_count (hu : X.A.units + 200 < cLine) : MtR X "list.count" (mD (mdOf X) (dMt .count)) := by
  intro pins s σ H x xs v us Q I rx rxs ⟨m, W, d, e, r, y, hxs, hw, hx, hy, hg, k⟩
  subst hxs
  simp only [dMt] at hg
  split at hg
  · rename_i ds e1
    split at hg
    · rename_i ps p e2 e3
      split at hg
      · rename_i hs
        cases hg
        obtain ⟨a, rfl, dl⟩ := hx.dpL hw e1 e2
        cases rx
        obtain ⟨u, rfl, ru⟩ := rxs.one
        obtain ⟨bs, r1⟩ := Dp.reads I p y u (hy.dpW hw e3).1 ru
        cases dl with
        | lst hsq hall =>
          obtain ⟨its, rv, pl, hlen⟩ := I.list hsq
          obtain ⟨as, h4⟩ := Dp.readsAll I ps _ its hall rv
          exact SeqAt.count_list_data pl.isList (show ReadsAll s.heap its.toArray.toList ps as by rw [List.toList_toArray]; exact h4) r1 hs.1 hs.2.1 (by omega) ⟨.int _, H, I.tok _, ⟨_, rfl⟩, k _ _ (Same.refl H) (.int _)⟩
      · cases hg
    · cases hg
  · cases hg
theorem IsAll.strs {M : Md} {m : Ms} {H : Hp} : ∀ {ds : List D} {ys : List Str} {vs : List V}, IsAll M m H vs ds → strsD ds = some ys → vs = ys.map V.str ∧ ∀ y ∈ ys, PyData.strOk y = true
  | [], _, _, h, e => by cases h; cases e; exact ⟨rfl, by simp⟩
  | d :: ds, ys, _, h, e => by
    cases h with
    | cons a b =>
      cases d with
      | str c =>
        obtain ⟨r, e1, rfl⟩ := some_map (show (strsD ds).map (c :: ·) = some ys from e)
        cases a with
        | str _ hk =>
          obtain ⟨rfl, h2⟩ := IsAll.strs b e1
          refine ⟨rfl, fun y hy => ?_⟩
          rcases List.mem_cons.mp hy with rfl | hy
          · exact hk
          · exact h2 y hy
      | _ => cases e
theorem strOk_joinL {z : Str} (hz : PyData.strOk z = true) : ∀ {ys : List Str}, (∀ y ∈ ys, PyData.strOk y = true) → PyData.strOk (Str.join z ys) = true
  | [], _ => by show PyData.strOk ("" : Str) = true; decide +kernel
  | [x], h => h x (by simp)
  | x :: y :: r, h => strOk_app (strOk_app (h x (by simp)) hz) (strOk_joinL hz fun w hw => h w (by simp [hw]))
theorem md_join : MtR X "str.join" (mD (mdOf X) (dMt .join)) := by
  intro pins s σ H x xs v us Q I rx rxs ⟨m, W, d, e, r, y, hxs, hw, hx, hy, hg, k⟩
  subst hxs
  simp only [dMt] at hg
  split at hg
  · split at hg
    · rename_i ds e1
      split at hg
      · rename_i ys e2
        split at hg
        · rename_i hl
          cases hg
          cases hx with
          | str _ hz =>
            obtain ⟨a, vs, rfl, hs, r1⟩ := hy.asQ hw e1
            obtain ⟨rfl, hk⟩ := r1.strs e2
            exact mt_join pins s σ H _ _ v us Q I rx rxs ⟨_, a, ys, rfl, rfl, hs, hl, k _ _ (Same.refl H) (.str _ (by unfold Txt.join; rw [StrLaws.glued_eq_join]; exact strOk_joinL hz hk))⟩
        · cases hg
      · cases hg
    · cases hg
  · cases hg
variable {a b : Expr} {apos cpos : Pos} {fa fb : EnvD → Wd → R D} {Wx : WX}
theorem few1 {e : Expr} {env : Env} (hs : starEach [e] env = [(false, eval e env)]) : ((backTo cpos (starEach [e] env)).all (fun x => !x.1) && (backToKw cpos (keywordEach [] env)).all (fun x => x.1.isSome)
      && decide (([e] : List Expr).length + ([] : List Keyword).length + (if ([] : List Keyword).isEmpty then 0 else 1) < 30)) = true := by
  rw [hs]; rfl
theorem e_mtL {k : Mt} {id : String} (hk : k ≠ .join) (slot : Slot "list" (mtName k) id) (hty : typeOf (.builtin id) = pure (.type "method_descriptor")) (hm : MtR X id (mD (mdOf X) (dMt k))) (ha : PE X a (tE (mdOf X) Wx fa)) (hb : PE X b (tE (mdOf X) Wx fb))
    (hbase : attributeBase a (mtName k) X.env (eval a X.env) = eval a X.env) (hline : (apos.endLine == cpos.line) = true) (hs : starEach [b] X.env = [(false, eval b X.env)]) :
    PE X (.Call (.Attribute a (mtName k) apos) [b] [] cpos) (tE (mdOf X) Wx fun ρ W => (fa ρ W).bnd fun x W => if mtOk k x = true then (fb ρ W).bnd fun y W => ofO (dMt k W x y) W else .bad) := by
  refine (pe_bm (cpos := cpos) F.plainAttrs_list slot hty hm ha (pa_cons hb pa_nil hs) hbase (few1 hs) hline (by rw [hs]; rfl) rfl).imp fun σ H Q ⟨ρ, m, W, he, hw, h⟩ => ?_
  refine ⟨ρ, m, W, he, hw, h.bnd.imp fun x m1 W1 H1 s1 hw1 h1 v hv => ?_⟩
  obtain ⟨hok, h1⟩ := h1.ite
  refine ⟨?_, ρ, m1, W1, he.mono s1, hw1, h1.bnd.imp fun y m2 W2 H2 s2 hw2 h2 u hu => ?_⟩
  · cases hv with
    | lst _ e _ => exact .inl ⟨rfl, _, SqL.of e⟩
    | ref e =>
      rename_i p i _
      have hl : i < W1.length := by rw [← hw1.len]; exact (List.getElem?_eq_some_iff.mp e).1
      obtain ⟨a', vs, h2, h3, _⟩ := hw1.at_ i _ (List.getElem?_eq_getElem hl)
      rw [e] at h2; cases h2
      exact .inl ⟨rfl, _, SqL.of h3⟩
    | _ => cases k <;> first | exact absurd rfl hk | simp [mtOk] at hok
  · obtain ⟨d, e, kk⟩ := h2.ofO hw2
    exact ⟨m2, W2, x, y, d, u, rfl, hw2, hv.mono s2, hu, e, fun v' H' s' is => kk H' s' v' is⟩
theorem e_join (ha : PE X a (tE (mdOf X) Wx fa)) (hb : PE X b (tE (mdOf X) Wx fb))
    (hbase : attributeBase a "join" X.env (eval a X.env) = eval a X.env) (hline : (apos.endLine == cpos.line) = true) (hs : starEach [b] X.env = [(false, eval b X.env)]) :
    PE X (.Call (.Attribute a "join" apos) [b] [] cpos) (tE (mdOf X) Wx fun ρ W => (fa ρ W).bnd fun x W => if mtOk .join x = true then (fb ρ W).bnd fun y W => ofO (dMt .join W x y) W else .bad) := by
  refine (pe_m1 (pos := cpos) F.slot_str_join F.type_str_join md_join ha hb hs hbase hline).imp fun σ H Q ⟨ρ, m, W, he, hw, h⟩ => ?_
  refine ⟨ρ, m, W, he, hw, h.bnd.imp fun x m1 W1 H1 s1 hw1 h1 v hv => ?_⟩
  obtain ⟨hok, h1⟩ := h1.ite
  refine ⟨?_, ρ, m1, W1, he.mono s1, hw1, h1.bnd.imp fun y m2 W2 H2 s2 hw2 h2 u hu => ?_⟩
  · cases hv with
    | str z _ => exact ⟨_, rfl⟩
    | _ => simp [mtOk] at hok
  · obtain ⟨d, e, kk⟩ := h2.ofO hw2
    exact ⟨m2, W2, x, y, d, u, rfl, hw2, hv.mono s2, hu, e, fun v' H' s' is => kk H' s' v' is⟩
theorem e_mt1 (hu : X.A.units + 200 < cLine) (k : Mt) (ha : PE X a (tE (mdOf X) Wx fa)) (hb : PE X b (tE (mdOf X) Wx fb))
    (hbase : attributeBase a (mtName k) X.env (eval a X.env) = eval a X.env) (hline : (apos.endLine == cpos.line) = true) (hs : starEach [b] X.env = [(false, eval b X.env)]) :
    PE X (.Call (.Attribute a (mtName k) apos) [b] [] cpos) (tE (mdOf X) Wx fun ρ W => (fa ρ W).bnd fun x W => if mtOk k x = true then (fb ρ W).bnd fun y W => ofO (dMt k W x y) W else .bad) := by
  cases k with
  | index => exact e_mtL (by decide) F.slot_list_index F.type_list_index (md_index hu) ha hb hbase hline hs
  | count => exact e_mtL (by decide) F.slot_list_count F.type_list_count (md_count hu) ha hb hbase hline hs
  | join => exact e_join ha hb hbase hline hs
theorem e_rev {k : Nat} {p1 p2 p3 pos : Pos} (ha : PE X a (tE (mdOf X) Wx fa)) : PE X (.Subscript a (.Slice none none (some (.UnaryOp .USub (.Constant (.int 1) k p1) p2)) p3) pos) (tE (mdOf X) Wx fun ρ W => (fa ρ W).bnd fun x W => ofO (dRev W x) W) :=
  (pe_revL ha).imp fun σ H Q ⟨ρ, m, W, he, hw, h⟩ => ⟨ρ, m, W, he, hw, h.bnd.imp fun x m1 W1 H1 s1 hw1 h1 v hv => by
    obtain ⟨d, e, kk⟩ := h1.ofO hw1
    obtain ⟨ds, e1, rfl⟩ := some_map (show (asL W1 x).map (fun xs => D.lst xs.reverse) = some d from e)
    obtain ⟨p, xs, rfl, hs, r⟩ := hv.asL hw1 e1
    exact ⟨p, xs, rfl, SqL.of hs, fun q hq => kk _ (same_upd hq) _ (hw1.newL hq r.reverse)⟩⟩
end
end PL

/-! PL9: iterators, targets, comprehensions, by data. -/
namespace PL
open PySem PySem.Spec PyProof.Rows L2

/-- J gives ds, one after another -/
def ItG (M : Md) (m : Ms) (H : Hp) (ds : List D) (J : It) : Prop := ∃ (G : Hp → Prop) (Y : Nat → Hp → V → Hp → Prop), Walk J ds.length G Y ∧ (∀ m' H', Kp m H m' H' → G H') ∧
  ∀ i m' W' H' x H'', Kp m H m' H' → WOk M m' W' H' → Y i H' x H'' → ∃ d, ds[i]? = some d ∧ Same H' H'' ∧ Is M m' H'' x d
def tI (M : Md) (Wx : WX) (f : EnvD → Wd → R (List D)) : TI := fun σ H Q => ∃ ρ m W, EnvOk M m H σ ρ ∧ WOk M m W H ∧ aft M Wx m H (f ρ W) fun ds m' _ H' => ∀ J, ItG M m' H' ds J → Q J H'
theorem _root_.L2.PI.imp {X : Cx} {tg e : Expr} {t t' : TI} (h : PI X tg e t) (f : ∀ σ H Q, t' σ H Q → t σ H Q) : PI X tg e t' := ⟨fun pins s σ H Q I q => h.run pins s σ H Q I (f σ H Q q)⟩
section
variable {M : Md} {m : Ms} {H : Hp}
theorem itg_list {a : Addr} {xs : List V} {ds : List D} (hn : ¬ m.has a) (h : H a = some (.lst xs)) (r : IsAll M m H xs ds) : ItG M m H ds (Itl M.K a) := by
  refine ⟨fun H => SqL M.K H a xs, YAt xs, by rw [← r.length]; exact walk_list, fun m' H' k => SqL.of (k.keep a _ hn h).1, fun i m' W' H' x H'' k hw y => ?_⟩
  obtain ⟨rfl, e⟩ := y
  have hl : i < ds.length := by rw [← r.length]; exact (List.getElem?_eq_some_iff.mp e).1
  obtain ⟨v, e', is⟩ := r.get (List.getElem?_eq_getElem hl)
  rw [e] at e'; cases e'
  exact ⟨_, List.getElem?_eq_getElem hl, Same.refl _, is.kp k⟩
theorem itg_tup {a : Addr} {xs : List V} {ds : List D} (h : FzT M.K m H a xs) (r : IsAll M m H xs ds) : ItG M m H ds (Itt M.K a) := by
  refine ⟨fun H => SqT M.K H a xs, YAt xs, by rw [← r.length]; exact walk_tup, fun m' H' k => (h.kp k).seq, fun i m' W' H' x H'' k hw y => ?_⟩
  obtain ⟨rfl, e⟩ := y
  have hl : i < ds.length := by rw [← r.length]; exact (List.getElem?_eq_some_iff.mp e).1
  obtain ⟨v, e', is⟩ := r.get (List.getElem?_eq_getElem hl)
  rw [e] at e'; cases e'
  exact ⟨_, List.getElem?_eq_getElem hl, Same.refl _, is.kp k⟩
theorem itg_rng {lo : Int} {n : Nat} : ItG M m H ((List.range n).map fun (i : Nat) => D.int (lo + (i : Int))) (Itr lo n) := by
  refine ⟨fun _ => True, fun i H x H' => i < n ∧ H' = H ∧ x = .int (lo + i), ?_, fun _ _ _ => trivial, fun i m' W' H' x H'' k hw y => ?_⟩
  · have e : ((List.range n).map fun (i : Nat) => D.int (lo + (i : Int))).length = n := by simp
    rw [e]
    have w := walk_range (lo := lo) (n := n)
    exact ⟨w.goes, w.stops, fun i H x H' hi g y => ⟨hi, w.yields i H x H' hi g y⟩⟩
  · obtain ⟨hi, rfl, rfl⟩ := y
    exact ⟨_, by simp [hi], Same.refl _, .int _⟩
theorem keysD_at : ∀ {kvs : List (Key × V)} {ds : List (Key × D)} {es : List D} {i : Nat} {k : Key} {v : V}, IsKvs M m H kvs ds → keysD ds = some es → kvs[i]? = some (k, v) → ∃ d, es[i]? = some d ∧ ∀ m' H', Is M m' H' (kV k) d
  | [], _, _, _, _, _, h, _, e => by cases e
  | kv :: kvs, _, es, i, k, v, h, q, e => by
    cases h with
    | @cons k0 v0 vs0 d0 ds0 is r =>
      unfold keysD at q
      split at q
      · rename_i d ds' e1 e2
        cases q
        cases i with
        | zero =>
          simp only [List.getElem?_cons_zero, Option.some.injEq, Prod.mk.injEq] at e
          obtain ⟨e3, e4⟩ := e
          refine ⟨d, rfl, fun m' H' => ?_⟩
          rw [← e3]
          cases k0 with
          | inl n => cases e1; exact .int n
          | inr x =>
            simp only [keyD] at e1
            split at e1
            · rename_i ok; cases e1; exact .str x ok
            · cases e1
        | succ i =>
          obtain ⟨d', e3, r'⟩ := keysD_at r e2 (by simpa using e)
          exact ⟨d', by simpa using e3, r'⟩
      · cases q
theorem keysD_len : ∀ {ds : List (Key × D)} {es : List D}, keysD ds = some es → es.length = ds.length
  | [], _, q => by cases q; rfl
  | kv :: ds, es, q => by
    unfold keysD at q
    split at q
    · rename_i d ds' e1 e2
      cases q
      simp [keysD_len e2]
    · cases q
theorem itg_keys {a : Addr} {o : Obj} {kvs : List (Key × V)} {ds : List (Key × D)} {es : List D} (hn : ¬ m.has a) (h : H a = some (.frz o (.dK kvs))) (r : IsKvs M m H kvs ds) (q : keysD ds = some es) : ItG M m H es (Itk a o kvs) := by
  refine ⟨_, _, by rw [keysD_len q, ← r.length]; exact walk_keys, fun m' H' k => (k.keep a _ hn h).1, fun i m' W' H' x H'' k hw y => ?_⟩
  obtain ⟨rfl, kk, v, e, rfl⟩ := y
  obtain ⟨d, e1, is⟩ := keysD_at r q e
  exact ⟨d, e1, Same.refl _, is _ _⟩
theorem itg_rows {a : Addr} {o : Obj} {xs : List (List Int × Addr × Value)} (hn : ¬ m.has a) (h : H a = some (TD.DObj M.P M.w a o xs)) (hk : ∀ x ∈ xs, FzT M.K m H x.2.1 (x.1.map V.int)) : ItG M m H ((xs.map (·.1)).map tupD) (TD.Itx M.P M.w a o xs) := by
  refine ⟨_, _, by rw [List.length_map, List.length_map]; exact TD.walk_x, fun m' H' k => (k.keep a _ hn h).1, fun i m' W' H' x H'' k hw y => ?_⟩
  obtain ⟨rfl, p, e, rfl⟩ := y
  refine ⟨tupD p.1, by simp [e], Same.refl _, .tup ((hk p (List.mem_of_getElem? e)).kp k) (.ints _)⟩
theorem itg_pair {J : It} {n : Nat} {G : Hp → Prop} {xs ys : Nat → Option V} {ds es : List D} (w : Walk J n G (YPair xs ys)) (hn : (ds.zipWith pairD es).length = n) (hG : ∀ m' H', Kp m H m' H' → G H')
    (hx : ∀ i m' H' x, Kp m H m' H' → xs i = some x → i < n → ∃ d, ds[i]? = some d ∧ Is M m' H' x d) (hy : ∀ i m' H' x, Kp m H m' H' → ys i = some x → i < n → ∃ d, es[i]? = some d ∧ Is M m' H' x d) : ItG M m H (ds.zipWith pairD es) J := by
  subst hn
  refine ⟨G, fun i H v H' => i < (ds.zipWith pairD es).length ∧ YPair xs ys i H v H', ⟨w.goes, w.stops, fun i H x H' hi g y => ⟨hi, w.yields i H x H' hi g y⟩⟩, hG, fun i m' W' H' x H'' k hw y => ?_⟩
  obtain ⟨hi, T, u, v, rfl, hT, rfl, e1, e2⟩ := y
  obtain ⟨d1, q1, r1⟩ := hx i m' H' u k e1 hi
  obtain ⟨d2, q2, r2⟩ := hy i m' H' v k e2 hi
  refine ⟨pairD d1 d2, ?_, same_upd hT, .tup (.inl ⟨hw.notIn hT, .inl upd_same⟩) (.cons (r1.mono (Step.upd hT)) (.cons (r2.mono (Step.upd hT)) .nil))⟩
  rw [List.getElem?_zipWith, q1, q2]
end
section
variable {X : Cx} {Wx : WX} {tg e a b c : Expr} {es : List Expr} {pos : Pos} {fa fb fc : EnvD → Wd → R D}
theorem i_seq (ha : PE X a (tE (mdOf X) Wx fa)) : PI X tg a (tI (mdOf X) Wx fun ρ W => (fa ρ W).bnd fun x W => match x with
    | .lst xs => .ok xs W
    | .tup xs => .ok xs W
    | .dct kvs => ofO (keysD kvs) W
    | .dtt ks _ => .ok (ks.map tupD) W
    | _ => .bad) := by
  refine ⟨fun pins s σ H Q I h => ?_⟩
  obtain ⟨ρ, m, W, he, hw, h⟩ := h
  dsimp only at h
  cases q : fa ρ W with
  | bad => rw [q] at h; exact h.elim
  | err ex W' =>
    refine (pi_list ha).run pins s σ H Q I ⟨ρ, m, W, he, hw, ?_⟩
    rw [q] at h ⊢
    exact h
  | ok x W' =>
    rw [q] at h
    cases x with
    | lst ds =>
      refine (pi_list ha).run pins s σ H Q I ⟨ρ, m, W, he, hw, ?_⟩
      rw [q]
      intro m' H' st hw' v hv
      cases hv with
      | lst n hp r => exact ⟨_, rfl, ⟨_, SqL.of hp⟩, h m' H' st hw' _ (itg_list n hp r)⟩
    | tup ds =>
      refine (pi_tup ha).run pins s σ H Q I ⟨ρ, m, W, he, hw, ?_⟩
      rw [q]
      intro m' H' st hw' v hv
      cases hv with
      | tup hp r => exact ⟨_, rfl, ⟨_, hp.seq⟩, h m' H' st hw' _ (itg_tup hp r)⟩
    | dct kvs =>
      refine (pi_keys ha).run pins s σ H Q I ⟨ρ, m, W, he, hw, ?_⟩
      rw [q]
      intro m' H' st hw' v hv
      cases hv with
      | dct hn hp r =>
        have h2 : aft (mdOf X) Wx m H (ofO (keysD kvs) W') fun ds m' _ H' => ∀ J, ItG (mdOf X) m' H' ds J → Q J H' := h
        cases e : keysD kvs with
        | none => rw [e] at h2; exact h2.elim
        | some es =>
          rw [e] at h2
          exact ⟨_, _, rfl, .inl ⟨_, hp, h2 m' H' st hw' _ (itg_keys hn hp r e)⟩⟩
    | dtt ks ds =>
      refine (TD.pi_x ha).run pins s σ H Q I ⟨ρ, m, W, he, hw, ?_⟩
      rw [q]
      intro m' H' st hw' v hv
      cases hv with
      | dtt hn hp hk ek hv ri =>
        subst ek
        exact ⟨_, _, _, rfl, hp, h m' H' st hw' _ (itg_rows hn hp hk)⟩
    | _ => exact h.elim
theorem i_rng1 {p : Pos} (hg : Gl X "range") (hm : X.mg "range" = none) (ha : PE X a (tE (mdOf X) Wx fa)) (hs : starEach [a] X.env = [(false, eval a X.env)]) :
    PI X tg (.Call (.Name "range" p) [a] [] pos) (tI (mdOf X) Wx fun ρ W => (fa ρ W).bnd fun x W => match x with
      | .int j => ofO (dRange 0 j) W
      | _ => .bad) :=
  (pi_range1 hg hm (pa_cons ha pa_nil hs) hs).imp fun σ H Q ⟨ρ, m, W, he, hw, h⟩ => ⟨ρ, m, W, he, hw, h.bnd.imp fun x m1 W1 H1 s1 hw1 h1 v hv => by
    cases x with
    | int j =>
      cases hv
      obtain ⟨ds, e, k⟩ := h1.ofO hw1
      unfold dRange at e
      split at e
      · rename_i hl
        cases e
        refine ⟨j, rfl, hl.2.2.1, hl.2.2.2, k H1 (Same.refl _) _ ?_⟩
        have e0 : (j - 0).toNat = j.toNat := by rw [Int.sub_zero]
        rw [e0]
        exact itg_rng
      · cases e
    | _ => exact h1.elim⟩
theorem i_rng2 {p : Pos} (hg : Gl X "range") (hm : X.mg "range" = none) (ha : PE X a (tE (mdOf X) Wx fa)) (hb : PE X b (tE (mdOf X) Wx fb)) (hs : starEach [a, b] X.env = [(false, eval a X.env), (false, eval b X.env)]) (hs2 : starEach [b] X.env = [(false, eval b X.env)]) :
    PI X tg (.Call (.Name "range" p) [a, b] [] pos) (tI (mdOf X) Wx fun ρ W => (fa ρ W).bnd fun x W => (fb ρ W).bnd fun y W => match x, y with
      | .int i, .int j => ofO (dRange i j) W
      | _, _ => .bad) :=
  (pi_range2 hg hm (pa_cons ha (pa_cons hb pa_nil hs2) (by rw [hs, hs2])) hs hs2).imp fun σ H Q ⟨ρ, m, W, he, hw, h⟩ => ⟨ρ, m, W, he, hw, h.bnd.imp fun x m1 W1 H1 s1 hw1 h1 v hv => ⟨ρ, m1, W1, he.mono s1, hw1, h1.bnd.imp fun y m2 W2 H2 s2 hw2 h2 u hu => by
    split at h2
    · cases hv; cases hu
      obtain ⟨ds, e, k⟩ := h2.ofO hw2
      unfold dRange at e
      split at e
      · rename_i hl
        cases e
        exact ⟨_, _, rfl, hl, k H2 (Same.refl _) _ itg_rng⟩
      · cases e
    · exact h2.elim⟩⟩
theorem zip_len {ds : List D} {n : Nat} (h : ds.length = n) : ((List.range n).zipWith (fun i x => pairD (.int (i : Nat)) x) ds) = (((List.range n).map fun (i : Nat) => D.int (i : Int)).zipWith pairD ds) := by
  rw [List.zipWith_map_left]
theorem i_enum {p tpos : Pos} {elts : List Expr} {kk : Nat} (hg : Gl X "enumerate") (hm : X.mg "enumerate" = none) (ha : PE X a (tE (mdOf X) Wx fa)) (hs : starEach [a] X.env = [(false, eval a X.env)]) :
    PI X (.Tuple elts kk tpos) (.Call (.Name "enumerate" p) [a] [] pos) (tI (mdOf X) Wx fun ρ W => (fa ρ W).bnd fun x W => match x with
      | .lst _ => ofO (dEnum W x) W
      | _ => .bad) :=
  (pi_enum hg hm (pa_cons ha pa_nil hs) hs).imp fun σ H Q ⟨ρ, m, W, he, hw, h⟩ => ⟨ρ, m, W, he, hw, h.bnd.imp fun x m1 W1 H1 s1 hw1 h1 v hv => by
    cases x with
    | lst ds =>
      cases hv with
      | lst n hp r =>
        rename_i q xs
        refine ⟨q, xs, rfl, SqL.of hp, ?_⟩
        obtain ⟨es, e, k⟩ := h1.ofO hw1
        refine k H1 (Same.refl _) _ ?_
        have e' : es = (((List.range ds.length).map fun (i : Nat) => D.int (i : Int)).zipWith pairD ds) := by
          rw [← zip_len rfl]; cases e; rfl
        rw [e']
        refine itg_pair walk_enum (by simp [r.length]) (fun m' H' k => SqL.of (k.keep q _ n hp).1) (fun i m' H' x k e hi => ?_) fun i m' H' x k e hi => ?_
        · cases e
          rw [r.length] at hi
          exact ⟨_, by simp [hi], .int _⟩
        · have hl : i < ds.length := by rw [← r.length]; exact hi
          obtain ⟨v, e', is⟩ := r.get (List.getElem?_eq_getElem hl)
          rw [e] at e'; cases e'
          exact ⟨_, List.getElem?_eq_getElem hl, is.kp k⟩
    | _ => exact h1.elim⟩
theorem all_get {M : Md} {m : Ms} {H : Hp} {xs : List V} {ds : List D} (r : IsAll M m H xs ds) {i : Nat} {x : V} (e : xs[i]? = some x) {m' : Ms} {H' : Hp} (k : Kp m H m' H') : ∃ d, ds[i]? = some d ∧ Is M m' H' x d := by
  have hl : i < ds.length := by rw [← r.length]; exact (List.getElem?_eq_some_iff.mp e).1
  obtain ⟨v, e', is⟩ := r.get (List.getElem?_eq_getElem hl)
  rw [e] at e'; cases e'
  exact ⟨_, List.getElem?_eq_getElem hl, is.kp k⟩
theorem walk_zipT' {K : PySem.W.Frag} {a b : Addr} {xs ys : List V} {n : Nat} (hn : n = min xs.length ys.length) : Walk (RZ.ItzT K a b) n (fun H => SqT K H a xs ∧ SqT K H b ys) (YPair (fun i => xs[i]?) (fun i => ys[i]?)) := by
  subst hn
  refine ⟨fun i _ hi q => ?_, fun _ q => ⟨xs, ys, q.1, q.2, by omega⟩, fun i H v H' _ q y => ?_⟩
  · have h1 : i < xs.length := by omega
    have h2 : i < ys.length := by omega
    exact ⟨xs, ys, xs[i], ys[i], q.1, q.2, by simp [h1], by simp [h2]⟩
  · obtain ⟨T, x, z, h1, h2, h3, h4, h5⟩ := y
    exact ⟨T, x, z, h1, h2, h3, h4 xs q.1, h5 ys q.2⟩
theorem i_zip {p tpos : Pos} {elts : List Expr} {kk : Nat} (hg : Gl X "zip") (hm : X.mg "zip" = none) (ha : PE X a (tE (mdOf X) Wx fa)) (hb : PE X b (tE (mdOf X) Wx fb)) (hs : starEach [a, b] X.env = (false, eval a X.env) :: starEach [b] X.env)
    (hs' : starEach [b] X.env = (false, eval b X.env) :: starEach [] X.env) (hpl : (backTo pos (starEach [b] X.env)).any (·.1) = false) :
    PI X (.Tuple elts kk tpos) (.Call (.Name "zip" p) [a, b] [] pos) (tI (mdOf X) Wx fun ρ W => (fa ρ W).bnd fun x W => (fb ρ W).bnd fun y W => match x, y with
      | .lst _, .lst _ => ofO (dZip W x y) W
      | .tup _, .tup _ => ofO (dZip W x y) W
      | _, _ => .bad) :=
  (RZ.pi_zipA hg hm (pa_cons ha (pa_cons hb pa_nil hs') hs) hs hpl).imp fun σ H Q ⟨ρ, m, W, he, hw, h⟩ => ⟨ρ, m, W, he, hw, h.bnd.imp fun x m1 W1 H1 s1 hw1 h1 v hv => ⟨ρ, m1, W1, he.mono s1, hw1, h1.bnd.imp fun y m2 W2 H2 s2 hw2 h2 u hu => by
    have hv2 := hv.mono s2
    split at h2
    · obtain ⟨es, e, k⟩ := h2.ofO hw2
      have k' := k H2 (Same.refl _)
      cases e
      cases hv2 with
      | lst n1 hp1 r1 => cases hu with
        | lst n2 hp2 r2 =>
          refine ⟨_, _, _, _, rfl, .inl ⟨SqL.of hp1, SqL.of hp2, k' _ ?_⟩⟩
          exact itg_pair (walk_zip rfl) (by rw [List.length_zipWith, r1.length, r2.length]) (fun m' H' k => ⟨SqL.of (k.keep _ _ n1 hp1).1, SqL.of (k.keep _ _ n2 hp2).1⟩) (fun i m' H' x k e hi => all_get r1 e k) fun i m' H' x k e hi => all_get r2 e k
    · obtain ⟨es, e, k⟩ := h2.ofO hw2
      have k' := k H2 (Same.refl _)
      cases e
      cases hv2 with
      | tup hp1 r1 => cases hu with
        | tup hp2 r2 =>
          refine ⟨_, _, _, _, rfl, .inr ⟨hp1.seq, hp2.seq, k' _ ?_⟩⟩
          exact itg_pair (walk_zipT' rfl) (by rw [List.length_zipWith, r1.length, r2.length]) (fun m' H' k => ⟨(hp1.kp k).seq, (hp2.kp k).seq⟩) (fun i m' H' x k e hi => all_get r1 e k) fun i m' H' x k e hi => all_get r2 e k
    · exact h2.elim⟩⟩
end
end PL

/-! PL10: targets, comprehensions, by data. -/
namespace PL
open PySem PySem.Spec PyProof.Rows L2

/-! ### what is known of the names -/
structure ScOk (X : Cx) (sc : Scope) : Prop where
  loc : ∀ x, sc.names.lookup x = some .local → X.env.scope.names.lookup x = some .local
  cel : ∀ x, sc.names.lookup x = some .cell → X.env.scope.names.lookup x = some .cell ∧ X.fn x = true
  fre : ∀ x, sc.names.lookup x = some .free → X.env.scope.names.lookup x = some .cell ∨ X.env.scope.names.lookup x = some .free
  glb : ∀ x, sc.names.lookup x = some .globalImplicit → Gl X x
/-- the name is the i-th, and is seen -/
def visB (N : List Str) (sc : Scope) (i : Nat) (x : Str) : Bool := (match N[i]? with | some y => x == y | none => false) && (match sc.names.lookup x with
  | some .local => true
  | some .cell => true
  | some .free => true
  | _ => false) && !(x == ("__debug__" : Str)) && !(x == ("__classdict__" : Str))
def glbB (sc : Scope) (x : Str) : Bool := (match sc.names.lookup x with
  | some .globalImplicit => true
  | _ => false) && !(x == ("__debug__" : Str)) && !(x == ("__name__" : Str))
def locB (N : List Str) (sc : Scope) (i : Nat) (x : Str) : Bool := (match N[i]? with | some y => x == y | none => false) && (match sc.names.lookup x with
  | some .local => true
  | some .cell => true
  | _ => false)
theorem ixB {N : List Str} {i : Nat} {x : Str} (h : (match N[i]? with | some y => x == y | none => false) = true) : N[i]? = some x := by
  split at h
  · rename_i y e
    rw [e, beq_iff_eq.mp h]
  · cases h
section
variable {X : Cx} {sc : Scope}
theorem visB_ok {i : Nat} {x : Str} (S : ScOk X sc) (h : visB X.N sc i x = true) : X.N[i]? = some x ∧ Vis X.env.scope x ∧ (x == ("__debug__" : Str)) = false ∧ (x == ("__classdict__" : Str)) = false := by
  unfold visB at h
  simp only [Bool.and_eq_true, Bool.not_eq_true'] at h
  obtain ⟨⟨⟨h1, h2⟩, h3⟩, h4⟩ := h
  refine ⟨ixB h1, ?_, h3, h4⟩
  split at h2
  · exact .inl (S.loc x (by assumption))
  · exact .inr (.inl (S.cel x (by assumption)).1)
  · exact .inr (S.fre x (by assumption))
  · cases h2
theorem glbB_ok {x : Str} (S : ScOk X sc) (h : glbB sc x = true) : Gl X x ∧ (x == ("__debug__" : Str)) = false ∧ x ≠ "__name__" := by
  unfold glbB at h
  simp only [Bool.and_eq_true, Bool.not_eq_true'] at h
  obtain ⟨⟨h1, h2⟩, h3⟩ := h
  refine ⟨?_, h2, fun e => by rw [e] at h3; simp at h3⟩
  split at h1
  · exact S.glb x (by assumption)
  · cases h1
theorem locB_ok {i : Nat} {x : Str} (S : ScOk X sc) (h : locB X.N sc i x = true) : X.N[i]? = some x ∧ Loc X.env.scope x ∧ (X.fn x = true ∨ X.env.scope.names.lookup x = some .local) := by
  unfold locB at h
  simp only [Bool.and_eq_true] at h
  obtain ⟨h1, h2⟩ := h
  refine ⟨ixB h1, ?_⟩
  split at h2
  · exact ⟨.inl (S.loc x (by assumption)), .inr (S.loc x (by assumption))⟩
  · exact ⟨.inr (S.cel x (by assumption)).1, .inl (S.cel x (by assumption)).2⟩
  · cases h2
theorem relS_free {scope : Scope} : ∀ {names : List (Str × NameKind)} {x : Str}, names.lookup x = some .free →
    (names.map fun (n, k) => if (k == NameKind.free && scope.kind == .function && scope.names.lookup n == some .cell) then (n, NameKind.cell) else (n, k)).lookup x = some .cell ∨
    (names.map fun (n, k) => if (k == NameKind.free && scope.kind == .function && scope.names.lookup n == some .cell) then (n, NameKind.cell) else (n, k)).lookup x = some .free
  | [], _, h => by simp at h
  | (n, k) :: r, x, h => by
    show List.lookup x ((if (k == NameKind.free && scope.kind == .function && scope.names.lookup n == some .cell) = true then (n, NameKind.cell) else (n, k)) :: (r.map _)) = some .cell ∨
      List.lookup x ((if (k == NameKind.free && scope.kind == .function && scope.names.lookup n == some .cell) = true then (n, NameKind.cell) else (n, k)) :: (r.map _)) = some .free
    cases hx : x == n with
    | true =>
      simp only [List.lookup_cons, hx] at h
      cases h
      split
      · left; simp only [List.lookup_cons, hx]
      · right; simp only [List.lookup_cons, hx]
    | false =>
      simp only [List.lookup_cons, hx] at h
      have ih := @relS_free scope r x h
      split <;> (simp only [List.lookup_cons, hx]; exact ih)
theorem ScOk.blk {s : Shared} {H : Hp} {C : Addr} {cl : List (Str × Addr)} {fp : List Addr} {scope : Scope} : ScOk (X.blk s H scope (compEnvC scope cl C X.env) fp) scope :=
  ⟨fun x e => lookup_relS_keep (by decide) e, fun x e => ⟨lookup_relS_keep (by decide) e, by show (scope.names.lookup x == some .cell) = true; rw [e]; rfl⟩, fun x e => relS_free e, fun x e => lookup_relS_keep (sc := X.env.scope) (by decide) e⟩
/-- the block's names against the raw scope -/
def blkB (N : List Str) (sc scope : Scope) (own : List (Str × Nat)) : Bool :=
  (match scope.kind with | .function => true | _ => false) && (scope.names.all fun y => match scope.names.lookup y.1 with | some k => k == y.2 | none => false) && (own.all fun p => match N[p.2]? with | some y => p.1 == y | none => false) &&
    (scope.names.all fun y => match y.2 with
      | .free => (match sc.names.lookup y.1 with | some .cell => true | some .free => true | _ => false)
      | .local => (own.any fun p => p.1 == y.1) || !(N.any fun z => z == y.1)
      | .cell => (own.any fun p => p.1 == y.1) || !(N.any fun z => z == y.1)
      | _ => true)
theorem blkB_ok {scope : Scope} {own : List (Str × Nat)} (S : ScOk X sc) (h : blkB X.N sc scope own = true) : BlkOk X.N X.env.scope scope own := by
  unfold blkB at h
  simp only [Bool.and_eq_true, List.all_eq_true] at h
  obtain ⟨⟨⟨h1, h2⟩, h3⟩, h4⟩ := h
  refine ⟨?_, fun y hy => ?_, fun p hp => ixB (h3 p hp), fun y hy e => ?_, fun y hy e => ?_⟩
  · split at h1
    · assumption
    · cases h1
  · have q := h2 y hy
    split at q
    · rename_i k e
      rw [e, beq_iff_eq.mp q]
    · cases q
  · have q := h4 y hy
    simp only [e] at q
    split at q
    · exact .inl (S.cel _ (by assumption)).1
    · exact S.fre _ (by assumption)
    · cases q
  · have q := h4 y hy
    have q' : ((own.any fun p => p.1 == y.1) || !(X.N.any fun z => z == y.1)) = true := by rcases e with e | e <;> (simp only [e] at q; exact q)
    rw [Bool.or_eq_true] at q'
    rcases q' with q | q
    · left
      obtain ⟨p, hp, e⟩ := List.any_eq_true.mp q
      exact List.mem_map.mpr ⟨p, hp, beq_iff_eq.mp e⟩
    · right
      intro hm
      rw [Bool.not_eq_true'] at q
      have := List.any_eq_false.mp q _ hm
      simp at this
end

/-! ### targets -/
mutual
def T.ixs : T → List Nat
  | .nm i => [i]
  | .tp ts => T.ixss ts
def T.ixss : List T → List Nat
  | [] => []
  | t :: ts => T.ixs t ++ T.ixss ts
end
mutual
def chkT (N : List Str) (sc : Scope) : T → Expr → Bool
  | .nm i, e => match e with
    | .Name x _ => locB N sc i x
    | _ => false
  | .tp ts, e => match e with
    | .Tuple es _ _ => chkTs N sc ts es
    | _ => false
def chkTs (N : List Str) (sc : Scope) : List T → List Expr → Bool
  | [], es => match es with
    | [] => true
    | _ => false
  | t :: ts, es => match es with
    | e :: es => chkT N sc t e && chkTs N sc ts es
    | [] => false
end
def tG (M : Md) (t : T) : TG := fun v σ H Q => ∃ ρ m W d ρ', EnvOk M m H σ ρ ∧ Is M m H v d ∧ t.put W d ρ = some ρ' ∧ ∀ σ', EnvOk M m H σ' ρ' → σ'.length = σ.length → (∀ j, j ∉ t.ixs → σ'[j]? = σ[j]?) → Q σ' H
def tGs (M : Md) (ts : List T) : TGs := fun vs σ H Q => ∃ ρ m W ds ρ', EnvOk M m H σ ρ ∧ IsAll M m H vs ds ∧ ds.length = ts.length ∧ T.puts W ts ds ρ = some ρ' ∧ ∀ σ', EnvOk M m H σ' ρ' → σ'.length = σ.length → (∀ j, j ∉ T.ixss ts → σ'[j]? = σ[j]?) → Q σ' H
theorem _root_.L2.PG.imp {X : Cx} {tg : Expr} {t t' : TG} (h : PG X tg t) (f : ∀ v σ H Q, t' v σ H Q → t v σ H Q) : PG X tg t' := ⟨fun pins s σ H v u Q I r q => h.run pins s σ H v u Q I r (f v σ H Q q)⟩
theorem _root_.L2.PGs.imp {X : Cx} {tg : List Expr} {t t' : TGs} (h : PGs X tg t) (f : ∀ v σ H Q, t' v σ H Q → t v σ H Q) : PGs X tg t' := ⟨fun pins s σ H v u Q I r q => h.run pins s σ H v u Q I r (f v σ H Q q)⟩
section
variable {X : Cx} {sc : Scope}
theorem assign_plain {N : List Str} : ∀ {ts : List T} {es : List Expr} {env : Env}, chkTs N sc ts es = true → (assignEach es env).map (·.2) = es.map (fun e => assign e env) ∧ (assignEach es env).length = ts.length ∧ ∀ p ∈ assignEach es env, p.1 = false
  | [], es, env, h => by
    cases es with
    | nil => exact ⟨rfl, rfl, fun p hp => by cases hp⟩
    | cons _ _ => simp [chkTs] at h
  | t :: ts, es, env, h => by
    cases es with
    | nil => simp [chkTs] at h
    | cons e es =>
      simp only [chkTs, Bool.and_eq_true] at h
      obtain ⟨h1, h2⟩ := h
      obtain ⟨i1, i2, i3⟩ := assign_plain (env := env) h2
      have key : assignEach (e :: es) env = (false, assign e env) :: assignEach es env := by
        cases t with
        | nm i => cases e <;> first | rfl | (simp [chkT] at h1)
        | tp ts => cases e <;> first | rfl | (simp [chkT] at h1)
      rw [key]
      refine ⟨by rw [List.map_cons, List.map_cons, i1], by rw [List.length_cons, List.length_cons, i2], fun p hp => ?_⟩
      rcases List.mem_cons.mp hp with rfl | hp
      · rfl
      · exact i3 p hp
mutual
theorem g_ok (hc : X.calm = true) (hN : X.N.Nodup) (S : ScOk X sc) : ∀ (t : T) (e : Expr), chkT X.N sc t e = true → PG X e (tG (mdOf X) t)
  | .nm i, e, h => by
    cases e with
    | Name x p =>
      simp only [chkT] at h
      obtain ⟨h1, h2, h3⟩ := locB_ok S h
      refine (pg_name hN h1 h2 h3).imp fun v σ H Q ⟨ρ, m, W, d, ρ', he, hv, e, k⟩ => ?_
      simp only [T.put] at e
      split at e
      · cases e
        exact k _ (he.set hv) (by simp) fun j hj => List.getElem?_set_ne (fun q => hj (by simp [T.ixs, q]))
      · cases e
    | _ => simp [chkT] at h
  | .tp ts, e, h => by
    cases e with
    | Tuple es k p =>
      simp only [chkT] at h
      obtain ⟨h1, h2, h3⟩ := assign_plain (env := X.env) h
      refine (pg_tup hc (gs_ok hc hN S ts es h) h2 (List.findIdx?_eq_none_iff.mpr fun p hp => by simpa using h3 p hp)).imp fun v σ H Q ⟨ρ, m, W, d, ρ', he, hv, e, k⟩ => ?_
      simp only [T.put] at e
      split at e
      · rename_i xs
        split at e
        · rename_i hl
          obtain ⟨a, vs, rfl, hq, r⟩ := hv.asT
          exact ⟨a, vs, rfl, hq.seq, r.length.trans hl, ρ, m, W, xs, ρ', he, r, hl, e, fun σ' h1 h2 h3 => k σ' h1 h2 h3⟩
        · cases e
      · cases e
    | _ => simp [chkT] at h
theorem gs_ok (hc : X.calm = true) (hN : X.N.Nodup) (S : ScOk X sc) : ∀ (ts : List T) (es : List Expr), chkTs X.N sc ts es = true → PGs X es (tGs (mdOf X) ts)
  | [], es, h => by
    cases es with
    | nil =>
      refine pgs_nil.imp fun vs σ H Q ⟨ρ, m, W, ds, ρ', he, hv, hl, e, k⟩ => ?_
      have : ds = [] := List.eq_nil_of_length_eq_zero hl
      subst this
      cases hv
      simp only [T.puts] at e
      cases e
      exact ⟨rfl, k σ he rfl fun _ _ => rfl⟩
    | cons _ _ => simp [chkTs] at h
  | t :: ts, es, h => by
    cases es with
    | nil => simp [chkTs] at h
    | cons e es =>
      have h' := h
      simp only [chkTs, Bool.and_eq_true] at h
      obtain ⟨a1, _, _⟩ := assign_plain (env := X.env) h'
      obtain ⟨a2, _, _⟩ := assign_plain (env := X.env) h.2
      refine (pgs_cons (g_ok hc hN S t e h.1) (gs_ok hc hN S ts es h.2) (by rw [a1, a2, List.map_cons])).imp fun vs σ H Q ⟨ρ, m, W, ds, ρ', he, hv, hl, e, k⟩ => ?_
      cases hv with
      | nil => simp at hl
      | cons r1 r2 =>
        simp only [T.puts] at e
        split at e
        · rename_i ρ1 e1
          refine ⟨_, _, rfl, ρ, m, W, _, ρ1, he, r1, e1, fun σ1 g1 g2 g3 => ?_⟩
          exact ⟨ρ1, m, W, _, ρ', g1, r2, by simpa using hl, e, fun σ2 f1 f2 f3 => k σ2 f1 (f2.trans g2) fun j hj => by
            simp only [T.ixss, List.mem_append, not_or] at hj
            rw [f3 j hj.2, g3 j hj.1]⟩
        · cases e
end
end

/-! ### the own names forgotten -/
theorem wipe_at {σ : L2.St} : ∀ (vs : List Nat) (j : Nat), j ∉ vs → (L2.wipe σ vs)[j]? = σ[j]?
  | [], _, _ => rfl
  | v :: vs, j, h => by
    unfold L2.wipe
    simp only [List.mem_cons, not_or] at h
    rw [List.getElem?_set_ne (Ne.symm h.1)]
    exact wipe_at vs j h.2
theorem wipe_in {σ : L2.St} : ∀ (vs : List Nat) (j : Nat), j ∈ vs → j < σ.length → (L2.wipe σ vs)[j]? = some none
  | [], _, h, _ => by cases h
  | v :: vs, j, h, hl => by
    unfold L2.wipe
    by_cases e : v = j
    · subst e
      exact List.getElem?_set_self (by rw [L2.wipe_length]; exact hl)
    · rw [List.getElem?_set_ne e]
      rcases List.mem_cons.mp h with h | h
      · exact absurd h.symm e
      · exact wipe_in vs j h hl
theorem wipe_ext {σ σ' : L2.St} (vs : List Nat) (hl : σ'.length = σ.length) (h : ∀ j, j ∉ vs → σ'[j]? = σ[j]?) : L2.wipe σ' vs = L2.wipe σ vs := by
  refine List.ext_getElem? fun j => ?_
  by_cases hj : j ∈ vs
  · by_cases hh : j < σ.length
    · rw [wipe_in vs j hj hh, wipe_in vs j hj (by rw [hl]; exact hh)]
    · rw [List.getElem?_eq_none (by rw [L2.wipe_length]; omega), List.getElem?_eq_none (by rw [L2.wipe_length]; omega)]
  · rw [wipe_at vs j hj, wipe_at vs j hj, h j hj]
section
variable {M : Md} {m : Ms} {H : Hp} {σ : L2.St} {ρ : EnvD}
theorem EnvOk.unset (h : EnvOk M m H σ ρ) (v : Nat) : EnvOk M m H (σ.set v none) (ρ.set v none) := ⟨fun j e q => by
  by_cases hj : j = v
  · subst hj
    by_cases hl : j < ρ.length
    · rw [List.getElem?_set_self hl] at q; cases q
    · rw [List.getElem?_eq_none (by simpa using hl)] at q; cases q
  · rw [List.getElem?_set_ne (Ne.symm hj)] at q ⊢
    exact h.at_ j e q, by simp [h.len]⟩
theorem EnvOk.wipe (h : EnvOk M m H σ ρ) : ∀ vs : List Nat, EnvOk M m H (L2.wipe σ vs) (wipeD ρ vs)
  | [] => h
  | v :: vs => by
    unfold L2.wipe wipeD
    exact (EnvOk.wipe h vs).unset v
end
end PL

/-! PL11: list comprehensions, by data. -/
namespace PL
open PySem PySem.Spec PyProof.Rows L2

theorem lcLoop_cons {asg : D → Wd → Option EnvD} {tst : EnvD → Wd → R Bool} {elt : EnvD → Wd → R D} {d : D} {ds ys : List D} {W Wf : Wd} (h : lcLoop asg tst elt (d :: ds) W = .ok ys Wf) :
    ∃ ρ b W1, asg d W = some ρ ∧ tst ρ W = .ok b W1 ∧ ((b = true ∧ ∃ y W2 zs, elt ρ W1 = .ok y W2 ∧ lcLoop asg tst elt ds W2 = .ok zs Wf ∧ ys = y :: zs) ∨ (b = false ∧ lcLoop asg tst elt ds W1 = .ok ys Wf)) := by
  unfold lcLoop at h
  cases e1 : asg d W with
  | none => rw [e1] at h; cases h
  | some ρ =>
    rw [e1] at h
    cases e2 : tst ρ W with
    | bad => simp only [e2, R.bndX] at h; cases h
    | err _ _ => simp only [e2, R.bndX] at h; cases h
    | ok b W1 =>
      simp only [e2, R.bndX] at h
      refine ⟨ρ, b, W1, rfl, e2, ?_⟩
      cases b with
      | false => exact .inr ⟨rfl, by simpa using h⟩
      | true =>
        left
        simp only [if_pos] at h
        cases e3 : elt ρ W1 with
        | bad => rw [e3] at h; cases h
        | err _ _ => rw [e3] at h; cases h
        | ok y W2 =>
          rw [e3] at h
          simp only at h
          cases e4 : lcLoop asg tst elt ds W2 with
          | bad => rw [e4] at h; cases h
          | err _ _ => rw [e4] at h; cases h
          | ok zs W3 =>
            rw [e4] at h
            cases h
            exact ⟨rfl, y, W2, zs, rfl, e4, rfl⟩
/-- at a turn -/
structure LcAt (M : Md) (m1 : Ms) (H1 : Hp) (Dn : Addr) (asg : D → Wd → Option EnvD) (ft : EnvD → Wd → R Bool) (fe : EnvD → Wd → R D) (ds ys : List D) (Wf : Wd) (i : Nat) (m' : Ms) (W' : Wd) (acc : List V) (accD zs : List D) (H : Hp) : Prop where
  kp : Kp m1 H1 m' H
  op : m'.op = Dn :: m1.op
  opk : ∀ a ∈ m1.op, ∀ o, H1 a = some o → H a = some o
  ok : WOk M m' W' H
  at_ : H Dn = some (.lst acc)
  all : IsAll M m' H acc accD
  go : lcLoop asg ft fe (ds.drop i) W' = .ok zs Wf
  fin : accD ++ zs = ys
section
variable {X : Cx} {sc : Scope} {Wx : WX}
abbrev W0 : WX := fun _ _ _ _ => False
theorem e_lc {own : List (Str × Nat)} {t : T} {fi : EnvD → Wd → R (List D)} {ft : EnvD → Wd → R Bool} {fe : EnvD → Wd → R D}
    {te : TE} {tt : TT} {g : TG} {wi : TI} (hte : te = tE (mdOf X) W0 fe) (htt : tt = tB (mdOf X) W0 ft) (hg : g = tG (mdOf X) t) (hwi : wi = tI (mdOf X) Wx fi) (ht : ∀ j ∈ t.ixs, j ∈ own.map (·.2)) :
    ∀ σ H Q, tE (mdOf X) Wx (fun ρ W => (fi ρ W).bnd fun ds W => (lcLoop (fun d W => t.put W d (wipeD ρ (own.map (·.2)))) ft fe ds W).bndX fun ys W => if ys.length ≤ 16777216 then .ok (.lst ys) W else .bad) σ H Q →
      tLc wi g tt te (own.map (·.2)) σ H Q := by
  subst hte htt hg hwi
  intro σ H Q ⟨ρ, m, W, he, hw, h⟩
  refine ⟨ρ, m, W, he, hw, h.bnd.imp fun ds m1 W1 H1 s1 hw1 h1 J hJ Dn hD => ?_⟩
  obtain ⟨G, Y, wk, hG, hY⟩ := hJ
  have hD0 : ∀ a o, H1 a = some o → a ≠ Dn := fun a o e q => by rw [q, hD] at e; cases e
  cases q : lcLoop (fun d W => t.put W d (wipeD ρ (own.map (·.2)))) ft fe ds W1 with
  | bad => rw [q] at h1; exact h1.elim
  | err _ _ => rw [q] at h1; exact h1.elim
  | ok ys Wf =>
    rw [q] at h1
    obtain ⟨hl, h1⟩ := (show aft (mdOf X) Wx m1 H1 (if ys.length ≤ 16777216 then R.ok (D.lst ys) Wf else .bad) _ from h1).ite
    have hl' : ys.length ≤ sizeLine := by rw [sizeLine_eq]; exact hl
    refine lc_it wk (Pv := fun i H => ∃ m' W' acc accD zs, LcAt (mdOf X) m1 H1 Dn (fun d W => t.put W d (wipeD ρ (own.map (·.2)))) ft fe ds ys Wf i m' W' acc accD zs H) ?_ ?_ ?_ ?_
    · refine ⟨⟨m1.ch, Dn :: m1.op⟩, W1, [], [], ys, ⟨⟨[], by simp⟩, fun a o n e => ⟨?_, ?_⟩⟩, rfl, fun a ha o e => ?_, ⟨hw1.len, hw1.nd, fun i xs e => ?_, fun a ha => ?_⟩, upd_same, .nil, q, rfl⟩
      · rw [upd_ne (hD0 a o e)]; exact e
      · rintro (z | z)
        · exact n (.inl z)
        · rcases List.mem_cons.mp z with z | z
          · exact hD0 a o e z
          · exact n (.inr z)
      · rw [upd_ne (hD0 a o e)]; exact e
      · obtain ⟨a, vs, e1, e2, e3⟩ := hw1.at_ i xs e
        refine ⟨a, vs, e1, by rw [upd_ne (hD0 a _ e2)]; exact e2, e3.kp ⟨⟨[], by simp⟩, fun b o n e => ⟨by rw [upd_ne (hD0 b o e)]; exact e, ?_⟩⟩⟩
        rintro (z | z)
        · exact n (.inl z)
        · rcases List.mem_cons.mp z with z | z
          · exact hD0 b o e z
          · exact n (.inr z)
      · rcases List.mem_cons.mp ha with z | z
        · subst z
          exact ⟨fun z => hw1.notIn hD (.inl z), _, upd_same⟩
        · obtain ⟨n, o, e⟩ := hw1.opn a z
          exact ⟨n, o, by rw [upd_ne (hD0 a o e)]; exact e⟩
    · rintro i H hi ⟨m', W', acc, accD, zs, L⟩
      exact hG m' H L.kp
    · rintro i x H2 H3 hi ⟨m', W', acc, accD, zs, L⟩ y
      obtain ⟨d, e1, sm, is⟩ := hY i m' W' H2 x H3 L.kp L.ok y
      have hdrop : ds.drop i = d :: ds.drop (i + 1) := by
        rw [List.drop_eq_getElem_cons hi]
        rw [List.getElem?_eq_getElem hi] at e1
        cases e1; rfl
      have hgo := L.go
      rw [hdrop] at hgo
      obtain ⟨ρ1, b, Wb, c1, c2, c3⟩ := lcLoop_cons hgo
      have kall : Kp m H m' H3 := (s1.kp.trans L.kp).trans (Step.same sm).kp
      have hw3 := L.ok.mono sm
      refine ⟨wipeD ρ (own.map (·.2)), m', W', d, ρ1, (he.kp kall).wipe _, is, c1, fun σ2 g1 g2 g3 => ⟨?_, ρ1, m', W', g1, hw3, ?_⟩⟩
      · rw [L2.wipe_length] at g2
        exact wipe_ext _ g2 fun j hj => by
          rw [g3 j fun z => hj (ht j z), wipe_at _ j hj]
      · rw [c2]
        intro m3 H4 st3 hw4
        have D4 : H4 Dn = some (.lst acc) := st3.opk Dn (by rw [L.op]; exact List.mem_cons_self) _ (sm _ _ L.at_)
        have kp4 : Kp m1 H1 m3 H4 := (L.kp.trans (Step.same sm).kp).trans st3.kp
        have op4 : m3.op = Dn :: m1.op := st3.op.trans L.op
        have opk4 : ∀ a ∈ m1.op, ∀ o, H1 a = some o → H4 a = some o := fun a ha o e => st3.opk a (by rw [L.op]; exact List.mem_cons_of_mem _ ha) o (sm _ _ (L.opk a ha o e))
        have all4 : IsAll (mdOf X) m3 H4 acc accD := (L.all.mono (.same sm)).mono st3
        rcases c3 with ⟨rfl, y, W2, zs', c4, c5, rfl⟩ | ⟨rfl, c5⟩
        · simp only [if_pos]
          refine ⟨ρ1, m3, Wb, g1.mono st3, hw4, ?_⟩
          rw [c4]
          intro m5 H5 st5 hw5 v hv
          have D5 : H5 Dn = some (.lst acc) := st5.opk Dn (by rw [op4]; exact List.mem_cons_self) _ D4
          have op5 : m5.op = Dn :: m1.op := st5.op.trans op4
          have all5 := all4.mono st5
          have kD : Kp m5 H5 m5 (upd H5 Dn (.lst (acc ++ [v]))) := ⟨⟨[], by simp⟩, fun a o n e => ⟨by rw [upd_ne (fun z => n (.inr (by rw [op5, z]; exact List.mem_cons_self)))]; exact e, n⟩⟩
          refine ⟨acc, D5, ?_, m5, W2, acc ++ [v], accD ++ [y], zs', (kp4.trans st5.kp).trans kD, op5, fun a ha o e => ?_, ⟨hw5.len, hw5.nd, fun j xs e => ?_, fun a ha => ?_⟩, upd_same, (all5.append (.cons hv .nil)).kp kD, c5, by rw [← L.fin]; simp⟩
          · have e1 := all5.length
            have e2 := congrArg List.length L.fin
            simp only [List.length_append, List.length_cons] at e2
            omega
          · rw [upd_ne (hD0 a o e)]
            exact st5.opk a (by rw [op4]; exact List.mem_cons_of_mem _ ha) o (opk4 a ha o e)
          · obtain ⟨a, vs, f1, f2, f3⟩ := hw5.at_ j xs e
            have ne : a ≠ Dn := fun z => by
              obtain ⟨n, _⟩ := hw5.opn Dn (by rw [op5]; exact List.mem_cons_self)
              exact n (by rw [← z]; exact List.mem_of_getElem? f1)
            exact ⟨a, vs, f1, by rw [upd_ne ne]; exact f2, f3.kp kD⟩
          · obtain ⟨n, o, e⟩ := hw5.opn a ha
            by_cases z : a = Dn
            · subst z; exact ⟨n, _, upd_same⟩
            · exact ⟨n, o, by rw [upd_ne z]; exact e⟩
        · simp only [Bool.false_eq_true, if_false]
          exact ⟨m3, Wb, acc, accD, zs, kp4, op4, opk4, hw4, D4, all4, c5, L.fin⟩
    · rintro H' ⟨m', W', acc, accD, zs, L⟩
      have e0 : ds.drop ds.length = [] := by simp
      have hgo := L.go
      rw [e0] at hgo
      unfold lcLoop at hgo
      cases hgo
      have ef := L.fin
      rw [List.append_nil] at ef
      have kc : Kp m' H' ⟨m'.ch, m1.op⟩ H' := ⟨⟨[], by simp⟩, fun a o n e => ⟨e, fun z => n (z.imp id fun z => by rw [L.op]; exact List.mem_cons_of_mem _ z)⟩⟩
      have nD : ¬ Ms.has ⟨m'.ch, m1.op⟩ Dn := by
        rintro (z | z)
        · exact (L.ok.opn Dn (by rw [L.op]; exact List.mem_cons_self)).1 z
        · exact hw1.notIn hD (.inr z)
      refine h1 ⟨m'.ch, m1.op⟩ H' ⟨L.kp.trans kc, rfl, L.opk⟩ ⟨L.ok.len, L.ok.nd, fun i xs e => ?_, fun a ha => L.ok.opn a (by rw [L.op]; exact List.mem_cons_of_mem _ ha)⟩ (.ref Dn) (.lst nD L.at_ (by rw [← ef]; exact L.all.kp kc))
      obtain ⟨a, vs, f1, f2, f3⟩ := L.ok.at_ i xs e
      exact ⟨a, vs, f1, f2, f3.kp kc⟩
end
end PL

/-! PLC: list comprehensions of two clauses, by data. -/
namespace PL
open PySem PySem.Spec PyProof.Rows L2

theorem bndX_ok {α β : Type} {r : R α} {f : α → Wd → R β} {y : β} {W : Wd} (h : r.bndX f = .ok y W) : ∃ a W1, r = .ok a W1 ∧ f a W1 = .ok y W := by
  cases r with
  | ok a W1 => exact ⟨a, W1, rfl, h⟩
  | err _ _ => cases h
  | bad => cases h
theorem lc2Loop_cons {asg : D → Wd → Option EnvD} {tst : EnvD → Wd → R Bool} {inn : EnvD → Wd → R (List D)} {d : D} {ds ys : List D} {W Wf : Wd} (h : lc2Loop asg tst inn (d :: ds) W = .ok ys Wf) :
    ∃ ρ b W1, asg d W = some ρ ∧ tst ρ W = .ok b W1 ∧ ((b = true ∧ ∃ y W2 zs, inn ρ W1 = .ok y W2 ∧ lc2Loop asg tst inn ds W2 = .ok zs Wf ∧ ys = y ++ zs) ∨ (b = false ∧ lc2Loop asg tst inn ds W1 = .ok ys Wf)) := by
  unfold lc2Loop at h
  cases e1 : asg d W with
  | none => rw [e1] at h; cases h
  | some ρ =>
    rw [e1] at h
    obtain ⟨b, W1, e2, h⟩ := bndX_ok h
    refine ⟨ρ, b, W1, rfl, e2, ?_⟩
    cases b with
    | false => exact .inr ⟨rfl, by simpa using h⟩
    | true =>
      left
      simp only [if_pos] at h
      obtain ⟨y, W2, e3, h⟩ := bndX_ok h
      obtain ⟨zs, W3, e4, h⟩ := bndX_ok h
      cases h
      exact ⟨rfl, y, W2, zs, e3, e4, rfl⟩
/-- the list under making -/
structure LcS (M : Md) (m1 : Ms) (H1 : Hp) (Dn : Addr) (m' : Ms) (W' : Wd) (acc : List V) (accD : List D) (H : Hp) : Prop where
  kp : Kp m1 H1 m' H
  op : m'.op = Dn :: m1.op
  opk : ∀ a ∈ m1.op, ∀ o, H1 a = some o → H a = some o
  ok : WOk M m' W' H
  at_ : H Dn = some (.lst acc)
  all : IsAll M m' H acc accD
section
variable {M : Md} {m1 m' m3 : Ms} {H1 H H4 : Hp} {Dn : Addr} {W1 W' W3 : Wd} {acc : List V} {accD : List D}
theorem LcS.start (hw1 : WOk M m1 W1 H1) (hD : H1 Dn = none) : LcS M m1 H1 Dn ⟨m1.ch, Dn :: m1.op⟩ W1 [] [] (upd H1 Dn (.lst [])) := by
  have hD0 : ∀ a o, H1 a = some o → a ≠ Dn := fun a o e q => by rw [q, hD] at e; cases e
  refine ⟨⟨⟨[], by simp⟩, fun a o n e => ⟨?_, ?_⟩⟩, rfl, fun a ha o e => ?_, ⟨hw1.len, hw1.nd, fun i xs e => ?_, fun a ha => ?_⟩, upd_same, .nil⟩
  · rw [upd_ne (hD0 a o e)]; exact e
  · rintro (z | z)
    · exact n (.inl z)
    · rcases List.mem_cons.mp z with z | z
      · exact hD0 a o e z
      · exact n (.inr z)
  · rw [upd_ne (hD0 a o e)]; exact e
  · obtain ⟨a, vs, e1, e2, e3⟩ := hw1.at_ i xs e
    refine ⟨a, vs, e1, by rw [upd_ne (hD0 a _ e2)]; exact e2, e3.kp ⟨⟨[], by simp⟩, fun b o n e => ⟨by rw [upd_ne (hD0 b o e)]; exact e, ?_⟩⟩⟩
    rintro (z | z)
    · exact n (.inl z)
    · rcases List.mem_cons.mp z with z | z
      · exact hD0 b o e z
      · exact n (.inr z)
  · rcases List.mem_cons.mp ha with z | z
    · subst z
      exact ⟨fun z => hw1.notIn hD (.inl z), _, upd_same⟩
    · obtain ⟨n, o, e⟩ := hw1.opn a z
      exact ⟨n, o, by rw [upd_ne (hD0 a o e)]; exact e⟩
theorem LcS.step (L : LcS M m1 H1 Dn m' W' acc accD H) (st : Step m' H m3 H4) (hw : WOk M m3 W3 H4) : LcS M m1 H1 Dn m3 W3 acc accD H4 :=
  ⟨L.kp.trans st.kp, st.op.trans L.op, fun a ha o e => st.opk a (by rw [L.op]; exact List.mem_cons_of_mem _ ha) o (L.opk a ha o e), hw, st.opk Dn (by rw [L.op]; exact List.mem_cons_self) _ L.at_, L.all.mono st⟩
theorem LcS.push (hD : H1 Dn = none) (L : LcS M m1 H1 Dn m' W' acc accD H) {v : V} {y : D} (hv : Is M m' H v y) : LcS M m1 H1 Dn m' W' (acc ++ [v]) (accD ++ [y]) (upd H Dn (.lst (acc ++ [v]))) := by
  have hD0 : ∀ a o, H1 a = some o → a ≠ Dn := fun a o e q => by rw [q, hD] at e; cases e
  have kD : Kp m' H m' (upd H Dn (.lst (acc ++ [v]))) := ⟨⟨[], by simp⟩, fun a o n e => ⟨by rw [upd_ne (fun z => n (.inr (by rw [L.op, z]; exact List.mem_cons_self)))]; exact e, n⟩⟩
  refine ⟨L.kp.trans kD, L.op, fun a ha o e => ?_, ⟨L.ok.len, L.ok.nd, fun j xs e => ?_, fun a ha => ?_⟩, upd_same, (L.all.append (.cons hv .nil)).kp kD⟩
  · rw [upd_ne (hD0 a o e)]
    exact L.opk a ha o e
  · obtain ⟨a, vs, f1, f2, f3⟩ := L.ok.at_ j xs e
    have ne : a ≠ Dn := fun z => by
      obtain ⟨n, _⟩ := L.ok.opn Dn (by rw [L.op]; exact List.mem_cons_self)
      exact n (by rw [← z]; exact List.mem_of_getElem? f1)
    exact ⟨a, vs, f1, by rw [upd_ne ne]; exact f2, f3.kp kD⟩
  · obtain ⟨n, o, e⟩ := L.ok.opn a ha
    by_cases z : a = Dn
    · subst z; exact ⟨n, _, upd_same⟩
    · exact ⟨n, o, by rw [upd_ne z]; exact e⟩
theorem LcS.done (hw1 : WOk M m1 W1 H1) (hD : H1 Dn = none) (L : LcS M m1 H1 Dn m' W' acc accD H) : ∃ m'', Step m1 H1 m'' H ∧ WOk M m'' W' H ∧ Is M m'' H (.ref Dn) (.lst accD) := by
  have kc : Kp m' H ⟨m'.ch, m1.op⟩ H := ⟨⟨[], by simp⟩, fun a o n e => ⟨e, fun z => n (z.imp id fun z => by rw [L.op]; exact List.mem_cons_of_mem _ z)⟩⟩
  have nD : ¬ Ms.has ⟨m'.ch, m1.op⟩ Dn := by
    rintro (z | z)
    · exact (L.ok.opn Dn (by rw [L.op]; exact List.mem_cons_self)).1 z
    · exact hw1.notIn hD (.inr z)
  refine ⟨⟨m'.ch, m1.op⟩, ⟨L.kp.trans kc, rfl, L.opk⟩, ⟨L.ok.len, L.ok.nd, fun i xs e => ?_, fun a ha => L.ok.opn a (by rw [L.op]; exact List.mem_cons_of_mem _ ha)⟩, .lst nD L.at_ (L.all.kp kc)⟩
  obtain ⟨a, vs, f1, f2, f3⟩ := L.ok.at_ i xs e
  exact ⟨a, vs, f1, f2, f3.kp kc⟩
end
/-- a walk's turns -/
theorem any_it {J : It} {n : Nat} {G : Hp → Prop} {Y : Nat → Hp → V → Hp → Prop} (w : Walk J n G Y) {B : V → Hp → (Hp → Prop) → Prop} {H4 : Hp} {Nx : Hp → Prop} (Pv : Nat → Hp → Prop) (h0 : Pv 0 H4) (hG : ∀ i H, i ≤ n → Pv i H → G H)
    (hs : ∀ i x H H', i < n → Pv i H → Y i H x H' → B x H' (Pv (i + 1))) (hd : ∀ H, Pv n H → Nx H) :
    ∃ W : Nat → Nat → Hp → Prop, (∃ m, W 0 m H4) ∧ ∀ i m H, W i m H → (J.stop i H ∧ Nx H) ∨ (J.go i H ∧ ∃ Nx1 : Hp → Prop, (∀ H', Nx1 H' → ∃ m', m' < m ∧ W (i + 1) m' H') ∧ ∀ x H', J.yld i H x H' → B x H' Nx1) := by
  refine ⟨fun i m H => m = n - i ∧ i ≤ n ∧ Pv i H, ⟨n, by simp, Nat.zero_le _, h0⟩, ?_⟩
  rintro i m H ⟨rfl, hi, p⟩
  have q := hG i H hi p
  by_cases hlt : i < n
  · exact .inr ⟨w.goes i H hlt q, Pv (i + 1), fun H' p' => ⟨n - (i + 1), by omega, rfl, hlt, p'⟩, fun x H' y => hs i x H H' hlt p (w.yields i H x H' hlt q y)⟩
  · have e : i = n := by omega
    subst e
    exact .inl ⟨w.stops H q, hd H p⟩
section
variable {X : Cx} {sc : Scope} {Wx : WX}
theorem wipe_keep {σ σ' : L2.St} {t : T} {vs : List Nat} (hl : σ'.length = σ.length) (ht : ∀ j ∈ t.ixs, j ∈ vs) (h : ∀ j, j ∉ t.ixs → σ'[j]? = (L2.wipe σ vs)[j]?) : L2.wipe σ' vs = L2.wipe σ vs :=
  wipe_ext _ hl fun j hj => by rw [h j fun z => hj (ht j z), wipe_at _ j hj]
theorem e_lc2 {own : List (Str × Nat)} {vs1 : List Nat} {t t1 : T} {fi fi1 : EnvD → Wd → R (List D)} {ft ft1 : EnvD → Wd → R Bool} {fe : EnvD → Wd → R D}
    {te : TE} {tt tt1 : TT} {g g1 : TG} {wi wi1 : TI} (hte : te = tE (mdOf X) W0 fe) (htt : tt = tB (mdOf X) W0 ft) (htt1 : tt1 = tB (mdOf X) W0 ft1) (hg : g = tG (mdOf X) t) (hg1 : g1 = tG (mdOf X) t1) (hwi : wi = tI (mdOf X) Wx fi) (hwi1 : wi1 = tI (mdOf X) W0 fi1)
    (ht : ∀ j ∈ t.ixs, j ∈ own.map (·.2)) (ht1 : ∀ j ∈ t1.ixs, j ∈ vs1) :
    ∀ σ H Q, tE (mdOf X) Wx (fun ρ W => (fi ρ W).bnd fun ds W => (lc2Loop (fun d W => t.put W d (wipeD ρ (own.map (·.2)))) ft (fun ρ1 W => (fi1 ρ1 W).bndX fun es W => lcLoop (fun d W => t1.put W d (wipeD ρ1 vs1)) ft1 fe es W) ds W).bndX fun ys W => if ys.length ≤ 16777216 then .ok (.lst ys) W else .bad) σ H Q →
      tLc2 wi g tt wi1 g1 tt1 te (own.map (·.2)) vs1 σ H Q := by
  subst hte htt htt1 hg hg1 hwi hwi1
  intro σ H Q ⟨ρ, m, W, he, hw, h⟩
  refine ⟨ρ, m, W, he, hw, h.bnd.imp fun ds m1 W1 H1 s1 hw1 h1 J hJ Dn hD => ?_⟩
  obtain ⟨G, Y, wk, hG, hY⟩ := hJ
  cases q : lc2Loop (fun d W => t.put W d (wipeD ρ (own.map (·.2)))) ft (fun ρ1 W => (fi1 ρ1 W).bndX fun es W => lcLoop (fun d W => t1.put W d (wipeD ρ1 vs1)) ft1 fe es W) ds W1 with
  | bad => rw [q] at h1; exact h1.elim
  | err _ _ => rw [q] at h1; exact h1.elim
  | ok ys Wf =>
    rw [q] at h1
    obtain ⟨hl, h1⟩ := (show aft (mdOf X) Wx m1 H1 (if ys.length ≤ 16777216 then R.ok (D.lst ys) Wf else .bad) _ from h1).ite
    have hl' : ys.length ≤ sizeLine := by rw [sizeLine_eq]; exact hl
    refine any_it wk (fun i H => ∃ m' W' acc accD zs, LcS (mdOf X) m1 H1 Dn m' W' acc accD H ∧ lc2Loop (fun d W => t.put W d (wipeD ρ (own.map (·.2)))) ft (fun ρ1 W => (fi1 ρ1 W).bndX fun es W => lcLoop (fun d W => t1.put W d (wipeD ρ1 vs1)) ft1 fe es W) (ds.drop i) W' = .ok zs Wf ∧ accD ++ zs = ys)
      ⟨_, W1, [], [], ys, LcS.start hw1 hD, q, rfl⟩ ?_ ?_ ?_
    · rintro i H hi ⟨m', W', acc, accD, zs, L, _⟩
      exact hG m' H L.kp
    · rintro i x H2 H3 hi ⟨m', W', acc, accD, zs, L, hgo, hfin⟩ y
      obtain ⟨d, e1, sm, is⟩ := hY i m' W' H2 x H3 L.kp L.ok y
      have hdrop : ds.drop i = d :: ds.drop (i + 1) := by
        rw [List.drop_eq_getElem_cons hi]
        rw [List.getElem?_eq_getElem hi] at e1
        cases e1; rfl
      rw [hdrop] at hgo
      obtain ⟨ρ1, b, Wb, c1, c2, c3⟩ := lc2Loop_cons hgo
      have L3 := L.step (Step.same sm) (L.ok.mono sm)
      refine ⟨wipeD ρ (own.map (·.2)), m', W', d, ρ1, (he.kp (s1.kp.trans L3.kp)).wipe _, is, c1, fun σ2 g1 g2 g3 => ⟨?_, ρ1, m', W', g1, L3.ok, ?_⟩⟩
      · rw [L2.wipe_length] at g2
        exact wipe_keep g2 ht g3
      · rw [c2]
        intro m3 H4 st3 hw4
        have L4 := L3.step st3 hw4
        rcases c3 with ⟨rfl, y1, W2, zs', c4, c5, rfl⟩ | ⟨rfl, c5⟩
        · simp only [if_pos]
          obtain ⟨es, We, c6, c7⟩ := bndX_ok c4
          refine ⟨ρ1, m3, Wb, g1.mono st3, hw4, ?_⟩
          rw [c6]
          intro m5 H5 st5 hw5 J1 hJ1
          obtain ⟨G1, Y1, wk1, hG1, hY1⟩ := hJ1
          have L5 := L4.step st5 hw5
          have he5 : EnvOk (mdOf X) m5 H5 σ2 ρ1 := (g1.mono st3).mono st5
          refine any_it wk1 (fun j H => ∃ m' W' acc' accD' zs1, LcS (mdOf X) m1 H1 Dn m' W' acc' accD' H ∧ Kp m5 H5 m' H ∧ lcLoop (fun d W => t1.put W d (wipeD ρ1 vs1)) ft1 fe (es.drop j) W' = .ok zs1 W2 ∧ accD' ++ zs1 = accD ++ y1)
            ⟨_, We, acc, accD, y1, L5, .refl, c7, rfl⟩ ?_ ?_ ?_
          · rintro j H hj ⟨m', W', acc', accD', zs1, L', k', _⟩
            exact hG1 m' H k'
          · rintro j x H6 H7 hj ⟨m6, W6, acc', accD', zs1, L6, k6, hgo1, hfin1⟩ y6
            obtain ⟨d1, f1, sm1, is1⟩ := hY1 j m6 W6 H6 x H7 k6 L6.ok y6
            have hdrop1 : es.drop j = d1 :: es.drop (j + 1) := by
              rw [List.drop_eq_getElem_cons hj]
              rw [List.getElem?_eq_getElem hj] at f1
              cases f1; rfl
            rw [hdrop1] at hgo1
            obtain ⟨ρ2, b1, Wb1, e2, e3, e4⟩ := lcLoop_cons hgo1
            have L7 := L6.step (Step.same sm1) (L6.ok.mono sm1)
            have k7 := k6.trans (Step.same (m := m6) sm1).kp
            refine ⟨wipeD ρ1 vs1, m6, W6, d1, ρ2, (he5.kp k7).wipe _, is1, e2, fun σ3 q1 q2 q3 => ⟨?_, ρ2, m6, W6, q1, L7.ok, ?_⟩⟩
            · rw [L2.wipe_length] at q2
              exact wipe_keep q2 ht1 q3
            · rw [e3]
              intro m8 H8 st8 hw8
              have L8 := L7.step st8 hw8
              have k8 := k7.trans st8.kp
              rcases e4 with ⟨rfl, y2, W9, zs2, e5, e6, rfl⟩ | ⟨rfl, e6⟩
              · simp only [if_pos]
                refine ⟨ρ2, m8, Wb1, q1.mono st8, hw8, ?_⟩
                rw [e5]
                intro m9 H9 st9 hw9 v hv
                have L9 := L8.step st9 hw9
                refine ⟨acc', L9.at_, ?_, m9, W9, acc' ++ [v], accD' ++ [y2], zs2, L9.push hD hv, ?_, e6, by rw [← hfin1]; simp⟩
                · have e1 := L9.all.length
                  have e2 := congrArg List.length hfin1
                  have e3 := congrArg List.length hfin
                  simp only [List.length_append, List.length_cons] at e2 e3
                  omega
                · refine (k8.trans st9.kp).trans ⟨⟨[], by simp⟩, fun a o n e => ⟨?_, n⟩⟩
                  rw [upd_ne (fun z => n (.inr (by rw [L9.op, z]; exact List.mem_cons_self)))]; exact e
              · simp only [Bool.false_eq_true, if_false]
                exact ⟨m8, Wb1, acc', accD', zs1, L8, k8, e6, hfin1⟩
          · rintro H' ⟨m', W', acc', accD', zs1, L', k', hgo1, hfin1⟩
            have e0 : es.drop es.length = [] := by simp
            rw [e0] at hgo1
            unfold lcLoop at hgo1
            cases hgo1
            rw [List.append_nil] at hfin1
            exact ⟨m', W2, acc', accD', zs', L', c5, by rw [hfin1, ← hfin]; simp⟩
        · simp only [Bool.false_eq_true, if_false]
          exact ⟨m3, Wb, acc, accD, zs, L4, c5, hfin⟩
    · rintro H' ⟨m', W', acc, accD, zs, L, hgo, hfin⟩
      have e0 : ds.drop ds.length = [] := by simp
      rw [e0] at hgo
      unfold lc2Loop at hgo
      cases hgo
      rw [List.append_nil] at hfin
      obtain ⟨m'', st, hw', is⟩ := L.done hw1 hD
      exact h1 m'' H' st hw' _ (by rw [← hfin]; exact is)
end
end PL

/-! PL12: the check of codes against expressions, and that it is sound. -/
namespace PL
open PySem PySem.Spec PyProof.Rows L2

structure Glb where
  fns : List Str
  frees : List Str
  gs : List (Str × D)
structure Gd (X : Cx) (Δ : Tab) (G : Glb) : Prop where
  calm : X.calm = true
  nd : X.N.Nodup
  units : X.A.units + 200 < cLine
  fns : ∀ x ∈ G.fns, ∃ k f fd ps, FnOk X.prog X.w X.K X.mg X.base (L2.CX X.prog X.w) k f fd ps (spD (mdOf X) (Δ x)) ∧ Room k X.A ∧ X.mg x = some (.ref f) ∧ PySem.W.keepIn X.K (.ref f) = true ∧ Binds X.K fd ps []
  free : ∀ x ∈ G.frees, X.mg x = none
  gs : ∀ p ∈ G.gs, ∃ v u, X.mg p.1 = some u ∧ RelV v u ∧ ∀ m H, Is (mdOf X) m H v p.2

/-! ### small checks -/
def nostar : Expr → Bool
  | .Starred _ _ => false
  | _ => true
def noslice : Expr → Bool
  | .Slice _ _ _ _ => false
  | _ => true
def noset : Expr → Bool
  | .Set _ _ _ => false
  | _ => true
def baseB : Expr → Bool
  | .Call _ _ _ _ => false
  | _ => true
def cstB : D → Const → Bool
  | .non, .none => true
  | .bl a, .bool b => a == b
  | .int a, .int b => a == b
  | .str a, .str b => a == b && PyData.strOk a
  | _, _ => false
def binB : Operator → Bool
  | .Add => true
  | .Sub => true
  | .Mult => true
  | .FloorDiv => true
  | .Mod => true
  | .Pow => true
  | _ => false
theorem star_ok {e : Expr} {es : List Expr} {env : Env} (h : nostar e = true) : starEach (e :: es) env = (false, eval e env) :: starEach es env := by
  cases e <;> first | rfl | cases h
theorem slice_ok {e : Expr} (h : noslice e = true) : ∀ o i, subscripted e false o i = operate [o, i] (getItem o i) := by
  cases e <;> first | (intro o i; rfl) | cases h
theorem set_ok {e : Expr} (h : noset e = true) (env : Env) : ∀ x, foldedSetIterable e env x = pure x := by
  cases e <;> first | (intro x; rfl) | cases h
theorem base_ok {e : Expr} {a : Str} {env : Env} (h : baseB e = true) (w : Sem Value) : attributeBase e a env w = w := by
  cases e <;> first | rfl | cases h
theorem any_ok {es : List Expr} {env : Env} {pos : Pos} (h : es.all nostar = true) : (backTo pos (starEach es env)).any (·.1) = false := by
  induction es with
  | nil => rfl
  | cons e es ih =>
    simp only [List.all_cons, Bool.and_eq_true] at h
    rw [star_ok h.1]
    show (false || (backTo pos (starEach es env)).any (·.1)) = false
    rw [ih h.2]; rfl

/-! ### the check -/
section
variable (G : Glb) (N : List Str)
mutual
def chk (sc : Scope) : C → Expr → Bool
  | .var i, e => match e with
    | .Name x _ => visB N sc i x
    | _ => false
  | .cst d, e => match e with
    | .Constant c _ _ => cstB d c
    | _ => false
  | .glo x d, e => match e with
    | .Name y _ => x == y && glbB sc y && (match G.gs.find? fun p => p.1 == y with
      | some p => D.same p.2 d
      | none => false)
    | _ => false
  | .tup es, e => match e with
    | .Tuple es' _ _ => chks sc es es'
    | _ => false
  | .lst es, e => match e with
    | .List es' _ => chks sc es es'
    | _ => false
  | .bin o a b, e => match e with
    | .BinOp a' o' b' _ => o == o' && binB o' && chk sc a a' && chk sc b b'
    | _ => false
  | .neg a, e => match e with
    | .UnaryOp .USub a' _ => chk sc a a'
    | _ => false
  | .not a, e => match e with
    | .UnaryOp .Not a' _ => chk sc a a'
    | _ => false
  | .and es, e => match e with
    | .BoolOp .And es' _ => !es'.isEmpty && chks sc es es'
    | _ => false
  | .or es, e => match e with
    | .BoolOp .Or es' _ => !es'.isEmpty && chks sc es es'
    | _ => false
  | .cmp o a b, e => match e with
    | .Compare a' [o'] [b'] _ => o == o' && !(behindInMarks o' b') && chk sc a a' && chk sc b b'
    | _ => false
  | .cmp2 o p a b c, e => match e with
    | .Compare a' [o', p'] [b', c'] _ => o == o' && p == p' && !(lastMarks [o', p'] [b', c']) && chk sc a a' && chk sc b b' && chk sc c c'
    | _ => false
  | .ite t a b, e => match e with
    | .IfExp t' a' b' _ => chk sc t t' && chk sc a a' && chk sc b b'
    | _ => false
  | .call f es, e => match e with
    | .Call (.Name x _) es' [] _ => f == x && glbB sc x && G.fns.contains x && chks sc es es'
    | _ => false
  | .bi f es, e => match e with
    | .Call (.Name x _) es' [] _ => f == x && glbB sc x && G.frees.contains x && !es'.isEmpty && (biOf x).isSome && chks sc es es'
    | _ => false
  | .isi a T, e => match e with
    | .Call (.Name x _) [a', .Name y _] [] _ => x == "isinstance" && glbB sc x && G.frees.contains x && y == Str.ofString T && glbB sc y && G.frees.contains y && isiTs.contains T && nostar a' && chk sc a a'
    | _ => false
  | .get o k d, e => match e with
    | .Call (.Attribute o' m apos) [k', d'] [] cpos => m == "get" && baseB o' && apos.endLine == cpos.line && nostar k' && nostar d' && chk sc o o' && chk sc k k' && chk sc d d'
    | _ => false
  | .ix a i, e => match e with
    | .Subscript a' i' _ => noslice i' && chk sc a a' && chk sc i i'
    | _ => false
  | .sl a lo hi, e => match e with
    | .Subscript a' (.Slice lo' hi' none _) _ => chk sc a a' && chko sc lo lo' && chko sc hi hi'
    | _ => false
  | .lc own t w ifs el, e => match e with
    | .ListComp elt [⟨tg, iter, ifs', z⟩] scope _ => z == 0 && noset iter && blkB N sc scope own && chkT N scope t tg && (t.ixs.all fun j => own.any fun p => p.2 == j) && chkI sc w tg iter && chkt scope ifs ifs' && chk scope el elt
    | _ => false
  | .lzip a b, e => match e with
    | .Call (.Name x _) [.Call (.Name y _) [a', b'] [] _] [] _ => x == "list" && glbB sc x && G.frees.contains x && y == "zip" && glbB sc y && G.frees.contains y && nostar a' && nostar b' && chk sc a a' && chk sc b b'
    | _ => false
  | .lrg1 a, e => match e with
    | .Call (.Name x _) [.Call (.Name y _) [a'] [] _] [] _ => x == "list" && glbB sc x && G.frees.contains x && y == "range" && glbB sc y && G.frees.contains y && nostar a' && chk sc a a'
    | _ => false
  | .lrg2 a b, e => match e with
    | .Call (.Name x _) [.Call (.Name y _) [a', b'] [] _] [] _ => x == "list" && glbB sc x && G.frees.contains x && y == "range" && glbB sc y && G.frees.contains y && nostar a' && nostar b' && chk sc a a' && chk sc b b'
    | _ => false
  | .new es, e => match e with
    | .List es' _ => chks sc es es'
    | _ => false
  | .lc2 own t w ifs vs1 t1 w1 ifs1 el, e => match e with
    | .ListComp elt [⟨tg, iter, ifs', z⟩, ⟨tg1, iter1, ifs1', z1⟩] scope _ => z == 0 && z1 == 0 && noset iter && noset iter1 && blkB N sc scope own && (vs1.all fun j => own.any fun p => p.2 == j) && chkT N scope t tg && (t.ixs.all fun j => own.any fun p => p.2 == j) &&
        chkT N scope t1 tg1 && (t1.ixs.all fun j => vs1.contains j) && chkI sc w tg iter && chkt scope ifs ifs' && chkI scope w1 tg1 iter1 && chkt scope ifs1 ifs1' && chk scope el elt
    | _ => false
  | .mt1 k a el, e => match e with
    | .Call (.Attribute a' m apos) [el'] [] cpos => m == mtName k && baseB a' && apos.endLine == cpos.line && nostar el' && chk sc a a' && chk sc el el'
    | _ => false
  | .rev a, e => match e with
    | .Subscript a' (.Slice none none (some (.UnaryOp .USub (.Constant (.int n) _ _) _)) _) _ => n == 1 && chk sc a a'
    | _ => false
def chks (sc : Scope) : Cs → List Expr → Bool
  | .nil, es => match es with
    | [] => true
    | _ => false
  | .cons c cs, es => match es with
    | e :: es => nostar e && chk sc c e && chks sc cs es
    | [] => false
def chkt (sc : Scope) : Cs → List Expr → Bool
  | .nil, es => match es with
    | [] => true
    | _ => false
  | .cons c cs, es => match cs, es with
    | .nil, [e] => chk sc c e
    | _, _ => false
def chko (sc : Scope) : Co → Option Expr → Bool
  | .no, e => match e with
    | none => true
    | _ => false
  | .yes c, e => match e with
    | some e => chk sc c e
    | none => false
def chkI (sc : Scope) : I → Expr → Expr → Bool
  | .seq c, _, e => chk sc c e
  | .rng1 c, _, e => match e with
    | .Call (.Name x _) [a] [] _ => x == "range" && glbB sc x && G.frees.contains x && nostar a && chk sc c a
    | _ => false
  | .rng2 c d, _, e => match e with
    | .Call (.Name x _) [a, b] [] _ => x == "range" && glbB sc x && G.frees.contains x && nostar a && nostar b && chk sc c a && chk sc d b
    | _ => false
  | .enum c, tg, e => match tg, e with
    | .Tuple _ _ _, .Call (.Name x _) [a] [] _ => x == "enumerate" && glbB sc x && G.frees.contains x && nostar a && chk sc c a
    | _, _ => false
  | .zip c d, tg, e => match tg, e with
    | .Tuple _ _ _, .Call (.Name x _) [a, b] [] _ => x == "zip" && glbB sc x && G.frees.contains x && nostar a && nostar b && chk sc c a && chk sc d b
    | _, _ => false
end
end
end PL

/-! PL13: the check is sound: expressions. -/
namespace PL
open PySem PySem.Spec PyProof.Rows L2
section
variable {X : Cx}
theorem op_ok {o : Operator} (h : binB o = true) : OpR X (binaryOp o) (rD (mdOf X) (dBin o)) := by
  cases o <;> first | exact opd_add | exact opd_sub | exact opd_mul | exact opd_div | exact opd_mod | exact opd_pow | cases h
theorem cmp_ok (hu : X.A.units + 200 < cLine) (o : CmpOp) : OpR X (compareOp o) (rD (mdOf X) (dCmp o)) := by
  cases o with
  | Eq => exact opd_eq hu
  | NotEq => exact opd_ne hu
  | Lt => exact opd_lt hu
  | LtE => exact opd_le hu
  | Gt => exact opd_gt hu
  | GtE => exact opd_ge hu
  | Is => exact opd_is
  | IsNot => exact opd_isnot
  | In => exact opd_in hu
  | NotIn => exact opd_notin hu
theorem bo_cmp (o : CmpOp) : Bo (dCmp o) := by
  have b1 : ∀ f : Wd → D → D → Option Bool, Bo (oB f) := fun f W x y d e => by
    obtain ⟨k, _, rfl⟩ := some_map (show (f W x y).map D.bl = some d from e)
    exact ⟨k, rfl⟩
  have b2 : ∀ f : Wd → D → D → Option Bool, Bo (oNB f) := fun f W x y d e => by
    obtain ⟨k, _, rfl⟩ := some_map (show (f W x y).map (fun c => D.bl !c) = some d from e)
    exact ⟨_, rfl⟩
  cases o <;> first | exact b1 _ | exact b2 _
theorem bi_len : biOf "len" = some dLenS := by kernel_rfl
theorem bi_all : biOf "all" = some dAll := by kernel_rfl
theorem bi_any : biOf "any" = some dAny := by kernel_rfl
theorem bi_sum : biOf "sum" = some dSum := by kernel_rfl
theorem bi_list : biOf "list" = some dList := by kernel_rfl
theorem bi_tuple : biOf "tuple" = some dTuple := by kernel_rfl
theorem bi_abs : biOf "abs" = some dAbs := by kernel_rfl
theorem bi_int : biOf "int" = some dInt := by kernel_rfl
theorem bi_repr : biOf "repr" = some dRepr := by kernel_rfl
theorem bi_dict : biOf "dict" = some dDict := by kernel_rfl
theorem bi_set : biOf "set" = some dSet := by kernel_rfl
theorem bi_sorted : biOf "sorted" = some dSort := by kernel_rfl
theorem bi_max : biOf "max" = some dMax := by kernel_rfl
theorem bi_min : biOf "min" = some dMin := by kernel_rfl
theorem bi_ok (hc : X.calm = true) (hu : X.A.units + 200 < cLine) {f : Str} (h : (biOf f).isSome = true) : ∃ g, biOf f = some g ∧ ((∃ id, bootBuiltins f = some (.builtin id) ∧ CallR X (.builtin id) (cD (mdOf X) g)) ∨ ∃ T, bootBuiltins f = some (.type T) ∧ CallR X (.type T) (cD (mdOf X) g)) := by
  by_cases e0 : f = "len"
  · subst e0; exact ⟨_, bi_len, .inl ⟨_, by decide +kernel, cd_lenS⟩⟩
  by_cases e1 : f = "all"
  · subst e1; exact ⟨_, bi_all, .inl ⟨_, by decide +kernel, cd_all hc⟩⟩
  by_cases e2 : f = "any"
  · subst e2; exact ⟨_, bi_any, .inl ⟨_, by decide +kernel, cd_any hc⟩⟩
  by_cases e3 : f = "sum"
  · subst e3; exact ⟨_, bi_sum, .inl ⟨_, by decide +kernel, cd_sum hc⟩⟩
  by_cases e4 : f = "list"
  · subst e4; exact ⟨_, bi_list, .inr ⟨_, by decide +kernel, cd_list⟩⟩
  by_cases e5 : f = "tuple"
  · subst e5; exact ⟨_, bi_tuple, .inr ⟨_, by decide +kernel, cd_tuple⟩⟩
  by_cases e6 : f = "abs"
  · subst e6; exact ⟨_, bi_abs, .inl ⟨_, by decide +kernel, cd_abs⟩⟩
  by_cases e7 : f = "int"
  · subst e7; exact ⟨_, bi_int, .inr ⟨_, by decide +kernel, cd_int⟩⟩
  by_cases e8 : f = "repr"
  · subst e8; exact ⟨_, bi_repr, .inl ⟨_, by decide +kernel, cd_repr⟩⟩
  by_cases e9 : f = "dict"
  · subst e9; exact ⟨_, bi_dict, .inr ⟨_, by decide +kernel, cd_dict hc hu⟩⟩
  by_cases e10 : f = "set"
  · subst e10; exact ⟨_, bi_set, .inr ⟨_, by decide +kernel, cd_set hc hu⟩⟩
  by_cases e11 : f = "sorted"
  · subst e11; exact ⟨_, bi_sorted, .inl ⟨_, by decide +kernel, cd_sort hc hu⟩⟩
  by_cases e12 : f = "max"
  · subst e12; exact ⟨_, bi_max, .inl ⟨_, by decide +kernel, cd_max hc⟩⟩
  by_cases e13 : f = "min"
  · subst e13; exact ⟨_, bi_min, .inl ⟨_, by decide +kernel, cd_min hc⟩⟩
  unfold biOf at h
  rw [if_neg e0, if_neg e1, if_neg e2, if_neg e3, if_neg e4, if_neg e5, if_neg e6, if_neg e7, if_neg e8, if_neg e9, if_neg e10, if_neg e11, if_neg e12, if_neg e13] at h
  cases h
theorem isi_boot {T : String} (h : T ∈ isiTs) : bootBuiltins (Str.ofString T) = some (.type T) := by
  have : ∀ T ∈ isiTs, bootBuiltins (Str.ofString T) = some (.type T) := by decide +kernel
  exact this T h
theorem cst_ok {d : D} {c : Const} {k : Nat} {pos : Pos} {Wx : WX} (h : cstB d c = true) : PE X (.Constant c k pos) (tE (mdOf X) Wx fun _ W => .ok d W) := by
  cases d with
  | non => cases c with
    | none => exact e_cst pe_non fun _ _ => .non
    | _ => cases h
  | bl a => cases c with
    | bool b => simp only [cstB, beq_iff_eq] at h; subst h; exact e_cst pe_bl fun _ _ => .bl _
    | _ => cases h
  | int a => cases c with
    | int b => simp only [cstB, beq_iff_eq] at h; subst h; exact e_cst pe_int fun _ _ => .int _
    | _ => cases h
  | str a => cases c with
    | str b => simp only [cstB, Bool.and_eq_true, beq_iff_eq] at h; obtain ⟨rfl, h⟩ := h; exact e_cst pe_str fun _ _ => .str _ h
    | _ => cases h
  | _ => cases c <;> cases h
theorem Gd.blk {Δ : Tab} {G : Glb} (g : Gd X Δ G) {s : Shared} {H : Hp} {C : Addr} {cl : List (Str × Addr)} {fp : List Addr} {scope : Scope} : Gd (X.blk s H scope (compEnvC scope cl C X.env) fp) Δ G :=
  ⟨g.calm, g.nd, g.units, g.fns, g.free, g.gs⟩
/-- not (a test), by data -/
theorem tru_not {r : R D} : truR (r.bnd fun x W => (ofO (truth W x) W).bnd fun b W => .ok (.bl !b) W) = (truR r).bnd fun b W => .ok (!b) W := by
  cases r with
  | ok x W =>
    simp only [R.bnd, truR]
    cases truth W x <;> rfl
  | err _ _ => rfl
  | bad => rfl
theorem tru_ite {r : R Bool} {f g : Wd → R D} : truR (r.bnd fun k W => if k = true then f W else g W) = r.bnd fun k W => if k = true then truR (f W) else truR (g W) := by
  cases r with
  | ok k W => cases k <;> rfl
  | err _ _ => rfl
  | bad => rfl
theorem tru_and {r : R D} {f : Wd → R D} : truR (r.bnd fun x W => (ofO (truth W x) W).bnd fun t W => if t = true then f W else .ok x W) = (truR r).bnd fun t W => if t = true then truR (f W) else .ok false W := by
  cases r with
  | ok x W =>
    simp only [R.bnd, truR]
    cases e : truth W x with
    | none => rfl
    | some t => cases t with
      | true => rfl
      | false => simp [ofO, R.bnd, e]
  | err _ _ => rfl
  | bad => rfl
theorem tru_or {r : R D} {f : Wd → R D} : truR (r.bnd fun x W => (ofO (truth W x) W).bnd fun t W => if t = true then .ok x W else f W) = (truR r).bnd fun t W => if t = true then .ok true W else truR (f W) := by
  cases r with
  | ok x W =>
    simp only [R.bnd, truR]
    cases e : truth W x with
    | none => rfl
    | some t => cases t with
      | false => rfl
      | true => simp [ofO, R.bnd, e]
  | err _ _ => rfl
  | bad => rfl
theorem t_ite {Wx : WX} {c a b : Expr} {pos : Pos} {ft fa fb : EnvD → Wd → R Bool} (ht : PT X c (tB (mdOf X) Wx ft)) (ha : PT X a (tB (mdOf X) Wx fa)) (hb : PT X b (tB (mdOf X) Wx fb)) :
    PT X (.IfExp c a b pos) (tB (mdOf X) Wx fun ρ W => (ft ρ W).bnd fun k W => if k = true then fa ρ W else fb ρ W) := by
  refine ⟨fun pins s σ H Q I ⟨ρ, m, W, he, hw, h⟩ => ?_⟩
  show wpAny _ _ (isTrue c X.env (eval c X.env) >>= fun k => if k then isTrue a X.env (eval a X.env) else isTrue b X.env (eval b X.env)) _ _ s
  refine wpAny_bind (thn (ht.run pins s σ H (fun k H1 => ∃ m1 W1, EnvOk (mdOf X) m1 H1 σ ρ ∧ WOk (mdOf X) m1 W1 H1 ∧ aft (mdOf X) Wx m1 H1 (if k = true then fa ρ W1 else fb ρ W1) fun b _ _ H' => Q b H') I ⟨ρ, m, W, he, hw, h.bnd.imp fun k m1 W1 H1 s1 hw1 h1 => ⟨m1, W1, he.mono s1, hw1, h1⟩⟩) fun k s1 ⟨H1, I1, m1, W1, g1, g2, g3⟩ => ?_)
  cases k with
  | true => exact ha.run pins s1 σ H1 Q I1 ⟨ρ, m1, W1, g1, g2, g3⟩
  | false => exact hb.run pins s1 σ H1 Q I1 ⟨ρ, m1, W1, g1, g2, g3⟩
theorem both {Wx : WX} {e : Expr} {f : EnvD → Wd → R D} (h : PE X e (tE (mdOf X) Wx f)) (p : ∀ whole, isTrue e X.env whole = (do let v ← whole; standAt e.pos; holding [v] (truthy v))) : PE X e (tE (mdOf X) Wx f) ∧ PT X e (tB (mdOf X) Wx fun ρ W => truR (f ρ W)) := ⟨h, t_truth h p⟩
theorem w_one_and {e : Expr} {t : TT} {pos : Pos} (h : PT X e t) : PW X (.BoolOp .And [e] pos) t := pw_and1 h
end
section
variable (Δ : Tab) (G : Glb)
/-- what the check of an expression gives -/
def OkC (c : C) : Prop := ∀ (e : Expr) (X : Cx) (Wx : WX) (sc : Scope), Gd X Δ G → ScOk X sc → Takes X Wx → chk G X.N sc c e = true → PE X e (tE (mdOf X) Wx (run Δ c)) ∧ PT X e (tB (mdOf X) Wx fun ρ W => truR (run Δ c ρ W))
def OkCs (cs : Cs) : Prop := ∀ (es : List Expr) (X : Cx) (Wx : WX) (sc : Scope), Gd X Δ G → ScOk X sc → Takes X Wx → chks G X.N sc cs es = true →
  es.all nostar = true ∧ PA X es (tAs (mdOf X) Wx (runs Δ cs)) ∧ (es ≠ [] → ∀ pos, PE X (.BoolOp .And es pos) (tE (mdOf X) Wx (runAnd Δ cs)) ∧ PE X (.BoolOp .Or es pos) (tE (mdOf X) Wx (runOr Δ cs)) ∧
    PW X (.BoolOp .And es pos) (tB (mdOf X) Wx fun ρ W => truR (runAnd Δ cs ρ W)) ∧ PW X (.BoolOp .Or es pos) (tB (mdOf X) Wx fun ρ W => truR (runOr Δ cs ρ W)))
def OkT (cs : Cs) : Prop := ∀ (es : List Expr) (X : Cx) (Wx : WX) (sc : Scope), Gd X Δ G → ScOk X sc → Takes X Wx → chkt G X.N sc cs es = true → PTs X es (tB (mdOf X) Wx (runT Δ cs))
def OkO (c : Co) : Prop := ∀ (e : Option Expr) (X : Cx) (Wx : WX) (sc : Scope), Gd X Δ G → ScOk X sc → Takes X Wx → chko G X.N sc c e = true → PO X e (tO (mdOf X) Wx (runo Δ c))
def OkI (c : I) : Prop := ∀ (tg e : Expr) (X : Cx) (Wx : WX) (sc : Scope), Gd X Δ G → ScOk X sc → Takes X Wx → chkI G X.N sc c tg e = true → PI X tg e (tI (mdOf X) Wx (runI Δ c))
theorem mem_of_contains {l : List Str} {x : Str} (h : l.contains x = true) : x ∈ l := by simpa using h
theorem mem_of_containsS {l : List String} {x : String} (h : l.contains x = true) : x ∈ l := by simpa using h
theorem star1 {a : Expr} {env : Env} (h : nostar a = true) : starEach [a] env = [(false, eval a env)] := star_ok h
theorem star2 {a b : Expr} {env : Env} (h : nostar a = true) (h' : nostar b = true) : starEach [a, b] env = [(false, eval a env), (false, eval b env)] := by rw [star_ok h, star_ok h']; rfl
variable {Δ G}
theorem okVar (i : Nat) : OkC Δ G (.var i) := fun e X Wx sc g S tk h => by
  cases e with
  | Name x p =>
    obtain ⟨h1, h2, h3, h4⟩ := visB_ok S (show visB X.N sc i x = true from h)
    exact ⟨e_var h1 h2 h3 h4, t_truth (e_var h1 h2 h3 h4) fun _ => rfl⟩
  | _ => exact absurd h (by simp [chk])
theorem okCst (d : D) : OkC Δ G (.cst d) := fun e X Wx sc g S tk h => by
  cases e with
  | Constant c k p =>
    exact both (cst_ok (X := X) (k := k) (pos := p) (Wx := Wx) (show cstB d c = true from h)) fun _ => rfl
  | _ => exact absurd h (by simp [chk])
theorem okGlo (x : Str) (d : D) : OkC Δ G (.glo x d) := fun e X Wx sc g S tk h => by
  cases e with
  | Name y p =>
    simp only [chk, Bool.and_eq_true, beq_iff_eq] at h
    obtain ⟨⟨rfl, h2⟩, h3⟩ := h
    obtain ⟨g1, g2, g3⟩ := glbB_ok S h2
    split at h3
    · rename_i q e
      obtain ⟨v, u, e1, r, is⟩ := g.gs q (List.mem_of_find?_eq_some e)
      have e2 := List.find?_some e
      simp only [beq_iff_eq] at e2
      rw [e2] at e1
      rw [D.same_ok h3] at is
      exact both (e_cst (Wx := Wx) (pe_glob (pos := p) g1 e1 r g2) is) fun _ => rfl
    · cases h3
  | _ => exact absurd h (by simp [chk])
theorem okTup {es : Cs} (ih : OkCs Δ G es) : OkC Δ G (.tup es) := fun e X Wx sc g S tk h => by
  cases e with
  | Tuple es' k p =>
    exact both (e_tup (k := k) (pos := p) (ih es' X Wx sc g S tk (show chks G X.N sc es es' = true from h)).2.1) fun _ => rfl
  | _ => exact absurd h (by simp [chk])
theorem okLst {es : Cs} (ih : OkCs Δ G es) : OkC Δ G (.lst es) := fun e X Wx sc g S tk h => by
  cases e with
  | List es' p =>
    exact both (e_lst (pos := p) (ih es' X Wx sc g S tk (show chks G X.N sc es es' = true from h)).2.1) fun _ => rfl
  | _ => exact absurd h (by simp [chk])
theorem okNew {es : Cs} (ih : OkCs Δ G es) : OkC Δ G (.new es) := fun e X Wx sc g S tk h => by
  cases e with
  | List es' p => exact both (e_new (pos := p) (ih es' X Wx sc g S tk (show chks G X.N sc es es' = true from h)).2.1) fun _ => rfl
  | _ => exact absurd h (by simp [chk])
theorem okBin {o : Operator} {a b : C} (ha : OkC Δ G a) (hb : OkC Δ G b) : OkC Δ G (.bin o a b) := fun e X Wx sc g S tk h => by
  cases e with
  | BinOp a' o' b' p =>
    simp only [chk, Bool.and_eq_true, beq_iff_eq] at h
    obtain ⟨⟨⟨rfl, h2⟩, h3⟩, h4⟩ := h
    exact both (e_bin (pos := p) (op_ok h2) (ha a' X Wx sc g S tk h3).1 (hb b' X Wx sc g S tk h4).1) fun _ => rfl
  | _ => exact absurd h (by simp [chk])
theorem okNeg {a : C} (ha : OkC Δ G a) : OkC Δ G (.neg a) := fun e X Wx sc g S tk h => by
  cases e with
  | UnaryOp o a' p =>
    cases o with
    | USub =>
      exact both (e_neg (pos := p) (ha a' X Wx sc g S tk (show chk G X.N sc a a' = true from h)).1) fun _ => rfl
    | _ => exact absurd h (by simp [chk])
  | _ => exact absurd h (by simp [chk])
theorem okNot {a : C} (ha : OkC Δ G a) : OkC Δ G (.not a) := fun e X Wx sc g S tk h => by
  cases e with
  | UnaryOp o a' p =>
    cases o with
    | Not =>
      obtain ⟨h1, h2⟩ := ha a' X Wx sc g S tk (show chk G X.N sc a a' = true from h)
      refine ⟨e_not h1, (t_not h2).imp fun σ H Q ⟨ρ, m, W, he, hw, hh⟩ => ⟨ρ, m, W, he, hw, ?_⟩⟩
      dsimp only at hh ⊢
      rw [← tru_not]
      exact hh
    | _ => exact absurd h (by simp [chk])
  | _ => exact absurd h (by simp [chk])
theorem okAnd {es : Cs} (ih : OkCs Δ G es) : OkC Δ G (.and es) := fun e X Wx sc g S tk h => by
  cases e with
  | BoolOp o es' p =>
    cases o with
    | And =>
      simp only [chk, Bool.and_eq_true, Bool.not_eq_true', List.isEmpty_eq_false_iff] at h
      obtain ⟨_, _, h2⟩ := ih es' X Wx sc g S tk h.2
      obtain ⟨q1, _, q2, _⟩ := h2 h.1 p
      exact ⟨q1, q2.pt⟩
    | _ => exact absurd h (by simp [chk])
  | _ => exact absurd h (by simp [chk])
theorem okOr {es : Cs} (ih : OkCs Δ G es) : OkC Δ G (.or es) := fun e X Wx sc g S tk h => by
  cases e with
  | BoolOp o es' p =>
    cases o with
    | Or =>
      simp only [chk, Bool.and_eq_true, Bool.not_eq_true', List.isEmpty_eq_false_iff] at h
      obtain ⟨_, _, h2⟩ := ih es' X Wx sc g S tk h.2
      obtain ⟨_, q1, _, q2⟩ := h2 h.1 p
      exact ⟨q1, q2.pt⟩
    | _ => exact absurd h (by simp [chk])
  | _ => exact absurd h (by simp [chk])
theorem okCmp {o : CmpOp} {a b : C} (ha : OkC Δ G a) (hb : OkC Δ G b) : OkC Δ G (.cmp o a b) := fun e X Wx sc g S tk h => by
  unfold chk at h
  split at h
  · simp only [Bool.and_eq_true, beq_iff_eq, Bool.not_eq_true'] at h
    obtain ⟨⟨⟨rfl, h2⟩, h3⟩, h4⟩ := h
    exact ⟨e_cmp (cmp_ok g.units o) (ha _ X Wx sc g S tk h3).1 (hb _ X Wx sc g S tk h4).1 h2, t_cmp (bo_cmp o) (cmp_ok g.units o) (ha _ X Wx sc g S tk h3).1 (hb _ X Wx sc g S tk h4).1 h2⟩
  · cases h
theorem okCmp2 {o p : CmpOp} {a b c : C} (ha : OkC Δ G a) (hb : OkC Δ G b) (hc : OkC Δ G c) : OkC Δ G (.cmp2 o p a b c) := fun e X Wx sc g S tk h => by
  unfold chk at h
  split at h
  · simp only [Bool.and_eq_true, beq_iff_eq, Bool.not_eq_true'] at h
    obtain ⟨⟨⟨⟨⟨rfl, rfl⟩, h2⟩, h3⟩, h4⟩, h5⟩ := h
    exact ⟨e_chain (bo_cmp o) (cmp_ok g.units o) (cmp_ok g.units p) (ha _ X Wx sc g S tk h3).1 (hb _ X Wx sc g S tk h4).1 (hc _ X Wx sc g S tk h5).1 h2,
      t_chain (bo_cmp o) (bo_cmp p) (cmp_ok g.units o) (cmp_ok g.units p) (ha _ X Wx sc g S tk h3).1 (hb _ X Wx sc g S tk h4).1 (hc _ X Wx sc g S tk h5).1 h2⟩
  · cases h
theorem okIte {t a b : C} (ht : OkC Δ G t) (ha : OkC Δ G a) (hb : OkC Δ G b) : OkC Δ G (.ite t a b) := fun e X Wx sc g S tk h => by
  cases e with
  | IfExp t' a' b' p =>
    simp only [chk, Bool.and_eq_true] at h
    obtain ⟨⟨h1, h2⟩, h3⟩ := h
    obtain ⟨_, q1⟩ := ht _ X Wx sc g S tk h1
    obtain ⟨q2, q3⟩ := ha _ X Wx sc g S tk h2
    obtain ⟨q4, q5⟩ := hb _ X Wx sc g S tk h3
    refine ⟨e_ite q1 q2 q4, (t_ite q1 q3 q5).imp fun σ H Q ⟨ρ, m, W, he, hw, hh⟩ => ⟨ρ, m, W, he, hw, ?_⟩⟩
    dsimp only at hh ⊢
    rw [← tru_ite]
    exact hh
  | _ => exact absurd h (by simp [chk])
theorem okCall {f : Str} {es : Cs} (ih : OkCs Δ G es) : OkC Δ G (.call f es) := fun e X Wx sc g S tk h => by
  unfold chk at h
  split at h
  · rename_i x _ es' p
    simp only [Bool.and_eq_true, beq_iff_eq] at h
    obtain ⟨⟨⟨rfl, h2⟩, h3⟩, h4⟩ := h
    obtain ⟨g1, g2, g3⟩ := glbB_ok S h2
    obtain ⟨k, f', fd, ps, F, hr, hm, hk, hb⟩ := g.fns _ (mem_of_contains h3)
    obtain ⟨n1, n2, _⟩ := ih es' X Wx sc g S tk h4
    cases es' with
    | nil =>
      cases es with
      | nil =>
        exact both (e_call0 (pos := p) F hr g1 hm hk hb tk g2) fun _ => rfl
      | cons _ _ => simp [chks] at h4
    | cons e' es' =>
      simp only [List.all_cons, Bool.and_eq_true] at n1
      exact both (e_call (pos := p) F hr g1 hm hk hb tk n2 g2 (star_ok n1.1) (any_ok n1.2)) fun _ => rfl
  · cases h
theorem run_bi {f : Str} {es : Cs} {g : Wd → List D → Option D} (e : biOf f = some g) : run Δ (.bi f es) = fun ρ W => (runs Δ es ρ W).bnd fun ds W => ofO (g W ds) W := by
  funext ρ W
  rw [run]
  rw [e]
theorem okBi {f : Str} {es : Cs} (ih : OkCs Δ G es) : OkC Δ G (.bi f es) := fun e X Wx sc g S tk h => by
  unfold chk at h
  split at h
  · rename_i x _ es' p
    simp only [Bool.and_eq_true, beq_iff_eq, Bool.not_eq_true', List.isEmpty_eq_false_iff] at h
    obtain ⟨⟨⟨⟨⟨rfl, h2⟩, h3⟩, h4⟩, h5⟩, h6⟩ := h
    obtain ⟨g1, g2, g3⟩ := glbB_ok S h2
    have hm := g.free _ (mem_of_contains h3)
    obtain ⟨n1, n2, _⟩ := ih es' X Wx sc g S tk h6
    obtain ⟨q, eq, hq⟩ := bi_ok (X := X) g.calm g.units h5
    rw [run_bi eq]
    cases es' with
    | nil => exact absurd rfl h4
    | cons e' es' =>
      simp only [List.all_cons, Bool.and_eq_true] at n1
      rcases hq with ⟨id, hb, hc⟩ | ⟨T, hb, hc⟩
      · exact both (e_callB (pos := p) hc g1 hm hb n2 g3 g2 (star_ok n1.1) (any_ok n1.2)) fun _ => rfl
      · exact both (e_callTy (pos := p) hc g1 hm hb n2 g3 g2 (star_ok n1.1) (any_ok n1.2)) fun _ => rfl
  · cases h
theorem okIsi {a : C} {T : String} (ha : OkC Δ G a) : OkC Δ G (.isi a T) := fun e X Wx sc g S tk h => by
  unfold chk at h
  split at h
  · simp only [Bool.and_eq_true, beq_iff_eq] at h
    obtain ⟨⟨⟨⟨⟨⟨⟨⟨h1, h2⟩, h3⟩, h4⟩, h5⟩, h6⟩, h7⟩, h8⟩, h9⟩ := h
    subst h1; subst h4
    obtain ⟨g1, g2, g3⟩ := glbB_ok S h2
    obtain ⟨f1, f2, f3⟩ := glbB_ok S h5
    have hT := mem_of_containsS h7
    exact both (e_isi (Wx := Wx) g1 (g.free _ (mem_of_contains h3)) f1 (g.free _ (mem_of_contains h6)) (isi_boot hT) hT (ha _ X Wx sc g S tk h9).1 f3 f2 (star_ok h8)) fun _ => rfl
  · cases h
theorem okGet {o k d : C} (ho : OkC Δ G o) (hk : OkC Δ G k) (hd : OkC Δ G d) : OkC Δ G (.get o k d) := fun e X Wx sc g S tk h => by
  unfold chk at h
  split at h
  · simp only [Bool.and_eq_true, beq_iff_eq] at h
    obtain ⟨⟨⟨⟨⟨⟨⟨h1, h2⟩, h3⟩, h4⟩, h5⟩, h6⟩, h7⟩, h8⟩ := h
    subst h1
    have hu := g.units
    exact both (e_get (by omega) (ho _ X Wx sc g S tk h6).1 (hk _ X Wx sc g S tk h7).1 (hd _ X Wx sc g S tk h8).1 (M2.mk (base_ok h2 _) (by rw [star2 h4 h5]; rfl) (beq_iff_eq.mpr h3) (by rw [star2 h4 h5]; rfl))) fun _ => rfl
  · cases h
theorem okIx {a i : C} (ha : OkC Δ G a) (hi : OkC Δ G i) : OkC Δ G (.ix a i) := fun e X Wx sc g S tk h => by
  cases e with
  | Subscript a' i' p =>
    simp only [chk, Bool.and_eq_true] at h
    have hu := g.units
    exact both (e_ix (pos := p) (by omega) (ha _ X Wx sc g S tk h.1.2).1 (hi _ X Wx sc g S tk h.2).1 (slice_ok h.1.1) (slice_ok h.1.1)) fun _ => rfl
  | _ => exact absurd h (by simp [chk])
theorem okSl {a : C} {lo hi : Co} (ha : OkC Δ G a) (hl : OkO Δ G lo) (hh : OkO Δ G hi) : OkC Δ G (.sl a lo hi) := fun e X Wx sc g S tk h => by
  unfold chk at h
  split at h
  · simp only [Bool.and_eq_true] at h
    exact both (e_sl (ha _ X Wx sc g S tk h.1.1).1 (hl _ X Wx sc g S tk h.1.2) (hh _ X Wx sc g S tk h.2)) fun _ => rfl
  · cases h
theorem okLzip {a b : C} (ha : OkC Δ G a) (hb : OkC Δ G b) : OkC Δ G (.lzip a b) := fun e X Wx sc g S tk h => by
  unfold chk at h
  split at h
  · simp only [Bool.and_eq_true, beq_iff_eq] at h
    obtain ⟨⟨⟨⟨⟨⟨⟨⟨⟨h1, h2⟩, h3⟩, h4⟩, h5⟩, h6⟩, h7⟩, h8⟩, h9⟩, h10⟩ := h
    subst h1; subst h4
    obtain ⟨g1, g2, g3⟩ := glbB_ok S h2
    obtain ⟨f1, f2, f3⟩ := glbB_ok S h5
    exact both (e_lzip g.calm f1 (g.free _ (mem_of_contains h6)) g1 (g.free _ (mem_of_contains h3)) (ha _ X Wx sc g S tk h9).1 (hb _ X Wx sc g S tk h10).1 (star_ok h7) (star_ok h8) (any_ok (by simp [h8]))) fun _ => rfl
  · cases h
theorem okLrg1 {a : C} (ha : OkC Δ G a) : OkC Δ G (.lrg1 a) := fun e X Wx sc g S tk h => by
  unfold chk at h
  split at h
  · simp only [Bool.and_eq_true, beq_iff_eq] at h
    obtain ⟨⟨⟨⟨⟨⟨⟨h1, h2⟩, h3⟩, h4⟩, h5⟩, h6⟩, h7⟩, h9⟩ := h
    subst h1; subst h4
    obtain ⟨g1, g2, g3⟩ := glbB_ok S h2
    obtain ⟨f1, f2, f3⟩ := glbB_ok S h5
    exact both (e_lrg1 g.calm f1 (g.free _ (mem_of_contains h6)) g1 (g.free _ (mem_of_contains h3)) (ha _ X Wx sc g S tk h9).1 (star1 h7)) fun _ => rfl
  · cases h
theorem okLrg2 {a b : C} (ha : OkC Δ G a) (hb : OkC Δ G b) : OkC Δ G (.lrg2 a b) := fun e X Wx sc g S tk h => by
  unfold chk at h
  split at h
  · simp only [Bool.and_eq_true, beq_iff_eq] at h
    obtain ⟨⟨⟨⟨⟨⟨⟨⟨⟨h1, h2⟩, h3⟩, h4⟩, h5⟩, h6⟩, h7⟩, h8⟩, h9⟩, h10⟩ := h
    subst h1; subst h4
    obtain ⟨g1, g2, g3⟩ := glbB_ok S h2
    obtain ⟨f1, f2, f3⟩ := glbB_ok S h5
    exact both (e_lrg2 g.calm f1 (g.free _ (mem_of_contains h6)) g1 (g.free _ (mem_of_contains h3)) (ha _ X Wx sc g S tk h9).1 (hb _ X Wx sc g S tk h10).1 (star2 h7 h8) (star1 h8)) fun _ => rfl
  · cases h
theorem okMt1 {k : Mt} {a el : C} (ha : OkC Δ G a) (he : OkC Δ G el) : OkC Δ G (.mt1 k a el) := fun e X Wx sc g S tk h => by
  unfold chk at h
  split at h
  · simp only [Bool.and_eq_true, beq_iff_eq] at h
    obtain ⟨⟨⟨⟨⟨h1, h2⟩, h3⟩, h4⟩, h5⟩, h6⟩ := h
    subst h1
    exact both (e_mt1 g.units k (ha _ X Wx sc g S tk h5).1 (he _ X Wx sc g S tk h6).1 (base_ok h2 _) (beq_iff_eq.mpr h3) (star1 h4)) fun _ => rfl
  · cases h
theorem okRev {a : C} (ha : OkC Δ G a) : OkC Δ G (.rev a) := fun e X Wx sc g S tk h => by
  unfold chk at h
  split at h
  · simp only [Bool.and_eq_true, beq_iff_eq] at h
    obtain ⟨h1, h2⟩ := h
    subst h1
    exact both (e_rev (ha _ X Wx sc g S tk h2).1) fun _ => rfl
  · cases h
theorem okLc2 {own : List (Str × Nat)} {t t1 : T} {w w1 : I} {vs1 : List Nat} {ifs ifs1 : Cs} {el : C} (hw : OkI Δ G w) (hi : OkT Δ G ifs) (hw1 : OkI Δ G w1) (hi1 : OkT Δ G ifs1) (he : OkC Δ G el) : OkC Δ G (.lc2 own t w ifs vs1 t1 w1 ifs1 el) := fun e X Wx sc g S tk h => by
  unfold chk at h
  split at h
  · simp only [Bool.and_eq_true, beq_iff_eq] at h
    obtain ⟨⟨⟨⟨⟨⟨⟨⟨⟨⟨⟨⟨⟨⟨h1, h1'⟩, h2⟩, h2'⟩, h3⟩, hv⟩, h4⟩, h5⟩, h4'⟩, h5'⟩, h6⟩, h7⟩, h6'⟩, h7'⟩, h8⟩ := h
    subst h1; subst h1'
    refine both ((pe_lc2 (vs1 := vs1) g.calm g.nd (hw _ _ X Wx sc g S tk h6) (blkB_ok S h3) (fun j hj => ?_) (fun s H C cl fp => g_ok (X := X.blk s H _ (compEnvC _ cl C X.env) fp) g.calm g.nd ScOk.blk t _ h4)
      (fun s H C cl fp => hi _ _ W0 _ g.blk ScOk.blk takes0 h7) (fun s H C cl fp => hw1 _ _ _ W0 _ g.blk ScOk.blk takes0 h6') (fun s H C cl fp => g_ok (X := X.blk s H _ (compEnvC _ cl C X.env) fp) g.calm g.nd ScOk.blk t1 _ h4')
      (fun s H C cl fp => hi1 _ _ W0 _ g.blk ScOk.blk takes0 h7') (fun s H C cl fp => (he _ _ W0 _ g.blk ScOk.blk takes0 h8).1) (set_ok h2 _) (fun env => set_ok h2' env)).imp (e_lc2 (X := X) (t := t) (own := own) rfl rfl rfl rfl rfl rfl rfl (fun j hj => ?_) (fun j hj => ?_))) fun _ => rfl
    · have q := List.all_eq_true.mp hv j hj
      obtain ⟨p, hp, e⟩ := List.any_eq_true.mp q
      exact List.mem_map.mpr ⟨p, hp, beq_iff_eq.mp e⟩
    · have q := List.all_eq_true.mp h5 j hj
      obtain ⟨p, hp, e⟩ := List.any_eq_true.mp q
      exact List.mem_map.mpr ⟨p, hp, beq_iff_eq.mp e⟩
    · have q := List.all_eq_true.mp h5' j hj
      simpa using q
  · cases h
theorem okLc {own : List (Str × Nat)} {t : T} {w : I} {ifs : Cs} {el : C} (hw : OkI Δ G w) (hi : OkT Δ G ifs) (he : OkC Δ G el) : OkC Δ G (.lc own t w ifs el) := fun e X Wx sc g S tk h => by
  unfold chk at h
  split at h
  · simp only [Bool.and_eq_true, beq_iff_eq] at h
    obtain ⟨⟨⟨⟨⟨⟨⟨h1, h2⟩, h3⟩, h4⟩, h5⟩, h6⟩, h7⟩, h8⟩ := h
    subst h1
    refine both ((pe_lc g.calm g.nd (hw _ _ X Wx sc g S tk h6) (blkB_ok S h3) (fun s H C cl fp => g_ok (X := X.blk s H _ (compEnvC _ cl C X.env) fp) g.calm g.nd ScOk.blk t _ h4)
      (fun s H C cl fp => hi _ _ W0 _ g.blk ScOk.blk takes0 h7) (fun s H C cl fp => (he _ _ W0 _ g.blk ScOk.blk takes0 h8).1) (set_ok h2 _)).imp (e_lc (X := X) (t := t) (own := own) rfl rfl rfl rfl (fun j hj => ?_))) fun _ => rfl
    have q := List.all_eq_true.mp h5 j hj
    obtain ⟨p, hp, e⟩ := List.any_eq_true.mp q
    exact List.mem_map.mpr ⟨p, hp, beq_iff_eq.mp e⟩
  · cases h
theorem okNil : OkCs Δ G .nil := fun es X Wx sc g S tk h => by
  cases es with
  | nil => exact ⟨rfl, a_nil, fun h => absurd rfl h⟩
  | cons _ _ => simp [chks] at h
theorem okCons {c : C} {cs : Cs} (hc : OkC Δ G c) (hcs : OkCs Δ G cs) : OkCs Δ G (.cons c cs) := fun es X Wx sc g S tk h => by
  cases es with
  | nil => simp [chks] at h
  | cons e es =>
    simp only [chks, Bool.and_eq_true] at h
    obtain ⟨⟨h1, h2⟩, h3⟩ := h
    obtain ⟨q1, q2⟩ := hc e X Wx sc g S tk h2
    obtain ⟨q3, q4, q5⟩ := hcs es X Wx sc g S tk h3
    refine ⟨by simp [h1, q3], a_cons q1 q4 (star_ok h1), fun _ pos => ?_⟩
    cases es with
    | nil =>
      cases cs with
      | nil => exact ⟨pe_one q1, pe_one q1, pw_and1 q2, pw_or1 q2⟩
      | cons _ _ => simp [chks] at h3
    | cons e2 es2 =>
      cases cs with
      | nil => simp [chks] at h3
      | cons c2 cs2 =>
        obtain ⟨p1, p2, p3, p4⟩ := q5 (by simp) pos
        refine ⟨e_and q1 p1, e_or q1 p2, (w_and q2 p3).imp fun σ H Q ⟨ρ, m, W, he, hw, hh⟩ => ⟨ρ, m, W, he, hw, ?_⟩, (w_or q2 p4).imp fun σ H Q ⟨ρ, m, W, he, hw, hh⟩ => ⟨ρ, m, W, he, hw, ?_⟩⟩
        · dsimp only at hh ⊢
          rw [← tru_and]
          exact hh
        · dsimp only at hh ⊢
          rw [← tru_or]
          exact hh
theorem okT0 : OkT Δ G .nil := fun es X Wx sc g S tk h => by
  cases es with
  | nil => exact ⟨fun pins s σ H Q I hh => pts_nil.run pins s σ H Q I (by
      obtain ⟨ρ, m, W, he, hw, hh⟩ := hh
      exact (show aft _ _ _ _ (R.ok true W) _ from hh).okI hw)⟩
  | cons _ _ => simp [chkt] at h
theorem okT1 {c : C} {cs : Cs} (hc : OkC Δ G c) : OkT Δ G (.cons c cs) := fun es X Wx sc g S tk h => by
  cases cs with
  | nil =>
    cases es with
    | nil => simp [chkt] at h
    | cons e es =>
      cases es with
      | nil => exact pts_one (hc e X Wx sc g S tk (show chk G X.N sc c e = true from h)).2
      | cons _ _ => simp [chkt] at h
  | cons _ _ => simp [chkt] at h
theorem okNo : OkO Δ G .no := fun e X Wx sc g S tk h => by
  cases e with
  | none => exact o_no
  | some _ => simp [chko] at h
theorem okYes {c : C} (hc : OkC Δ G c) : OkO Δ G (.yes c) := fun e X Wx sc g S tk h => by
  cases e with
  | none => simp [chko] at h
  | some e => exact o_yes (hc e X Wx sc g S tk (show chk G X.N sc c e = true from h)).1
theorem okSeq {c : C} (hc : OkC Δ G c) : OkI Δ G (.seq c) := fun tg e X Wx sc g S tk h => i_seq (hc e X Wx sc g S tk (show chk G X.N sc c e = true from h)).1
theorem okRng1 {c : C} (hc : OkC Δ G c) : OkI Δ G (.rng1 c) := fun tg e X Wx sc g S tk h => by
  unfold chkI at h
  split at h
  · simp only [Bool.and_eq_true, beq_iff_eq] at h
    obtain ⟨⟨⟨⟨h1, h2⟩, h3⟩, h4⟩, h5⟩ := h
    subst h1
    exact i_rng1 (glbB_ok S h2).1 (g.free _ (mem_of_contains h3)) (hc _ X Wx sc g S tk h5).1 (star1 h4)
  · cases h
theorem okRng2 {c d : C} (hc : OkC Δ G c) (hd : OkC Δ G d) : OkI Δ G (.rng2 c d) := fun tg e X Wx sc g S tk h => by
  unfold chkI at h
  split at h
  · simp only [Bool.and_eq_true, beq_iff_eq] at h
    obtain ⟨⟨⟨⟨⟨⟨h1, h2⟩, h3⟩, h4⟩, h5⟩, h6⟩, h7⟩ := h
    subst h1
    exact i_rng2 (glbB_ok S h2).1 (g.free _ (mem_of_contains h3)) (hc _ X Wx sc g S tk h6).1 (hd _ X Wx sc g S tk h7).1 (star2 h4 h5) (star1 h5)
  · cases h
theorem okEnum {c : C} (hc : OkC Δ G c) : OkI Δ G (.enum c) := fun tg e X Wx sc g S tk h => by
  unfold chkI at h
  split at h
  · simp only [Bool.and_eq_true, beq_iff_eq] at h
    obtain ⟨⟨⟨⟨h1, h2⟩, h3⟩, h4⟩, h5⟩ := h
    subst h1
    exact i_enum (glbB_ok S h2).1 (g.free _ (mem_of_contains h3)) (hc _ X Wx sc g S tk h5).1 (star1 h4)
  · cases h
theorem okZip {c d : C} (hc : OkC Δ G c) (hd : OkC Δ G d) : OkI Δ G (.zip c d) := fun tg e X Wx sc g S tk h => by
  unfold chkI at h
  split at h
  · simp only [Bool.and_eq_true, beq_iff_eq] at h
    obtain ⟨⟨⟨⟨⟨⟨h1, h2⟩, h3⟩, h4⟩, h5⟩, h6⟩, h7⟩ := h
    subst h1
    exact i_zip (glbB_ok S h2).1 (g.free _ (mem_of_contains h3)) (hc _ X Wx sc g S tk h6).1 (hd _ X Wx sc g S tk h7).1 (star_ok h4) (star_ok h5) (any_ok (by simp [h5]))
  · cases h
mutual
theorem ok_C : ∀ c : C, OkC Δ G c
  | .var i => okVar i
  | .cst d => okCst d
  | .glo x d => okGlo x d
  | .tup es => okTup (ok_Cs es).1
  | .lst es => okLst (ok_Cs es).1
  | .new es => okNew (ok_Cs es).1
  | .bin o a b => okBin (ok_C a) (ok_C b)
  | .neg a => okNeg (ok_C a)
  | .not a => okNot (ok_C a)
  | .and es => okAnd (ok_Cs es).1
  | .or es => okOr (ok_Cs es).1
  | .cmp o a b => okCmp (ok_C a) (ok_C b)
  | .cmp2 o p a b c => okCmp2 (ok_C a) (ok_C b) (ok_C c)
  | .ite t a b => okIte (ok_C t) (ok_C a) (ok_C b)
  | .call f es => okCall (ok_Cs es).1
  | .bi f es => okBi (ok_Cs es).1
  | .isi a T => okIsi (ok_C a)
  | .get o k d => okGet (ok_C o) (ok_C k) (ok_C d)
  | .ix a i => okIx (ok_C a) (ok_C i)
  | .sl a lo hi => okSl (ok_C a) (ok_Co lo) (ok_Co hi)
  | .lc own t w ifs el => okLc (ok_I w) (ok_Cs ifs).2 (ok_C el)
  | .lc2 own t w ifs vs1 t1 w1 ifs1 el => okLc2 (ok_I w) (ok_Cs ifs).2 (ok_I w1) (ok_Cs ifs1).2 (ok_C el)
  | .mt1 k a e => okMt1 (ok_C a) (ok_C e)
  | .rev a => okRev (ok_C a)
  | .lzip a b => okLzip (ok_C a) (ok_C b)
  | .lrg1 a => okLrg1 (ok_C a)
  | .lrg2 a b => okLrg2 (ok_C a) (ok_C b)
theorem ok_Cs : ∀ cs : Cs, OkCs Δ G cs ∧ OkT Δ G cs
  | .nil => ⟨okNil, okT0⟩
  | .cons c cs => ⟨okCons (ok_C c) (ok_Cs cs).1, okT1 (ok_C c)⟩
theorem ok_Co : ∀ c : Co, OkO Δ G c
  | .no => okNo
  | .yes c => okYes (ok_C c)
theorem ok_I : ∀ c : I, OkI Δ G c
  | .seq c => okSeq (ok_C c)
  | .rng1 c => okRng1 (ok_C c)
  | .rng2 c d => okRng2 (ok_C c) (ok_C d)
  | .enum c => okEnum (ok_C c)
  | .zip c d => okZip (ok_C c) (ok_C d)
end
end
end PL

/-! PL14: statements, by data. -/
namespace PL
open PySem PySem.Spec PyProof.Rows L2

def aftS (M : Md) (Wx : WX) (m : Ms) (H : Hp) (r : SR) (D : Ends) : Prop := match r with
  | .nx ρ' W' => ∀ σ' m' H', Step m H m' H' → WOk M m' W' H' → EnvOk M m' H' σ' ρ' → D.nx σ' H'
  | .rt d W' => ∀ v m' H', Step m H m' H' → WOk M m' W' H' → Is M m' H' v d → D.rt v H'
  | .err e W' => ∀ cls dx σ' m' H', Step m H m' H' → WOk M m' W' H' → ExIs M m' H' cls dx e → Wx cls dx σ' H'
  | .bad => False
def tS (M : Md) (Wx : WX) (f : EnvD → Wd → SR) : TS := fun D σ H => ∃ ρ m W, EnvOk M m H σ ρ ∧ WOk M m W H ∧ aftS M Wx m H (f ρ W) D
section
variable {M : Md} {Wx : WX} {m m1 : Ms} {H H1 : Hp} {D D' : Ends}
theorem aftS.step {r : SR} (h : aftS M Wx m H r D) (s : Step m H m1 H1) : aftS M Wx m1 H1 r D := by
  cases r with
  | nx ρ W => exact fun σ' m' H' s' => h σ' m' H' (s.trans s')
  | rt d W => exact fun v m' H' s' => h v m' H' (s.trans s')
  | err e W => exact fun c d σ' m' H' s' => h c d σ' m' H' (s.trans s')
  | bad => exact h
theorem aftS.ofR {α : Type} {r : R α} {f : α → Wd → SR} (h : aftS M Wx m H (r.thnS f) D) : aft M Wx m H r fun a m' W' H' => aftS M Wx m' H' (f a W') D := by
  cases r with
  | ok a W => exact fun m' H' s hw => aftS.step (show aftS M Wx m H (f a W) D from h) s
  | err e W => exact h
  | bad => exact h
theorem aftS.thn {r : SR} {f : EnvD → Wd → SR} (h : aftS M Wx m H (r.thn f) D) (hr : ∀ v H', D.rt v H' → D'.rt v H') (hn : ∀ σ' H', (∃ ρ' m' W', EnvOk M m' H' σ' ρ' ∧ WOk M m' W' H' ∧ Step m H m' H' ∧ aftS M Wx m' H' (f ρ' W') D) → D'.nx σ' H') : aftS M Wx m H r D' := by
  cases r with
  | nx ρ W => exact fun σ' m' H' s' hw he => hn σ' H' ⟨ρ, m', W, he, hw, s', aftS.step (show aftS M Wx m H (f ρ W) D from h) s'⟩
  | rt d W => exact fun v m' H' s' hw hv => hr v H' (h v m' H' s' hw hv)
  | err e W => exact h
  | bad => exact h
theorem aftS.nx {ρ : EnvD} {W : Wd} {σ : L2.St} (h : aftS M Wx m H (.nx ρ W) D) (hw : WOk M m W H) (he : EnvOk M m H σ ρ) : D.nx σ H := h σ m H Step.refl hw he
end
theorem _root_.L2.PS.imp {X : Cx} {st : Stmt} {t t' : TS} (h : PS X st t) (f : ∀ D σ H, t' D σ H → t D σ H) : PS X st t' := ⟨fun pins s σ H D I q => h.run pins s σ H D I (f D σ H q)⟩
theorem _root_.L2.PSs.imp {X : Cx} {st : List Stmt} {t t' : TS} (h : PSs X st t) (f : ∀ D σ H, t' D σ H → t D σ H) : PSs X st t' := ⟨fun pins s σ H D I q => h.run pins s σ H D I (f D σ H q)⟩
section
variable {X : Cx} {Wx : WX} {e a b c : Expr} {pos : Pos} {fa fb fc : EnvD → Wd → R D}
theorem s_nil : PSs X [] (tS (mdOf X) Wx fun ρ W => .nx ρ W) := pss_nil.imp fun D σ H ⟨ρ, m, W, he, hw, h⟩ => h.nx hw he
theorem s_cons {st : Stmt} {rest : List Stmt} {f g : EnvD → Wd → SR} (h1 : PS X st (tS (mdOf X) Wx f)) (h2 : PSs X rest (tS (mdOf X) Wx g)) : PSs X (st :: rest) (tS (mdOf X) Wx fun ρ W => (f ρ W).thn g) :=
  (pss_cons h1 h2).imp fun D σ H ⟨ρ, m, W, he, hw, h⟩ => ⟨ρ, m, W, he, hw, h.thn (fun _ _ q => q) fun σ' H' ⟨ρ', m', W', a1, a2, _, a4⟩ => ⟨ρ', m', W', a1, a2, a4⟩⟩
theorem s_pass : PS X (.Pass pos) (tS (mdOf X) Wx fun ρ W => .nx ρ W) := ps_pass.imp fun D σ H ⟨ρ, m, W, he, hw, h⟩ => h.nx hw he
theorem s_ex (ha : PE X a (tE (mdOf X) Wx fa)) (hs : swapsWith a none pos.line X.env = pure false) : PS X (.Expr a pos) (tS (mdOf X) Wx fun ρ W => (fa ρ W).thnS fun _ W => .nx ρ W) :=
  (ps_expr ha hs).imp fun D σ H ⟨ρ, m, W, he, hw, h⟩ => ⟨ρ, m, W, he, hw, h.ofR.imp fun x m1 W1 H1 s1 hw1 h1 v hv => h1.nx hw1 (he.mono s1)⟩
theorem s_ret (ha : PE X a (tE (mdOf X) Wx fa)) : PS X (.Return (some a) pos) (tS (mdOf X) Wx fun ρ W => (fa ρ W).thnS fun d W => .rt d W) :=
  (ps_ret ha).imp fun D σ H ⟨ρ, m, W, he, hw, h⟩ => ⟨ρ, m, W, he, hw, h.ofR.imp fun x m1 W1 H1 s1 hw1 h1 v hv => h1 v m1 H1 Step.refl hw1 hv⟩
theorem s_ret0 : PS X (.Return none pos) (tS (mdOf X) Wx fun _ W => .rt .non W) := ps_retN.imp fun D σ H ⟨ρ, m, W, he, hw, h⟩ => h .non m H Step.refl hw .non
theorem s_if {ft : EnvD → Wd → R Bool} {as bs : List Stmt} {f g : EnvD → Wd → SR} (hc : PT X c (tB (mdOf X) Wx ft)) (ha : PSs X as (tS (mdOf X) Wx f)) (hb : PSs X bs (tS (mdOf X) Wx g)) :
    PS X (.If c as bs pos) (tS (mdOf X) Wx fun ρ W => (ft ρ W).thnS fun k W => if k = true then f ρ W else g ρ W) :=
  (ps_if hc ha hb).imp fun D σ H ⟨ρ, m, W, he, hw, h⟩ => ⟨ρ, m, W, he, hw, h.ofR.imp fun k m1 W1 H1 s1 hw1 h1 => by
    cases k with
    | true => exact ⟨ρ, m1, W1, he.mono s1, hw1, h1⟩
    | false => exact ⟨ρ, m1, W1, he.mono s1, hw1, h1⟩⟩
theorem s_while {ft : EnvD → Wd → R Bool} {bs : List Stmt} {f : EnvD → Wd → SR} {n : Nat} (hp : PassesOwn (model X.prog X.w) X.A X.env X.xe) (hc : PT X c (tB (mdOf X) Wx ft)) (hb : PSs X bs (tS (mdOf X) Wx f)) :
    PS X (.While c bs [] pos) (tS (mdOf X) Wx fun ρ W => whlLoop ft f n ρ W) := by
  refine (ps_while hp hc hb).imp fun D σ H ⟨ρ, m, W, he, hw, h⟩ => ?_
  refine ⟨fun n σ H => ∃ ρ m W, EnvOk (mdOf X) m H σ ρ ∧ WOk (mdOf X) m W H ∧ aftS (mdOf X) Wx m H (whlLoop ft f n ρ W) D, ⟨n, ρ, m, W, he, hw, h⟩, ?_⟩
  rintro k σ H ⟨ρ, m, W, he, hw, h⟩
  cases k with
  | zero => exact h.elim
  | succ k =>
    unfold whlLoop at h
    refine ⟨ρ, m, W, he, hw, h.ofR.imp fun b m1 W1 H1 s1 hw1 h1 => ?_⟩
    cases b with
    | false => exact h1.nx hw1 (he.mono s1)
    | true =>
      simp only [if_pos] at h1 ⊢
      refine ⟨fun σ H => ∃ ρ m W, EnvOk (mdOf X) m H σ ρ ∧ WOk (mdOf X) m W H ∧ aftS (mdOf X) Wx m H (whlLoop ft f k ρ W) D, fun σ' H' q => ⟨k, Nat.lt_succ_self k, q⟩, ρ, m1, W1, he.mono s1, hw1, ?_⟩
      exact h1.thn (fun _ _ q => q) fun σ' H' ⟨ρ', m', W', a1, a2, _, a4⟩ => ⟨ρ', m', W', a1, a2, a4⟩
theorem s_for {t : T} {fi : EnvD → Wd → R (List D)} {tg iter : Expr} {bs : List Stmt} {f : EnvD → Wd → SR} (hp : PassesOwn (model X.prog X.w) X.A X.env X.xe) (hc : X.calm = true) (hi : PI X tg iter (tI (mdOf X) Wx fi)) (hg : PG X tg (tG (mdOf X) t))
    (hb : PSs X bs (tS (mdOf X) Wx f)) (hs : ∀ x, foldedSetIterable iter X.env x = pure x) :
    PS X (.For tg iter bs [] pos) (tS (mdOf X) Wx fun ρ W => (fi ρ W).thnS fun ds W => forLoop (fun d ρ W => t.put W d ρ) f ds ρ W) := by
  refine (ps_for hp hc hi hg hb hs).imp fun D σ H ⟨ρ, m, W, he, hw, h⟩ => ⟨ρ, m, W, he, hw, h.ofR.imp fun ds m1 W1 H1 s1 hw1 h1 J hJ => ?_⟩
  obtain ⟨G, Y, wk, hG, hY⟩ := hJ
  refine for_it wk (fun i σ H => ∃ ρ' m' W', EnvOk (mdOf X) m' H σ ρ' ∧ WOk (mdOf X) m' W' H ∧ Step m1 H1 m' H ∧ aftS (mdOf X) Wx m' H (forLoop (fun d ρ W => t.put W d ρ) f (ds.drop i) ρ' W') D) ⟨ρ, m1, W1, he.mono s1, hw1, Step.refl, h1⟩ ?_ ?_ ?_
  · rintro i σ H hi ⟨ρ', m', W', a1, a2, a3, a4⟩
    exact hG m' H a3.kp
  · rintro i x σ H2 H3 hi ⟨ρ', m', W', a1, a2, a3, a4⟩ y
    obtain ⟨d, e1, sm, is⟩ := hY i m' W' H2 x H3 a3.kp a2 y
    have hdrop : ds.drop i = d :: ds.drop (i + 1) := by
      rw [List.drop_eq_getElem_cons hi]
      rw [List.getElem?_eq_getElem hi] at e1
      cases e1; rfl
    rw [hdrop] at a4
    unfold forLoop at a4
    split at a4
    · exact a4.elim
    · rename_i ρ1 e2
      refine ⟨ρ', m', W', d, ρ1, a1.mono (.same sm), is, e2, fun σ2 g1 g2 g3 => ⟨ρ1, m', W', g1, a2.mono sm, ?_⟩⟩
      exact (a4.step (.same sm)).thn (fun _ _ q => q) fun σ' H' ⟨ρ3, m3, W3, b1, b2, b3, b4⟩ => ⟨ρ3, m3, W3, b1, b2, (a3.trans (.same sm)).trans b3, b4⟩
  · rintro σ H ⟨ρ', m', W', a1, a2, a3, a4⟩
    have e0 : ds.drop ds.length = [] := by simp
    rw [e0] at a4
    unfold forLoop at a4
    exact a4.nx a2 a1
theorem s_asg {t : T} {tg : Expr} (ha : PE X a (tE (mdOf X) Wx fa)) (hg : PG X tg (tG (mdOf X) t)) (hs : swapsWithSole [tg] a pos.line X.env = pure false) (hw : swappedStores [tg] a X.env = pure none) (h1 : (assignEach [tg] X.env).map (·.2) = [assign tg X.env]) :
    PS X (.Assign [tg] a pos) (tS (mdOf X) Wx fun ρ W => (fa ρ W).thnS fun d W => match t.put W d ρ with | some ρ' => .nx ρ' W | none => .bad) :=
  (ps_asg ha hg hs hw h1).imp fun D σ H ⟨ρ, m, W, he, hw, h⟩ => ⟨ρ, m, W, he, hw, h.ofR.imp fun x m1 W1 H1 s1 hw1 h1 v hv => by
    split at h1
    · rename_i ρ' e
      exact ⟨ρ, m1, W1, x, ρ', he.mono s1, hv, e, fun σ' g1 g2 g3 => h1.nx hw1 g1⟩
    · exact h1.elim⟩
theorem s_name_imp {i : Nat} {te : TE} (hte : te = tE (mdOf X) Wx fa) : ∀ D σ H, tS (mdOf X) Wx (fun ρ W => (fa ρ W).thnS fun d W => match T.put W (.nm i) d ρ with | some ρ' => .nx ρ' W | none => .bad) D σ H → tAsg te (gName i) D σ H := by
  subst hte
  intro D σ H ⟨ρ, m, W, he, hw, h⟩
  refine ⟨ρ, m, W, he, hw, h.ofR.imp fun x m1 W1 H1 s1 hw1 h1 v hv => ?_⟩
  split at h1
  · rename_i ρ' e
    simp only [T.put] at e
    split at e
    · cases e
      exact h1.nx hw1 ((he.mono s1).set hv)
    · cases e
  · exact h1.elim
/-- several names at once, from the right -/
theorem s_par_imp {i j : Nat} {fs : EnvD → Wd → R (List D)} : ∀ D σ H, tS (mdOf X) Wx (fun ρ W => ((fs ρ W).bnd fun ds W => if ds.length ≤ 16777216 then .ok (.tup ds) W else .bad).thnS fun d W => match T.put W (.tp [.nm i, .nm j]) d ρ with | some ρ' => .nx ρ' W | none => .bad) D σ H → tPar i j (tAs (mdOf X) Wx fs) D σ H := by
  intro D σ H ⟨ρ, m, W, he, hw, h⟩
  refine ⟨ρ, m, W, he, hw, h.ofR.bnd.imp fun ds m1 W1 H1 s1 hw1 h1 vs hv => ?_⟩
  obtain ⟨_, h1⟩ := h1.ite
  have h2 := h1.okI hw1
  split at h2
  · rename_i ρ' e
    simp only [T.put] at e
    split at e
    · rename_i hl
      cases hv with
      | nil => simp at hl
      | cons r1 rr => cases rr with
        | nil => simp at hl
        | cons r2 rr =>
          cases rr with
          | cons _ _ => simp at hl
          | nil =>
            refine ⟨_, _, rfl, ?_⟩
            simp only [T.puts, T.put] at e
            split at e
            · rename_i ρ1 e1
              split at e1
              · cases e1
                split at e
                · rename_i ρ2 e2
                  split at e2
                  · cases e2; cases e
                    exact h2.nx hw1 (((he.mono s1).set r1).set r2)
                  · cases e2
                · cases e
              · cases e1
            · cases e
    · cases e
  · exact h2.elim
theorem s_par3_imp {i j l : Nat} {fs : EnvD → Wd → R (List D)} : ∀ D σ H, tS (mdOf X) Wx (fun ρ W => ((fs ρ W).bnd fun ds W => if ds.length ≤ 16777216 then .ok (.tup ds) W else .bad).thnS fun d W => match T.put W (.tp [.nm i, .nm j, .nm l]) d ρ with | some ρ' => .nx ρ' W | none => .bad) D σ H → tPar3 i j l (tAs (mdOf X) Wx fs) D σ H := by
  intro D σ H ⟨ρ, m, W, he, hw, h⟩
  refine ⟨ρ, m, W, he, hw, h.ofR.bnd.imp fun ds m1 W1 H1 s1 hw1 h1 vs hv => ?_⟩
  obtain ⟨_, h1⟩ := h1.ite
  have h2 := h1.okI hw1
  split at h2
  · rename_i ρ' e
    simp only [T.put] at e
    split at e
    · rename_i hl
      cases hv with
      | nil => simp at hl
      | cons r1 rr => cases rr with
        | nil => simp at hl
        | cons r2 rr =>
          cases rr with
          | nil => simp at hl
          | cons r3 rr => cases rr with
            | cons _ _ => simp at hl
            | nil =>
              refine ⟨_, _, _, rfl, ?_⟩
              simp only [T.puts, T.put] at e
              split at e
              · rename_i ρ1 e1
                split at e1
                · cases e1
                  split at e
                  · rename_i ρ2 e2
                    split at e2
                    · cases e2
                      split at e
                      · rename_i ρ3 e3
                        split at e3
                        · cases e3; cases e
                          exact h2.nx hw1 ((((he.mono s1).set r1).set r2).set r3)
                        · cases e3
                      · cases e
                    · cases e2
                  · cases e
                · cases e1
              · cases e
    · cases e
  · exact h2.elim
/-- a changing list is changed -/
theorem WOk.upd {M : Md} {m : Ms} {W : Wd} {H : Hp} {r : Nat} {p : Addr} {vs vs0 : List V} {ds : List D} (h : WOk M m W H) (hp : m.ch[r]? = some p) (hq : H p = some (.lst vs0)) (hr : IsAll M m H vs ds) :
    Step m H m (L2.upd H p (.lst vs)) ∧ WOk M m (W.set r ds) (L2.upd H p (.lst vs)) := by
  have pm : p ∈ m.ch := List.mem_of_getElem? hp
  have st : Step m H m (L2.upd H p (.lst vs)) := ⟨⟨⟨[], by simp⟩, fun a o n e => ⟨by rw [upd_ne (fun z => n (.inl (by rw [z]; exact pm)))]; exact e, n⟩⟩, rfl, fun a ha o e => by
    rw [upd_ne (fun z => (h.opn a ha).1 (by rw [z]; exact pm))]; exact e⟩
  refine ⟨st, by rw [List.length_set]; exact h.len, h.nd, fun i xs e => ?_, fun a ha => ?_⟩
  · by_cases hi : i = r
    · subst hi
      have hl : i < W.length := by rw [← h.len]; exact (List.getElem?_eq_some_iff.mp hp).1
      rw [List.getElem?_set_self hl] at e
      cases e
      exact ⟨p, vs, hp, upd_same, hr.mono st⟩
    · rw [List.getElem?_set_ne (Ne.symm hi)] at e
      obtain ⟨a, us, e1, e2, e3⟩ := h.at_ i xs e
      have ne : a ≠ p := fun z => by
        subst z
        obtain ⟨l1, q1⟩ := List.getElem?_eq_some_iff.mp e1
        obtain ⟨l2, q2⟩ := List.getElem?_eq_some_iff.mp hp
        exact hi ((List.getElem_inj h.nd).mp (q1.trans q2.symm))
      exact ⟨a, us, e1, by rw [upd_ne ne]; exact e2, e3.mono st⟩
  · obtain ⟨n, o, e⟩ := h.opn a ha
    exact ⟨n, o, by rw [upd_ne (fun z => n (by rw [z]; exact pm))]; exact e⟩
theorem s_put {p2 : Pos} (ha : PE X a (tE (mdOf X) Wx fa)) (hb : PE X b (tE (mdOf X) Wx fb)) (hc : PE X c (tE (mdOf X) Wx fc)) (hs : swapsWithSole [.Subscript a b p2] c pos.line X.env = pure false) (hw : swappedStores [.Subscript a b p2] c X.env = pure none)
    (hh : ∀ v, assign (.Subscript a b p2) X.env v = (do
      let ov ← holding [v] (eval a X.env)
      let iv ← holding [v, ov] (eval b X.env)
      standAt p2
      holding [v, ov, iv] (setItem ov iv v)
      release [v, ov, iv] [])) :
    PS X (.Assign [.Subscript a b p2] c pos) (tS (mdOf X) Wx fun ρ W => (fc ρ W).thnS fun z W => (fa ρ W).thnS fun x W => (fb ρ W).thnS fun y W => match x, y with
      | .ref r, .int j => match W[r]? with
        | some xs => match ixN xs.length j with
          | some n => .nx ρ (W.set r (xs.set n z))
          | none => .bad
        | none => .bad
      | _, _ => .bad) :=
  (ps_asg hc (pg_sub ha hb set_list hh) hs hw rfl).imp fun D σ H ⟨ρ, m, W, he, hw, h⟩ => ⟨ρ, m, W, he, hw, h.ofR.imp fun z m1 W1 H1 s1 hw1 h1 v hv => ⟨ρ, m1, W1, he.mono s1, hw1, h1.ofR.imp fun x m2 W2 H2 s2 hw2 h2 u hu =>
    ⟨ρ, m2, W2, (he.mono s1).mono s2, hw2, h2.ofR.imp fun y m3 W3 H3 s3 hw3 h3 w hy => by
      split at h3
      · rename_i r j
        split at h3
        · rename_i xs e
          split at h3
          · rename_i n en
            cases hy
            have hu3 := hu.mono s3
            cases hu3 with
            | ref hr =>
              obtain ⟨p, vs, e1, e2, e3⟩ := hw3.at_ _ _ e
              rw [hr] at e1; cases e1
              obtain ⟨a1, a2⟩ := hw3.upd hr e2 (e3.set n ((hv.mono s2).mono s3))
              exact ⟨_, vs, j, n, rfl, rfl, e2, by rw [e3.length]; exact en, h3 σ m3 _ a1 a2 (((he.mono s1).mono s2).mono (s3.trans a1))⟩
          · exact h3.elim
        · exact h3.elim
      · exact h3.elim⟩⟩⟩
theorem s_app {i : Nat} {x : Str} {px apos cpos : Pos} (hN : X.N[i]? = some x) (hv : Vis X.env.scope x) (hd : (x == ("__debug__" : Str)) = false) (hcd : (x == ("__classdict__" : Str)) = false) (ha : PE X a (tE (mdOf X) Wx fa)) (na : nostar a = true) (hl : (apos.endLine == cpos.line) = true) :
    PS X (.Expr (.Call (.Attribute (.Name x px) "append" apos) [a] [] cpos) pos) (tS (mdOf X) Wx fun ρ W => match ρ[i]? with
      | some (some (.ref r)) => (fa ρ W).thnS fun z W => match W[r]? with
        | some xs => if xs.length < 16777216 then .nx ρ (W.set r (xs ++ [z])) else .bad
        | none => .bad
      | _ => .bad) := by
  refine (ps_expr (pe_bm PySem.F.plainAttrs_list PySem.F.slot_list_append PySem.F.type_list_append mt_append (pe_var hN hv hd hcd) (pa_cons ha pa_nil (star_ok na)) rfl (by rw [star1 na]; rfl) hl (star_ok na) rfl) rfl).imp fun D σ H ⟨ρ, m, W, he, hw, h⟩ => ?_
  dsimp only at h
  split at h
  · rename_i r e
    obtain ⟨v, e1, hv⟩ := he.at_ i _ e
    cases hv with
    | ref hr =>
      rename_i p
      have hwr : ∃ xs, W[r]? = some xs := by
        have hl : r < W.length := by rw [← hw.len]; exact (List.getElem?_eq_some_iff.mp hr).1
        exact ⟨_, List.getElem?_eq_getElem hl⟩
      obtain ⟨xs0, ex0⟩ := hwr
      obtain ⟨p0, vs0, q1, q2, q3⟩ := hw.at_ _ _ ex0
      rw [hr] at q1; cases q1
      refine ⟨.ref p, e1, .inl ⟨rfl, vs0, SqL.of q2⟩, ρ, m, W, he, hw, h.ofR.imp fun z m1 W1 H1 s1 hw1 h1 u hu => ?_⟩
      split at h1
      · rename_i xs ex
        split at h1
        · rename_i hlen
          obtain ⟨p1, vs, w1, w2, w3⟩ := hw1.at_ _ _ ex
          have hr1 := s1.kp.get hr
          rw [hr1] at w1; cases w1
          obtain ⟨a1, a2⟩ := hw1.upd hr1 w2 (w3.append (.cons hu .nil))
          exact ⟨_, vs, u, rfl, rfl, w2, by rw [w3.length, sizeLine_eq]; exact hlen, h1 σ m1 _ a1 a2 (he.mono (s1.trans a1))⟩
        · exact h1.elim
      · exact h1.elim
  · exact h.elim
end
end PL

/-! PL15: the check of statements, and that it is sound. -/
namespace PL
open PySem PySem.Spec PyProof.Rows L2

def nocomp : Expr → Bool
  | .ListComp _ _ _ _ => false
  | .SetComp _ _ _ _ => false
  | .DictComp _ _ _ _ _ => false
  | _ => true
def isName : Expr → Bool
  | .Name _ _ => true
  | _ => false
/-- the tuple's stores stand as they are written -/
def noswap (ts : List Expr) : Expr → Bool
  | .Tuple vs _ _ => (!(ts.length == 2 || ts.length == 3) || vs.length != ts.length) || !(ts.all isName)
  | _ => true
def loc1 (sc : Scope) (x : Str) : Bool := match sc.names.lookup x with
  | some .local => true
  | _ => false
/-- the comprehension's list goes right into the name -/
def swB (sc : Scope) (x : Str) (px : Pos) (e : Expr) : Bool := match e with
  | .ListComp _ _ scope p => loc1 sc x && px.line == p.line && !(scope.names.any fun (n, k) => n == x && (k == .local || k == .cell))
  | _ => false
def freeVals (vs : List Expr) : Bool := !(vs.any fun | .Starred .. => true | _ => false) && !(vs.all (foldedForSure 8)) && !(vs.all (constantsAlone 8))
section
variable {env : Env} {sc : Scope}
theorem nocomp_sw {e : Expr} (h : nocomp e = true) (t : Option Expr) (l : Nat) : swapsWith e t l env = pure false := by
  cases e <;> first | rfl | cases h
theorem noswap_sole {ts : List Expr} {k : Nat} {p : Pos} {e : Expr} {l : Nat} : swapsWithSole [.Tuple ts k p] e l env = pure false := by
  cases e <;> rfl
theorem filterMap_lt {α β : Type} (f : α → Option β) : ∀ l : List α, (∃ a ∈ l, f a = none) → (l.filterMap f).length < l.length
  | [], h => by obtain ⟨a, ha, _⟩ := h; cases ha
  | a :: l, h => by
    cases e : f a with
    | none =>
      rw [List.filterMap_cons_none e, List.length_cons]
      exact Nat.lt_succ_of_le (List.length_filterMap_le f l)
    | some b =>
      rw [List.filterMap_cons_some e, List.length_cons, List.length_cons]
      obtain ⟨c, hc, hn⟩ := h
      rcases List.mem_cons.mp hc with rfl | hc
      · rw [e] at hn; cases hn
      · exact Nat.succ_lt_succ (filterMap_lt f l ⟨c, hc, hn⟩)
theorem noswap_ok {ts : List Expr} {k : Nat} {p : Pos} {e : Expr} (h : noswap ts e = true) : swappedStores [.Tuple ts k p] e env = pure none := by
  cases e with
  | Tuple vs k2 p2 =>
    simp only [noswap, Bool.or_eq_true] at h
    unfold swappedStores
    dsimp only
    by_cases h1 : (!(ts.length == 2 || ts.length == 3) || vs.length != ts.length || env.blockKind != .function) = true
    · rw [if_pos h1]
    · rw [if_neg h1]
      have h2 : (ts.all isName) = false := by
        rcases h with h | h
        · exact absurd (by rw [Bool.or_eq_true, Bool.or_eq_true]; exact .inl h) h1
        · simpa using h
      by_cases h3 : (vs.any fun | .Starred .. => true | _ => false) = true
      · show (if (vs.any fun | .Starred .. => true | _ => false) = true then pure none else _) = _
        rw [if_pos h3]
      · show (if (vs.any fun | .Starred .. => true | _ => false) = true then pure none else _) = _
        rw [if_neg h3]
        refine if_pos ?_
        rw [Bool.or_eq_true]
        left
        obtain ⟨t, ht, hn⟩ := List.all_eq_false.mp h2
        exact bne_iff_ne.mpr (Nat.ne_of_lt (filterMap_lt _ ts ⟨t, ht, by cases t <;> first | rfl | exact absurd rfl hn⟩))
  | _ => rfl
/-- values that are folded; a target that is no plain local -/
def noswap2 (sc : Scope) (ts : List Expr) : Expr → Bool
  | .Tuple vs _ _ => vs.all (foldedForSure 8) || ts.any fun t => match t with
    | .Name x _ => !(loc1 sc x)
    | _ => true
  | _ => true
theorem noswap2_ok {ts : List Expr} {k : Nat} {p : Pos} {e : Expr} (hsc : env.scope = sc) (h : noswap2 sc ts e = true) : swappedStores [.Tuple ts k p] e env = pure none := by
  cases e with
  | Tuple vs k2 p2 =>
    simp only [noswap2, Bool.or_eq_true] at h
    unfold swappedStores
    dsimp only
    by_cases h1 : (!(ts.length == 2 || ts.length == 3) || vs.length != ts.length || env.blockKind != .function) = true
    · rw [if_pos h1]
    · rw [if_neg h1]
      by_cases h3 : (vs.any fun | .Starred .. => true | _ => false) = true
      · show (if (vs.any fun | .Starred .. => true | _ => false) = true then pure none else _) = _
        rw [if_pos h3]
      · show (if (vs.any fun | .Starred .. => true | _ => false) = true then pure none else _) = _
        rw [if_neg h3]
        rcases h with h | h
        · split
          · rfl
          · first | rfl | exact if_pos h
        · refine if_pos ?_
          rw [Bool.or_eq_true]
          left
          obtain ⟨t, ht, hn⟩ := List.any_eq_true.mp h
          refine bne_iff_ne.mpr (Nat.ne_of_lt (filterMap_lt _ ts ⟨t, ht, ?_⟩))
          cases t with
          | Name x px =>
            have hk : env.kindOf x = sc.names.lookup x := by unfold Env.kindOf; rw [hsc]
            have hl : loc1 sc x = false := by simpa using hn
            have hne : (env.kindOf x == some .local) = false := by
              rw [hk]
              unfold loc1 at hl
              cases q : sc.names.lookup x with
              | none => rfl
              | some k =>
                rw [q] at hl
                cases k <;> first | rfl | cases hl
            show (if (env.kindOf x == some .local && _) = true then some x else none) = none
            rw [hne]
            rfl
          | _ => rfl
  | _ => rfl
def compOk (e : Expr) : Bool := match e with
  | .ListComp _ _ _ _ => true
  | e => nocomp e
theorem nocomp_sole {e t : Expr} (h : nocomp e = true) (l : Nat) : swapsWithSole [t] e l env = pure false := nocomp_sw h (some t) l
theorem sw_false {x : Str} {px : Pos} {e : Expr} {l : Nat} (hsc : env.scope = sc) (hk : sc.kind = .function) (h : swB sc x px e = false) (hl : compOk e = true) : swapsWith e (some (.Name x px)) l env = pure false := by
  cases e with
  | ListComp elt gens scope p =>
    have hb : env.blockKind = .function := by unfold Env.blockKind; rw [hsc, hk]; rfl
    have hkd : env.kindOf x = sc.names.lookup x := by unfold Env.kindOf; rw [hsc]
    have e1 : (env.blockKind == .function && env.kindOf x == some .local && px.line == p.line && !(scope.names.any fun (n, k) => n == x && (k == .local || k == .cell))) = swB sc x px (.ListComp elt gens scope p) := by
      rw [hb, hkd]
      unfold swB loc1
      cases sc.names.lookup x with
      | none => rfl
      | some k => cases k <;> rfl
    show (pure (env.blockKind == .function && env.kindOf x == some .local && px.line == p.line && !(scope.names.any fun (n, k) => n == x && (k == .local || k == .cell))) : Sem Bool) = pure false
    rw [e1, h]
  | SetComp _ _ _ _ => cases hl
  | DictComp _ _ _ _ _ => cases hl
  | _ => rfl
theorem sw_ok {x : Str} {px p : Pos} {elt : Expr} {gens : List Comprehension} {scope : Scope} {l : Nat} (hsc : env.scope = sc) (hk : sc.kind = .function) (h : swB sc x px (.ListComp elt gens scope p) = true) : sc.names.lookup x = some .local ∧ swapsWith (.ListComp elt gens scope p) (some (.Name x px)) l env = pure true := by
  simp only [swB, Bool.and_eq_true, Bool.not_eq_true'] at h
  obtain ⟨⟨h1, h2⟩, h3⟩ := h
  have hx : sc.names.lookup x = some .local := by
    unfold loc1 at h1
    split at h1
    · assumption
    · cases h1
  exact ⟨hx, sw_true (by rw [hsc]; exact hk) (by rw [hsc]; exact hx) h2 h3⟩
theorem dup2 {x y : Str} (h : (x == y) = false) : ([x, y].eraseDups).length = 2 := by
  have h' : (y == x) = false := by rw [Bool.beq_comm]; exact h
  simp [List.eraseDups_cons, h, h', List.filter]
theorem par2_ok {x y : Str} {px py pt pt2 : Pos} {kt k2 : Nat} {a b : Expr} (hsc : env.scope = sc) (hk : sc.kind = .function) (hx : sc.names.lookup x = some .local) (hy : sc.names.lookup y = some .local) (hp : py.line = px.line) (hd : (x == y) = false) (hv : freeVals [a, b] = true) :
    swappedStores [.Tuple [.Name x px, .Name y py] kt pt] (.Tuple [a, b] k2 pt2) env = pure (some [x, y]) := by
  simp only [freeVals, Bool.and_eq_true, Bool.not_eq_true'] at hv
  obtain ⟨⟨h1, h2⟩, h3⟩ := hv
  have hb : env.blockKind = .function := by unfold Env.blockKind; rw [hsc, hk]; rfl
  have kx : env.kindOf x = some .local := by unfold Env.kindOf; rw [hsc]; exact hx
  have ky : env.kindOf y = some .local := by unfold Env.kindOf; rw [hsc]; exact hy
  have hd2 := dup2 hd
  unfold swappedStores
  dsimp only
  have hn : ([Expr.Name x px, Expr.Name y py].filterMap fun | .Name id pos => if env.kindOf id == some .local && pos.line == (([Expr.Name x px, Expr.Name y py] : List Expr).head?.map (·.pos.line)).getD 0 then some id else none | _ => none) = [x, y] := by
    simp [kx, ky, Expr.pos, hp]
  refine (if_neg (by simp [hb])).trans ?_
  refine (if_neg (show ¬ (([a, b].any fun | .Starred .. => true | _ => false) = true) by rw [h1]; decide)).trans ?_
  refine (if_neg ?_).trans ?_
  · show ¬ (((([Expr.Name x px, Expr.Name y py].filterMap fun | .Name id pos => if env.kindOf id == some .local && pos.line == (([Expr.Name x px, Expr.Name y py] : List Expr).head?.map (·.pos.line)).getD 0 then some id else none | _ => none).length != 2) || ((([Expr.Name x px, Expr.Name y py].filterMap fun | .Name id pos => if env.kindOf id == some .local && pos.line == (([Expr.Name x px, Expr.Name y py] : List Expr).head?.map (·.pos.line)).getD 0 then some id else none | _ => none).eraseDups.length != ([Expr.Name x px, Expr.Name y py].filterMap fun | .Name id pos => if env.kindOf id == some .local && pos.line == (([Expr.Name x px, Expr.Name y py] : List Expr).head?.map (·.pos.line)).getD 0 then some id else none | _ => none).length)) : Bool) = true)
    rw [hn, hd2]
    exact (by decide : ¬ (((2 : Nat) != 2 || (2 : Nat) != 2) = true))
  refine (if_neg (by rw [h2]; decide)).trans ?_
  refine (if_neg (by rw [h3]; decide)).trans ?_
  exact congrArg (fun l => pure (some l)) hn
theorem dup3 {x y z : Str} (h : (x == y) = false) (h' : (x == z) = false) (h2 : (y == z) = false) : ([x, y, z].eraseDups).length = 3 := by
  have a : (y == x) = false := by rw [Bool.beq_comm]; exact h
  have b : (z == x) = false := by rw [Bool.beq_comm]; exact h'
  have c : (z == y) = false := by rw [Bool.beq_comm]; exact h2
  simp [List.eraseDups_cons, h, h', h2, a, b, c, List.filter]
theorem par3_ok {x y z : Str} {px py pz pt pt2 : Pos} {kt k2 : Nat} {a b c : Expr} (hsc : env.scope = sc) (hk : sc.kind = .function) (hx : sc.names.lookup x = some .local) (hy : sc.names.lookup y = some .local) (hz : sc.names.lookup z = some .local) (hp : py.line = px.line) (hp2 : pz.line = px.line)
    (hd : (x == y) = false) (hd' : (x == z) = false) (hd2 : (y == z) = false) (hv : freeVals [a, b, c] = true) :
    swappedStores [.Tuple [.Name x px, .Name y py, .Name z pz] kt pt] (.Tuple [a, b, c] k2 pt2) env = pure (some [x, y, z]) := by
  simp only [freeVals, Bool.and_eq_true, Bool.not_eq_true'] at hv
  obtain ⟨⟨h1, h2⟩, h3⟩ := hv
  have hb : env.blockKind = .function := by unfold Env.blockKind; rw [hsc, hk]; rfl
  have kx : env.kindOf x = some .local := by unfold Env.kindOf; rw [hsc]; exact hx
  have ky : env.kindOf y = some .local := by unfold Env.kindOf; rw [hsc]; exact hy
  have kz : env.kindOf z = some .local := by unfold Env.kindOf; rw [hsc]; exact hz
  have hd3 := dup3 hd hd' hd2
  unfold swappedStores
  dsimp only
  have hn : (([Expr.Name x px, Expr.Name y py, Expr.Name z pz] : List Expr).filterMap fun | .Name id pos => if env.kindOf id == some .local && pos.line == (([Expr.Name x px, Expr.Name y py, Expr.Name z pz] : List Expr).head?.map (·.pos.line)).getD 0 then some id else none | _ => none) = [x, y, z] := by
    simp [kx, ky, kz, Expr.pos, hp, hp2]
  refine (if_neg (by simp [hb])).trans ?_
  refine (if_neg (show ¬ (([a, b, c].any fun | .Starred .. => true | _ => false) = true) by rw [h1]; decide)).trans ?_
  refine (if_neg ?_).trans ?_
  · show ¬ ((((([Expr.Name x px, Expr.Name y py, Expr.Name z pz] : List Expr).filterMap fun | .Name id pos => if env.kindOf id == some .local && pos.line == (([Expr.Name x px, Expr.Name y py, Expr.Name z pz] : List Expr).head?.map (·.pos.line)).getD 0 then some id else none | _ => none).length != 3) || ((([Expr.Name x px, Expr.Name y py, Expr.Name z pz] : List Expr).filterMap fun | .Name id pos => if env.kindOf id == some .local && pos.line == (([Expr.Name x px, Expr.Name y py, Expr.Name z pz] : List Expr).head?.map (·.pos.line)).getD 0 then some id else none | _ => none).eraseDups.length != (([Expr.Name x px, Expr.Name y py, Expr.Name z pz] : List Expr).filterMap fun | .Name id pos => if env.kindOf id == some .local && pos.line == (([Expr.Name x px, Expr.Name y py, Expr.Name z pz] : List Expr).head?.map (·.pos.line)).getD 0 then some id else none | _ => none).length)) = true)
    rw [hn, hd3]
    exact (by decide : ¬ (((3 : Nat) != 3 || (3 : Nat) != 3) = true))
  refine (if_neg (by rw [h2]; decide)).trans ?_
  refine (if_neg (by rw [h3]; decide)).trans ?_
  exact congrArg (fun l => pure (some l)) hn
end
section
variable (G : Glb) (N : List Str)
mutual
def chkS (sc : Scope) : S → Stmt → Bool
  | .asg t c, st => match st with
    | .Assign [tg] e _ => chkT N sc t tg && chk G N sc c e && (match tg with
      | .Name x px => compOk e
      | .Tuple ts _ _ => noswap ts e || noswap2 sc ts e || (match t, c, ts, e with
        | .tp [.nm i, .nm j], .tup _, [.Name x px, .Name y py], .Tuple [a, b] _ _ => loc1 sc x && loc1 sc y && px.line == py.line && !(x == y) && freeVals [a, b]
        | .tp [.nm i, .nm j, .nm l], .tup _, [.Name x px, .Name y py, .Name z pz], .Tuple [a, b, c] _ _ => loc1 sc x && loc1 sc y && loc1 sc z && px.line == py.line && px.line == pz.line && !(x == y) && !(x == z) && !(y == z) && freeVals [a, b, c]
        | _, _, _, _ => false)
      | _ => false)
    | _ => false
  | .put a i v, st => match st with
    | .Assign [.Subscript a' i' _] e _ => nocomp e && noslice i' && chk G N sc a a' && chk G N sc i i' && chk G N sc v e
    | _ => false
  | .app i c, st => match st with
    | .Expr (.Call (.Attribute (.Name x _) m apos) [a] [] cpos) _ => m == "append" && visB N sc i x && nostar a && apos.endLine == cpos.line && chk G N sc c a
    | _ => false
  | .ex c, st => match st with
    | .Expr e _ => nocomp e && chk G N sc c e
    | _ => false
  | .ret c, st => match st with
    | .Return (some e) _ => chk G N sc c e
    | _ => false
  | .ret0, st => match st with
    | .Return none _ => true
    | _ => false
  | .ife c a b, st => match st with
    | .If e as bs _ => chk G N sc c e && chkSs sc a as && chkSs sc b bs
    | _ => false
  | .for_ t w b, st => match st with
    | .For tg iter bs [] _ => noset iter && chkT N sc t tg && chkI G N sc w tg iter && chkSs sc b bs
    | _ => false
  | .whl c b, st => match st with
    | .While e bs [] _ => chk G N sc c e && chkSs sc b bs
    | _ => false
  | .pass, st => match st with
    | .Pass _ => true
    | _ => false
  | .no, _ => true
def chkSs (sc : Scope) : Ss → List Stmt → Bool
  | .nil, sts => match sts with
    | [] => true
    | _ => false
  | .cons s r, sts => match sts with
    | st :: rest => chkS sc s st && chkSs sc r rest
    | [] => false
end
end
section
variable {Δ : Tab} {G : Glb} {X : Cx} {Wx : WX} {sc : Scope}
mutual
theorem ok_S (hp : PassesOwn (model X.prog X.w) X.A X.env X.xe) (hsc : X.env.scope = sc) (hk : sc.kind = .function) (g : Gd X Δ G) (Sk : ScOk X sc) (tk : Takes X Wx) : ∀ (s : S) (st : Stmt), chkS G X.N sc s st = true → PS X st (tS (mdOf X) Wx (runS Δ s))
  | .asg t c, st, h => by
    unfold chkS at h
    split at h
    · rename_i tg e pos
      simp only [Bool.and_eq_true] at h
      obtain ⟨⟨h1, h2⟩, h3⟩ := h
      have he := (ok_C (Δ := Δ) (G := G) c e X Wx sc g Sk tk h2).1
      have hg := g_ok g.calm g.nd Sk t tg h1
      split at h3
      · rename_i x px
        cases t with
        | tp ts => simp [chkT] at h1
        | nm i =>
          obtain ⟨l1, l2, l3⟩ := locB_ok Sk (show locB X.N sc i x = true from h1)
          by_cases hsw : swB sc x px e = true
          · cases e with
            | ListComp elt gens scope p =>
              obtain ⟨hx, hs⟩ := sw_ok (env := X.env) (l := pos.line) hsc hk hsw
              cases c with
              | lc own t' w ifs el =>
                unfold chk at h2
                split at h2
                · rename_i heq
                  cases heq
                  simp only [Bool.and_eq_true, beq_iff_eq] at h2
                  obtain ⟨⟨⟨⟨⟨⟨⟨k1, k2⟩, k3⟩, k4⟩, k5⟩, k6⟩, k7⟩, k8⟩ := h2
                  subst k1
                  refine (ps_setLc (te := tE (mdOf X) W0 (run Δ el)) (tt := tB (mdOf X) W0 (runT Δ ifs)) (g := tG (mdOf X) t') (wi := tI (mdOf X) Wx (runI Δ w)) g.calm g.nd l1 (Sk.loc x hx) hs (ok_I w _ _ X Wx sc g Sk tk k6) (blkB_ok Sk k3) (fun s H C cl fp => g_ok (X := X.blk s H _ (compEnvC _ cl C X.env) fp) g.calm g.nd ScOk.blk t' _ k4)
                    (fun s H C cl fp => (ok_Cs ifs).2 _ _ W0 _ g.blk ScOk.blk takes0 k7) (fun s H C cl fp => (ok_C el _ _ W0 _ g.blk ScOk.blk takes0 k8).1) (set_ok k2 _)).imp fun D σ H q => ?_
                  have q' := s_name_imp (X := X) (Wx := Wx) (i := i) (fa := run Δ (.lc own t' w ifs el)) rfl D σ H q
                  exact e_lc (X := X) (t := t') (own := own) rfl rfl rfl rfl (fun j hj => by
                    have q := List.all_eq_true.mp k5 j hj
                    obtain ⟨p, hp, e⟩ := List.any_eq_true.mp q
                    exact List.mem_map.mpr ⟨p, hp, beq_iff_eq.mp e⟩) σ H _ q'
                · cases h2
              | lc2 own t' w ifs vs1 t1 w1 ifs1 el =>
                unfold chk at h2
                split at h2
                · rename_i heq
                  cases heq
                  simp only [Bool.and_eq_true, beq_iff_eq] at h2
                  obtain ⟨⟨⟨⟨⟨⟨⟨⟨⟨⟨⟨⟨⟨⟨k1, k1'⟩, k2⟩, k2'⟩, k3⟩, kv⟩, k4⟩, k5⟩, k4'⟩, k5'⟩, k6⟩, k7⟩, k6'⟩, k7'⟩, k8⟩ := h2
                  subst k1; subst k1'
                  refine (ps_setLc2 (vs1 := vs1) (te := tE (mdOf X) W0 (run Δ el)) (tt := tB (mdOf X) W0 (runT Δ ifs)) (g := tG (mdOf X) t') (wi := tI (mdOf X) Wx (runI Δ w)) (tt1 := tB (mdOf X) W0 (runT Δ ifs1)) (g1 := tG (mdOf X) t1) (wi1 := tI (mdOf X) W0 (runI Δ w1)) g.calm g.nd l1 (Sk.loc x hx) hs (ok_I w _ _ X Wx sc g Sk tk k6) (blkB_ok Sk k3) (fun j hj => ?_) (fun s H C cl fp => g_ok (X := X.blk s H _ (compEnvC _ cl C X.env) fp) g.calm g.nd ScOk.blk t' _ k4)
                    (fun s H C cl fp => (ok_Cs ifs).2 _ _ W0 _ g.blk ScOk.blk takes0 k7) (fun s H C cl fp => ok_I w1 _ _ _ W0 _ g.blk ScOk.blk takes0 k6') (fun s H C cl fp => g_ok (X := X.blk s H _ (compEnvC _ cl C X.env) fp) g.calm g.nd ScOk.blk t1 _ k4')
                    (fun s H C cl fp => (ok_Cs ifs1).2 _ _ W0 _ g.blk ScOk.blk takes0 k7') (fun s H C cl fp => (ok_C el _ _ W0 _ g.blk ScOk.blk takes0 k8).1) (set_ok k2 _) (fun env => set_ok k2' env)).imp fun D σ H q => ?_
                  · have q := List.all_eq_true.mp kv j hj
                    obtain ⟨p, hp, e⟩ := List.any_eq_true.mp q
                    exact List.mem_map.mpr ⟨p, hp, beq_iff_eq.mp e⟩
                  · have q' := s_name_imp (X := X) (Wx := Wx) (i := i) (fa := run Δ (.lc2 own t' w ifs vs1 t1 w1 ifs1 el)) rfl D σ H q
                    exact e_lc2 (X := X) (t := t') (own := own) rfl rfl rfl rfl rfl rfl rfl (fun j hj => by
                      have q := List.all_eq_true.mp k5 j hj
                      obtain ⟨p, hp, e⟩ := List.any_eq_true.mp q
                      exact List.mem_map.mpr ⟨p, hp, beq_iff_eq.mp e⟩) (fun j hj => by
                      have q := List.all_eq_true.mp k5' j hj
                      simpa using q) σ H _ q'
                · cases h2
              | _ => simp [chk] at h2
            | _ => cases hsw
          · have hsw' : swB sc x px e = false := by simpa using hsw
            refine (ps_set g.nd l1 l2 he (sw_false hsc hk hsw' h3) l3).imp (s_name_imp rfl)
      · rename_i ts k p
        rw [Bool.or_eq_true, Bool.or_eq_true] at h3
        rcases h3 with (h3 | h3) | h3
        · exact s_asg he hg noswap_sole (noswap_ok h3) rfl
        · exact s_asg he hg noswap_sole (noswap2_ok hsc h3) rfl
        · split at h3
          · rename_i i j es x px y py a b k2 p2
            simp only [Bool.and_eq_true, beq_iff_eq, Bool.not_eq_true'] at h3
            obtain ⟨⟨⟨⟨q1, q2⟩, q3⟩, q4⟩, q5⟩ := h3
            simp only [chkT, chkTs, Bool.and_eq_true] at h1
            obtain ⟨l1, l2, l3⟩ := locB_ok Sk h1.1
            obtain ⟨m1, m2, m3⟩ := locB_ok Sk h1.2.1
            have hx : sc.names.lookup x = some .local := by
              unfold loc1 at q1
              split at q1
              · assumption
              · cases q1
            have hy : sc.names.lookup y = some .local := by
              unfold loc1 at q2
              split at q2
              · assumption
              · cases q2
            have hij : i ≠ j := fun z => by
              subst z
              rw [l1] at m1
              cases m1
              simp at q4
            have ha := ((ok_Cs (Δ := Δ) (G := G) es).1 _ X Wx sc g Sk tk (show chks G X.N sc es [a, b] = true from h2)).2.1
            exact (ps_par g.calm g.nd l1 m1 hij (Sk.loc x hx) (Sk.loc y hy) ha (par2_ok hsc hk hx hy q3.symm q4 q5) noswap_sole).imp s_par_imp
          · rename_i i j l es x px y py z pz a b c k2 p2
            simp only [Bool.and_eq_true, beq_iff_eq, Bool.not_eq_true'] at h3
            obtain ⟨⟨⟨⟨⟨⟨⟨⟨q1, q2⟩, q3⟩, q4⟩, q5⟩, q6⟩, q7⟩, q8⟩, q9⟩ := h3
            simp only [chkT, chkTs, Bool.and_eq_true] at h1
            obtain ⟨l1, l2, l3⟩ := locB_ok Sk h1.1
            obtain ⟨m1, m2, m3⟩ := locB_ok Sk h1.2.1
            obtain ⟨n1, n2, n3⟩ := locB_ok Sk h1.2.2.1
            have loc : ∀ w : Str, loc1 sc w = true → sc.names.lookup w = some .local := fun w q => by
              unfold loc1 at q
              split at q
              · assumption
              · cases q
            have hx := loc x q1
            have hy := loc y q2
            have hz := loc z q3
            have hij : i ≠ j := fun e => by subst e; rw [l1] at m1; cases m1; simp at q6
            have hil : i ≠ l := fun e => by subst e; rw [l1] at n1; cases n1; simp at q7
            have hjl : j ≠ l := fun e => by subst e; rw [m1] at n1; cases n1; simp at q8
            have ha := ((ok_Cs (Δ := Δ) (G := G) es).1 _ X Wx sc g Sk tk (show chks G X.N sc es [a, b, c] = true from h2)).2.1
            exact (ps_par3 g.calm g.nd l1 m1 n1 hij hil hjl (Sk.loc x hx) (Sk.loc y hy) (Sk.loc z hz) ha (par3_ok hsc hk hx hy hz q4.symm q5.symm q6 q7 q8 q9) noswap_sole).imp s_par3_imp
          · cases h3
      · cases h3
    · cases h
  | .put a i v, st, h => by
    unfold chkS at h
    split at h
    · simp only [Bool.and_eq_true] at h
      obtain ⟨⟨⟨⟨h1, h2⟩, h3⟩, h4⟩, h5⟩ := h
      refine s_put (ok_C a _ X Wx sc g Sk tk h3).1 (ok_C i _ X Wx sc g Sk tk h4).1 (ok_C v _ X Wx sc g Sk tk h5).1 (nocomp_sole h1 _) rfl ?_
      rename_i i' _ _ _
      cases i' <;> first | (intro v; rfl) | cases h2
    · cases h
  | .app i c, st, h => by
    unfold chkS at h
    split at h
    · simp only [Bool.and_eq_true, beq_iff_eq] at h
      obtain ⟨⟨⟨⟨h1, h2⟩, h3⟩, h4⟩, h5⟩ := h
      subst h1
      obtain ⟨v1, v2, v3, v4⟩ := visB_ok Sk h2
      exact s_app v1 v2 v3 v4 (ok_C c _ X Wx sc g Sk tk h5).1 h3 (beq_iff_eq.mpr h4)
    · cases h
  | .ex c, st, h => by
    unfold chkS at h
    split at h
    · simp only [Bool.and_eq_true] at h
      exact s_ex (ok_C c _ X Wx sc g Sk tk h.2).1 (nocomp_sw h.1 _ _)
    · cases h
  | .ret c, st, h => by
    unfold chkS at h
    split at h
    · exact s_ret (ok_C c _ X Wx sc g Sk tk h).1
    · cases h
  | .ret0, st, h => by
    unfold chkS at h
    split at h
    · exact s_ret0
    · cases h
  | .ife c a b, st, h => by
    unfold chkS at h
    split at h
    · simp only [Bool.and_eq_true] at h
      exact s_if (ok_C c _ X Wx sc g Sk tk h.1.1).2 (ok_Ss hp hsc hk g Sk tk a _ h.1.2) (ok_Ss hp hsc hk g Sk tk b _ h.2)
    · cases h
  | .for_ t w b, st, h => by
    unfold chkS at h
    split at h
    · simp only [Bool.and_eq_true] at h
      exact s_for hp g.calm (ok_I w _ _ X Wx sc g Sk tk h.1.2) (g_ok g.calm g.nd Sk t _ h.1.1.2) (ok_Ss hp hsc hk g Sk tk b _ h.2) (set_ok h.1.1.1 _)
    · cases h
  | .whl c b, st, h => by
    unfold chkS at h
    split at h
    · simp only [Bool.and_eq_true] at h
      exact s_while hp (ok_C c _ X Wx sc g Sk tk h.1).2 (ok_Ss hp hsc hk g Sk tk b _ h.2)
    · cases h
  | .pass, st, h => by
    unfold chkS at h
    split at h
    · exact s_pass
    · cases h
  | .no, st, h => ⟨fun pins s σ H D I ⟨ρ, m, W, _, _, q⟩ => q.elim⟩
theorem ok_Ss (hp : PassesOwn (model X.prog X.w) X.A X.env X.xe) (hsc : X.env.scope = sc) (hk : sc.kind = .function) (g : Gd X Δ G) (Sk : ScOk X sc) (tk : Takes X Wx) : ∀ (s : Ss) (sts : List Stmt), chkSs G X.N sc s sts = true → PSs X sts (tS (mdOf X) Wx (runSs Δ s))
  | .nil, sts, h => by
    cases sts with
    | nil => exact s_nil
    | cons _ _ => simp [chkSs] at h
  | .cons s r, sts, h => by
    cases sts with
    | nil => simp [chkSs] at h
    | cons st rest =>
      simp only [chkSs, Bool.and_eq_true] at h
      exact s_cons (ok_S hp hsc hk g Sk tk s st h.1) (ok_Ss hp hsc hk g Sk tk r rest h.2)
end
end
end PL

/-! PL16: defs, programs. -/
namespace PL
open PySem PySem.Spec PyProof.Rows L2

/-! ### leaving a def -/
section
variable {M : Md} {m m' : Ms} {H : Hp}
theorem ch_low {r : List Addr} (hc : m'.ch = m.ch ++ r) {i : Nat} {a : Addr} (h : m'.ch[i]? = some a) (hi : i < m.ch.length) : m.ch[i]? = some a := by
  rw [hc, List.getElem?_append_left hi] at h; exact h
mutual
theorem Is.low' {r : List Addr} (hc : m'.ch = m.ch ++ r) (ho : m'.op = m.op) : ∀ {v : V} {d : D}, Is M m' H v d → D.low m.ch.length d = true → Is M m H v d
  | _, _, .non, _ => .non
  | _, _, .bl b, _ => .bl b
  | _, _, .int i, _ => .int i
  | _, _, .str x h, _ => .str x h
  | _, _, .tup h r', q => .tup (h.imp (fun z => ⟨fun y => z.1 (y.imp (fun k => by rw [hc]; exact List.mem_append_left _ k) fun k => by rw [ho]; exact k), z.2⟩) id) (IsAll.low' hc ho r' (by simpa only [D.low] using q))
  | _, _, .lst n e r', q => .lst (fun y => n (y.imp (fun k => by rw [hc]; exact List.mem_append_left _ k) fun k => by rw [ho]; exact k)) e (IsAll.low' hc ho r' (by simpa only [D.low] using q))
  | _, _, .dct n e r', q => .dct (fun y => n (y.imp (fun k => by rw [hc]; exact List.mem_append_left _ k) fun k => by rw [ho]; exact k)) e (IsKvs.low' hc ho r' (by simpa only [D.low] using q))
  | _, _, .dtt n e hk ek hv r', q => .dtt (fun y => n (y.imp (fun k => by rw [hc]; exact List.mem_append_left _ k) fun k => by rw [ho]; exact k)) e (fun x hx => (hk x hx).imp (fun z => ⟨fun y => z.1 (y.imp (fun k => by rw [hc]; exact List.mem_append_left _ k) fun k => by rw [ho]; exact k), z.2⟩) id) ek hv (IsAll.low' hc ho r' (by simpa only [D.low] using q))
  | _, _, .set n e h r', q => .set (fun y => n (y.imp (fun k => by rw [hc]; exact List.mem_append_left _ k) fun k => by rw [ho]; exact k)) e h (IsAll.low' hc ho r' (by simpa only [D.low] using q))
  | _, _, .fn h, _ => .fn h
  | _, _, .ref h, q => .ref (ch_low hc h (by simpa [D.low] using q))
  | _, _, .scr h, _ => .scr (h.imp (fun z => ⟨fun y => z.1 (y.imp (fun k => by rw [hc]; exact List.mem_append_left _ k) fun k => by rw [ho]; exact k), z.2⟩) id)
theorem IsAll.low' {r : List Addr} (hc : m'.ch = m.ch ++ r) (ho : m'.op = m.op) : ∀ {vs : List V} {ds : List D}, IsAll M m' H vs ds → D.lows m.ch.length ds = true → IsAll M m H vs ds
  | _, _, .nil, _ => .nil
  | _, _, .cons a b, q => by
    simp only [D.lows, Bool.and_eq_true] at q
    exact .cons (Is.low' hc ho a q.1) (IsAll.low' hc ho b q.2)
theorem IsKvs.low' {r : List Addr} (hc : m'.ch = m.ch ++ r) (ho : m'.op = m.op) : ∀ {vs : List (Key × V)} {ds : List (Key × D)}, IsKvs M m' H vs ds → D.lowK m.ch.length ds = true → IsKvs M m H vs ds
  | _, _, .nil, _ => .nil
  | _, _, .cons a b, q => by
    simp only [D.lowK, Bool.and_eq_true] at q
    exact .cons (Is.low' hc ho a q.1) (IsKvs.low' hc ho b q.2)
end
theorem leave_ok {Wx : WX} {H0 : Hp} {W W' : Wd} {d : D} {v : V} {Q : VK} (hw0 : WOk M m W H0) (s : Step m H0 m' H) (hw : WOk M m' W' H) (hv : Is M m' H v d)
    (h : aft M Wx m H0 (leave W.length d W') fun d m' _ H' => ∀ v, Is M m' H' v d → Q v H') : Q v H := by
  unfold leave at h
  split at h
  · exact h m' H s hw v hv
  · rename_i hlt
    split at h
    · rename_i hlow
      obtain ⟨r, hc⟩ := s.kp.pre
      have hn : m.ch.length = W.length := hw0.len
      have st : Step m H0 m H := ⟨⟨⟨[], by simp⟩, fun a o n e => ⟨(s.kp.keep a o n e).1, n⟩⟩, rfl, s.opk⟩
      have hw1 : WOk M m (W'.take W.length) H := by
        refine ⟨?_, hw0.nd, fun i xs e => ?_, fun a ha => ?_⟩
        · rw [List.length_take, hn]
          have := hw.len
          rw [hc, List.length_append] at this
          omega
        · have hi : i < W.length := by
            have := (List.getElem?_eq_some_iff.mp e).1
            rw [List.length_take] at this
            omega
          have hm := List.all_eq_true.mp hlow xs (List.mem_of_getElem? e)
          rw [List.getElem?_take_of_lt hi] at e
          obtain ⟨a, vs, e1, e2, e3⟩ := hw.at_ i xs e
          exact ⟨a, vs, ch_low hc e1 (by rw [hn]; exact hi), e2, IsAll.low' hc s.op e3 (by rw [hn]; exact hm)⟩
        · obtain ⟨n, o, e⟩ := hw.opn a (by rw [s.op]; exact ha)
          exact ⟨fun z => n (by rw [hc]; exact List.mem_append_left _ z), o, e⟩
      have other : ∀ d, Is M m' H v d → aft M Wx m H0 (if D.low W.length d = true then R.ok d (W'.take W.length) else R.bad) (fun d m' _ H' => ∀ v, Is M m' H' v d → Q v H') → Q v H := fun d hv h => by
        obtain ⟨hl, h⟩ := h.ite
        exact h m H st hw1 v (Is.low' hc s.op hv (by rw [hn]; exact hl))
      cases d with
      | ref i =>
        cases hv with
        | ref hr =>
          rename_i a
          dsimp only at h
          split at h
          · rename_i hi
            exact h m H st hw1 _ (.ref (ch_low hc hr (by rw [hn]; exact hi)))
          · rename_i hi
            split at h
            · rename_i xs ex
              obtain ⟨hl, h⟩ := h.ite
              obtain ⟨a', vs, e1, e2, e3⟩ := hw.at_ i xs ex
              rw [hr] at e1; cases e1
              refine h m H st hw1 _ (.lst ?_ e2 (IsAll.low' hc s.op e3 (by rw [hn]; exact hl)))
              rintro (z | z)
              · obtain ⟨j, hj⟩ := List.getElem?_of_mem z
                have hj2 : m'.ch[j]? = some a := by rw [hc, List.getElem?_append_left (List.getElem?_eq_some_iff.mp hj).1]; exact hj
                have hjl := (List.getElem?_eq_some_iff.mp hj).1
                obtain ⟨l1, q1⟩ := List.getElem?_eq_some_iff.mp hj2
                obtain ⟨l2, q2⟩ := List.getElem?_eq_some_iff.mp hr
                have := (List.getElem_inj hw.nd).mp (q1.trans q2.symm)
                omega
              · exact (hw.opn _ (by rw [s.op]; exact z)).1 (List.mem_of_getElem? hr)
            · exact h.elim
      | _ => exact other _ hv h
    · exact h.elim
end

/-! ### programs -/
structure Txt where
  nm : Str
  st : Stmt
  N : List Str
  ps : List Str
  fn : Fn
def progOf (txts : List Txt) : Prog := txts.map fun t => (t.nm, t.fn)
def nodupB : List Str → Bool
  | [] => true
  | x :: xs => !(xs.contains x) && nodupB xs
theorem nodupB_ok : ∀ {l : List Str}, nodupB l = true → l.Nodup
  | [], _ => .nil
  | x :: xs, h => by
    simp only [nodupB, Bool.and_eq_true, Bool.not_eq_true'] at h
    refine List.nodup_cons.mpr ⟨fun hm => ?_, nodupB_ok h.2⟩
    have : xs.contains x = true := by simpa using hm
    rw [this] at h
    exact absurd h.1 (by simp)
def scB (N ps : List Str) (sc : Scope) : Bool :=
  (match sc.kind with | .function => true | _ => false) && !sc.isCoroutine && !sc.isGenerator && nodupB N && (N.take ps.length == ps) && (ps.all fun x => match sc.names.lookup x with | some .local => true | some .cell => true | _ => false) &&
    sc.names.all fun y => match y.2 with | .free => false | _ => true
theorem scB_ok {N ps : List Str} {sc : Scope} (h : scB N ps sc = true) : FnScope N ps sc := by
  unfold scB at h
  simp only [Bool.and_eq_true, Bool.not_eq_true', List.all_eq_true] at h
  obtain ⟨⟨⟨⟨⟨⟨h1, h2⟩, h3⟩, h4⟩, h5⟩, h6⟩, h7⟩ := h
  refine ⟨?_, h2, h3, nodupB_ok h4, by simpa using h5, fun x hx => ?_, fun y hy e => ?_⟩
  · split at h1
    · assumption
    · cases h1
  · have q := h6 x hx
    split at q
    · exact .inl (by assumption)
    · exact .inr (by assumption)
    · cases q
  · have q := h7 y hy
    rw [e] at q
    cases q
def chkF (G : Glb) (t : Txt) : Bool := scB t.N t.ps (defScope t.st) && chkSs G t.N (defScope t.st) t.fn.body (defBody t.st) && t.fn.many == t.ps.length && t.fn.slots == t.N.length
def chkP (G : Glb) (txts : List Txt) : Bool := txts.all (chkF G) && nodupB (txts.map (·.nm)) && G.fns.all fun x => (txts.map (·.nm)).contains x
def BindOk (t : Txt) : Prop := ∀ (kV doc pm : Value) (an : Option Addr) (cdv ct : Value) (us : List Value), us.length = t.ps.length →
  bindArgs (PySem.W.fnOf t.nm t.nm (defArgs t.st) (defBody t.st) (defScope t.st) .none kV doc pm an cdv ct) ⟨us, []⟩ = pure (t.ps.zip us)
abbrev FnT (K : PySem.W.Frag) (t : Txt) (f : Addr) (fd : FuncData) : Prop := FunD K t.nm t.nm (defArgs t.st) (defBody t.st) (defScope t.st) [] [] f fd
theorem lookup_nodup {α : Type} (f : α → Str) {β : Type} (g : α → β) : ∀ {l : List α} {t : α}, (l.map f).Nodup → t ∈ l → (l.map fun t => (f t, g t)).lookup (f t) = some (g t)
  | [], _, _, h => by cases h
  | a :: l, t, hn, h => by
    rw [List.map_cons, List.nodup_cons] at hn
    rw [List.map_cons, List.lookup_cons]
    rcases List.mem_cons.mp h with rfl | h
    · simp
    · have ne : (f t == f a) = false := by
        rw [beq_eq_false_iff_ne]
        intro e
        exact hn.1 (by rw [← e]; exact List.mem_map.mpr ⟨t, h, rfl⟩)
      rw [ne]
      exact lookup_nodup f g hn.2 h
section
variable {P : Program} {w : World} {K : PySem.W.Frag} {mg : Str → Option Value} {base : Heap} {txts : List Txt} {G : Glb}
theorem env_start {M : Md} {m : Ms} {H : Hp} {N ps : List Str} {vs : List V} {ds : List D} (r : IsAll M m H vs ds) (hs : N.length - vs.length = N.length - ds.length) : EnvOk M m H (L2.start N vs) (ds.map some ++ List.replicate (N.length - ds.length) none) := by
  have hl := r.length
  refine ⟨fun i d e => ?_, by unfold L2.start; simp [hl]⟩
  by_cases hi : i < ds.length
  · rw [List.getElem?_append_left (by simpa using hi)] at e
    simp only [List.getElem?_map] at e
    cases q : ds[i]? with
    | none => rw [q] at e; cases e
    | some d' =>
      rw [q] at e
      cases e
      obtain ⟨v, e1, is⟩ := r.get q
      refine ⟨v, ?_, is⟩
      unfold L2.start
      rw [List.getElem?_append_left (by simp; omega), List.getElem?_map, e1]; rfl
  · rw [List.getElem?_append_right (by simp; omega)] at e
    have := List.getElem?_replicate (n := N.length - ds.length) (a := (none : Option D)) (i := i - (ds.map some).length)
    rw [this] at e
    split at e <;> cases e
/-- every def keeps its promise, level by level -/
theorem fn_all (hc : chkP G txts = true) (hb : ∀ t ∈ txts, BindOk t) (hd : ∀ t ∈ txts, ∃ fd, FnT K t (He.ga K t.nm) fd) (hg : ∀ t ∈ txts, mg t.nm = some (.ref (He.ga K t.nm)))
    (hf : ∀ x ∈ G.frees, mg x = none) (hgs : ∀ p ∈ G.gs, ∃ v u, mg p.1 = some u ∧ RelV v u ∧ ∀ m H, Is ⟨K, mg, P, w⟩ m H v p.2) :
    ∀ k, ∀ t ∈ txts, ∀ fd, FnT K t (He.ga K t.nm) fd → FnOk P w K mg base (L2.CX P w) k (He.ga K t.nm) fd t.ps (spD ⟨K, mg, P, w⟩ (callK (progOf txts) k t.nm)) := by
  unfold chkP at hc
  simp only [Bool.and_eq_true, List.all_eq_true] at hc
  obtain ⟨⟨hc1, hc2⟩, hc3⟩ := hc
  have hlk : ∀ t ∈ txts, (progOf txts).lookup t.nm = some t.fn := fun t ht => lookup_nodup (fun t : Txt => t.nm) (fun t => t.fn) (nodupB_ok hc2) ht
  intro k
  induction k with
  | zero =>
    intro t ht fd F
    have no : ∀ vs H Q E, ¬ spD ⟨K, mg, P, w⟩ (callK (progOf txts) 0 t.nm) vs H Q E := fun vs H Q E ⟨m, W, ds, _, _, h⟩ => h.elim
    exact ⟨fun vs H Q E h => (no vs H Q E h).elim, fun A outer s H args us vs Q E hr he hb' hv hs => (no vs H Q E hs).elim⟩
  | succ k ih =>
    intro t ht fd F
    have ck := hc1 t ht
    unfold chkF at ck
    simp only [Bool.and_eq_true, beq_iff_eq] at ck
    obtain ⟨⟨⟨c1, c2⟩, c3⟩, c4⟩ := ck
    have S := scB_ok c1
    have un : ∀ ds W, callK (progOf txts) (k + 1) t.nm ds W = fnRun (callK (progOf txts) k) t.fn ds W := fun ds W => by
      show (match (progOf txts).lookup t.nm with | some fn => fnRun (callK (progOf txts) k) fn ds W | none => .bad) = _
      rw [hlk t ht]
    refine F.ok S (fun vs H Q E h => ?_) fun cdv A outer s H vs Q E hr h => ?_
    · obtain ⟨m, W, ds, hw, r, h⟩ := h
      rw [un] at h
      unfold fnRun at h
      split at h
      · rename_i hl
        rw [r.length, hl, c3]
      · exact h.elim
    · obtain ⟨m, W, ds, hw, r, h⟩ := h
      rw [un] at h
      unfold fnRun at h
      split at h
      · rename_i hl
        have X := cxOf (L2.CX P w) P w K mg base t.N t.nm (defScope t.st) (He.ga K t.nm) cdv A outer s H E
        have tk : Takes (cxOf (L2.CX P w) P w K mg base t.N t.nm (defScope t.st) (He.ga K t.nm) cdv A outer s H E) (fun cls d _ H => E cls d H) := takes_of rfl rfl rfl rfl
        have g : Gd (cxOf (L2.CX P w) P w K mg base t.N t.nm (defScope t.st) (He.ga K t.nm) cdv A outer s H E) (callK (progOf txts) k) G := by
          refine ⟨rfl, S.nd, by have := hr.un; show (A.deeper _).units + 200 < _; omega, fun x hx => ?_, hf, hgs⟩
          have hm : x ∈ txts.map (·.nm) := by simpa using hc3 x hx
          obtain ⟨t', ht', rfl⟩ := List.mem_map.mp hm
          obtain ⟨fd', F'⟩ := hd t' ht'
          exact ⟨k, _, fd', t'.ps, ih t' ht' fd' F', hr, hg t' ht', F'.kp, F'.bindsN (hb t' ht')⟩
        refine ⟨_, ok_Ss (Wx := fun cls d _ H => E cls d H) (passes_of rfl) rfl S.kind g ⟨fun x e => e, fun x e => ⟨e, rfl⟩, fun x e => .inr e, fun x e => e⟩ tk t.fn.body _ c2, ?_⟩
        have hlv : vs.length = ds.length := r.length
        refine ⟨ds.map some ++ List.replicate (t.fn.slots - t.fn.many) none, m, W, ?_, hw, ?_⟩
        · have e := env_start (N := t.N) (ps := t.ps) r (by rw [hlv])
          rw [c4, ← hl]
          exact e
        · have h' : aft ⟨K, mg, P, w⟩ (fun c d _ H' => E c d H') m H (match runSs (callK (progOf txts) k) t.fn.body (ds.map some ++ List.replicate (t.fn.slots - t.fn.many) none) W with
              | .nx _ W' => if t.fn.maker = true then .bad else leave W.length .non W'
              | .rt d W' => if t.fn.maker = true then .ok d W' else leave W.length d W'
              | .err e W' => if W'.length ≤ W.length then .err e W' else .bad
              | .bad => .bad) (fun d m' _ H' => ∀ v, Is ⟨K, mg, P, w⟩ m' H' v d → Q v H') := h
          show aftS ⟨K, mg, P, w⟩ (fun cls d _ H => E cls d H) m H (runSs (callK (progOf txts) k) t.fn.body (ds.map some ++ List.replicate (t.fn.slots - t.fn.many) none) W) _
          revert h'
          generalize runSs (callK (progOf txts) k) t.fn.body (ds.map some ++ List.replicate (t.fn.slots - t.fn.many) none) W = res
          intro h'
          cases res with
          | bad => exact h'.elim
          | err e W' =>
            dsimp only at h'
            split at h'
            · exact h'
            · exact h'.elim
          | nx ρ' W' =>
            intro σ' m' H' st hw' he'
            dsimp only at h'
            split at h'
            · exact h'.elim
            · exact leave_ok (v := .non) hw st hw' .non h'
          | rt d W' =>
            intro v m' H' st hw' hv
            dsimp only at h'
            split at h'
            · exact h' m' H' st hw' v hv
            · exact leave_ok hw st hw' hv h'
      · exact h.elim
end

/-! ### a law -/
def faOf (fns frees : List Str) (gs : List (Str × D)) : List He.Fa := fns.map .glo ++ (frees.map .free ++ gs.map fun p => match p.2 with
  | .int i => .int p.1 i
  | .str z => .str p.1 z
  | .tup _ => .glo p.1
  | _ => .free p.1)
/-! tuples of ints, of texts, that the module's names hold -/
def dvA : D → He.Dv
  | .int i => .int i
  | .str z => .str z
  | _ => .non
def flatB : D → Bool
  | .int _ => true
  | .str z => PyData.strOk z
  | _ => false
def tpsOf (gs : List (Str × D)) : List (Str × List He.Dv) := gs.filterMap fun p => match p.2 with
  | .tup xs => some (p.1, xs.map dvA)
  | _ => none
def tpsB (tp : List (Str × List He.Dv)) (K : PySem.W.Frag) : Bool := tp.all fun t => He.tupB K t.1 t.2
def obsX (fa : List He.Fa) (fn : List He.DefD) (tp : List (Str × List He.Dv)) (K : PySem.W.Frag) : He.AlD × Bool := (He.obsD fa fn K, tpsB tp K)
def obsXG (n : Nat) (fa : List He.Fa) (fn : List He.DefD) (tp : List (Str × List He.Dv)) (g : Addr → Option Obj) : He.AlD × Bool := obsX fa fn tp (He.frG g (He.asD g n))
def hookX (n : Nat) (fa : List He.Fa) (fn : List He.DefD) (tp : List (Str × List He.Dv)) : PySem.W.Hook where
  α := He.AlD × Bool
  obs := fun s => obsXG n fa fn tp s.heap.get?
  val := fun _ => (He.valD fn, true)
  says := fun _ h => ∃ K : PySem.W.Frag, K.In h ∧ He.SaysD fa fn K ∧ tpsB tp K = true
  of := fun _ _ e => ⟨_, He.frG_in, congrArg (fun z : He.AlD × Bool => z.1) e, congrArg (fun z : He.AlD × Bool => z.2) e⟩
  keeps := fun _ _ _ ⟨K, hK, c⟩ k => ⟨K, PySem.W.Frag.In.keeps hK k, c⟩
theorem obsXG_eq {n : Nat} {fa : List He.Fa} {fn : List He.DefD} {tp : List (Str × List He.Dv)} {g : Addr → Option Obj} {s : Shared} (h : ∀ a, g a = s.heap.get? a) : obsXG n fa fn tp g = (hookX n fa fn tp).obs s := by
  have e : g = s.heap.get? := funext h
  rw [e] <;> rfl
theorem flat_is {M : Md} {m : Ms} {H : Hp} : ∀ {xs : List D}, xs.all flatB = true → IsAll M m H ((xs.map dvA).map (He.Dv.v M.K)) xs
  | [], _ => .nil
  | x :: xs, h => by
    simp only [List.all_cons, Bool.and_eq_true] at h
    refine .cons ?_ (flat_is h.2)
    cases x with
    | int i => exact .int i
    | str z => exact .str z h.1
    | _ => exact absurd h.1 (by simp [flatB])
theorem tup_fz {K : PySem.W.Frag} {m : Ms} {H : Hp} {a : Addr} {xs : List V} (h : SqT K (fun _ => none) a xs) : FzT K m H a xs := by
  rcases h with h | h
  · rcases h with h | ⟨_, h⟩ <;> cases h
  · exact .inr h
def dOf (t : Txt) : He.DefD := ⟨(t.nm, none), t.nm, t.nm, defArgs t.st, defBody t.st, defScope t.st, [], []⟩
def gsB (gs : List (Str × D)) : Bool := gs.all fun p => match p.2 with
  | .int _ => true
  | .str z => PyData.strOk z
  | .tup xs => xs.all flatB
  | _ => false
theorem says_mem {fa : List He.Fa} {fn : List He.DefD} {K : PySem.W.Frag} (c : He.SaysD fa fn K) {f : He.Fa} (h : f ∈ fa) : f.ok K = true := by
  obtain ⟨i, e⟩ := List.getElem?_of_mem h
  exact c.fact i e
/-- nothing is let out -/
theorem fn_nox {P : Program} {w : World} {K : PySem.W.Frag} {mg : Str → Option Value} {base : Heap} {k : Nat} {f : Addr} {fd : FuncData} {ps : List Str} {sp : Sp} (F : FnOk P w K mg base (L2.CX P w) k f fd ps sp) :
    FnOk P w K mg base CX0 k f fd ps fun vs H Q _ => sp vs H Q fun _ _ _ => False := by
  refine ⟨fun vs H Q E h => F.len vs H Q _ h, fun A outer s H args us vs Q E hr he hb hv hs => codeAny_mono (F.run A outer s H args us vs Q _ hr he hb hv hs) fun r s' hq => ?_⟩
  cases r with
  | error e =>
    obtain ⟨_, _, _, _, _, _, _, _, _, _, _, _, z⟩ := (show L2.CX P w outer H s (fun _ _ _ => False) e s' from hq)
    exact z
  | ok fl => cases fl <;> exact hq
theorem law_facts {P : Program} {w : World} {K : PySem.W.Frag} {h : Heap} {mg : Str → Option Value} {f : Addr} {txts : List Txt} {G : Glb} {k : Nat} {tl : Txt} (X : K.In h) (Gn : h.Ns mainGlobals mg) (hfa : mg ("law" : Str) = some (.ref f))
    (c : He.SaysD (faOf (txts.map (·.nm)) G.frees G.gs) (txts.map dOf) K) (ct : tpsB (tpsOf G.gs) K = true) (hc : chkP G txts = true) (hgs : gsB G.gs = true) (hb : ∀ t ∈ txts, BindOk t) (ht : tl ∈ txts) (hn : tl.nm = ("law" : Str)) (hp : tl.ps = [("script" : Str)]) :
    ∃ fd : FuncData, (∀ (s : Shared) (v : Value), BindsTo s fd ⟨[v], []⟩ [("script", v)]) ∧ ∀ base : Heap, K.In base → base.Ns mainGlobals mg → FnOk P w K mg base CX0 k f fd [("script" : Str)] (fun vs H Q _ => spD ⟨K, mg, P, w⟩ (callK (progOf txts) k ("law" : Str)) vs H Q fun _ _ _ => False) := by
  have hd : ∀ t ∈ txts, ∃ fd, FnT K t (He.ga K t.nm) fd := fun t ht => by
    obtain ⟨i, e⟩ := List.getElem?_of_mem ht
    exact c.def_ i (d := dOf t) (by rw [List.getElem?_map, e]; rfl)
  have hg : ∀ t ∈ txts, mg t.nm = some (.ref (He.ga K t.nm)) := fun t ht => He.glo_ok X Gn (says_mem c (List.mem_append_left _ (List.mem_map.mpr ⟨t.nm, List.mem_map.mpr ⟨t, ht, rfl⟩, rfl⟩)))
  have hf : ∀ x ∈ G.frees, mg x = none := fun x hx => He.free_ok X Gn (says_mem c (List.mem_append_right _ (List.mem_append_left _ (List.mem_map.mpr ⟨x, hx, rfl⟩))))
  have hgs' : ∀ p ∈ G.gs, ∃ v u, mg p.1 = some u ∧ RelV v u ∧ ∀ m H, Is ⟨K, mg, P, w⟩ m H v p.2 := fun p hp => by
    have q := List.all_eq_true.mp hgs p hp
    have fc := says_mem c (List.mem_append_right _ (List.mem_append_right _ (List.mem_map.mpr ⟨p, hp, rfl⟩)))
    obtain ⟨x, d⟩ := p
    cases d with
    | int i =>
      obtain ⟨t, e⟩ := He.int_ok X Gn fc
      exact ⟨.int i, _, e, ⟨t, rfl⟩, fun _ _ => .int i⟩
    | str z =>
      obtain ⟨t, e⟩ := He.str_ok X Gn fc
      exact ⟨.str z, _, e, ⟨t, rfl⟩, fun _ _ => .str z q⟩
    | tup xs =>
      have e := He.glo_ok X Gn fc
      have b := List.all_eq_true.mp ct (x, xs.map dvA) (List.mem_filterMap.mpr ⟨(x, .tup xs), hp, rfl⟩)
      exact ⟨.ref (He.ga K x), _, e, rfl, fun _ _ => .tup (tup_fz (He.tupB_ok b _)) (flat_is q)⟩
    | _ => cases q
  obtain ⟨fd, F⟩ := hd tl ht
  have e := hfa.symm.trans (hn ▸ hg tl ht)
  cases e
  refine ⟨fd, fun s v => ?_, fun base _ _ => ?_⟩
  · have b := F.bindsA (ps := tl.ps) (hb tl ht) s [v] (by rw [hp]; rfl)
    rw [hp] at b
    exact b
  · have r := fn_all (P := P) (w := w) (base := base) hc hb hd hg hf hgs' k tl ht fd F
    rw [hn, hp] at r
    exact fn_nox r
theorem law_sp {P : Program} {w : World} {K : PySem.W.Frag} {mg : Str → Option Value} {g : List D → Wd → R D} {ns : List Int} {H : Hp} {a : Addr} {W : Wd} (hS : SqL K H a (ns.map V.int)) (hr : g [.scr ns] [] = .ok (.bl true) W) :
    spD ⟨K, mg, P, w⟩ g [.ref a] H (fun v _ => v = .bl true) fun _ _ _ => False := by
  refine ⟨⟨[], []⟩, [], [.scr ns], ⟨rfl, .nil, fun i xs e => by simp at e, fun a ha => nomatch ha⟩, .cons (.scr (hS.imp (fun z => ⟨fun y => y.elim (fun q => nomatch q) (fun q => nomatch q), z⟩) id)) .nil, ?_⟩
  rw [hr]
  intro m' H' _ _ v hv
  exact is_bl hv
end PL

/-! PL17: the evaluator's equations for simp. -/
namespace PL
open PySem
@[simp] theorem s_fnRun_eq_1 : type_of% @PL.fnRun.eq_1 := @PL.fnRun.eq_1
@[simp] theorem s_runSs_eq_1 : type_of% @PL.runSs.eq_1 := @PL.runSs.eq_1
@[simp] theorem s_runSs_eq_2 : type_of% @PL.runSs.eq_2 := @PL.runSs.eq_2
@[simp] theorem s_runS_eq_1 : type_of% @PL.runS.eq_1 := @PL.runS.eq_1
@[simp] theorem s_runS_eq_2 : type_of% @PL.runS.eq_2 := @PL.runS.eq_2
@[simp] theorem s_runS_eq_3 : type_of% @PL.runS.eq_3 := @PL.runS.eq_3
@[simp] theorem s_runS_eq_4 : type_of% @PL.runS.eq_4 := @PL.runS.eq_4
@[simp] theorem s_runS_eq_5 : type_of% @PL.runS.eq_5 := @PL.runS.eq_5
@[simp] theorem s_runS_eq_6 : type_of% @PL.runS.eq_6 := @PL.runS.eq_6
@[simp] theorem s_runS_eq_7 : type_of% @PL.runS.eq_7 := @PL.runS.eq_7
@[simp] theorem s_runS_eq_8 : type_of% @PL.runS.eq_8 := @PL.runS.eq_8
@[simp] theorem s_runS_eq_9 : type_of% @PL.runS.eq_9 := @PL.runS.eq_9
@[simp] theorem s_runS_eq_10 : type_of% @PL.runS.eq_10 := @PL.runS.eq_10
@[simp] theorem s_runS_eq_11 : type_of% @PL.runS.eq_11 := @PL.runS.eq_11
@[simp] theorem s_run_eq_1 : type_of% @PL.run.eq_1 := @PL.run.eq_1
@[simp] theorem s_run_eq_2 : type_of% @PL.run.eq_2 := @PL.run.eq_2
@[simp] theorem s_run_eq_3 : type_of% @PL.run.eq_3 := @PL.run.eq_3
@[simp] theorem s_run_eq_4 : type_of% @PL.run.eq_4 := @PL.run.eq_4
@[simp] theorem s_run_eq_5 : type_of% @PL.run.eq_5 := @PL.run.eq_5
@[simp] theorem s_run_eq_6 : type_of% @PL.run.eq_6 := @PL.run.eq_6
@[simp] theorem s_run_eq_7 : type_of% @PL.run.eq_7 := @PL.run.eq_7
@[simp] theorem s_run_eq_8 : type_of% @PL.run.eq_8 := @PL.run.eq_8
@[simp] theorem s_run_eq_9 : type_of% @PL.run.eq_9 := @PL.run.eq_9
@[simp] theorem s_run_eq_10 : type_of% @PL.run.eq_10 := @PL.run.eq_10
@[simp] theorem s_run_eq_11 : type_of% @PL.run.eq_11 := @PL.run.eq_11
@[simp] theorem s_run_eq_12 : type_of% @PL.run.eq_12 := @PL.run.eq_12
@[simp] theorem s_run_eq_13 : type_of% @PL.run.eq_13 := @PL.run.eq_13
@[simp] theorem s_run_eq_14 : type_of% @PL.run.eq_14 := @PL.run.eq_14
@[simp] theorem s_run_eq_15 : type_of% @PL.run.eq_15 := @PL.run.eq_15
@[simp] theorem s_run_eq_16 : type_of% @PL.run.eq_16 := @PL.run.eq_16
@[simp] theorem s_run_eq_17 : type_of% @PL.run.eq_17 := @PL.run.eq_17
@[simp] theorem s_run_eq_18 : type_of% @PL.run.eq_18 := @PL.run.eq_18
@[simp] theorem s_run_eq_19 : type_of% @PL.run.eq_19 := @PL.run.eq_19
@[simp] theorem s_run_eq_20 : type_of% @PL.run.eq_20 := @PL.run.eq_20
@[simp] theorem s_run_eq_21 : type_of% @PL.run.eq_21 := @PL.run.eq_21
@[simp] theorem s_run_eq_22 : type_of% @PL.run.eq_22 := @PL.run.eq_22
@[simp] theorem s_run_eq_23 : type_of% @PL.run.eq_23 := @PL.run.eq_23
@[simp] theorem s_run_eq_24 : type_of% @PL.run.eq_24 := @PL.run.eq_24
@[simp] theorem s_runs_eq_1 : type_of% @PL.runs.eq_1 := @PL.runs.eq_1
@[simp] theorem s_runs_eq_2 : type_of% @PL.runs.eq_2 := @PL.runs.eq_2
@[simp] theorem s_runAnd_eq_1 : type_of% @PL.runAnd.eq_1 := @PL.runAnd.eq_1
@[simp] theorem s_runAnd_eq_2 : type_of% @PL.runAnd.eq_2 := @PL.runAnd.eq_2
@[simp] theorem s_runAnd_eq_3 : type_of% @PL.runAnd.eq_3 := @PL.runAnd.eq_3
@[simp] theorem s_runOr_eq_1 : type_of% @PL.runOr.eq_1 := @PL.runOr.eq_1
@[simp] theorem s_runOr_eq_2 : type_of% @PL.runOr.eq_2 := @PL.runOr.eq_2
@[simp] theorem s_runOr_eq_3 : type_of% @PL.runOr.eq_3 := @PL.runOr.eq_3
@[simp] theorem s_runT_eq_1 : type_of% @PL.runT.eq_1 := @PL.runT.eq_1
@[simp] theorem s_runT_eq_2 : type_of% @PL.runT.eq_2 := @PL.runT.eq_2
@[simp] theorem s_runT_eq_3 : type_of% @PL.runT.eq_3 := @PL.runT.eq_3
@[simp] theorem s_runo_eq_1 : type_of% @PL.runo.eq_1 := @PL.runo.eq_1
@[simp] theorem s_runo_eq_2 : type_of% @PL.runo.eq_2 := @PL.runo.eq_2
@[simp] theorem s_runI_eq_1 : type_of% @PL.runI.eq_1 := @PL.runI.eq_1
@[simp] theorem s_runI_eq_2 : type_of% @PL.runI.eq_2 := @PL.runI.eq_2
@[simp] theorem s_runI_eq_3 : type_of% @PL.runI.eq_3 := @PL.runI.eq_3
@[simp] theorem s_runI_eq_4 : type_of% @PL.runI.eq_4 := @PL.runI.eq_4
@[simp] theorem s_runI_eq_5 : type_of% @PL.runI.eq_5 := @PL.runI.eq_5
@[simp] theorem s_R_bnd_eq_1 : type_of% @PL.R.bnd.eq_1 := @PL.R.bnd.eq_1
@[simp] theorem s_R_bnd_eq_2 : type_of% @PL.R.bnd.eq_2 := @PL.R.bnd.eq_2
@[simp] theorem s_R_bnd_eq_3 : type_of% @PL.R.bnd.eq_3 := @PL.R.bnd.eq_3
@[simp] theorem s_R_bndX_eq_1 : type_of% @PL.R.bndX.eq_1 := @PL.R.bndX.eq_1
@[simp] theorem s_R_bndX_eq_2 : type_of% @PL.R.bndX.eq_2 := @PL.R.bndX.eq_2
@[simp] theorem s_R_thnS_eq_1 : type_of% @PL.R.thnS.eq_1 := @PL.R.thnS.eq_1
@[simp] theorem s_R_thnS_eq_2 : type_of% @PL.R.thnS.eq_2 := @PL.R.thnS.eq_2
@[simp] theorem s_R_thnS_eq_3 : type_of% @PL.R.thnS.eq_3 := @PL.R.thnS.eq_3
@[simp] theorem s_SR_thn_eq_1 : type_of% @PL.SR.thn.eq_1 := @PL.SR.thn.eq_1
@[simp] theorem s_SR_thn_eq_2 : type_of% @PL.SR.thn.eq_2 := @PL.SR.thn.eq_2
@[simp] theorem s_ofO_eq_1 : type_of% @PL.ofO.eq_1 := @PL.ofO.eq_1
@[simp] theorem s_ofO_eq_2 : type_of% @PL.ofO.eq_2 := @PL.ofO.eq_2
@[simp] theorem s_truR_eq_1 : type_of% @PL.truR.eq_1 := @PL.truR.eq_1
@[simp] theorem s_truth_eq_1 : type_of% @PL.truth.eq_1 := @PL.truth.eq_1
@[simp] theorem s_truth_eq_2 : type_of% @PL.truth.eq_2 := @PL.truth.eq_2
@[simp] theorem s_truth_eq_3 : type_of% @PL.truth.eq_3 := @PL.truth.eq_3
@[simp] theorem s_truth_eq_4 : type_of% @PL.truth.eq_4 := @PL.truth.eq_4
@[simp] theorem s_truth_eq_5 : type_of% @PL.truth.eq_5 := @PL.truth.eq_5
@[simp] theorem s_truth_eq_6 : type_of% @PL.truth.eq_6 := @PL.truth.eq_6
@[simp] theorem s_truth_eq_7 : type_of% @PL.truth.eq_7 := @PL.truth.eq_7
@[simp] theorem s_leave_eq_1 : type_of% @PL.leave.eq_1 := @PL.leave.eq_1
@[simp] theorem s_leave_eq_2 : type_of% @PL.leave.eq_2 := @PL.leave.eq_2
@[simp] theorem s_dBin_eq_1 : type_of% @PL.dBin.eq_1 := @PL.dBin.eq_1
@[simp] theorem s_dBin_eq_2 : type_of% @PL.dBin.eq_2 := @PL.dBin.eq_2
@[simp] theorem s_dBin_eq_3 : type_of% @PL.dBin.eq_3 := @PL.dBin.eq_3
@[simp] theorem s_dBin_eq_4 : type_of% @PL.dBin.eq_4 := @PL.dBin.eq_4
@[simp] theorem s_dBin_eq_5 : type_of% @PL.dBin.eq_5 := @PL.dBin.eq_5
@[simp] theorem s_dBin_eq_6 : type_of% @PL.dBin.eq_6 := @PL.dBin.eq_6
@[simp] theorem s_dBin_eq_7 : type_of% @PL.dBin.eq_7 := @PL.dBin.eq_7
@[simp] theorem s_dAdd_eq_1 : type_of% @PL.dAdd.eq_1 := @PL.dAdd.eq_1
@[simp] theorem s_dAdd_eq_2 : type_of% @PL.dAdd.eq_2 := @PL.dAdd.eq_2
@[simp] theorem s_dAdd_eq_3 : type_of% @PL.dAdd.eq_3 := @PL.dAdd.eq_3
@[simp] theorem s_dAdd_eq_4 : type_of% @PL.dAdd.eq_4 := @PL.dAdd.eq_4
@[simp] theorem s_dSub_eq_1 : type_of% @PL.dSub.eq_1 := @PL.dSub.eq_1
@[simp] theorem s_dSub_eq_2 : type_of% @PL.dSub.eq_2 := @PL.dSub.eq_2
@[simp] theorem s_dMul_eq_1 : type_of% @PL.dMul.eq_1 := @PL.dMul.eq_1
@[simp] theorem s_dMul_eq_2 : type_of% @PL.dMul.eq_2 := @PL.dMul.eq_2
@[simp] theorem s_dMul_eq_3 : type_of% @PL.dMul.eq_3 := @PL.dMul.eq_3
@[simp] theorem s_dMul_eq_4 : type_of% @PL.dMul.eq_4 := @PL.dMul.eq_4
@[simp] theorem s_dDiv_eq_1 : type_of% @PL.dDiv.eq_1 := @PL.dDiv.eq_1
@[simp] theorem s_dDiv_eq_2 : type_of% @PL.dDiv.eq_2 := @PL.dDiv.eq_2
@[simp] theorem s_dMod_eq_1 : type_of% @PL.dMod.eq_1 := @PL.dMod.eq_1
@[simp] theorem s_dMod_eq_2 : type_of% @PL.dMod.eq_2 := @PL.dMod.eq_2
@[simp] theorem s_dPow_eq_1 : type_of% @PL.dPow.eq_1 := @PL.dPow.eq_1
@[simp] theorem s_dPow_eq_2 : type_of% @PL.dPow.eq_2 := @PL.dPow.eq_2
@[simp] theorem s_dCmp_eq_1 : type_of% @PL.dCmp.eq_1 := @PL.dCmp.eq_1
@[simp] theorem s_dCmp_eq_2 : type_of% @PL.dCmp.eq_2 := @PL.dCmp.eq_2
@[simp] theorem s_dCmp_eq_3 : type_of% @PL.dCmp.eq_3 := @PL.dCmp.eq_3
@[simp] theorem s_dCmp_eq_4 : type_of% @PL.dCmp.eq_4 := @PL.dCmp.eq_4
@[simp] theorem s_dCmp_eq_5 : type_of% @PL.dCmp.eq_5 := @PL.dCmp.eq_5
@[simp] theorem s_dCmp_eq_6 : type_of% @PL.dCmp.eq_6 := @PL.dCmp.eq_6
@[simp] theorem s_dCmp_eq_7 : type_of% @PL.dCmp.eq_7 := @PL.dCmp.eq_7
@[simp] theorem s_dCmp_eq_8 : type_of% @PL.dCmp.eq_8 := @PL.dCmp.eq_8
@[simp] theorem s_dCmp_eq_9 : type_of% @PL.dCmp.eq_9 := @PL.dCmp.eq_9
@[simp] theorem s_dCmp_eq_10 : type_of% @PL.dCmp.eq_10 := @PL.dCmp.eq_10
@[simp] theorem s_oB_eq_1 : type_of% @PL.oB.eq_1 := @PL.oB.eq_1
@[simp] theorem s_oNB_eq_1 : type_of% @PL.oNB.eq_1 := @PL.oNB.eq_1
@[simp] theorem s_dLt_eq_1 : type_of% @PL.dLt.eq_1 := @PL.dLt.eq_1
@[simp] theorem s_dLt_eq_2 : type_of% @PL.dLt.eq_2 := @PL.dLt.eq_2
@[simp] theorem s_dLt_eq_3 : type_of% @PL.dLt.eq_3 := @PL.dLt.eq_3
@[simp] theorem s_dLe_eq_1 : type_of% @PL.dLe.eq_1 := @PL.dLe.eq_1
@[simp] theorem s_dLe_eq_2 : type_of% @PL.dLe.eq_2 := @PL.dLe.eq_2
@[simp] theorem s_dGt_eq_1 : type_of% @PL.dGt.eq_1 := @PL.dGt.eq_1
@[simp] theorem s_dGt_eq_2 : type_of% @PL.dGt.eq_2 := @PL.dGt.eq_2
@[simp] theorem s_dGe_eq_1 : type_of% @PL.dGe.eq_1 := @PL.dGe.eq_1
@[simp] theorem s_dGe_eq_2 : type_of% @PL.dGe.eq_2 := @PL.dGe.eq_2
@[simp] theorem s_dIs_eq_1 : type_of% @PL.dIs.eq_1 := @PL.dIs.eq_1
@[simp] theorem s_dIs_eq_2 : type_of% @PL.dIs.eq_2 := @PL.dIs.eq_2
@[simp] theorem s_dIs_eq_3 : type_of% @PL.dIs.eq_3 := @PL.dIs.eq_3
@[simp] theorem s_dIs_eq_4 : type_of% @PL.dIs.eq_4 := @PL.dIs.eq_4
@[simp] theorem s_tyName_eq_1 : type_of% @PL.tyName.eq_1 := @PL.tyName.eq_1
@[simp] theorem s_tyName_eq_2 : type_of% @PL.tyName.eq_2 := @PL.tyName.eq_2
@[simp] theorem s_tyName_eq_3 : type_of% @PL.tyName.eq_3 := @PL.tyName.eq_3
@[simp] theorem s_tyName_eq_4 : type_of% @PL.tyName.eq_4 := @PL.tyName.eq_4
@[simp] theorem s_tyName_eq_5 : type_of% @PL.tyName.eq_5 := @PL.tyName.eq_5
@[simp] theorem s_tyName_eq_6 : type_of% @PL.tyName.eq_6 := @PL.tyName.eq_6
@[simp] theorem s_tyName_eq_7 : type_of% @PL.tyName.eq_7 := @PL.tyName.eq_7
@[simp] theorem s_tyName_eq_8 : type_of% @PL.tyName.eq_8 := @PL.tyName.eq_8
@[simp] theorem s_tyName_eq_9 : type_of% @PL.tyName.eq_9 := @PL.tyName.eq_9
@[simp] theorem s_isiB_eq_1 : type_of% @PL.isiB.eq_1 := @PL.isiB.eq_1
@[simp] theorem s_dLen_eq_1 : type_of% @PL.dLen.eq_1 := @PL.dLen.eq_1
@[simp] theorem s_dLen_eq_2 : type_of% @PL.dLen.eq_2 := @PL.dLen.eq_2
@[simp] theorem s_dLen_eq_3 : type_of% @PL.dLen.eq_3 := @PL.dLen.eq_3
@[simp] theorem s_dList_eq_1 : type_of% @PL.dList.eq_1 := @PL.dList.eq_1
@[simp] theorem s_dList_eq_2 : type_of% @PL.dList.eq_2 := @PL.dList.eq_2
@[simp] theorem s_dList_eq_3 : type_of% @PL.dList.eq_3 := @PL.dList.eq_3
@[simp] theorem s_dTuple_eq_1 : type_of% @PL.dTuple.eq_1 := @PL.dTuple.eq_1
@[simp] theorem s_dTuple_eq_2 : type_of% @PL.dTuple.eq_2 := @PL.dTuple.eq_2
@[simp] theorem s_dAbs_eq_1 : type_of% @PL.dAbs.eq_1 := @PL.dAbs.eq_1
@[simp] theorem s_dAbs_eq_2 : type_of% @PL.dAbs.eq_2 := @PL.dAbs.eq_2
@[simp] theorem s_dInt_eq_1 : type_of% @PL.dInt.eq_1 := @PL.dInt.eq_1
@[simp] theorem s_dInt_eq_2 : type_of% @PL.dInt.eq_2 := @PL.dInt.eq_2
@[simp] theorem s_dInt_eq_3 : type_of% @PL.dInt.eq_3 := @PL.dInt.eq_3
@[simp] theorem s_dRepr_eq_1 : type_of% @PL.dRepr.eq_1 := @PL.dRepr.eq_1
@[simp] theorem s_dRepr_eq_2 : type_of% @PL.dRepr.eq_2 := @PL.dRepr.eq_2
@[simp] theorem s_dAll_eq_1 : type_of% @PL.dAll.eq_1 := @PL.dAll.eq_1
@[simp] theorem s_dAll_eq_2 : type_of% @PL.dAll.eq_2 := @PL.dAll.eq_2
@[simp] theorem s_dAny_eq_1 : type_of% @PL.dAny.eq_1 := @PL.dAny.eq_1
@[simp] theorem s_dAny_eq_2 : type_of% @PL.dAny.eq_2 := @PL.dAny.eq_2
@[simp] theorem s_dSum_eq_1 : type_of% @PL.dSum.eq_1 := @PL.dSum.eq_1
@[simp] theorem s_dSum_eq_2 : type_of% @PL.dSum.eq_2 := @PL.dSum.eq_2
@[simp] theorem s_dDict_eq_1 : type_of% @PL.dDict.eq_1 := @PL.dDict.eq_1
@[simp] theorem s_dDict_eq_2 : type_of% @PL.dDict.eq_2 := @PL.dDict.eq_2
@[simp] theorem s_asL_eq_1 : type_of% @PL.asL.eq_1 := @PL.asL.eq_1
@[simp] theorem s_asL_eq_2 : type_of% @PL.asL.eq_2 := @PL.asL.eq_2
@[simp] theorem s_asL_eq_3 : type_of% @PL.asL.eq_3 := @PL.asL.eq_3
@[simp] theorem s_asQ_eq_1 : type_of% @PL.asQ.eq_1 := @PL.asQ.eq_1
@[simp] theorem s_asQ_eq_2 : type_of% @PL.asQ.eq_2 := @PL.asQ.eq_2
@[simp] theorem s_asQ_eq_3 : type_of% @PL.asQ.eq_3 := @PL.asQ.eq_3
@[simp] theorem s_asQ_eq_4 : type_of% @PL.asQ.eq_4 := @PL.asQ.eq_4
@[simp] theorem s_pyW_eq_1 : type_of% @PL.pyW.eq_1 := @PL.pyW.eq_1
@[simp] theorem s_pyW_eq_2 : type_of% @PL.pyW.eq_2 := @PL.pyW.eq_2
@[simp] theorem s_T_put_eq_1 : type_of% @PL.T.put.eq_1 := @PL.T.put.eq_1
@[simp] theorem s_T_put_eq_2 : type_of% @PL.T.put.eq_2 := @PL.T.put.eq_2
@[simp] theorem s_T_put_eq_3 : type_of% @PL.T.put.eq_3 := @PL.T.put.eq_3
@[simp] theorem s_T_puts_eq_1 : type_of% @PL.T.puts.eq_1 := @PL.T.puts.eq_1
@[simp] theorem s_T_puts_eq_2 : type_of% @PL.T.puts.eq_2 := @PL.T.puts.eq_2
@[simp] theorem s_wipeD_eq_1 : type_of% @PL.wipeD.eq_1 := @PL.wipeD.eq_1
@[simp] theorem s_wipeD_eq_2 : type_of% @PL.wipeD.eq_2 := @PL.wipeD.eq_2
@[simp] theorem s_D_low_eq_1 : type_of% @PL.D.low.eq_1 := @PL.D.low.eq_1
@[simp] theorem s_D_low_eq_2 : type_of% @PL.D.low.eq_2 := @PL.D.low.eq_2
@[simp] theorem s_D_low_eq_3 : type_of% @PL.D.low.eq_3 := @PL.D.low.eq_3
@[simp] theorem s_D_low_eq_4 : type_of% @PL.D.low.eq_4 := @PL.D.low.eq_4
@[simp] theorem s_D_low_eq_5 : type_of% @PL.D.low.eq_5 := @PL.D.low.eq_5
@[simp] theorem s_D_lows_eq_1 : type_of% @PL.D.lows.eq_1 := @PL.D.lows.eq_1
@[simp] theorem s_D_lows_eq_2 : type_of% @PL.D.lows.eq_2 := @PL.D.lows.eq_2
@[simp] theorem s_D_py_eq_1 : type_of% @PL.D.py.eq_1 := @PL.D.py.eq_1
@[simp] theorem s_D_py_eq_2 : type_of% @PL.D.py.eq_2 := @PL.D.py.eq_2
@[simp] theorem s_D_py_eq_3 : type_of% @PL.D.py.eq_3 := @PL.D.py.eq_3
@[simp] theorem s_D_py_eq_4 : type_of% @PL.D.py.eq_4 := @PL.D.py.eq_4
@[simp] theorem s_D_py_eq_5 : type_of% @PL.D.py.eq_5 := @PL.D.py.eq_5
@[simp] theorem s_D_py_eq_6 : type_of% @PL.D.py.eq_6 := @PL.D.py.eq_6
@[simp] theorem s_D_py_eq_7 : type_of% @PL.D.py.eq_7 := @PL.D.py.eq_7
@[simp] theorem s_D_pys_eq_1 : type_of% @PL.D.pys.eq_1 := @PL.D.pys.eq_1
@[simp] theorem s_D_pys_eq_2 : type_of% @PL.D.pys.eq_2 := @PL.D.pys.eq_2
@[simp] theorem s_dNeg_eq_1 : type_of% @PL.dNeg.eq_1 := @PL.dNeg.eq_1
@[simp] theorem s_dNeg_eq_2 : type_of% @PL.dNeg.eq_2 := @PL.dNeg.eq_2
@[simp] theorem s_bls_eq_1 : type_of% @PL.bls.eq_1 := @PL.bls.eq_1
@[simp] theorem s_bls_eq_2 : type_of% @PL.bls.eq_2 := @PL.bls.eq_2
@[simp] theorem s_bls_eq_3 : type_of% @PL.bls.eq_3 := @PL.bls.eq_3
@[simp] theorem s_nums_eq_1 : type_of% @PL.nums.eq_1 := @PL.nums.eq_1
@[simp] theorem s_nums_eq_2 : type_of% @PL.nums.eq_2 := @PL.nums.eq_2
@[simp] theorem s_nums_eq_3 : type_of% @PL.nums.eq_3 := @PL.nums.eq_3
@[simp] theorem s_run_eq_25 : type_of% @PL.run.eq_25 := @PL.run.eq_25
@[simp] theorem s_dLt_eq_4 : type_of% @PL.dLt.eq_4 := @PL.dLt.eq_4
@[simp] theorem s_dLe_eq_3 : type_of% @PL.dLe.eq_3 := @PL.dLe.eq_3
@[simp] theorem s_dGt_eq_3 : type_of% @PL.dGt.eq_3 := @PL.dGt.eq_3
@[simp] theorem s_dGe_eq_3 : type_of% @PL.dGe.eq_3 := @PL.dGe.eq_3
@[simp] theorem s_D_low_eq_6 : type_of% @PL.D.low.eq_6 := @PL.D.low.eq_6
@[simp] theorem s_dLenS_eq_1 : type_of% @PL.dLenS.eq_1 := @PL.dLenS.eq_1
@[simp] theorem s_dLenS_eq_2 : type_of% @PL.dLenS.eq_2 := @PL.dLenS.eq_2
@[simp] theorem s_dIxA_eq_1 : type_of% @PL.dIxA.eq_1 := @PL.dIxA.eq_1
@[simp] theorem s_dIxA_eq_2 : type_of% @PL.dIxA.eq_2 := @PL.dIxA.eq_2
@[simp] theorem s_mtOk_eq_1 : type_of% @PL.mtOk.eq_1 := @PL.mtOk.eq_1
@[simp] theorem s_mtOk_eq_2 : type_of% @PL.mtOk.eq_2 := @PL.mtOk.eq_2
@[simp] theorem s_mtOk_eq_3 : type_of% @PL.mtOk.eq_3 := @PL.mtOk.eq_3
@[simp] theorem s_mtOk_eq_4 : type_of% @PL.mtOk.eq_4 := @PL.mtOk.eq_4
@[simp] theorem s_mtOk_eq_5 : type_of% @PL.mtOk.eq_5 := @PL.mtOk.eq_5
@[simp] theorem s_dRev_eq_1 : type_of% @PL.dRev.eq_1 := @PL.dRev.eq_1
@[simp] theorem s_dMax_eq_1 : type_of% @PL.dMax.eq_1 := @PL.dMax.eq_1
@[simp] theorem s_dMin_eq_1 : type_of% @PL.dMin.eq_1 := @PL.dMin.eq_1
@[simp] theorem s_bi_len : type_of% @PL.bi_len := @PL.bi_len
@[simp] theorem s_bi_all : type_of% @PL.bi_all := @PL.bi_all
@[simp] theorem s_bi_any : type_of% @PL.bi_any := @PL.bi_any
@[simp] theorem s_bi_sum : type_of% @PL.bi_sum := @PL.bi_sum
@[simp] theorem s_bi_list : type_of% @PL.bi_list := @PL.bi_list
@[simp] theorem s_bi_tuple : type_of% @PL.bi_tuple := @PL.bi_tuple
@[simp] theorem s_bi_abs : type_of% @PL.bi_abs := @PL.bi_abs
@[simp] theorem s_bi_int : type_of% @PL.bi_int := @PL.bi_int
@[simp] theorem s_bi_repr : type_of% @PL.bi_repr := @PL.bi_repr
@[simp] theorem s_bi_dict : type_of% @PL.bi_dict := @PL.bi_dict
@[simp] theorem s_bi_set : type_of% @PL.bi_set := @PL.bi_set
@[simp] theorem s_bi_sorted : type_of% @PL.bi_sorted := @PL.bi_sorted
@[simp] theorem s_bi_max : type_of% @PL.bi_max := @PL.bi_max
@[simp] theorem s_bi_min : type_of% @PL.bi_min := @PL.bi_min
@[simp] theorem s_D_low_eq_7 : type_of% @PL.D.low.eq_7 := @PL.D.low.eq_7
@[simp] theorem s_dLenS_eq_3 : type_of% @PL.dLenS.eq_3 := @PL.dLenS.eq_3
@[simp] theorem s_dLenS_eq_4 : type_of% @PL.dLenS.eq_4 := @PL.dLenS.eq_4
@[simp] theorem s_dIxA_eq_3 : type_of% @PL.dIxA.eq_3 := @PL.dIxA.eq_3
@[simp] theorem s_dIxA_eq_4 : type_of% @PL.dIxA.eq_4 := @PL.dIxA.eq_4
@[simp] theorem s_isDct_eq_1 : type_of% @PL.isDct.eq_1 := @PL.isDct.eq_1
@[simp] theorem s_isDct_eq_2 : type_of% @PL.isDct.eq_2 := @PL.isDct.eq_2
@[simp] theorem s_isDct_eq_3 : type_of% @PL.isDct.eq_3 := @PL.isDct.eq_3
@[simp] theorem s_dGetD_eq_1 : type_of% @PL.dGetD.eq_1 := @PL.dGetD.eq_1
@[simp] theorem s_dGetD_eq_2 : type_of% @PL.dGetD.eq_2 := @PL.dGetD.eq_2
@[simp] theorem s_dGetD_eq_3 : type_of% @PL.dGetD.eq_3 := @PL.dGetD.eq_3
@[simp] theorem s_dGetD_eq_4 : type_of% @PL.dGetD.eq_4 := @PL.dGetD.eq_4
@[simp] theorem s_dGetD_eq_5 : type_of% @PL.dGetD.eq_5 := @PL.dGetD.eq_5
@[simp] theorem s_keyD_eq_1 : type_of% @PL.keyD.eq_1 := @PL.keyD.eq_1
@[simp] theorem s_keyD_eq_2 : type_of% @PL.keyD.eq_2 := @PL.keyD.eq_2
@[simp] theorem s_keysD_eq_1 : type_of% @PL.keysD.eq_1 := @PL.keysD.eq_1
@[simp] theorem s_keysD_eq_2 : type_of% @PL.keysD.eq_2 := @PL.keysD.eq_2
@[simp] theorem s_pairsT_eq_1 : type_of% @PL.pairsT.eq_1 := @PL.pairsT.eq_1
@[simp] theorem s_pairsT_eq_2 : type_of% @PL.pairsT.eq_2 := @PL.pairsT.eq_2
@[simp] theorem s_pairsT_eq_3 : type_of% @PL.pairsT.eq_3 := @PL.pairsT.eq_3
@[simp] theorem s_tabGet_eq_1 : type_of% @PL.tabGet.eq_1 := @PL.tabGet.eq_1
@[simp] theorem s_tabGet_eq_2 : type_of% @PL.tabGet.eq_2 := @PL.tabGet.eq_2
@[simp] theorem s_run_eq_26 : type_of% @PL.run.eq_26 := @PL.run.eq_26
@[simp] theorem s_run_eq_27 : type_of% @PL.run.eq_27 := @PL.run.eq_27
@[simp] theorem s_dLrg_eq_1 : type_of% @PL.dLrg.eq_1 := @PL.dLrg.eq_1
@[simp] theorem leave_le {n : Nat} {d : D} {W : Wd} (h : W.length ≤ n) : leave n d W = .ok d W := by unfold leave; rw [if_pos h]
end PL

/-! LB: laws of the evaluator on data, whatever the program. -/
namespace PL
open PySem

/-! ### == of data without bools -/
mutual
/-- ints, texts, None, tuples and lists of such -/
def Nb : D → Bool
  | .non => true
  | .int _ => true
  | .str _ => true
  | .tup xs => Nbs xs
  | .lst xs => Nbs xs
  | _ => false
def Nbs : List D → Bool
  | [] => true
  | x :: xs => Nb x && Nbs xs
end
theorem Nbs_all (xs : List D) : Nbs xs = xs.all Nb := by
  induction xs with
  | nil => rfl
  | cons x xs ih => simp [Nbs, ih]
mutual
theorem Nb.py : ∀ {d : D}, Nb d = true → ∃ p, d.py = some p
  | .non, _ => ⟨_, rfl⟩
  | .int _, _ => ⟨_, rfl⟩
  | .str _, _ => ⟨_, rfl⟩
  | .tup xs, h => by
    obtain ⟨ps, e⟩ := Nbs.py (xs := xs) (by simpa only [Nb] using h)
    exact ⟨.tuple ps, by simp [D.py, e]⟩
  | .lst xs, h => by
    obtain ⟨ps, e⟩ := Nbs.py (xs := xs) (by simpa only [Nb] using h)
    exact ⟨.list ps, by simp [D.py, e]⟩
  | .bl _, h => by simp [Nb] at h
  | .dct _, h => by simp [Nb] at h
  | .dtt _ _, h => by simp [Nb] at h
  | .set _, h => by simp [Nb] at h
  | .fn _, h => by simp [Nb] at h
  | .ref _, h => by simp [Nb] at h
  | .scr _, h => by simp [Nb] at h
theorem Nbs.py : ∀ {xs : List D}, Nbs xs = true → ∃ ps, D.pys xs = some ps
  | [], _ => ⟨[], rfl⟩
  | x :: xs, h => by
    simp only [Nbs, Bool.and_eq_true] at h
    obtain ⟨p, e1⟩ := Nb.py h.1
    obtain ⟨ps, e2⟩ := Nbs.py h.2
    exact ⟨p :: ps, by simp [D.pys, e1, e2]⟩
end
mutual
theorem Nb.eqv : ∀ {a b : D}, Nb a = true → Nb b = true → ∀ {p q : PyData}, a.py = some p → b.py = some q → PyData.eqv p q = D.same a b
  | .non, b, _, hb, p, q, e1, e2 => by
    simp [D.py] at e1; subst e1
    cases b <;> simp [D.py, Nb] at e2 hb <;> first | (subst e2; simp [PyData.eqv, D.same]) | (obtain ⟨_, _, rfl⟩ := e2; simp [PyData.eqv, D.same])
  | .int i, b, _, hb, p, q, e1, e2 => by
    simp [D.py] at e1; subst e1
    cases b <;> simp [D.py, Nb] at e2 hb <;> first | (subst e2; simp [PyData.eqv, D.same]) | (obtain ⟨_, _, rfl⟩ := e2; simp [PyData.eqv, D.same])
  | .str x, b, _, hb, p, q, e1, e2 => by
    simp [D.py] at e1; subst e1
    cases b <;> simp [D.py, Nb] at e2 hb <;> first | (subst e2; simp [PyData.eqv, D.same]) | (obtain ⟨_, _, rfl⟩ := e2; simp [PyData.eqv, D.same])
  | .tup xs, b, ha, hb, p, q, e1, e2 => by
    simp [D.py] at e1
    obtain ⟨ps, f1, rfl⟩ := e1
    cases b with
    | tup ys =>
      simp [D.py] at e2
      obtain ⟨qs, f2, rfl⟩ := e2
      have := Nbs.eqv (a := xs) (b := ys) (by simpa only [Nb] using ha) (by simpa only [Nb] using hb) f1 f2
      simpa [PyData.eqv, D.same] using this
    | _ => simp [D.py, Nb] at e2 hb <;> first | (subst e2; simp [PyData.eqv, D.same]) | (obtain ⟨_, _, rfl⟩ := e2; simp [PyData.eqv, D.same])
  | .lst xs, b, ha, hb, p, q, e1, e2 => by
    simp [D.py] at e1
    obtain ⟨ps, f1, rfl⟩ := e1
    cases b with
    | lst ys =>
      simp [D.py] at e2
      obtain ⟨qs, f2, rfl⟩ := e2
      have := Nbs.eqv (a := xs) (b := ys) (by simpa only [Nb] using ha) (by simpa only [Nb] using hb) f1 f2
      simpa [PyData.eqv, D.same] using this
    | _ => simp [D.py, Nb] at e2 hb <;> first | (subst e2; simp [PyData.eqv, D.same]) | (obtain ⟨_, _, rfl⟩ := e2; simp [PyData.eqv, D.same])
  | .bl _, _, h, _, _, _, _, _ => by simp [Nb] at h
  | .dct _, _, h, _, _, _, _, _ => by simp [Nb] at h
  | .dtt _ _, _, h, _, _, _, _, _ => by simp [Nb] at h
  | .set _, _, h, _, _, _, _, _ => by simp [Nb] at h
  | .fn _, _, h, _, _, _, _, _ => by simp [Nb] at h
  | .ref _, _, h, _, _, _, _, _ => by simp [Nb] at h
  | .scr _, _, h, _, _, _, _, _ => by simp [Nb] at h
theorem Nbs.eqv : ∀ {a b : List D}, Nbs a = true → Nbs b = true → ∀ {p q : List PyData}, D.pys a = some p → D.pys b = some q → PyData.eqvAll p q = D.sames a b
  | [], [], _, _, p, q, e1, e2 => by simp [D.pys] at e1 e2; subst e1; subst e2; rfl
  | [], y :: b, _, hb, p, q, e1, e2 => by
    simp [D.pys] at e1; subst e1
    simp only [Nbs, Bool.and_eq_true] at hb
    obtain ⟨p1, f1⟩ := Nb.py hb.1
    obtain ⟨p2, f2⟩ := Nbs.py hb.2
    simp [D.pys, f1, f2] at e2; subst e2
    simp [PyData.eqvAll, D.sames]
  | x :: a, [], ha, _, p, q, e1, e2 => by
    simp [D.pys] at e2; subst e2
    simp only [Nbs, Bool.and_eq_true] at ha
    obtain ⟨p1, f1⟩ := Nb.py ha.1
    obtain ⟨p2, f2⟩ := Nbs.py ha.2
    simp [D.pys, f1, f2] at e1; subst e1
    simp [PyData.eqvAll, D.sames]
  | x :: a, y :: b, ha, hb, p, q, e1, e2 => by
    simp only [Nbs, Bool.and_eq_true] at ha hb
    obtain ⟨p1, f1⟩ := Nb.py ha.1
    obtain ⟨p2, f2⟩ := Nbs.py ha.2
    obtain ⟨q1, g1⟩ := Nb.py hb.1
    obtain ⟨q2, g2⟩ := Nbs.py hb.2
    simp [D.pys, f1, f2] at e1; subst e1
    simp [D.pys, g1, g2] at e2; subst e2
    simp [PyData.eqvAll, D.sames, Nb.eqv ha.1 hb.1 f1 g1, Nbs.eqv ha.2 hb.2 f2 g2]
end
mutual
theorem Nb.refl : ∀ {d : D}, Nb d = true → D.same d d = true
  | .non, _ => rfl
  | .int _, _ => by simp [D.same]
  | .str _, _ => by simp [D.same]
  | .tup xs, h => by simpa [D.same] using Nbs.refl (xs := xs) (by simpa only [Nb] using h)
  | .lst xs, h => by simpa [D.same] using Nbs.refl (xs := xs) (by simpa only [Nb] using h)
  | .bl _, h => by simp [Nb] at h
  | .dct _, h => by simp [Nb] at h
  | .dtt _ _, h => by simp [Nb] at h
  | .set _, h => by simp [Nb] at h
  | .fn _, h => by simp [Nb] at h
  | .ref _, h => by simp [Nb] at h
  | .scr _, h => by simp [Nb] at h
theorem Nbs.refl : ∀ {xs : List D}, Nbs xs = true → D.sames xs xs = true
  | [], _ => rfl
  | x :: xs, h => by
    simp only [Nbs, Bool.and_eq_true] at h
    simp [D.sames, Nb.refl h.1, Nbs.refl h.2]
end
theorem same_iff {a b : D} (ha : Nb a = true) : D.same a b = true ↔ a = b := ⟨D.same_ok, fun e => e ▸ Nb.refl ha⟩
theorem pyW_nb (W : Wd) {d : D} (h : Nb d = true) : pyW W d = d.py := by
  cases d <;> first | rfl | simp [Nb] at h
theorem eq_nb (W : Wd) {a b : D} (ha : Nb a = true) (hb : Nb b = true) (hd : D.depth a ≤ 100 ∨ D.depth b ≤ 100) : dEq W a b = some (D.same a b) := by
  obtain ⟨p, e1⟩ := Nb.py ha
  obtain ⟨q, e2⟩ := Nb.py hb
  unfold dEq
  rw [pyW_nb W ha, pyW_nb W hb, e1, e2]
  have h1 := depth_py e1
  have h2 := depth_py e2
  show (if min p.depth q.depth ≤ 100 then some (PyData.eqv p q) else none) = _
  rw [if_pos (by omega), Nb.eqv ha hb e1 e2]
theorem Nbs.mem {xs : List D} (h : Nbs xs = true) {x : D} (hx : x ∈ xs) : Nb x = true := by
  rw [Nbs_all] at h
  exact List.all_eq_true.mp h x hx
/-- x in a list or tuple -/
theorem in_nb (W : Wd) {a b : D} {xs : List D} (hb : asQ W b = some xs) (ha : Nb a = true) (hx : Nbs xs = true) (hd : D.depth a ≤ 100) : dIn W a b = some (xs.any fun y => D.same y a) := by
  obtain ⟨p, e1⟩ := Nb.py ha
  obtain ⟨ps, e2⟩ := Nbs.py hx
  have h1 := depth_py e1
  have ha' := pyW_nb W ha
  have main : (match asQ W b with
    | some ds => match D.pys ds, pyW W a with
      | some ps, some p => if min (PyData.depthAll ps) p.depth ≤ 100 then some (ps.any fun y => PyData.eqv y p) else none
      | _, _ => none
    | none => none) = some (xs.any fun y => D.same y a) := by
    rw [hb, ha', e1]
    simp only [e2]
    rw [if_pos (by omega)]
    congr 1
    clear hb
    induction xs generalizing ps with
    | nil => simp [D.pys] at e2; subst e2; rfl
    | cons x xs ih =>
      simp only [Nbs, Bool.and_eq_true] at hx
      obtain ⟨q, f1⟩ := Nb.py hx.1
      obtain ⟨qs, f2⟩ := Nbs.py hx.2
      simp [D.pys, f1, f2] at e2; subst e2
      simp only [List.any_cons, ih hx.2 qs f2, Nb.eqv hx.1 ha f1 e1]
  cases b with
  | str _ => simp [asQ] at hb
  | dct _ => simp [asQ] at hb
  | dtt _ _ => simp [asQ] at hb
  | _ => exact main
theorem eq_lnil (W : Wd) {xs : List D} (h : Nbs xs = true) : dEq W (.lst xs) (.lst []) = some xs.isEmpty := by
  rw [eq_nb W (by simpa [Nb] using h) rfl (.inr (by simp [D.depth, D.depths]))]
  cases xs <;> simp [D.same, D.sames]
theorem eq_tnil (W : Wd) {xs : List D} (h : Nbs xs = true) : dEq W (.tup xs) (.tup []) = some xs.isEmpty := by
  rw [eq_nb W (by simpa [Nb] using h) rfl (.inr (by simp [D.depth, D.depths]))]
  cases xs <;> simp [D.same, D.sames]
/-! ### rows -/
theorem nb_ints (k : List Int) : Nbs (k.map .int) = true := by
  induction k with
  | nil => rfl
  | cons a k ih => simp [Nbs, Nb, ih]
@[simp] theorem nb_tupD (k : List Int) : Nb (tupD k) = true := by simp [tupD, Nb, nb_ints]
theorem nb_rows (ks : List (List Int)) : Nbs (ks.map tupD) = true := by
  induction ks with
  | nil => rfl
  | cons k ks ih => simp [Nbs, ih]
theorem depths_ints (k : List Int) : D.depths (k.map .int) ≤ 1 := by
  induction k with
  | nil => simp [D.depths]
  | cons a k ih => simp [D.depths, D.depth]; omega
theorem depth_tupD (k : List Int) : D.depth (tupD k) ≤ 2 := by
  have := depths_ints k
  simp [tupD, D.depth]; omega
theorem depths_rows (ks : List (List Int)) : D.depths (ks.map tupD) ≤ 3 := by
  induction ks with
  | nil => simp [D.depths]
  | cons k ks ih =>
    have := depth_tupD k
    simp [D.depths]; omega
theorem same_ints (a b : List Int) : D.sames (a.map .int) (b.map .int) = decide (a = b) := sames_int a b
@[simp] theorem same_tupD (a b : List Int) : D.same (tupD a) (tupD b) = decide (a = b) := by simp [tupD, D.same, sames_int]
theorem sames_rows : ∀ a b : List (List Int), D.sames (a.map tupD) (b.map tupD) = decide (a = b)
  | [], [] => rfl
  | [], _ :: _ => rfl
  | _ :: _, [] => rfl
  | x :: a, y :: b => by
    simp only [List.map_cons, D.sames, same_tupD, sames_rows a b, List.cons.injEq, Bool.decide_and]
@[simp] theorem eq_str (W : Wd) (a b : Str) : dEq W (.str a) (.str b) = some (a == b) := by simp [dEq, PyData.depth, PyData.eqv]
@[simp] theorem eq_int (W : Wd) (a b : Int) : dEq W (.int a) (.int b) = some (a == b) := by simp [dEq, PyData.depth, PyData.eqv]
@[simp] theorem eq_bl (W : Wd) (a b : Bool) : dEq W (.bl a) (.bl b) = some (a == b) := by simp [dEq, PyData.depth, PyData.eqv]
theorem eq_tupD (W : Wd) (a b : List Int) : dEq W (tupD a) (tupD b) = some (decide (a = b)) := by
  have := depth_tupD a
  rw [eq_nb W (nb_tupD a) (nb_tupD b) (by omega), same_tupD]
theorem any_eq {α : Type} [DecidableEq α] (f : α → D) (k : α) (hs : ∀ a, D.same (f a) (f k) = decide (a = k)) (ks : List α) : ((ks.map f).any fun y => D.same y (f k)) = decide (k ∈ ks) := by
  induction ks with
  | nil => simp
  | cons a ks ih =>
    simp only [List.map_cons, List.any_cons, ih, hs, List.mem_cons]
    by_cases h : a = k
    · simp [h]
    · have h' : ¬ k = a := fun e => h e.symm
      simp [h, h']
theorem in_rows (W : Wd) (k : List Int) {b : D} {ks : List (List Int)} (hb : asQ W b = some (ks.map tupD)) : dIn W (tupD k) b = some (decide (k ∈ ks)) := by
  have := depth_tupD k
  rw [in_nb W hb (nb_tupD k) (nb_rows ks) (by omega), any_eq tupD k fun a => same_tupD a k]
  exact congrArg some (decide_eq_decide.mpr Iff.rfl)
theorem in_ints (W : Wd) (i : Int) {b : D} {ns : List Int} (hb : asQ W b = some (ns.map .int)) : dIn W (.int i) b = some (decide (i ∈ ns)) := by
  rw [in_nb W hb rfl (nb_ints ns) (by simp [D.depth]), any_eq D.int i fun a => by simp [D.same]; rfl]
theorem nb_strs (k : List Str) : Nbs (k.map .str) = true := by
  induction k with
  | nil => rfl
  | cons a k ih => simp [Nbs, Nb, ih]
theorem in_strs (W : Wd) (i : Str) {b : D} {ns : List Str} (hb : asQ W b = some (ns.map .str)) : dIn W (.str i) b = some (decide (i ∈ ns)) := by
  rw [in_nb W hb rfl (nb_strs ns) (by simp [D.depth]), any_eq D.str i fun a => by simp [D.same]; rfl]
/-! ### the order of rows -/
theorem alk_ints (a b : List Int) : D.alks (a.map .int) (b.map .int) = true := alks_ints (by simp [D.isInt]) (by simp [D.isInt])
theorem pysD_ints (u : List Int) : D.pys (u.map .int) = some (u.map .int) := by
  induction u with
  | nil => rfl
  | cons a u ih => simp [ih]
theorem cmpT_ints (a b : List Int) : cmpT (a.map .int) (b.map .int) = true := by
  have := depths_ints a
  simp [cmpT, alk_ints, pysD_ints]; omega
theorem lt_tupD (W : Wd) (a b : List Int) : dLt W (tupD a) (tupD b) = some (decide (a < b)) := by
  unfold tupD
  rw [dLt, if_pos (cmpT_ints a b), ltbs_int]
/-! ### sets -/
theorem nums_ints (k : List Int) : nums (k.map .int) = some k := by
  induction k with
  | nil => rfl
  | cons a k ih => simp [nums, ih]
theorem nums_rows : ∀ (ks : List (List Int)), ks ≠ [] → nums (ks.map tupD) = none
  | [], h => absurd rfl h
  | k :: ks, _ => rfl
theorem tupsI_rows (ks : List (List Int)) : tupsI (ks.map tupD) = some ks := by
  induction ks with
  | nil => rfl
  | cons a ks ih =>
    show (match nums (a.map .int), tupsI (ks.map tupD) with
      | some k, some ks => some (k :: ks)
      | _, _ => none) = _
    rw [nums_ints, ih]
theorem set_rowsQ (W : Wd) {b : D} {ks : List (List Int)} (hb : asQ W b = some (ks.map tupD)) (h : ks.length < 1200) : dSet W [b] = some (D.set ((sortL ks).map tupD)) := by
  show (match asQ W b with
    | some xs => match nums xs with
      | some ns => if ns.length < 4095 then some (D.set (usortD xs)) else none
      | none => match tupsI xs with
        | some ks => if ks.length < 1200 then some (D.set (usortD xs)) else none
        | none => none
    | none => none) = _
  rw [hb]
  by_cases e : ks = []
  · subst e; rfl
  · simp only [nums_rows ks e, tupsI_rows]
    rw [if_pos h, usortD_tup]
theorem set_rows (W : Wd) {ks : List (List Int)} (h : ks.length < 1200) : dSet W [.lst (ks.map tupD)] = some (D.set ((sortL ks).map tupD)) := set_rowsQ W rfl h
theorem set_ints (W : Wd) {b : D} {ns : List Int} (hb : asQ W b = some (ns.map .int)) (h : ns.length < 4095) : dSet W [b] = some (D.set ((sortI ns).map .int)) := by
  show (match asQ W b with
      | some xs => match nums xs with
        | some ns => if ns.length < 4095 then some (D.set (usortD xs)) else none
        | none => match tupsI xs with
        | some ks => if ks.length < 1200 then some (D.set (usortD xs)) else none
        | none => none
      | none => none) = _
  rw [hb]
  simp only [nums_ints]
  rw [if_pos h, usortD_int]
theorem insL_len (x : List Int) (l : List (List Int)) : (insL x l).length ≤ l.length + 1 := by
  induction l with
  | nil => simp [insL]
  | cons y ys ih =>
    unfold insL
    split
    · simp
    · split
      · simp
      · simp; omega
theorem sortL_len (l : List (List Int)) : (sortL l).length ≤ l.length := by
  induction l with
  | nil => simp [sortL]
  | cons y ys ih =>
    have := insL_len y (sortL ys)
    simp [sortL]; omega
theorem insI_len (x : Int) (l : List Int) : (insI x l).length ≤ l.length + 1 := by
  induction l with
  | nil => simp [insI]
  | cons y ys ih =>
    unfold insI
    split
    · simp
    · split
      · simp
      · simp; omega
theorem sortI_len (l : List Int) : (sortI l).length ≤ l.length := by
  induction l with
  | nil => simp [sortI]
  | cons y ys ih =>
    have := insI_len y (sortI ys)
    simp [sortI]; omega
/-- rows of one width -/
theorem sort_rows (W : Wd) (n : Nat) {ks : List (List Int)} (h : ∀ k ∈ ks, k.length = n) : dSort W [D.set ((sortL ks).map tupD)] = some (.lst ((sortL ks).map tupD)) := by
  show (if ((sortL ks).map tupD).length < 2 ∨ ((sortL ks).map tupD).all tupNe = true ∨ ((sortL ks).map tupD).all notTup = true then some (D.lst ((sortL ks).map tupD)) else none) = _
  refine if_pos ?_
  have hs : ∀ k ∈ sortL ks, k.length = n := fun k hk => h k (sortL_mem.mp hk)
  by_cases h0 : n = 0
  · left
    have pw := sortL_pw ks
    rw [List.length_map]
    match hq : sortL ks, pw, hs with
    | [], _, _ => simp
    | [_], _, _ => simp
    | x :: y :: r, pw, hs =>
      have e1 : x = [] := List.eq_nil_of_length_eq_zero ((hs x (by simp)).trans h0)
      have e2 : y = [] := List.eq_nil_of_length_eq_zero ((hs y (by simp)).trans h0)
      rw [List.pairwise_cons] at pw
      have := pw.1 y (by simp)
      rw [e1, e2] at this
      exact absurd this (ltL_irr _)
  · right; left
    simp only [List.all_eq_true, List.mem_map, forall_exists_index, and_imp]
    rintro d k hk rfl
    have := hs k hk
    cases k with
    | nil => simp at this; omega
    | cons _ _ => rfl
theorem sort_ints (W : Wd) (ns : List Int) : dSort W [D.set (ns.map .int)] = some (.lst (ns.map .int)) := by
  show (if (ns.map D.int).length < 2 ∨ (ns.map D.int).all tupNe = true ∨ (ns.map D.int).all notTup = true then some (D.lst (ns.map .int)) else none) = _
  refine if_pos (.inr (.inr ?_))
  simp [notTup]
/-! ### loops -/
theorem lc_map {asg : D → Wd → Option EnvD} {tst : EnvD → Wd → R Bool} {elt : EnvD → Wd → R D} {W : Wd} (f : D → D) : ∀ {xs : List D}, (∀ x ∈ xs, ∃ ρ, asg x W = some ρ ∧ tst ρ W = .ok true W ∧ elt ρ W = .ok (f x) W) → lcLoop asg tst elt xs W = .ok (xs.map f) W
  | [], _ => rfl
  | x :: xs, h => by
    obtain ⟨ρ, h1, h2, h3⟩ := h x (by simp)
    have ih := lc_map f (xs := xs) fun y hy => h y (by simp [hy])
    simp [lcLoop, h1, h2, h3, ih]
theorem lc_mapi {α : Type} {asg : D → Wd → Option EnvD} {tst : EnvD → Wd → R Bool} {elt : EnvD → Wd → R D} {W : Wd} (h f : α → D) : ∀ {xs : List α}, (∀ x ∈ xs, ∃ ρ, asg (h x) W = some ρ ∧ tst ρ W = .ok true W ∧ elt ρ W = .ok (f x) W) → lcLoop asg tst elt (xs.map h) W = .ok (xs.map f) W
  | [], _ => rfl
  | x :: xs, hh => by
    obtain ⟨ρ, h1, h2, h3⟩ := hh x (by simp)
    have ih := lc_mapi h f (xs := xs) fun y hy => hh y (by simp [hy])
    simp [lcLoop, h1, h2, h3, ih]
theorem lc_filt {α : Type} {asg : D → Wd → Option EnvD} {tst : EnvD → Wd → R Bool} {elt : EnvD → Wd → R D} {W : Wd} (h f : α → D) (p : α → Bool) : ∀ {xs : List α}, (∀ x ∈ xs, ∃ ρ, asg (h x) W = some ρ ∧ tst ρ W = .ok (p x) W ∧ (p x = true → elt ρ W = .ok (f x) W)) → lcLoop asg tst elt (xs.map h) W = .ok ((xs.filter p).map f) W
  | [], _ => rfl
  | x :: xs, hh => by
    obtain ⟨ρ, h1, h2, h3⟩ := hh x (by simp)
    have ih := lc_filt h f p (xs := xs) fun y hy => hh y (by simp [hy])
    cases hp : p x
    · rw [hp] at h2
      simp [lcLoop, h1, h2, ih, hp]
    · rw [hp] at h2
      simp [lcLoop, h1, h2, h3 hp, ih, hp]
theorem lc2_map {α : Type} {asg : D → Wd → Option EnvD} {tst : EnvD → Wd → R Bool} {inn : EnvD → Wd → R (List D)} {W : Wd} (h : α → D) (f : α → List D) : ∀ {xs : List α}, (∀ x ∈ xs, ∃ ρ, asg (h x) W = some ρ ∧ tst ρ W = .ok true W ∧ inn ρ W = .ok (f x) W) → lc2Loop asg tst inn (xs.map h) W = .ok (xs.flatMap f) W
  | [], _ => rfl
  | x :: xs, hh => by
    obtain ⟨ρ, h1, h2, h3⟩ := hh x (by simp)
    have ih := lc2_map h f (xs := xs) fun y hy => hh y (by simp [hy])
    simp [lc2Loop, h1, h2, h3, ih]
/-- a loop that gathers: at each turn the slots follow a relation -/
theorem for_inv {α : Type} {asg : D → EnvD → Wd → Option EnvD} {body : EnvD → Wd → SR} {W : Wd} (h : α → D) (I : List α → EnvD → Prop) : ∀ {xs done : List α} {ρ : EnvD}, I done ρ → (∀ done x ρ, I done ρ → x ∈ xs → ∃ ρ1 ρ2, asg (h x) ρ W = some ρ1 ∧ body ρ1 W = .nx ρ2 W ∧ I (done ++ [x]) ρ2) →
    ∃ ρ', forLoop asg body (xs.map h) ρ W = .nx ρ' W ∧ I (done ++ xs) ρ'
  | [], done, ρ, hI, _ => ⟨ρ, rfl, by simpa using hI⟩
  | x :: xs, done, ρ, hI, hh => by
    obtain ⟨ρ1, ρ2, h1, h2, h3⟩ := hh done x ρ hI (by simp)
    obtain ⟨ρ', g1, g2⟩ := for_inv h I (xs := xs) h3 fun d y ρ hI hy => hh d y ρ hI (by simp [hy])
    exact ⟨ρ', by simp [forLoop, h1, h2, g1], by simpa using g2⟩
theorem for_pre {α : Type} {asg : D → EnvD → Wd → Option EnvD} {body : EnvD → Wd → SR} {W : Wd} (h : α → D) (I : List α → EnvD → Prop) {xs : List α} {ρ : EnvD} (h0 : I [] ρ)
    (hh : ∀ pre x post ρ, xs = pre ++ x :: post → I pre ρ → ∃ ρ1 ρ2, asg (h x) ρ W = some ρ1 ∧ body ρ1 W = .nx ρ2 W ∧ I (pre ++ [x]) ρ2) : ∃ ρ', forLoop asg body (xs.map h) ρ W = .nx ρ' W ∧ I xs ρ' := by
  have key : ∀ (ys pre : List α) (ρ : EnvD), xs = pre ++ ys → I pre ρ → ∃ ρ', forLoop asg body (ys.map h) ρ W = .nx ρ' W ∧ I xs ρ' := by
    intro ys
    induction ys with
    | nil => intro pre ρ e hI; exact ⟨ρ, rfl, by rw [e]; simpa using hI⟩
    | cons y ys ih =>
      intro pre ρ e hI
      obtain ⟨ρ1, ρ2, h1, h2, h3⟩ := hh pre y ys ρ e hI
      obtain ⟨ρ', g1, g2⟩ := ih (pre ++ [y]) ρ2 (by simpa using e) h3
      exact ⟨ρ', by simp [forLoop, h1, h2, g1], g2⟩
  exact key xs [] ρ rfl h0
/-- a loop that gives false at the first bad one -/
theorem for_all {α : Type} {asg : D → EnvD → Wd → Option EnvD} {body : EnvD → Wd → SR} {W : Wd} (h : α → D) (I : EnvD → Prop) (good : α → Bool) (dv : D) : ∀ {xs : List α} {ρ : EnvD}, I ρ →
    (∀ x ∈ xs, ∀ ρ, I ρ → ∃ ρ1 ρ2, asg (h x) ρ W = some ρ1 ∧ body ρ1 W = (if good x = true then .nx ρ2 W else .rt dv W) ∧ I ρ2) → ∃ ρ', I ρ' ∧ forLoop asg body (xs.map h) ρ W = if xs.all good = true then .nx ρ' W else .rt dv W
  | [], ρ, hI, _ => ⟨ρ, hI, rfl⟩
  | x :: xs, ρ, hI, hh => by
    obtain ⟨ρ1, ρ2, h1, h2, h3⟩ := hh x (by simp) ρ hI
    obtain ⟨ρ', g1, g2⟩ := for_all h I good dv (xs := xs) h3 fun y hy => hh y (by simp [hy])
    refine ⟨ρ', g1, ?_⟩
    cases hg : good x
    · rw [hg] at h2
      simp [forLoop, h1, h2, hg]
    · rw [hg] at h2
      simp [forLoop, h1, h2, g2, hg]
theorem bls_map {α : Type} (f : α → Bool) (xs : List α) : PL.bls (xs.map fun x => .bl (f x)) = some (xs.map f) := by
  induction xs with
  | nil => rfl
  | cons x xs ih => simp [PL.bls, ih]
theorem nums_map {α : Type} (f : α → Int) (xs : List α) : PL.nums (xs.map fun x => .int (f x)) = some (xs.map f) := by
  induction xs with
  | nil => rfl
  | cons x xs ih => simp [PL.nums, ih]
theorem rng_ok (r : Int) (h0 : 0 ≤ r) (h1 : r < 100000) : dRange 0 r = some ((List.range r.toNat).map fun (i : Nat) => .int ((i : Int))) := by
  unfold dRange
  rw [if_pos (by omega)]
  simp
theorem run_lc (Δ : Tab) (own : List (Str × Nat)) (t : T) (w : I) (ifs : Cs) (e : C) (ρ : EnvD) (W : Wd) : PL.run Δ (.lc own t w ifs e) ρ W = (runI Δ w ρ W).bnd fun ds W => (lcLoop (fun d W => t.put W d (wipeD ρ (own.map (·.2)))) (runT Δ ifs) (PL.run Δ e) ds W).bndX fun ys W => if ys.length ≤ 16777216 then .ok (.lst ys) W else .bad := rfl
/-! ### items -/
@[simp] theorem cut1 (W : Wd) (a : D) (xs : List D) : dSl W (.tup (a :: xs)) (some 1) none = some (.tup xs) := by
  simp [dSl, cutD, HT.sIx]
@[simp] theorem cut1l (W : Wd) (a : D) (xs : List D) : dSl W (.lst (a :: xs)) (some 1) none = some (.lst xs) := by
  simp [dSl, cutD, HT.sIx]
@[simp] theorem ix0 (W : Wd) (a : D) (xs : List D) : dIx W (.tup (a :: xs)) (.int 0) = some a := by simp [dIx, L2.atI, L2.ixN]
@[simp] theorem ix0l (W : Wd) (a : D) (xs : List D) : dIx W (.lst (a :: xs)) (.int 0) = some a := by simp [dIx, L2.atI, L2.ixN]
@[simp] theorem ix1 (W : Wd) (a b : D) (xs : List D) : dIx W (.tup (a :: b :: xs)) (.int 1) = some b := by
  have : (1 : Int) < (xs.length : Int) + 1 + 1 := by omega
  simp [dIx, L2.atI, L2.ixN, this]
@[simp] theorem ix2 (W : Wd) (a b c : D) (xs : List D) : dIx W (.tup (a :: b :: c :: xs)) (.int 2) = some c := by
  have : (2 : Int) < (xs.length : Int) + 1 + 1 + 1 := by omega
  simp [dIx, L2.atI, L2.ixN, this]
@[simp] theorem ix3 (W : Wd) (a b c d : D) (xs : List D) : dIx W (.tup (a :: b :: c :: d :: xs)) (.int 3) = some d := by
  have : (3 : Int) < (xs.length : Int) + 1 + 1 + 1 + 1 := by omega
  simp [dIx, L2.atI, L2.ixN, this]
@[simp] theorem ix4 (W : Wd) (a b c d e : D) (xs : List D) : dIx W (.tup (a :: b :: c :: d :: e :: xs)) (.int 4) = some e := by
  have : (4 : Int) < (xs.length : Int) + 1 + 1 + 1 + 1 + 1 := by omega
  simp [dIx, L2.atI, L2.ixN, this]
theorem ix_nat (W : Wd) {xs : List D} {i : Nat} (h : i < xs.length) : dIx W (.tup xs) (.int i) = some xs[i] := by
  have h2 : (i : Int) < (xs.length : Int) := by omega
  simp [dIx, L2.atI, L2.ixN, h, h2]
theorem ix_natL (W : Wd) {xs : List D} {i : Nat} (h : i < xs.length) : dIx W (.lst xs) (.int i) = some xs[i] := by
  have h2 : (i : Int) < (xs.length : Int) := by omega
  simp [dIx, L2.atI, L2.ixN, h, h2]
theorem ix_at (W : Wd) (xs : List D) (r : Int) (h0 : 0 ≤ r) (h1 : r < xs.length) : ∃ x, dIx W (.lst xs) (.int r) = some x ∧ x ∈ xs := by
  have hl : r.toNat < xs.length := by omega
  refine ⟨xs[r.toNat], ?_, List.getElem_mem hl⟩
  simp [dIx, L2.atI, L2.ixN, h0, h1, hl]
theorem ix_tup (W : Wd) (xs : List D) (r : Int) (h0 : 0 ≤ r) (h1 : r < xs.length) : ∃ x, dIx W (.tup xs) (.int r) = some x ∧ x ∈ xs := by
  have hl : r.toNat < xs.length := by omega
  refine ⟨xs[r.toNat], ?_, List.getElem_mem hl⟩
  simp [dIx, L2.atI, L2.ixN, h0, h1, hl]
/-! ### a cup alone -/
def Cup (W : Wd) : Prop := ∃ a b : Int, W = [[.int a, .int b]]
theorem lc_ex {asg : D → Wd → Option EnvD} {tst : EnvD → Wd → R Bool} {elt : EnvD → Wd → R D} (P : D → Prop) : ∀ {xs : List D} {W : Wd}, Cup W → (∀ x ∈ xs, ∀ W, Cup W → ∃ ρ y W', asg x W = some ρ ∧ tst ρ W = .ok true W ∧ elt ρ W = .ok y W' ∧ Cup W' ∧ P y) →
    ∃ ys W', lcLoop asg tst elt xs W = .ok ys W' ∧ Cup W' ∧ ys.length = xs.length ∧ ∀ y ∈ ys, P y
  | [], W, hW, _ => ⟨[], W, rfl, hW, rfl, by simp⟩
  | x :: xs, W, hW, h => by
    obtain ⟨ρ, y, W1, h1, h2, h3, h4, h5⟩ := h x (by simp) W hW
    obtain ⟨ys, W2, g1, g2, g3, g4⟩ := lc_ex P (xs := xs) h4 fun z hz => h z (by simp [hz])
    refine ⟨y :: ys, W2, by simp [lcLoop, h1, h2, h3, g1], g2, by simp [g3], fun z hz => ?_⟩
    rcases List.mem_cons.mp hz with rfl | hz
    · exact h5
    · exact g4 z hz
theorem lc_sub {α : Type} {asg : D → Wd → Option EnvD} {tst : EnvD → Wd → R Bool} {elt : EnvD → Wd → R D} (h f : α → D) : ∀ {xs : List α} {W : Wd}, Cup W → (∀ x ∈ xs, ∀ W, Cup W → ∃ ρ b W', asg (h x) W = some ρ ∧ tst ρ W = .ok b W' ∧ Cup W' ∧ elt ρ W' = .ok (f x) W') →
    ∃ (ys : List α) (W' : Wd), lcLoop asg tst elt (xs.map h) W = .ok (ys.map f) W' ∧ Cup W' ∧ ys.Sublist xs
  | [], W, hW, _ => ⟨[], W, rfl, hW, .slnil⟩
  | x :: xs, W, hW, hh => by
    obtain ⟨ρ, b, W1, h1, h2, h3, h4⟩ := hh x (by simp) W hW
    obtain ⟨ys, W2, g1, g2, g3⟩ := lc_sub h f (xs := xs) h3 fun z hz => hh z (by simp [hz])
    cases b
    · exact ⟨ys, W2, by simp [lcLoop, h1, h2, g1], g2, g3.cons _⟩
    · exact ⟨x :: ys, W2, by simp [lcLoop, h1, h2, h4, g1], g2, g3.cons₂ _⟩
theorem for_preC {α : Type} {asg : D → EnvD → Wd → Option EnvD} {body : EnvD → Wd → SR} (h : α → D) (I : List α → EnvD → Prop) {xs : List α} {ρ : EnvD} {W : Wd} (h0 : I [] ρ) (hW : Cup W)
    (hh : ∀ pre x post ρ W, xs = pre ++ x :: post → I pre ρ → Cup W → ∃ ρ1 ρ2 W2, asg (h x) ρ W = some ρ1 ∧ body ρ1 W = .nx ρ2 W2 ∧ I (pre ++ [x]) ρ2 ∧ Cup W2) : ∃ ρ' W', forLoop asg body (xs.map h) ρ W = .nx ρ' W' ∧ I xs ρ' ∧ Cup W' := by
  have key : ∀ (ys pre : List α) (ρ : EnvD) (W : Wd), xs = pre ++ ys → I pre ρ → Cup W → ∃ ρ' W', forLoop asg body (ys.map h) ρ W = .nx ρ' W' ∧ I xs ρ' ∧ Cup W' := by
    intro ys
    induction ys with
    | nil => intro pre ρ W e hI hW; exact ⟨ρ, W, rfl, by rw [e]; simpa using hI, hW⟩
    | cons y ys ih =>
      intro pre ρ W e hI hW
      obtain ⟨ρ1, ρ2, W2, h1, h2, h3, h4⟩ := hh pre y ys ρ W e hI hW
      obtain ⟨ρ', W', g1, g2, g3⟩ := ih (pre ++ [y]) ρ2 W2 (by simpa using e) h3 h4
      exact ⟨ρ', W', by simp [forLoop, h1, h2, g1], g2, g3⟩
  exact key xs [] ρ W rfl h0 hW
theorem enum_eq {α : Type} (h : α → D) (xs : List α) : (List.range (xs.map h).length).zipWith (fun i x => pairD (.int (i : Nat)) x) (xs.map h) = xs.zipIdx.map fun p => pairD (.int (p.2 : Nat)) (h p.1) := by
  apply List.ext_getElem
  · simp
  · intro i h1 h2
    simp
theorem map_of {α : Type} {ys : List D} (f : α → D) {P : α → Prop} (h : ∀ y ∈ ys, ∃ c : α, y = f c ∧ P c) : ∃ cs : List α, ys = cs.map f ∧ ∀ c ∈ cs, P c := by
  induction ys with
  | nil => exact ⟨[], rfl, by simp⟩
  | cons y ys ih =>
    obtain ⟨c, rfl, hc⟩ := h y (by simp)
    obtain ⟨cs, rfl, hcs⟩ := ih fun z hz => h z (by simp [hz])
    refine ⟨c :: cs, rfl, fun z hz => ?_⟩
    rcases List.mem_cons.mp hz with rfl | hz
    · exact hc
    · exact hcs z hz
theorem for_cup {asg : D → EnvD → Wd → Option EnvD} {body : EnvD → Wd → SR} (I : EnvD → Prop) : ∀ {xs : List D} {ρ : EnvD} {W : Wd}, I ρ → Cup W → (∀ x ∈ xs, ∀ ρ W, I ρ → Cup W → ∃ ρ1 ρ2 W2, asg x ρ W = some ρ1 ∧ body ρ1 W = .nx ρ2 W2 ∧ I ρ2 ∧ Cup W2) →
    ∃ ρ' W', forLoop asg body xs ρ W = .nx ρ' W' ∧ I ρ' ∧ Cup W'
  | [], ρ, W, hI, hW, _ => ⟨ρ, W, rfl, hI, hW⟩
  | x :: xs, ρ, W, hI, hW, h => by
    obtain ⟨ρ1, ρ2, W2, h1, h2, h3, h4⟩ := h x (by simp) ρ W hI hW
    obtain ⟨ρ', W', g1, g2, g3⟩ := for_cup I (xs := xs) h3 h4 fun y hy => h y (by simp [hy])
    exact ⟨ρ', W', by simp [forLoop, h1, h2, g1], g2, g3⟩
theorem thn_assoc (r : SR) (f g : EnvD → Wd → SR) : (r.thn f).thn g = r.thn fun ρ W => (f ρ W).thn g := by cases r <;> rfl
theorem thn_nx (ρ : EnvD) (W : Wd) (f : EnvD → Wd → SR) : (SR.nx ρ W).thn f = f ρ W := rfl
end PL

/-! LS: stores, as plain data. -/
namespace PL
open PySem

structure Tb where
  c : Nat
  rows : List (List Int)
def Tb.d (t : Tb) : D := .tup [.int t.c, .tup (t.rows.map tupD)]
abbrev Sto := List (Str × Tb)
def enD (p : Str × Tb) : D := .tup [.str p.1, p.2.d]
def stD (s : Sto) : D := .tup (s.map enD)
def abc : Str := "abcdefghijklmnopqrstuvwxyz"
/-- a letter that may name a table -/
def okLet (x : Str) : Bool := x.length == 1 && strIn x abc
structure OkRow (c : Nat) (r : List Int) : Prop where
  len : r.length = c
  cell : ∀ a ∈ r, -6 ≤ a ∧ a ≤ 1000000
structure OkTb (t : Tb) : Prop where
  c : t.c ≤ 6
  many : t.rows.length ≤ 40
  row : ∀ r ∈ t.rows, OkRow t.c r
  asc : t.rows.Pairwise (· < ·)
structure OkSt (s : Sto) : Prop where
  many : s.length ≤ 4
  lets : ∀ p ∈ s, okLet p.1 = true
  asc : s.Pairwise fun p q => p.1.cps.toList < q.1.cps.toList
  tb : ∀ p ∈ s, OkTb p.2
  sum : (s.map fun p => p.2.rows.length).sum ≤ 40
/-- all cells, row by row -/
def cellsS (s : Sto) : List Int := s.flatMap fun p => p.2.rows.flatten
/-- the unknowns, ascending -/
def unk (s : Sto) : List Int := (sortI (cellsS s)).filter (· < 0)
def fillT (g : Int → Int) (t : Tb) : Tb := ⟨t.c, sortL (t.rows.map fun r => r.map g)⟩
def fillS (g : Int → Int) (s : Sto) : Sto := s.map fun p => (p.1, fillT g p.2)

theorem drop1 (W : Wd) (xs : List D) : dSl W (.lst xs) (some 1) none = some (.lst (xs.drop 1)) := by
  cases xs <;> simp [dSl, cutD, HT.sIx]
theorem drop1t (W : Wd) (xs : List D) : dSl W (.tup xs) (some 1) none = some (.tup (xs.drop 1)) := by
  cases xs <;> simp [dSl, cutD, HT.sIx]
theorem zip_adj {α : Type} (h : α → D) (xs : List α) : (xs.map h).zipWith pairD ((xs.map h).drop 1) = (xs.zip (xs.drop 1)).map fun p => pairD (h p.1) (h p.2) := by
  rw [List.drop_eq_drop_iff.mpr rfl, ← List.map_drop, List.zipWith_map, List.zip, List.map_zipWith]
theorem adj_pw {α : Type} {R : α → α → Prop} {xs : List α} (h : xs.Pairwise R) : ∀ p ∈ xs.zip (xs.drop 1), R p.1 p.2 := by
  induction xs with
  | nil => simp
  | cons x xs ih =>
    cases xs with
    | nil => simp
    | cons y ys =>
      rw [List.pairwise_cons] at h
      intro p hp
      simp only [List.drop_succ_cons, List.drop_zero, List.zip_cons_cons, List.mem_cons] at hp
      rcases hp with rfl | hp
      · exact h.1 y (by simp)
      · exact ih h.2 p (by simpa using hp)
theorem sum_le_mem {l : List Nat} {n : Nat} (h : n ∈ l) : n ≤ l.sum := by
  induction l with
  | nil => cases h
  | cons a l ih =>
    rcases List.mem_cons.mp h with rfl | h
    · simp
    · have := ih h; simp; omega
theorem cast_sum {α : Type} (f : α → Nat) (l : List α) : (l.map fun x => (f x : Int)).sum = ((l.map f).sum : Nat) := by
  induction l with
  | nil => rfl
  | cons p l ih => simp [ih]
/-! ### bounds -/
theorem flat_len {rs : List (List Int)} {c : Nat} (h : ∀ r ∈ rs, r.length = c) : rs.flatten.length = rs.length * c := by
  induction rs with
  | nil => simp
  | cons r rs ih =>
    rw [List.flatten_cons, List.length_append, ih fun q hq => h q (by simp [hq]), h r (by simp), List.length_cons, Nat.add_one_mul, Nat.add_comm]
theorem OkTb.cells {t : Tb} (h : OkTb t) : t.rows.flatten.length ≤ t.rows.length * 6 := by
  rw [flat_len fun r hr => (h.row r hr).len]
  exact Nat.mul_le_mul_left _ h.c
theorem cells_len {s : Sto} (h : OkSt s) : (cellsS s).length ≤ 240 := by
  have key : ∀ l : Sto, (∀ p ∈ l, OkTb p.2) → (cellsS l).length ≤ (l.map fun p => p.2.rows.length).sum * 6 := by
    intro l
    induction l with
    | nil => intro _; simp [cellsS]
    | cons p l ih =>
      intro hl
      have h1 := (hl p (by simp)).cells
      have h2 := ih fun q hq => hl q (by simp [hq])
      simp only [cellsS, List.flatMap_cons, List.length_append, List.map_cons, List.sum_cons] at h2 ⊢
      omega
  have := key s h.tb
  have := h.sum
  omega
theorem unk_len {s : Sto} (h : OkSt s) : (unk s).length ≤ 240 := by
  have h1 := cells_len h
  have h2 := sortI_len (cellsS s)
  have h3 : (unk s).length ≤ (sortI (cellsS s)).length := List.length_filter_le _ _
  omega
theorem mem_cells {s : Sto} {a : Int} : a ∈ cellsS s ↔ ∃ p ∈ s, ∃ r ∈ p.2.rows, a ∈ r := by
  simp [cellsS, List.mem_flatMap, List.mem_flatten]
theorem mem_unk {s : Sto} {a : Int} : a ∈ unk s ↔ a < 0 ∧ ∃ p ∈ s, ∃ r ∈ p.2.rows, a ∈ r := by
  simp only [unk, List.mem_filter, sortI_mem, mem_cells, decide_eq_true_eq]
  exact And.comm
theorem unk_asc (s : Sto) : (unk s).Pairwise (· < ·) := (sortI_pw _).filter _
/-! ### worths: a dict from unknowns -/
def kv0 (u f : List Int) : List (L2.Key × D) := (u.zip f).map fun p => (.inl p.1, .int p.2)
def kvsOf (u f : List Int) : List (L2.Key × D) := keyMerge [] (kv0 u f)
def Worth (kvs : List (L2.Key × D)) (g : Int → Int) : Prop := ∀ a, dGet kvs (.int a) (.int a) = some (.int (g a))
/-- what is put for a -/
def gOf (u f : List Int) (a : Int) : Int := match ((u.zip f).reverse.find? fun p => p.1 == a) with
  | some p => p.2
  | none => a
theorem pairs_zip : ∀ (u f : List Int), pairsK ((u.map D.int).zipWith pairD (f.map .int)) = some (kv0 u f)
  | [], _ => by simp [pairsK, kv0]
  | _ :: _, [] => by simp [pairsK, kv0]
  | x :: u, y :: f => by
    have ih := pairs_zip u f
    simp only [List.map_cons, List.zipWith_cons_cons, pairD, pairsK, asKey, ih]
    rfl
theorem run_lc2 (Δ : Tab) (own : List (Str × Nat)) (t : T) (w : I) (ifs : Cs) (vs1 : List Nat) (t1 : T) (w1 : I) (ifs1 : Cs) (e : C) (ρ : EnvD) (W : Wd) : PL.run Δ (.lc2 own t w ifs vs1 t1 w1 ifs1 e) ρ W = (runI Δ w ρ W).bnd fun ds W => (lc2Loop (fun d W => t.put W d (wipeD ρ (own.map (·.2)))) (runT Δ ifs) (fun ρ1 W => (runI Δ w1 ρ1 W).bndX fun es W => lcLoop (fun d W => t1.put W d (wipeD ρ1 vs1)) (runT Δ ifs1) (PL.run Δ e) es W) ds W).bndX fun ys W => if ys.length ≤ 16777216 then .ok (.lst ys) W else .bad := rfl
theorem kg_cons (q : L2.Key) (w : D) (kvs : List (L2.Key × D)) (k' : L2.Key) : keyGet ((q, w) :: kvs) k' = if q = k' then some w else keyGet kvs k' := by
  unfold keyGet
  by_cases h : q = k'
  · rw [List.find?_cons_of_pos (by simpa using h), if_pos h]; rfl
  · rw [List.find?_cons_of_neg (by simpa using h), if_neg h]
theorem kg_nil (k' : L2.Key) : keyGet [] k' = none := rfl
theorem kg_repl (k k' : L2.Key) (v : D) : ∀ l : List (L2.Key × D), keyGet (l.map fun kv => if kv.1 = k then (kv.1, v) else kv) k' = if k = k' ∧ (l.any fun kv => decide (kv.1 = k)) = true then some v else keyGet l k'
  | [] => by simp [kg_nil]
  | (q, w) :: l => by
    rw [List.map_cons, List.any_cons]
    by_cases h1 : q = k
    · subst h1
      simp only [if_true]
      rw [kg_cons, kg_cons, kg_repl q k' v l]
      by_cases h2 : q = k'
      · simp [h2]
      · simp [h2]
    · simp only [if_neg h1]
      rw [kg_cons, kg_cons, kg_repl k k' v l]
      by_cases h2 : q = k'
      · subst h2
        have : ¬ k = q := fun e => h1 e.symm
        simp [this]
      · have hd : decide (q = k) = false := decide_eq_false h1
        rw [if_neg h2, if_neg h2, hd, Bool.false_or]
theorem kg_app (k k' : L2.Key) (v : D) : ∀ l : List (L2.Key × D), keyGet (l ++ [(k, v)]) k' = (keyGet l k').or (if k = k' then some v else none)
  | [] => by simp [kg_cons, kg_nil]
  | (q, w) :: l => by
    rw [List.cons_append, kg_cons, kg_cons, kg_app k k' v l]
    by_cases h2 : q = k' <;> simp [h2]
theorem kg_none (k : L2.Key) : ∀ l : List (L2.Key × D), ¬ (l.any fun kv => decide (kv.1 = k)) = true → keyGet l k = none
  | [], _ => rfl
  | (q, w) :: l, h => by
    simp only [List.any_cons, Bool.or_eq_true, not_or, decide_eq_true_eq] at h
    rw [kg_cons, if_neg h.1, kg_none k l (by simpa using h.2)]
theorem keyGet_put (kvs : List (L2.Key × D)) (k k' : L2.Key) (v : D) : keyGet (keyPut kvs k v) k' = if k = k' then some v else keyGet kvs k' := by
  unfold keyPut
  split
  · rename_i h
    rw [kg_repl]
    simp only [h, and_true]
  · rename_i h
    rw [kg_app]
    by_cases hk : k = k'
    · subst hk
      rw [kg_none k kvs h]; simp
    · simp [hk]
theorem keyGet_merge (more : List (L2.Key × D)) : ∀ (kvs : List (L2.Key × D)) (k : L2.Key), keyGet (keyMerge kvs more) k = ((more.reverse.find? fun kv => decide (kv.1 = k)).map (·.2)).or (keyGet kvs k) := by
  induction more with
  | nil => intro kvs k; simp [keyMerge]
  | cons p more ih =>
    intro kvs k
    have e : keyMerge kvs (p :: more) = keyMerge (keyPut kvs p.1 p.2) more := rfl
    rw [e, ih, keyGet_put, List.reverse_cons, List.find?_append]
    cases h : more.reverse.find? fun kv => decide (kv.1 = k) with
    | some q => simp
    | none =>
      by_cases hk : p.1 = k
      · simp [hk]
      · simp [hk]
theorem worth (u f : List Int) : Worth (kvsOf u f) (gOf u f) := by
  intro a
  unfold dGet
  simp only [asKey, Option.map_some]
  unfold kvsOf
  rw [keyGet_merge]
  unfold gOf kv0
  rw [← List.map_reverse, List.find?_map]
  have e : ((fun kv : L2.Key × D => decide (kv.1 = (.inl a : L2.Key))) ∘ fun p : Int × Int => ((.inl p.1 : L2.Key), D.int p.2)) = fun p : Int × Int => p.1 == a := by
    funext p
    show decide ((Sum.inl p.1 : L2.Key) = .inl a) = (p.1 == a)
    by_cases h : p.1 = a
    · simp [h]
    · have : ¬ ((Sum.inl p.1 : L2.Key) = .inl a) := fun e => h (by injection e)
      simp [h, this]
  rw [e]
  cases (u.zip f).reverse.find? fun p => p.1 == a with
  | some p => rfl
  | none => rfl
theorem nb_tb (t : Tb) : Nb t.d = true := by simp [Tb.d, Nb, Nbs, nb_rows]
theorem nb_sto (s : Sto) : Nb (stD s) = true := by
  have : Nbs (s.map enD) = true := by
    rw [Nbs_all, List.all_map]
    simp [enD, Nb, Nbs, nb_tb]
  simpa [stD, Nb] using this
theorem depth_tb (t : Tb) : D.depth t.d ≤ 5 := by
  have := depths_rows t.rows
  simp [Tb.d, D.depth, D.depths]; omega
theorem depth_sto (s : Sto) : D.depth (stD s) ≤ 7 := by
  have : D.depths (s.map enD) ≤ 6 := by
    induction s with
    | nil => simp [D.depths]
    | cons p s ih =>
      have := depth_tb p.2
      simp [D.depths, enD, D.depth]; omega
  simp [stD, D.depth]; omega
theorem eq_sto (W : Wd) (s : Sto) : dEq W (stD s) (stD s) = some true := by
  have := depth_sto s
  rw [eq_nb W (nb_sto s) (nb_sto s) (by omega), Nb.refl (nb_sto s)]
end PL

/-! LR: rules of stores, as plain data. -/
namespace PL
open PySem
/-- the dict of a store's tables -/
def tabsD (s : Sto) : List (L2.Key × D) := keyMerge [] (s.map fun p => (.inr p.1, p.2.d))
theorem pairs_sto (s : Sto) : pairsK (s.map enD) = some (s.map fun p => (.inr p.1, p.2.d)) := by
  induction s with
  | nil => rfl
  | cons p s ih =>
    show (match asKey (.str p.1), pairsK (s.map enD) with
      | some k, some kvs => some ((k, p.2.d) :: kvs)
      | _, _ => none) = _
    rw [ih]; rfl
theorem dict_sto (W : Wd) (s : Sto) : dDict W [.lst (s.map enD)] = some (.dct (tabsD s)) := by
  simp only [dDict, asL, pairs_sto]
  rfl
theorem str_ext {x y : Str} (h : x.cps.toList = y.cps.toList) : x = y := by
  cases x; cases y
  simp only [PySem.Str.mk.injEq]
  exact Array.toList_inj.mp h
theorem tabs_get {s : Sto} (h : OkSt s) {p : Str × Tb} (hp : p ∈ s) : keyGet (tabsD s) (.inr p.1) = some p.2.d := by
  unfold tabsD
  rw [keyGet_merge, ← List.map_reverse, List.find?_map]
  have key : ∀ l : Sto, (∀ q ∈ l, q ∈ s) → p ∈ l → l.find? ((fun kv : L2.Key × D => decide (kv.1 = (.inr p.1 : L2.Key))) ∘ fun q : Str × Tb => ((.inr q.1 : L2.Key), q.2.d)) = some p := by
    intro l
    induction l with
    | nil => intro _ h; cases h
    | cons q l ih =>
      intro hl hm
      by_cases e : q.1 = p.1
      · have : q = p := by
          have hq := hl q (by simp)
          have pw := h.asc
          clear ih hl hm
          by_cases hne : q = p
          · exact hne
          · exfalso
            have irr : ∀ x : List Nat, ¬ x < x := fun x => List.lt_irrefl x
            obtain ⟨i, hi, rfl⟩ := List.getElem_of_mem hq
            obtain ⟨j, hj, rfl⟩ := List.getElem_of_mem hp
            have hij : i ≠ j := fun z => hne (by subst z; rfl)
            rcases Nat.lt_or_gt_of_ne hij with hlt | hgt
            · have := List.pairwise_iff_getElem.mp pw i j hi hj hlt
              rw [e] at this
              exact irr _ this
            · have := List.pairwise_iff_getElem.mp pw j i hj hi hgt
              rw [e] at this
              exact irr _ this
        subst this
        simp
      · have : p ∈ l := by
          rcases List.mem_cons.mp hm with rfl | h'
          · exact absurd rfl e
          · exact h'
        rw [List.find?_cons_of_neg (by
          show ¬ decide ((Sum.inr q.1 : L2.Key) = .inr p.1) = true
          simpa using e)]
        exact ih (fun r hr => hl r (by simp [hr])) this
  rw [key s.reverse (fun q hq => by simpa using hq) (by simpa using hp)]
  rfl
theorem lt_int (W : Wd) (a b : Int) : dLt W (.int a) (.int b) = some (decide (a < b)) := rfl
/-! ### rules -/
inductive Rl where
  | key (l : Str) (cs : List Nat)
  | within (a : Str) (i : Nat) (b : Str) (j : Nat)
def natsD (cs : List Nat) : List D := cs.map fun (i : Nat) => D.int (i : Int)
def Rl.d : Rl → D
  | .key l cs => .tup [.str "key", .str l, .tup (natsD cs)]
  | .within a i b j => .tup [.str "within", .str a, .int (i : Int), .str b, .int (j : Int)]
inductive OkRl (s : Sto) : Rl → Prop
  | key {l : Str} {t : Tb} {cs : List Nat} : (l, t) ∈ s → cs.Pairwise (· < ·) → (∀ c ∈ cs, c < t.c) → OkRl s (.key l cs)
  | within {a b : Str} {t u : Tb} {i j : Nat} : (a, t) ∈ s → i < t.c → (b, u) ∈ s → j < u.c → OkRl s (.within a i b j)
def rowsOf (s : Sto) (l : Str) : List (List Int) := match s.find? fun p => p.1 == l with
  | some p => p.2.rows
  | none => []
theorem rowsOf_mem {s : Sto} (h : OkSt s) {l : Str} {t : Tb} (hm : (l, t) ∈ s) : rowsOf s l = t.rows := by
  unfold rowsOf
  have key : ∃ p, s.find? (fun p => p.1 == l) = some p ∧ p.1 = l ∧ p ∈ s := by
    cases e : s.find? (fun p => p.1 == l) with
    | none => exact absurd (List.find?_eq_none.mp e (l, t) hm) (by simp)
    | some p => exact ⟨p, rfl, by simpa using List.find?_some e, List.mem_of_find?_eq_some e⟩
  obtain ⟨p, e, e1, hp⟩ := key
  rw [e]
  have g1 := tabs_get h hm
  have g2 := tabs_get h hp
  obtain ⟨x, u⟩ := p
  simp only at e1
  subst e1
  rw [g1] at g2
  have : t.d = u.d := Option.some.inj g2
  simp only [Tb.d, D.tup.injEq, List.cons.injEq, D.int.injEq] at this
  have hr := this.2.1
  have hinj : ∀ a b : List (List Int), a.map tupD = b.map tupD → a = b := by
    intro a b hab
    have := congrArg tupsI hab
    rw [tupsI_rows, tupsI_rows] at this
    exact Option.some.inj this
  exact (hinj _ _ hr).symm
/-- the i-th cell -/
def at0 (r : List Int) (i : Nat) : Int := r.getD i 0
def proj (cs : List Nat) (r : List Int) : List Int := cs.map fun c => at0 r c
def keepB (s : Sto) : Rl → Bool
  | .key l cs => decide (((rowsOf s l).map (proj cs)).Nodup)
  | .within a i b j => (rowsOf s a).all fun r => decide (at0 r i ∈ (rowsOf s b).map fun o => at0 o j)
theorem insL_in {x : List Int} : ∀ {l : List (List Int)}, l.Pairwise (· < ·) → (insL x l).length = if x ∈ l then l.length else l.length + 1
  | [], _ => by simp [insL]
  | y :: ys, h => by
    rw [List.pairwise_cons] at h
    unfold insL
    by_cases e : x = y
    · simp [e]
    · rw [if_neg e]
      by_cases lt : x < y
      · rw [if_pos lt]
        have : x ∉ y :: ys := by
          intro hm
          rcases List.mem_cons.mp hm with q | q
          · exact e q
          · exact ltL_irr x (ltL_trans lt (h.1 x q))
        rw [if_neg this]; rfl
      · rw [if_neg lt, List.length_cons, insL_in h.2]
        by_cases hm : x ∈ ys
        · simp [hm]
        · simp [hm, e]
theorem sortL_nodup : ∀ l : List (List Int), (sortL l).length = l.length ↔ l.Nodup
  | [] => by simp [sortL]
  | x :: xs => by
    have ih := sortL_nodup xs
    have hl := sortL_len xs
    have e0 := insL_in (x := x) (sortL_pw xs)
    rw [sortL, List.nodup_cons, List.length_cons]
    by_cases hm : x ∈ xs
    · rw [e0, if_pos (sortL_mem.mpr hm)]
      constructor
      · intro h; omega
      · intro h; exact absurd hm h.1
    · rw [e0, if_neg fun z => hm (sortL_mem.mp z)]
      constructor
      · intro h; exact ⟨hm, ih.mp (by omega)⟩
      · intro h; rw [ih.mpr h.2]
theorem ix_row (W : Wd) {r : List Int} {c : Nat} (h : c < r.length) : dIxA W (tupD r) (.int (c : Int)) = some (.int (at0 r c)) := by
  show dIx W (tupD r) (.int (c : Int)) = _
  unfold tupD at0
  rw [ix_nat W (by simpa using h)]
  simp [List.getD, h]
theorem take_none (W : Wd) (xs : List D) (i : Nat) (h : i ≤ xs.length) : dSl W (.lst xs) none (some (i : Int)) = some (.lst (xs.take i)) := by
  have e : cutD xs none (some (i : Int)) = xs.take i := by
    unfold cutD
    rw [HT.sIx_none, HT.sIx_nat, Nat.min_eq_left h]
    simp
  show some (D.lst (cutD xs none (some (i : Int)))) = _
  rw [e]
def sameP (cs : List Nat) (o r : List Int) : Bool := cs.all fun c => at0 r c == at0 o c
theorem sameP_iff {cs : List Nat} {o r : List Int} : sameP cs o r = true ↔ proj cs o = proj cs r := by
  unfold sameP proj
  rw [List.all_eq_true]
  constructor
  · intro h
    exact List.map_congr_left fun c hc => (beq_iff_eq.mp (h c hc)).symm
  · intro h c hc
    exact beq_iff_eq.mpr (List.map_inj_left.mp h c hc).symm
def firstP (cs : List Nat) (rows : List (List Int)) (p : List Int × Nat) : Bool := ((rows.take p.2).filter fun o => sameP cs o p.1).isEmpty
theorem nodup_idx (cs : List Nat) (rows : List (List Int)) : rows.zipIdx.all (firstP cs rows) = decide ((rows.map (proj cs)).Nodup) := by
  have key : rows.zipIdx.all (firstP cs rows) = true ↔ (rows.map (proj cs)).Nodup := by
    rw [List.all_eq_true]
    unfold List.Nodup
    rw [List.pairwise_iff_getElem]
    constructor
    · intro h i j hi hj hij e
      rw [List.length_map] at hi hj
      have hm : (rows[j], j) ∈ rows.zipIdx := List.mem_iff_getElem.mpr ⟨j, by simpa using hj, by simp⟩
      have := h _ hm
      simp only [firstP, List.isEmpty_iff, List.filter_eq_nil_iff] at this
      have ht : rows[i] ∈ rows.take j := List.mem_take_iff_getElem.mpr ⟨i, by omega, rfl⟩
      refine this _ ht (sameP_iff.mpr ?_)
      simpa using e
    · intro h p hp
      obtain ⟨j, hj, e⟩ := List.getElem_of_mem hp
      have hj' : j < rows.length := by simpa using hj
      have ep : p = (rows[j], j) := by rw [← e]; simp
      subst ep
      simp only [firstP, List.isEmpty_iff, List.filter_eq_nil_iff]
      intro o ho hs
      obtain ⟨i, hi, rfl⟩ := List.mem_take_iff_getElem.mp ho
      have := h i j (by simp; omega) (by simpa using hj') (by omega)
      exact this (by simpa using sameP_iff.mp hs)
  by_cases h : (rows.map (proj cs)).Nodup
  · rw [decide_eq_true h, key.mpr h]
  · rw [decide_eq_false h]
    cases e : rows.zipIdx.all (firstP cs rows) with
    | false => rfl
    | true => exact absurd (key.mp e) h
def wideS (s : Sto) : List (Str × Nat) := s.flatMap fun p => (List.range p.2.c).map fun i => (p.1, i)
def widD (p : Str × Nat) : D := .tup [.str p.1, .int (p.2 : Int)]
theorem mem_wide {s : Sto} {p : Str × Nat} (h : p ∈ wideS s) : ∃ t, (p.1, t) ∈ s ∧ p.2 < t.c := by
  obtain ⟨q, hq, hp⟩ := List.mem_flatMap.mp h
  obtain ⟨i, hi, rfl⟩ := List.mem_map.mp hp
  exact ⟨q.2, hq, List.mem_range.mp hi⟩
theorem wide_len {s : Sto} (h : OkSt s) : (wideS s).length ≤ 24 := by
  have key : ∀ l : Sto, (∀ p ∈ l, OkTb p.2) → (wideS l).length ≤ l.length * 6 := by
    intro l
    induction l with
    | nil => intro _; simp [wideS]
    | cons p l ih =>
      intro hl
      have h1 := (hl p (by simp)).c
      have h2 := ih fun q hq => hl q (by simp [hq])
      simp only [wideS, List.flatMap_cons, List.length_append, List.length_map, List.length_range, List.length_cons] at h2 ⊢
      omega
  have := key s h.tb
  have := h.many
  omega
theorem nb_wide (l : List (Str × Nat)) : Nbs (l.map widD) = true := by
  induction l with
  | nil => rfl
  | cons p l ih => simp [Nbs, Nb, widD, ih]
end PL

/-! LG: rows with a key, sorted, cut into rns of one key. -/
namespace PL
open PySem

abbrev Row := List Int
abbrev KR := Row × Row
/-- rns of one key -/
def rns : List KR → List (Row × List Row)
  | [] => []
  | p :: P => match rns P with
    | [] => [(p.1, [p.2])]
    | (k, rs) :: R => if p.1 = k then (k, p.2 :: rs) :: R else (p.1, [p.2]) :: (k, rs) :: R
/-- where the rns start -/
def stx : List Row → List Nat
  | [] => []
  | [_] => [0]
  | k :: k' :: ks => 0 :: (if k = k' then (stx (k' :: ks)).tail.map (· + 1) else (stx (k' :: ks)).map (· + 1))
theorem stx_head (k : Row) (ks : List Row) : ∃ r, stx (k :: ks) = 0 :: r := by
  cases ks with
  | nil => exact ⟨[], rfl⟩
  | cons k' ks => exact ⟨_, rfl⟩
/-- is a run's start -/
def atS (K : List Row) (i : Nat) : Bool := decide (i = 0) || decide (K.getD (i - 1) [] ≠ K.getD i [])
theorem stx_filt : ∀ K : List Row, (List.range K.length).filter (atS K) = stx K
  | [] => rfl
  | [k] => by simp [stx, atS]
  | k :: k' :: ks => by
    have ih := stx_filt (k' :: ks)
    obtain ⟨r, hr⟩ := stx_head k' ks
    rw [List.length_cons, List.range_succ_eq_map, List.filter_cons, List.filter_map]
    have h0 : atS (k :: k' :: ks) 0 = true := by simp [atS]
    rw [if_pos h0]
    have ih2 : (List.range (k' :: ks).length).filter (atS (k' :: ks)) = 0 :: r := by rw [ih, hr]
    rw [List.length_cons, List.range_succ_eq_map, List.filter_cons, List.filter_map, if_pos (by simp [atS])] at ih2
    have ih3 : ((List.range ks.length).filter (atS (k' :: ks) ∘ Nat.succ)).map Nat.succ = r := (List.cons.inj ih2).2
    have e1 : (List.range (k' :: ks).length).filter (atS (k :: k' :: ks) ∘ Nat.succ) = if k = k' then r else 0 :: r := by
      rw [List.length_cons, List.range_succ_eq_map, List.filter_cons, List.filter_map]
      have e2 : (List.range ks.length).filter ((atS (k :: k' :: ks) ∘ Nat.succ) ∘ Nat.succ) = (List.range ks.length).filter (atS (k' :: ks) ∘ Nat.succ) := by
        apply List.filter_congr
        intro i _
        simp [atS]
      rw [e2, ih3]
      by_cases e : k = k'
      · rw [if_pos e, if_neg (by simp [atS, e])]
      · rw [if_neg e, if_pos (by simp [atS, e])]
    rw [e1]
    show 0 :: (if k = k' then r else 0 :: r).map Nat.succ = stx (k :: k' :: ks)
    unfold stx
    rw [hr]
    split <;> rfl
/-- one run, cut out -/
def cutR (P : List KR) (s e : Nat) : Row × List Row := ((P.map (·.1)).getD s [], ((P.drop s).take (e - s)).map (·.2))
theorem cutR_succ (p : KR) (P : List KR) (s e : Nat) : cutR (p :: P) (s + 1) (e + 1) = cutR P s e := by
  unfold cutR
  simp [Nat.add_sub_add_right]
theorem zip_succ (p : KR) (P : List KR) : ∀ (a b : List Nat), (a.map (· + 1)).zipWith (cutR (p :: P)) (b.map (· + 1)) = a.zipWith (cutR P) b
  | [], b => by simp
  | x :: a, [] => by simp
  | x :: a, y :: b => by
    rw [List.map_cons, List.map_cons, List.zipWith_cons_cons, List.zipWith_cons_cons, zip_succ p P a b, cutR_succ]
theorem rns_cut : ∀ P : List KR, (stx (P.map (·.1))).zipWith (cutR P) ((stx (P.map (·.1))).tail ++ [P.length]) = rns P
  | [] => rfl
  | [p] => by simp [stx, cutR, rns]
  | p :: p' :: P => by
    have ih := rns_cut (p' :: P)
    obtain ⟨r, hr⟩ := stx_head p'.1 (P.map (·.1))
    have hr' : stx ((p' :: P).map (·.1)) = 0 :: r := hr
    rw [hr'] at ih
    have hs : stx ((p :: p' :: P).map (·.1)) = 0 :: (if p.1 = p'.1 then r.map (· + 1) else (0 :: r).map (· + 1)) := by
      show stx (p.1 :: p'.1 :: P.map (·.1)) = _
      unfold stx
      have : stx (p'.1 :: P.map (·.1)) = 0 :: r := hr
      rw [this]
      rfl
    rw [hs]
    have el : (p :: p' :: P).length = (p' :: P).length + 1 := rfl
    rw [el]
    have hz : ∃ e0 E, r ++ [(p' :: P).length] = e0 :: E := by cases r <;> exact ⟨_, _, rfl⟩
    obtain ⟨e0, E, hE⟩ := hz
    rw [List.tail_cons, hE, List.zipWith_cons_cons] at ih
    by_cases e : p.1 = p'.1
    · rw [if_pos e]
      have e2 : (0 :: r.map (· + 1)).tail ++ [(p' :: P).length + 1] = (e0 + 1) :: E.map (· + 1) := by
        rw [List.tail_cons]
        have := congrArg (List.map (· + 1)) hE
        simpa using this
      rw [e2, List.zipWith_cons_cons, zip_succ]
      unfold rns
      rw [← ih]
      have ek : p.1 = (cutR (p' :: P) 0 e0).1 := by simp [cutR, e]
      show _ = if p.1 = (cutR (p' :: P) 0 e0).1 then ((cutR (p' :: P) 0 e0).1, p.2 :: (cutR (p' :: P) 0 e0).2) :: _ else _
      rw [if_pos ek]
      congr 1
      simp [cutR, e]
    · rw [if_neg e]
      have e2 : (0 :: (0 :: r).map (· + 1)).tail ++ [(p' :: P).length + 1] = 1 :: (e0 :: E).map (· + 1) := by
        rw [List.tail_cons, ← hE]
        simp
      rw [e2, List.zipWith_cons_cons, zip_succ, List.zipWith_cons_cons]
      unfold rns
      rw [← ih]
      have ek : ¬ p.1 = (cutR (p' :: P) 0 e0).1 := by simpa [cutR] using e
      show _ = if p.1 = (cutR (p' :: P) 0 e0).1 then _ else _
      rw [if_neg ek]
      congr 1
/-! ### sorted by key -/
def KeyUp (P : List KR) : Prop := P.Pairwise fun a b => ¬ b.1 < a.1
theorem lt_of_not {a b : Row} (h : ¬ b < a) (ne : ¬ a = b) : a < b := by
  by_cases q : a < b
  · exact q
  · exact absurd (List.le_antisymm (List.not_lt.mp h) (List.not_lt.mp q)) ne
theorem rns_mem : ∀ {P : List KR} {g : Row × List Row}, g ∈ rns P → ∃ p ∈ P, p.1 = g.1
  | [], _, h => by cases h
  | p :: P, g, h => by
    unfold rns at h
    split at h
    · rename_i e
      rw [List.mem_singleton.mp h]
      exact ⟨p, by simp, rfl⟩
    · rename_i k rs R e
      have ih : ∀ g ∈ rns P, ∃ q ∈ P, q.1 = g.1 := fun g hg => rns_mem hg
      rw [e] at ih
      split at h
      · rename_i ek
        rcases List.mem_cons.mp h with rfl | h
        · exact ⟨p, by simp, ek⟩
        · obtain ⟨q, hq, e2⟩ := ih g (by simp [h])
          exact ⟨q, by simp [hq], e2⟩
      · rcases List.mem_cons.mp h with rfl | h
        · exact ⟨p, by simp, rfl⟩
        · obtain ⟨q, hq, e2⟩ := ih g h
          exact ⟨q, by simp [hq], e2⟩
theorem rns_up : ∀ {P : List KR}, KeyUp P → (rns P).Pairwise fun a b => a.1 < b.1
  | [], _ => .nil
  | p :: P, h => by
    obtain ⟨h1, h2⟩ := List.pairwise_cons.mp h
    have ih := rns_up h2
    have hm : ∀ g ∈ rns P, ¬ g.1 < p.1 := fun g hg => by
      obtain ⟨q, hq, e⟩ := rns_mem hg
      rw [← e]
      exact h1 q hq
    unfold rns
    split
    · simp
    · rename_i k rs R e
      rw [e] at ih hm
      obtain ⟨i1, i2⟩ := List.pairwise_cons.mp ih
      split
      · exact List.pairwise_cons.mpr ⟨i1, i2⟩
      · rename_i ne
        have lt : p.1 < k := lt_of_not (hm (k, rs) (by simp)) ne
        refine List.pairwise_cons.mpr ⟨fun g hg => ?_, ih⟩
        rcases List.mem_cons.mp hg with rfl | hg
        · exact lt
        · exact ltL_trans lt (i1 g hg)
/-- what stands beside a key -/
def under (P : List KR) (k : Row) : List Row := (P.filter fun p => decide (p.1 = k)).map (·.2)
theorem rns_under : ∀ {P : List KR}, KeyUp P → ∀ k, tabGet ((rns P).map (·.1)) ((rns P).map fun g => D.lst (g.2.map tupD)) k = if under P k = [] then none else some (.lst ((under P k).map tupD))
  | [], _, k => rfl
  | p :: P, h, k => by
    obtain ⟨h1, h2⟩ := List.pairwise_cons.mp h
    have ih := rns_under h2 k
    have up := rns_up h2
    have hm : ∀ g ∈ rns P, ¬ g.1 < p.1 := fun g hg => by
      obtain ⟨q, hq, e⟩ := rns_mem hg
      rw [← e]
      exact h1 q hq
    unfold rns
    split
    · rename_i e
      rw [e] at ih
      have hu : under P k = [] := by
        by_cases q : under P k = []
        · exact q
        · rw [if_neg q] at ih; cases ih
      by_cases ek : p.1 = k
      · have e2 : under (p :: P) k = p.2 :: under P k := by simp [under, List.filter_cons, ek]
        rw [e2, hu]
        simp [tabGet, ek]
      · have e2 : under (p :: P) k = under P k := by simp [under, List.filter_cons, ek]
        rw [e2, hu]
        simp [tabGet, ek]
    · rename_i k' rs R e
      rw [e] at ih hm up
      simp only [List.map_cons, tabGet] at ih
      split
      · rename_i ek'
        simp only [List.map_cons, tabGet]
        by_cases ek : k' = k
        · have e2 : under (p :: P) k = p.2 :: under P k := by simp [under, List.filter_cons, ek', ek]
          rw [if_pos ek] at ih ⊢
          rw [e2]
          by_cases q : under P k = []
          · rw [if_pos q] at ih; cases ih
          · rw [if_neg q] at ih
            have e3 : rs.map tupD = (under P k).map tupD := by
              have := Option.some.inj ih
              simpa using this
            simp [e3]
        · have e2 : under (p :: P) k = under P k := by simp [under, List.filter_cons, ek', ek]
          rw [if_neg ek] at ih ⊢
          rw [e2]
          exact ih
      · rename_i ne
        have lt : p.1 < k' := lt_of_not (hm (k', rs) (by simp)) ne
        simp only [List.map_cons, tabGet]
        by_cases ek : p.1 = k
        · have e2 : under (p :: P) k = p.2 :: under P k := by simp [under, List.filter_cons, ek]
          have hu : under P k = [] := by
            unfold under
            rw [List.map_eq_nil_iff, List.filter_eq_nil_iff]
            intro q hq
            have ge : ∃ g ∈ rns P, g.1 = q.1 := rns_has hq
            obtain ⟨g, hg, e3⟩ := ge
            rw [e] at hg
            have lt2 : p.1 < g.1 := by
              rcases List.mem_cons.mp hg with rfl | hg
              · exact lt
              · exact ltL_trans lt ((List.pairwise_cons.mp up).1 g hg)
            simp only [decide_eq_true_eq]
            intro e4
            rw [e3, e4, ← ek] at lt2
            exact ltL_irr _ lt2
          rw [if_pos ek, e2, hu]
          simp
        · have e2 : under (p :: P) k = under P k := by simp [under, List.filter_cons, ek]
          rw [if_neg ek, e2]
          exact ih
where
  rns_has : ∀ {P : List KR} {q : KR}, q ∈ P → ∃ g ∈ rns P, g.1 = q.1
  | p :: P, q, h => by
    unfold rns
    split
    · rename_i e
      rcases List.mem_cons.mp h with rfl | h
      · exact ⟨_, List.mem_cons_self, rfl⟩
      · obtain ⟨g, hg, _⟩ := rns_has h
        rw [e] at hg; cases hg
    · rename_i k' rs R e
      have ih : ∀ q ∈ P, ∃ g ∈ rns P, g.1 = q.1 := fun q hq => rns_has hq
      rw [e] at ih
      split
      · rename_i ek
        rcases List.mem_cons.mp h with rfl | h
        · exact ⟨_, List.mem_cons_self, ek.symm⟩
        · obtain ⟨g, hg, e2⟩ := ih q h
          rcases List.mem_cons.mp hg with rfl | hg
          · exact ⟨_, List.mem_cons_self, e2⟩
          · exact ⟨g, List.mem_cons_of_mem _ hg, e2⟩
      · rcases List.mem_cons.mp h with rfl | h
        · exact ⟨_, List.mem_cons_self, rfl⟩
        · obtain ⟨g, hg, e2⟩ := ih q h
          exact ⟨g, List.mem_cons_of_mem _ hg, e2⟩
/-! ### as data -/
def krD (p : KR) : D := .tup [tupD p.1, tupD p.2]
theorem pairsT_rows (l : List (Row × List Row)) : pairsT (l.map fun g => .tup [tupD g.1, .lst (g.2.map tupD)]) = some (l.map fun g => (g.1, .lst (g.2.map tupD))) := by
  induction l with
  | nil => rfl
  | cons g l ih =>
    rw [List.map_cons, List.map_cons]
    simp only [tupD] at ih ⊢
    simp only [pairsT, nums_ints, ih]
theorem tabMerge_new : ∀ (more acc : List (Row × D)), (∀ a ∈ acc, ∀ b ∈ more, a.1 ≠ b.1) → (more.Pairwise fun a b => a.1 ≠ b.1) → tabMerge acc more = acc ++ more
  | [], acc, _, _ => by simp [tabMerge]
  | p :: more, acc, h, pw => by
    obtain ⟨p1, p2⟩ := List.pairwise_cons.mp pw
    have e : tabMerge acc (p :: more) = tabMerge (tabPut acc p.1 p.2) more := rfl
    have e2 : tabPut acc p.1 p.2 = acc ++ [p] := by
      unfold tabPut
      rw [if_neg]
      simp only [List.any_eq_true, decide_eq_true_eq, not_exists, not_and]
      exact fun a ha => h a ha p (by simp)
    rw [e, e2, tabMerge_new more (acc ++ [p]) (fun a ha b hb => ?_) p2]
    · simp
    · rcases List.mem_append.mp ha with ha | ha
      · exact h a ha b (by simp [hb])
      · rw [List.mem_singleton.mp ha]; exact p1 b hb
/-- the dict of the runs -/
def grpD (P : List KR) : D := match rns P with
  | [] => .dct []
  | _ => .dtt ((rns P).map (·.1)) ((rns P).map fun g => .lst (g.2.map tupD))
theorem dict_rns (W : Wd) {P : List KR} (h : KeyUp P) : dDict W [.lst ((rns P).map fun g => .tup [tupD g.1, .lst (g.2.map tupD)])] = some (grpD P) := by
  have hp := pairsT_rows (rns P)
  have up := rns_up h
  unfold grpD
  cases e : rns P with
  | nil => rfl
  | cons g R =>
    rw [e] at hp up
    have hk : pairsK ((g :: R).map fun g => D.tup [tupD g.1, .lst (g.2.map tupD)]) = none := by
      simp [pairsK, tupD, asKey]
    simp only [dDict, asL, hk, hp, Option.map_some]
    rw [tabMerge_new _ _ (fun a ha => by cases ha) ((List.pairwise_map.mpr (up.imp fun {a b} h e => by
      simp only at e
      rw [e] at h
      exact ltL_irr _ h)))]
    simp
/-! ### sorted(pairs) -/
theorem she_kr (p q : KR) : D.she (krD p) (krD q) = true := by
  have h : ∀ k : Row, (k.map D.int).all D.isInt = true := fun k => by simp [D.isInt]
  simp [krD, tupD, D.she, D.shes, h]
theorem ord_kr (l : List KR) : Ord (l.map krD) := by
  apply sheB_ord
  cases l with
  | nil => rfl
  | cons p l => simp [sheB, she_kr]
theorem depth_kr (l : List KR) : D.depths (l.map krD) ≤ 100 := by
  have h : ∀ l : List KR, D.depths (l.map krD) ≤ 4 := fun l => by
    induction l with
    | nil => simp [D.depths]
    | cons p l ih =>
      have h1 := depth_tupD p.1
      have h2 := depth_tupD p.2
      simp only [List.map_cons, D.depths, krD, D.depth]
      omega
  exact Nat.le_trans (h l) (by decide)
theorem ltb_kr {p q : KR} (h : p.1 < q.1) : D.ltb (krD p) (krD q) = true := by
  have ne : ¬ p.1 = q.1 := fun e => ltL_irr _ (e ▸ h)
  have e1 : D.same (tupD p.1) (tupD q.1) = false := by rw [same_tupD]; exact decide_eq_false ne
  have e2 : D.ltb (tupD p.1) (tupD q.1) = true := by
    have := ltbs_int p.1 q.1
    simp only [tupD, D.ltb]
    rw [this]
    exact decide_eq_true h
  simp only [krD, D.ltb, D.ltbs, e1, e2]
  simp
theorem sort_kr (W : Wd) (l : List KR) : ∃ P, P.Perm l ∧ KeyUp P ∧ dSort W [.lst (l.map krD)] = some (.lst (P.map krD)) := by
  obtain ⟨P, hp, e⟩ := perm_map_inv krD (sortD_perm (l.map krD))
  refine ⟨P, hp, ?_, ?_⟩
  · have o := ord_kr l
    have pw := sortD_pw o
    rw [e] at pw
    refine (List.pairwise_map.mp pw).imp_of_mem fun {a b} ha hb h lt => ?_
    have ma : krD a ∈ l.map krD := List.mem_map.mpr ⟨a, hp.mem_iff.mp ha, rfl⟩
    have mb : krD b ∈ l.map krD := List.mem_map.mpr ⟨b, hp.mem_iff.mp hb, rfl⟩
    have := ltb_leT (o.alk _ mb _ ma) (o.py _ mb) (o.py _ ma)
    rw [ltb_kr lt, h] at this
    cases this
  · have hs : srtB (l.map krD) = true := by
      simp only [srtB, Bool.and_eq_true, Bool.or_eq_true]
      refine ⟨?_, .inl (.inr ?_)⟩
      · cases l with
        | nil => rfl
        | cons p l => simp [sheB, she_kr]
      · simp [krD, tupNe]
    show dSorted W [.lst (l.map krD)] = _
    simp only [dSorted, asL]
    rw [if_pos ⟨hs, depth_kr l⟩, e]
/-! ### the groups, read -/
theorem rns_nil {P : List KR} (h : rns P = []) : P = [] := by
  cases P with
  | nil => rfl
  | cons p P =>
    unfold rns at h
    split at h
    · cases h
    · split at h <;> cases h
theorem under_nil (k : Row) : under [] k = [] := rfl
theorem get_grp {P : List KR} (hu : KeyUp P) (k : Row) : dGetD (grpD P) (tupD k) (.lst []) = some (.lst ((under P k).map tupD)) := by
  have h := rns_under hu k
  unfold grpD
  cases e : rns P with
  | nil =>
    rw [rns_nil e]
    simp [dGetD, tupD, nums_ints, under_nil]
  | cons g R =>
    rw [e] at h
    simp only [dGetD, tupD, nums_ints, Option.map_some, h]
    by_cases q : under P k = []
    · rw [if_pos q, q]; rfl
    · rw [if_neg q]; rfl
theorem ix_grp (W : Wd) {P : List KR} (hu : KeyUp P) {k : Row} (hk : under P k ≠ []) : dIxA W (grpD P) (tupD k) = some (.lst ((under P k).map tupD)) := by
  have h := rns_under hu k
  unfold grpD
  cases e : rns P with
  | nil => rw [rns_nil e] at hk; exact absurd rfl hk
  | cons g R =>
    rw [e, if_neg hk] at h
    simp only [dIxA, tupD, nums_ints, Option.bind_some, h]
theorem keys_grp (P : List KR) (W : Wd) : (match grpD P with
    | .lst xs => R.ok xs W
    | .tup xs => .ok xs W
    | .dct kvs => ofO (keysD kvs) W
    | .dtt ks _ => .ok (ks.map tupD) W
    | _ => .bad) = .ok (((rns P).map (·.1)).map tupD) W := by
  unfold grpD
  cases e : rns P with
  | nil => rfl
  | cons g R => rfl
theorem rns_keys {P : List KR} {k : Row} : k ∈ (rns P).map (·.1) ↔ under P k ≠ [] := by
  constructor
  · intro h
    obtain ⟨g, hg, rfl⟩ := List.mem_map.mp h
    obtain ⟨p, hp, e⟩ := rns_mem hg
    intro q
    unfold under at q
    rw [List.map_eq_nil_iff, List.filter_eq_nil_iff] at q
    exact q p hp (by simpa using e)
  · intro h
    obtain ⟨r, hr⟩ := List.exists_mem_of_ne_nil _ h
    obtain ⟨p, hp, _⟩ := List.mem_map.mp hr
    obtain ⟨hp1, hp2⟩ := List.mem_filter.mp hp
    obtain ⟨g, hg, e⟩ := rns_under.rns_has hp1
    exact List.mem_map.mpr ⟨g, hg, e.trans (by simpa using hp2)⟩
theorem under_perm {P : List KR} {f : Row → Row} {rs : List Row} (h : P.Perm (rs.map fun r => (f r, r))) (k : Row) : (under P k).Perm (rs.filter fun r => decide (f r = k)) := by
  have h1 := (h.filter fun p => decide (p.1 = k)).map (·.2)
  refine h1.trans ?_
  rw [List.filter_map, List.map_map]
  have : ((fun p : KR => p.2) ∘ fun r => (f r, r)) = id := rfl
  rw [this, List.map_id]
  exact List.Perm.refl _
theorem under_mem {P : List KR} {f : Row → Row} {rs : List Row} (h : P.Perm (rs.map fun r => (f r, r))) {k o : Row} : o ∈ under P k ↔ o ∈ rs ∧ f o = k := by
  rw [(under_perm h k).mem_iff, List.mem_filter]
  simp
theorem under_len {P : List KR} {f : Row → Row} {rs : List Row} (h : P.Perm (rs.map fun r => (f r, r))) (k : Row) : (under P k).length ≤ rs.length := by
  rw [(under_perm h k).length_eq]
  exact List.length_filter_le _ _
theorem lc2_filt {α : Type} {asg : D → Wd → Option EnvD} {tst : EnvD → Wd → R Bool} {inn : EnvD → Wd → R (List D)} {W : Wd} (h : α → D) (f : α → List D) (p : α → Bool) : ∀ {xs : List α}, (∀ x ∈ xs, ∃ ρ, asg (h x) W = some ρ ∧ tst ρ W = .ok (p x) W ∧ (p x = true → inn ρ W = .ok (f x) W)) → lc2Loop asg tst inn (xs.map h) W = .ok ((xs.filter p).flatMap f) W
  | [], _ => rfl
  | x :: xs, hh => by
    obtain ⟨ρ, h1, h2, h3⟩ := hh x (by simp)
    have ih := lc2_filt h f p (xs := xs) fun y hy => hh y (by simp [hy])
    cases hp : p x
    · rw [hp] at h2
      simp [lc2Loop, h1, h2, ih, hp]
    · rw [hp] at h2
      simp [lc2Loop, h1, h2, h3 hp, ih, hp]
end PL

/-! LT: trees, as plain data. -/
namespace PL
open PySem

structure Tst where
  c : Nat
  is : Bool
  col : Bool
  v : Int
def Tst.d (t : Tst) : D := .tup [.int t.c, .str (if t.is = true then "is" else "not"), .str (if t.col = true then "column" else "value"), .int t.v]
inductive Tr where
  | tab (x : Str) | sel (t : Tr) (ts : List Tst) | prj (t : Tr) (cs : List Nat) | crd (t : Tr) (cs : List Nat) (n : Nat)
  | prd (a b : Tr) | jn (a b : Tr) (ps : List (Nat × Nat)) | uni (a b : Tr) | lft (a b : Tr) | dvd (a b : Tr)
def prD (p : Nat × Nat) : D := .tup [.int p.1, .int p.2]
def Tr.d : Tr → D
  | .tab x => .tup [.str "table", .str x]
  | .sel t ts => .tup [.str "select", t.d, .tup (ts.map Tst.d)]
  | .prj t cs => .tup [.str "project", t.d, .tup (natsD cs)]
  | .crd t cs n => .tup [.str "crowd", t.d, .tup (natsD cs), .int n]
  | .prd a b => .tup [.str "product", a.d, b.d]
  | .jn a b ps => .tup [.str "join", a.d, b.d, .tup (ps.map prD)]
  | .uni a b => .tup [.str "union", a.d, b.d]
  | .lft a b => .tup [.str "leftover", a.d, b.d]
  | .dvd a b => .tup [.str "divide", a.d, b.d]
/-- how many knots -/
def Tr.size : Tr → Nat
  | .tab _ => 1
  | .sel t _ => t.size + 1
  | .prj t _ => t.size + 1
  | .crd t _ _ => t.size + 1
  | .prd a b => a.size + b.size + 1
  | .jn a b _ => a.size + b.size + 1
  | .uni a b => a.size + b.size + 1
  | .lft a b => a.size + b.size + 1
  | .dvd a b => a.size + b.size + 1
def Tr.deep : Tr → Nat
  | .tab _ => 0
  | .sel t _ => t.deep + 1
  | .prj t _ => t.deep + 1
  | .crd t _ _ => t.deep + 1
  | .prd a b => max a.deep b.deep + 1
  | .jn a b _ => max a.deep b.deep + 1
  | .uni a b => max a.deep b.deep + 1
  | .lft a b => max a.deep b.deep + 1
  | .dvd a b => max a.deep b.deep + 1
def OkTst (n : Nat) (q : Tst) : Prop := q.c < n ∧ (q.col = true → ∃ i : Nat, q.v = i ∧ i < n) ∧ (q.col = false → 0 ≤ q.v ∧ q.v ≤ 1000000)
/-- a tree for the store s, of n columns, of m rows at most -/
inductive OkTr (s : Sto) : Tr → Nat → Nat → Prop
  | tab {x : Str} {t : Tb} {m : Nat} : (x, t) ∈ s → t.rows.length ≤ m → m ≤ 1000 → OkTr s (.tab x) t.c m
  | sel {t : Tr} {n m : Nat} {ts : List Tst} : OkTr s t n m → ts.length ≤ 6 → (∀ q ∈ ts, OkTst n q) → OkTr s (.sel t ts) n m
  | prj {t : Tr} {n m : Nat} {cs : List Nat} : OkTr s t n m → cs.length ≤ 12 → (∀ c ∈ cs, c < n) → OkTr s (.prj t cs) cs.length m
  | crd {t : Tr} {n m k : Nat} {cs : List Nat} : OkTr s t n m → cs.length ≤ 12 → (∀ c ∈ cs, c < n) → cs.Nodup → 1 ≤ k → k ≤ 40 → OkTr s (.crd t cs k) n m
  | prd {a b : Tr} {n m i j : Nat} : OkTr s a n m → OkTr s b i j → n + i ≤ 12 → m * j ≤ 1000 → OkTr s (.prd a b) (n + i) (m * j)
  | jn {a b : Tr} {n m i j : Nat} {ps : List (Nat × Nat)} : OkTr s a n m → OkTr s b i j → n + i ≤ 12 → m * j ≤ 1000 → ps.length ≤ 6 → (∀ p ∈ ps, p.1 < n ∧ p.2 < i) → OkTr s (.jn a b ps) (n + i) (m * j)
  | uni {a b : Tr} {n m j : Nat} : OkTr s a n m → OkTr s b n j → m + j ≤ 1000 → OkTr s (.uni a b) n (m + j)
  | lft {a b : Tr} {n m j : Nat} : OkTr s a n m → OkTr s b n j → OkTr s (.lft a b) n m
  | dvd {a b : Tr} {n m i j : Nat} : OkTr s a n m → OkTr s b i j → i ≤ n → OkTr s (.dvd a b) (n - i) m
/-! ### what a tree answers -/
def holdB (r : Row) (q : Tst) : Bool := decide (at0 r q.c = if q.col = true then at0 r q.v.toNat else q.v) == q.is
def selL (rows : List Row) (ts : List Tst) : List Row := rows.filter fun r => ts.all (holdB r)
def mateB (r o : Row) (ps : List (Nat × Nat)) : Bool := ps.all fun p => decide (at0 r p.1 = at0 o p.2)
def joinL (rows others : List Row) (ps : List (Nat × Nat)) : List Row := rows.flatMap fun r => (others.filter fun o => mateB r o ps).map (r ++ ·)
def crdL (rows : List Row) (cs : List Nat) (n : Nat) : List Row := rows.filter fun r => decide (n ≤ (rows.filter fun q => decide (proj cs q = proj cs r)).length)
def lftL (rows others : List Row) : List Row := rows.filter fun r => decide (r ∉ others)
def dvdL (rows others : List Row) (n : Nat) : List Row := (rows.map (·.take n)).filter fun h => others.all fun o => decide (h ++ o ∈ rows)
def tabRows (s : Sto) (x : Str) : List Row := ((s.find? fun p => decide (p.1 = x)).map (·.2.rows)).getD []
def Tr.wide (s : Sto) : Tr → Nat
  | .tab x => ((s.find? fun p => decide (p.1 = x)).map (·.2.c)).getD 0
  | .sel t _ => t.wide s
  | .prj _ cs => cs.length
  | .crd t _ _ => t.wide s
  | .prd a b => a.wide s + b.wide s
  | .jn a b _ => a.wide s + b.wide s
  | .uni a _ => a.wide s
  | .lft a _ => a.wide s
  | .dvd a b => a.wide s - b.wide s
def Tr.rows (s : Sto) : Tr → List Row
  | .tab x => tabRows s x
  | .sel t ts => sortL (selL (t.rows s) ts)
  | .prj t cs => sortL ((t.rows s).map (proj cs))
  | .crd t cs n => sortL (crdL (t.rows s) cs n)
  | .prd a b => sortL (joinL (a.rows s) (b.rows s) [])
  | .jn a b ps => sortL (joinL (a.rows s) (b.rows s) ps)
  | .uni a b => sortL (a.rows s ++ b.rows s)
  | .lft a b => sortL (lftL (a.rows s) (b.rows s))
  | .dvd a b => sortL (dvdL (a.rows s) (b.rows s) ((Tr.dvd a b).wide s))
theorem find_tab {s : Sto} (h : OkSt s) {x : Str} {t : Tb} (hm : (x, t) ∈ s) : s.find? (fun p => decide (p.1 = x)) = some (x, t) := by
  have pw := h.asc
  clear h
  induction s with
  | nil => cases hm
  | cons p s ih =>
    obtain ⟨p1, p2⟩ := List.pairwise_cons.mp pw
    rcases List.mem_cons.mp hm with rfl | hm
    · simp
    · have ne : ¬ p.1 = x := fun e => by
        have := p1 _ hm
        rw [e] at this
        exact List.lt_irrefl _ this
      rw [List.find?_cons_of_neg (by simpa using ne)]
      exact ih hm p2
theorem joinL_len (rows others : List Row) (ps : List (Nat × Nat)) : (joinL rows others ps).length ≤ rows.length * others.length := by
  induction rows with
  | nil => simp [joinL]
  | cons r rows ih =>
    have h := List.length_filter_le (fun o => mateB r o ps) others
    have e : joinL (r :: rows) others ps = (others.filter fun o => mateB r o ps).map (r ++ ·) ++ joinL rows others ps := rfl
    rw [e, List.length_append, List.length_map, List.length_cons, Nat.succ_mul]
    omega
theorem mem_filt {α : Type} {p : α → Bool} {a : α} {l : List α} (h : a ∈ l.filter p) : a ∈ l := (List.mem_filter.mp h).1
/-- the answer's rows: as wide as told, strictly ascending, few -/
structure OkRows (rows : List Row) (n m : Nat) : Prop where
  w : ∀ r ∈ rows, r.length = n
  asc : rows.Pairwise (· < ·)
  few : rows.length ≤ m
theorem OkTr.bound {s : Sto} {t : Tr} {n m : Nat} (hs : OkSt s) (h : OkTr s t n m) : n ≤ 12 ∧ m ≤ 1000 ∧ t.wide s = n ∧ OkRows (t.rows s) n m := by
  induction h with
  | @tab x tb m hm hl h1 =>
    have ht := hs.tb _ hm
    have hc := ht.c
    have e := find_tab hs hm
    simp only at ht hc
    refine ⟨by omega, h1, by simp [Tr.wide, e], ?_⟩
    have er : tabRows s x = tb.rows := by unfold tabRows; rw [e]; rfl
    show OkRows (tabRows s x) _ _
    rw [er]
    exact ⟨fun r hr => (ht.row r hr).len, ht.asc, hl⟩
  | @sel t n m ts _ _ _ ih =>
    obtain ⟨h1, h2, h3, w, a, f⟩ := ih
    refine ⟨h1, h2, h3, fun r hr => ?_, sortL_pw _, Nat.le_trans (sortL_len _) (Nat.le_trans (List.length_filter_le _ _) f)⟩
    exact w r (mem_filt (sortL_mem.mp hr))
  | @prj t n m cs _ hl _ ih =>
    obtain ⟨h1, h2, h3, w, a, f⟩ := ih
    refine ⟨hl, h2, rfl, fun r hr => ?_, sortL_pw _, Nat.le_trans (sortL_len _) (by rw [List.length_map]; exact f)⟩
    obtain ⟨q, _, rfl⟩ := List.mem_map.mp (sortL_mem.mp hr)
    simp [proj]
  | @crd t n m k cs _ _ _ _ _ _ ih =>
    obtain ⟨h1, h2, h3, w, a, f⟩ := ih
    refine ⟨h1, h2, h3, fun r hr => ?_, sortL_pw _, Nat.le_trans (sortL_len _) (Nat.le_trans (List.length_filter_le _ _) f)⟩
    exact w r (mem_filt (sortL_mem.mp hr))
  | @prd a b n m i j _ _ hn hm iha ihb =>
    obtain ⟨h1, h2, h3, w, a1, f⟩ := iha
    obtain ⟨g1, g2, g3, v, b1, e⟩ := ihb
    refine ⟨hn, hm, by simp [Tr.wide, h3, g3], fun r hr => ?_, sortL_pw _, Nat.le_trans (sortL_len _) (Nat.le_trans (joinL_len _ _ _) (Nat.mul_le_mul f e))⟩
    obtain ⟨q, hq, hr⟩ := List.mem_flatMap.mp (sortL_mem.mp hr)
    obtain ⟨o, ho, rfl⟩ := List.mem_map.mp hr
    rw [List.length_append, w q hq, v o (mem_filt ho)]
  | @jn a b n m i j ps _ _ hn hm _ _ iha ihb =>
    obtain ⟨h1, h2, h3, w, a1, f⟩ := iha
    obtain ⟨g1, g2, g3, v, b1, e⟩ := ihb
    refine ⟨hn, hm, by simp [Tr.wide, h3, g3], fun r hr => ?_, sortL_pw _, Nat.le_trans (sortL_len _) (Nat.le_trans (joinL_len _ _ _) (Nat.mul_le_mul f e))⟩
    obtain ⟨q, hq, hr⟩ := List.mem_flatMap.mp (sortL_mem.mp hr)
    obtain ⟨o, ho, rfl⟩ := List.mem_map.mp hr
    rw [List.length_append, w q hq, v o (mem_filt ho)]
  | @uni a b n m j _ _ hm iha ihb =>
    obtain ⟨h1, h2, h3, w, a1, f⟩ := iha
    obtain ⟨g1, g2, g3, v, b1, e⟩ := ihb
    refine ⟨h1, hm, h3, fun r hr => ?_, sortL_pw _, Nat.le_trans (sortL_len _) (by rw [List.length_append]; omega)⟩
    rcases List.mem_append.mp (sortL_mem.mp hr) with hr | hr
    · exact w r hr
    · exact v r hr
  | @lft a b n m j _ _ iha ihb =>
    obtain ⟨h1, h2, h3, w, a1, f⟩ := iha
    refine ⟨h1, h2, h3, fun r hr => ?_, sortL_pw _, Nat.le_trans (sortL_len _) (Nat.le_trans (List.length_filter_le _ _) f)⟩
    exact w r (mem_filt (sortL_mem.mp hr))
  | @dvd a b n m i j _ _ hi iha ihb =>
    obtain ⟨h1, h2, h3, w, a1, f⟩ := iha
    obtain ⟨g1, g2, g3, v, b1, e⟩ := ihb
    have hw : (Tr.dvd a b).wide s = n - i := by simp [Tr.wide, h3, g3]
    refine ⟨by omega, h2, hw, fun r hr => ?_, sortL_pw _, Nat.le_trans (sortL_len _) (Nat.le_trans (List.length_filter_le _ _) (by rw [List.length_map]; exact f))⟩
    obtain ⟨q, hq, rfl⟩ := List.mem_map.mp (mem_filt (sortL_mem.mp hr))
    rw [List.length_take, w q hq, hw]
    omega
/-! ### words -/
@[simp] theorem ne_table_select : ¬ ("table" : Str) = ("select" : Str) := by decide +kernel
@[simp] theorem ne_table_project : ¬ ("table" : Str) = ("project" : Str) := by decide +kernel
@[simp] theorem ne_table_crowd : ¬ ("table" : Str) = ("crowd" : Str) := by decide +kernel
@[simp] theorem ne_table_product : ¬ ("table" : Str) = ("product" : Str) := by decide +kernel
@[simp] theorem ne_table_join : ¬ ("table" : Str) = ("join" : Str) := by decide +kernel
@[simp] theorem ne_table_union : ¬ ("table" : Str) = ("union" : Str) := by decide +kernel
@[simp] theorem ne_table_leftover : ¬ ("table" : Str) = ("leftover" : Str) := by decide +kernel
@[simp] theorem ne_table_divide : ¬ ("table" : Str) = ("divide" : Str) := by decide +kernel
@[simp] theorem ne_select_table : ¬ ("select" : Str) = ("table" : Str) := by decide +kernel
@[simp] theorem ne_select_project : ¬ ("select" : Str) = ("project" : Str) := by decide +kernel
@[simp] theorem ne_select_crowd : ¬ ("select" : Str) = ("crowd" : Str) := by decide +kernel
@[simp] theorem ne_select_product : ¬ ("select" : Str) = ("product" : Str) := by decide +kernel
@[simp] theorem ne_select_join : ¬ ("select" : Str) = ("join" : Str) := by decide +kernel
@[simp] theorem ne_select_union : ¬ ("select" : Str) = ("union" : Str) := by decide +kernel
@[simp] theorem ne_select_leftover : ¬ ("select" : Str) = ("leftover" : Str) := by decide +kernel
@[simp] theorem ne_select_divide : ¬ ("select" : Str) = ("divide" : Str) := by decide +kernel
@[simp] theorem ne_project_table : ¬ ("project" : Str) = ("table" : Str) := by decide +kernel
@[simp] theorem ne_project_select : ¬ ("project" : Str) = ("select" : Str) := by decide +kernel
@[simp] theorem ne_project_crowd : ¬ ("project" : Str) = ("crowd" : Str) := by decide +kernel
@[simp] theorem ne_project_product : ¬ ("project" : Str) = ("product" : Str) := by decide +kernel
@[simp] theorem ne_project_join : ¬ ("project" : Str) = ("join" : Str) := by decide +kernel
@[simp] theorem ne_project_union : ¬ ("project" : Str) = ("union" : Str) := by decide +kernel
@[simp] theorem ne_project_leftover : ¬ ("project" : Str) = ("leftover" : Str) := by decide +kernel
@[simp] theorem ne_project_divide : ¬ ("project" : Str) = ("divide" : Str) := by decide +kernel
@[simp] theorem ne_crowd_table : ¬ ("crowd" : Str) = ("table" : Str) := by decide +kernel
@[simp] theorem ne_crowd_select : ¬ ("crowd" : Str) = ("select" : Str) := by decide +kernel
@[simp] theorem ne_crowd_project : ¬ ("crowd" : Str) = ("project" : Str) := by decide +kernel
@[simp] theorem ne_crowd_product : ¬ ("crowd" : Str) = ("product" : Str) := by decide +kernel
@[simp] theorem ne_crowd_join : ¬ ("crowd" : Str) = ("join" : Str) := by decide +kernel
@[simp] theorem ne_crowd_union : ¬ ("crowd" : Str) = ("union" : Str) := by decide +kernel
@[simp] theorem ne_crowd_leftover : ¬ ("crowd" : Str) = ("leftover" : Str) := by decide +kernel
@[simp] theorem ne_crowd_divide : ¬ ("crowd" : Str) = ("divide" : Str) := by decide +kernel
@[simp] theorem ne_product_table : ¬ ("product" : Str) = ("table" : Str) := by decide +kernel
@[simp] theorem ne_product_select : ¬ ("product" : Str) = ("select" : Str) := by decide +kernel
@[simp] theorem ne_product_project : ¬ ("product" : Str) = ("project" : Str) := by decide +kernel
@[simp] theorem ne_product_crowd : ¬ ("product" : Str) = ("crowd" : Str) := by decide +kernel
@[simp] theorem ne_product_join : ¬ ("product" : Str) = ("join" : Str) := by decide +kernel
@[simp] theorem ne_product_union : ¬ ("product" : Str) = ("union" : Str) := by decide +kernel
@[simp] theorem ne_product_leftover : ¬ ("product" : Str) = ("leftover" : Str) := by decide +kernel
@[simp] theorem ne_product_divide : ¬ ("product" : Str) = ("divide" : Str) := by decide +kernel
@[simp] theorem ne_join_table : ¬ ("join" : Str) = ("table" : Str) := by decide +kernel
@[simp] theorem ne_join_select : ¬ ("join" : Str) = ("select" : Str) := by decide +kernel
@[simp] theorem ne_join_project : ¬ ("join" : Str) = ("project" : Str) := by decide +kernel
@[simp] theorem ne_join_crowd : ¬ ("join" : Str) = ("crowd" : Str) := by decide +kernel
@[simp] theorem ne_join_product : ¬ ("join" : Str) = ("product" : Str) := by decide +kernel
@[simp] theorem ne_join_union : ¬ ("join" : Str) = ("union" : Str) := by decide +kernel
@[simp] theorem ne_join_leftover : ¬ ("join" : Str) = ("leftover" : Str) := by decide +kernel
@[simp] theorem ne_join_divide : ¬ ("join" : Str) = ("divide" : Str) := by decide +kernel
@[simp] theorem ne_union_table : ¬ ("union" : Str) = ("table" : Str) := by decide +kernel
@[simp] theorem ne_union_select : ¬ ("union" : Str) = ("select" : Str) := by decide +kernel
@[simp] theorem ne_union_project : ¬ ("union" : Str) = ("project" : Str) := by decide +kernel
@[simp] theorem ne_union_crowd : ¬ ("union" : Str) = ("crowd" : Str) := by decide +kernel
@[simp] theorem ne_union_product : ¬ ("union" : Str) = ("product" : Str) := by decide +kernel
@[simp] theorem ne_union_join : ¬ ("union" : Str) = ("join" : Str) := by decide +kernel
@[simp] theorem ne_union_leftover : ¬ ("union" : Str) = ("leftover" : Str) := by decide +kernel
@[simp] theorem ne_union_divide : ¬ ("union" : Str) = ("divide" : Str) := by decide +kernel
@[simp] theorem ne_leftover_table : ¬ ("leftover" : Str) = ("table" : Str) := by decide +kernel
@[simp] theorem ne_leftover_select : ¬ ("leftover" : Str) = ("select" : Str) := by decide +kernel
@[simp] theorem ne_leftover_project : ¬ ("leftover" : Str) = ("project" : Str) := by decide +kernel
@[simp] theorem ne_leftover_crowd : ¬ ("leftover" : Str) = ("crowd" : Str) := by decide +kernel
@[simp] theorem ne_leftover_product : ¬ ("leftover" : Str) = ("product" : Str) := by decide +kernel
@[simp] theorem ne_leftover_join : ¬ ("leftover" : Str) = ("join" : Str) := by decide +kernel
@[simp] theorem ne_leftover_union : ¬ ("leftover" : Str) = ("union" : Str) := by decide +kernel
@[simp] theorem ne_leftover_divide : ¬ ("leftover" : Str) = ("divide" : Str) := by decide +kernel
@[simp] theorem ne_divide_table : ¬ ("divide" : Str) = ("table" : Str) := by decide +kernel
@[simp] theorem ne_divide_select : ¬ ("divide" : Str) = ("select" : Str) := by decide +kernel
@[simp] theorem ne_divide_project : ¬ ("divide" : Str) = ("project" : Str) := by decide +kernel
@[simp] theorem ne_divide_crowd : ¬ ("divide" : Str) = ("crowd" : Str) := by decide +kernel
@[simp] theorem ne_divide_product : ¬ ("divide" : Str) = ("product" : Str) := by decide +kernel
@[simp] theorem ne_divide_join : ¬ ("divide" : Str) = ("join" : Str) := by decide +kernel
@[simp] theorem ne_divide_union : ¬ ("divide" : Str) = ("union" : Str) := by decide +kernel
@[simp] theorem ne_divide_leftover : ¬ ("divide" : Str) = ("leftover" : Str) := by decide +kernel
end PL

/-! the codes of nearlysure_k09_whole_answers_of_trees, printed by comp.py -/
namespace LW
open PySem PL
def top (i : Nat) : Stmt := PySem.Challenge.pw_nearlysure_k09_whole_answers_of_trees.main.body.getD i (.Pass ⟨0, 0, 0, 0⟩)
def b_law_1 : Ss := .cons (.ife (.or (.cons (.cmp .NotEq (.call ("answer_of" : Str) (.cons (.var 7) (.cons (.var 10) .nil))) (.var 11)) (.cons (.cmp .NotEq (.bi ("list" : Str) (.cons (.var 11) .nil)) (.call ("_law_answer" : Str) (.cons (.var 7) (.cons (.var 10) .nil)))) .nil))) (.cons (.ret (.cst (.bl false))) .nil) (.nil)) .nil
def l_law_2 : S := .for_ (.tp [.nm 10, .nm 11]) (.seq (.var 6)) (b_law_1)
def b_law_3 : Ss := .cons (.asg (.tp [.nm 12, .nm 10, .nm 13]) (.call ("_law_case" : Str) (.cons (.var 1) (.cons (.call ("_law_some" : Str) (.cons (.var 1) (.cons (.lst (.cons (.cst (.int (0))) (.cons (.cst (.int (2))) (.cons (.cst (.int (3))) .nil)))) .nil))) (.cons (.cst (.int (2))) .nil))))) (.cons (.ife (.not (.call ("_law_right" : Str) (.cons (.var 1) (.cons (.var 12) (.cons (.var 10) (.cons (.var 13) .nil)))))) (.cons (.ret (.cst (.bl false))) .nil) (.nil)) .nil)
def l_law_4 : S := .for_ (.nm 2) (.rng1 (.cst (.int (5)))) (b_law_3)
def x__law_answer_1 : C := .lc [(("column" : Str), 6)] (.nm 6) (.seq (.ix (.var 1) (.cst (.int (2))))) (.nil) (.ix (.var 5) (.var 6))
def x__law_answer_2 : C := .lc [(("row" : Str), 5)] (.nm 5) (.seq (.var 3)) (.nil) (.bi ("tuple" : Str) (.cons (x__law_answer_1) .nil))
def x__law_answer_3 : C := .lc [(("row" : Str), 5)] (.nm 5) (.seq (.var 3)) (.cons (.cmp .NotIn (.var 5) (.var 4)) .nil) (.var 5)
def b__law_right_1 : Ss := .cons (.asg (.nm 6) (.call ("_law_filling" : Str) (.cons (.var 0) (.cons (.var 1) .nil)))) (.cons (.ife (.cmp .NotEq (.bi ("list" : Str) (.cons (.call ("filled_answer" : Str) (.cons (.var 1) (.cons (.var 2) (.cons (.var 6) .nil)))) .nil)) (.call ("_law_answer" : Str) (.cons (.call ("_law_filled" : Str) (.cons (.var 1) (.cons (.var 6) .nil))) (.cons (.var 2) .nil)))) (.cons (.ret (.cst (.bl false))) .nil) (.nil)) (.cons (.asg (.nm 7) (.call ("is_in" : Str) (.cons (.var 1) (.cons (.var 2) (.cons (.var 3) (.cons (.var 6) .nil)))))) (.cons (.ife (.or (.cons (.not (.isi (.var 7) "bool")) (.cons (.cmp .NotEq (.var 7) (.call ("_law_in" : Str) (.cons (.var 1) (.cons (.var 2) (.cons (.var 3) (.cons (.var 6) .nil)))))) .nil))) (.cons (.ret (.cst (.bl false))) .nil) (.nil)) .nil)))
def l__law_right_2 : S := .for_ (.nm 5) (.rng1 (.cst (.int (2)))) (b__law_right_1)
def x__law_crowd_1 : C := .lc [(("at" : Str), 5), (("row" : Str), 4)] (.tp [.nm 5, .nm 4]) (.enum (.var 0)) (.cons (.cmp .GtE (.mt1 .count (.var 3) (.ix (.var 3) (.var 5))) (.var 2)) .nil) (.var 4)
def x__law_crowd_2 : C := .lc [(("column" : Str), 6)] (.nm 6) (.seq (.var 1)) (.nil) (.ix (.var 4) (.var 6))
def x__law_crowd_3 : C := .lc [(("row" : Str), 4)] (.nm 4) (.seq (.var 0)) (.nil) (.bi ("tuple" : Str) (.cons (x__law_crowd_2) .nil))
def x__law_divide_1 : C := .lc [(("other" : Str), 6)] (.nm 6) (.seq (.var 1)) (.cons (.cmp .NotIn (.bin .Add (.var 5) (.var 6)) (.var 0)) .nil) (.var 6)
def x__law_divide_2 : C := .lc [(("head" : Str), 5)] (.nm 5) (.seq (.var 3)) (.cons (.cmp .Eq (x__law_divide_1) (.lst (.nil))) .nil) (.var 5)
def x__law_divide_3 : C := .lc [(("row" : Str), 4)] (.nm 4) (.seq (.var 0)) (.nil) (.sl (.var 4) (.no) (.yes (.var 2)))
def x__law_join_1 : C := .lc [(("one" : Str), 6), (("two" : Str), 7)] (.tp [.nm 6, .nm 7]) (.seq (.var 2)) (.cons (.cmp .NotEq (.ix (.var 4) (.var 6)) (.ix (.var 5) (.var 7))) .nil) (.cst (.int (1)))
def x__law_join_2 : C := .lc [(("other" : Str), 5)] (.nm 5) (.seq (.var 1)) (.cons (.cmp .Eq (x__law_join_1) (.lst (.nil))) .nil) (.bin .Add (.var 4) (.var 5))
def b__law_join_3 : Ss := .cons (.asg (.nm 3) (.bin .Add (.var 3) (x__law_join_2))) .nil
def l__law_join_4 : S := .for_ (.nm 4) (.seq (.var 0)) (b__law_join_3)
def x__law_select_1 : C := .lc [(("test" : Str), 3)] (.nm 3) (.seq (.var 1)) (.cons (.not (.call ("_law_holds" : Str) (.cons (.var 2) (.cons (.var 3) .nil)))) .nil) (.var 3)
def x__law_select_2 : C := .lc [(("row" : Str), 2)] (.nm 2) (.seq (.var 0)) (.cons (.cmp .Eq (x__law_select_1) (.lst (.nil))) .nil) (.var 2)
def x__law_asked_1 : C := .lc [(("column" : Str), 8)] (.nm 8) (.rng1 (.var 3)) (.nil) (.call ("_law_some" : Str) (.cons (.var 0) (.cons (.var 5) .nil)))
def x__law_filled_1 : C := .lc [(("row" : Str), 7)] (.nm 7) (.seq (.ix (.var 5) (.cst (.int (1))))) (.nil) (.call ("_law_put" : Str) (.cons (.var 7) (.cons (.var 2) .nil)))
def b__law_filled_2 : Ss := .cons (.asg (.nm 6) (.bi ("tuple" : Str) (.cons (.bi ("sorted" : Str) (.cons (.bi ("set" : Str) (.cons (x__law_filled_1) .nil)) .nil)) .nil))) (.cons (.asg (.nm 3) (.bin .Add (.var 3) (.tup (.cons (.tup (.cons (.var 4) (.cons (.tup (.cons (.ix (.var 5) (.cst (.int (0)))) (.cons (.var 6) .nil))) .nil))) .nil)))) .nil)
def l__law_filled_3 : S := .for_ (.tp [.nm 4, .nm 5]) (.seq (.var 0)) (b__law_filled_2)
def x__law_filling_1 : C := .lc [(("unknown" : Str), 2)] (.nm 2) (.seq (.call ("_law_unknowns" : Str) (.cons (.var 1) .nil))) (.nil) (.call ("_law_some" : Str) (.cons (.var 0) (.cons (.lst (.cons (.cst (.int (1))) (.cons (.cst (.int (1))) (.cons (.cst (.int (2))) (.cons (.cst (.int (3))) (.cons (.cst (.int (4))) (.cons (.cst (.int (7))) (.cons (.cst (.int (9))) .nil)))))))) .nil)))
def x_filled_by_1 : C := .lc [(("row" : Str), 6)] (.nm 6) (.seq (.ix (.var 4) (.cst (.int (1))))) (.nil) (.call ("row_by" : Str) (.cons (.var 6) (.cons (.var 1) .nil)))
def b_filled_by_2 : Ss := .cons (.asg (.nm 5) (.bi ("tuple" : Str) (.cons (.bi ("sorted" : Str) (.cons (.bi ("set" : Str) (.cons (x_filled_by_1) .nil)) .nil)) .nil))) (.cons (.asg (.nm 2) (.bin .Add (.var 2) (.tup (.cons (.tup (.cons (.var 3) (.cons (.tup (.cons (.ix (.var 4) (.cst (.int (0)))) (.cons (.var 5) .nil))) .nil))) .nil)))) .nil)
def l_filled_by_3 : S := .for_ (.tp [.nm 3, .nm 4]) (.seq (.var 0)) (b_filled_by_2)
def x_need_row_1 : C := .lc [(("cell" : Str), 4)] (.nm 4) (.seq (.var 2)) (.nil) (.or (.cons (.cmp .GtE (.var 4) (.cst (.int (0)))) (.cons (.cmp .In (.var 4) (.var 3)) .nil)))
def x__law_unknowns_1 : C := .lc [(("cell" : Str), 5)] (.nm 5) (.seq (.var 4)) (.cons (.and (.cons (.cmp .Lt (.var 5) (.cst (.int (0)))) (.cons (.cmp .NotIn (.var 5) (.var 1)) .nil))) .nil) (.var 5)
def b__law_unknowns_2 : Ss := .cons (.asg (.nm 1) (.bin .Add (.var 1) (x__law_unknowns_1))) .nil
def l__law_unknowns_3 : S := .for_ (.nm 4) (.seq (.ix (.var 3) (.cst (.int (1))))) (b__law_unknowns_2)
def b__law_unknowns_4 : Ss := .cons (l__law_unknowns_3) .nil
def l__law_unknowns_5 : S := .for_ (.tp [.nm 2, .nm 3]) (.seq (.var 0)) (b__law_unknowns_4)
def x__law_table_1 : C := .lc [(("column" : Str), 6)] (.nm 6) (.rng1 (.var 1)) (.nil) (.call ("_law_cell" : Str) (.cons (.var 0) (.cons (.var 3) .nil)))
def x__law_table_2 : C := .lc [(("row" : Str), 5)] (.nm 5) (.rng1 (.call ("_law_roll" : Str) (.cons (.var 0) (.cons (.bin .Add (.var 2) (.cst (.int (1)))) .nil)))) (.nil) (.bi ("tuple" : Str) (.cons (x__law_table_1) .nil))
def x__law_one_1 : C := .lc [(("column" : Str), 6)] (.nm 6) (.rng1 (.bin .Add (.cst (.int (1))) (.call ("_law_roll" : Str) (.cons (.var 0) (.cons (.cst (.int (2))) .nil))))) (.nil) (.call ("_law_roll" : Str) (.cons (.var 0) (.cons (.var 2) .nil)))
def x__law_one_2 : C := .lc [(("test" : Str), 7)] (.nm 7) (.rng1 (.bin .Add (.cst (.int (1))) (.call ("_law_roll" : Str) (.cons (.var 0) (.cons (.cst (.int (2))) .nil))))) (.nil) (.call ("_law_test" : Str) (.cons (.var 0) (.cons (.var 2) .nil)))
def x__law_put_1 : C := .lc [(("cell" : Str), 2)] (.nm 2) (.seq (.var 0)) (.nil) (.get (.var 1) (.var 2) (.var 2))
def x_fits_store_1 : C := .lc [(("letter" : Str), 2), (("table" : Str), 3)] (.tp [.nm 2, .nm 3]) (.seq (.var 0)) (.nil) (.bi ("len" : Str) (.cons (.ix (.var 3) (.cst (.int (1)))) .nil))
def x_fits_store_2 : C := .lc [(("letter" : Str), 2), (("table" : Str), 3)] (.tp [.nm 2, .nm 3]) (.seq (.var 0)) (.nil) (.var 2)
def x_fits_store_3 : C := .lc [(("letter" : Str), 2), (("table" : Str), 3)] (.tp [.nm 2, .nm 3]) (.seq (.var 0)) (.nil) (.and (.cons (.call ("fits_letter" : Str) (.cons (.var 2) .nil)) (.cons (.call ("fits_table" : Str) (.cons (.var 3) .nil)) .nil)))
def x_fits_store_4 : C := .lc [(("pair" : Str), 1)] (.nm 1) (.seq (.var 0)) (.nil) (.call ("is_tuple_of" : Str) (.cons (.var 1) (.cons (.cst (.int (2))) (.cons (.cst (.int (2))) .nil))))
def x_one_done_1 : C := .lc [(("column" : Str), 3)] (.nm 3) (.seq (.ix (.var 0) (.cst (.int (2))))) (.nil) (.ix (.var 2) (.var 3))
def x_one_done_2 : C := .lc [(("row" : Str), 2)] (.nm 2) (.seq (.var 1)) (.nil) (.bi ("tuple" : Str) (.cons (x_one_done_1) .nil))
def x_one_done_3 : C := .lc [(("test" : Str), 4)] (.nm 4) (.seq (.ix (.var 0) (.cst (.int (2))))) (.nil) (.call ("does_hold" : Str) (.cons (.var 2) (.cons (.var 4) .nil)))
def x_one_done_4 : C := .lc [(("row" : Str), 2)] (.nm 2) (.seq (.var 1)) (.cons (.bi ("all" : Str) (.cons (x_one_done_3) .nil)) .nil) (.var 2)
def x_two_done_1 : C := .lc [(("row" : Str), 5)] (.nm 5) (.seq (.var 2)) (.cons (.cmp .NotIn (.var 5) (.var 4)) .nil) (.var 5)
def x_two_done_2 : C := .lc [(("row" : Str), 5)] (.nm 5) (.seq (.var 3)) (.nil) (.tup (.cons (.var 5) (.cons (.cst (.bl true)) .nil)))
def x_row_by_1 : C := .lc [(("cell" : Str), 2)] (.nm 2) (.seq (.var 0)) (.nil) (.get (.var 1) (.var 2) (.var 2))
def x_fits_filling_1 : C := .lc [(("one" : Str), 3)] (.nm 3) (.seq (.var 1)) (.nil) (.call ("fits_value" : Str) (.cons (.var 3) .nil))
def x_unknowns_in_1 : C := .lc [(("cell" : Str), 1)] (.nm 1) (.seq (.call ("cells_in" : Str) (.cons (.var 0) .nil))) (.cons (.cmp .Lt (.var 1) (.cst (.int (0)))) .nil) (.var 1)
def x_columns_by_1 : C := .lc [(("letter" : Str), 7), (("table" : Str), 8)] (.tp [.nm 7, .nm 8]) (.seq (.var 0)) (.cons (.and (.cons (.cmp .Eq (.bi ("len" : Str) (.cons (.var 1) .nil)) (.cst (.int (2)))) (.cons (.cmp .Eq (.var 7) (.ix (.var 1) (.cst (.int (1))))) .nil))) .nil) (.var 8)
def x_fits_row_1 : C := .lc [(("cell" : Str), 2)] (.nm 2) (.seq (.var 1)) (.nil) (.call ("is_whole" : Str) (.cons (.var 2) (.cons (.glo ("LEAST" : Str) (.int (-6))) (.cons (.glo ("GREATEST" : Str) (.int (1000000))) .nil))))
def x__law_cell_1 : C := .lc [(("at" : Str), 2)] (.nm 2) (.rng1 (.var 1)) (.nil) (.bin .Sub (.neg (.cst (.int (1)))) (.var 2))
def x__law_fit_1 : C := .lc [(("column" : Str), 4)] (.nm 4) (.rng1 (.var 3)) (.nil) (.call ("_law_roll" : Str) (.cons (.var 0) (.cons (.var 2) .nil)))
def x_does_ascend_1 : C := .lc [(("one" : Str), 1), (("other" : Str), 2)] (.tp [.nm 1, .nm 2]) (.zip (.var 0) (.sl (.var 0) (.yes (.cst (.int (1)))) (.no))) (.nil) (.cmp .Lt (.var 1) (.var 2))
def x_fits_table_1 : C := .lc [(("row" : Str), 1)] (.nm 1) (.seq (.ix (.var 0) (.cst (.int (1))))) (.nil) (.call ("fits_row" : Str) (.cons (.ix (.var 0) (.cst (.int (0)))) (.cons (.var 1) .nil)))
def b_knots_in_1 : Ss := .cons (.asg (.tp [.nm 3, .nm 2]) (.tup (.cons (.ix (.var 2) (.cst (.int (0)))) (.cons (.sl (.var 2) (.yes (.cst (.int (1)))) (.no)) .nil)))) (.cons (.asg (.nm 1) (.bin .Add (.var 1) (.lst (.cons (.var 3) .nil)))) (.cons (.ife (.and (.cons (.isi (.var 3) "tuple") (.cons (.cmp .NotEq (.var 3) (.tup (.nil))) (.cons (.isi (.ix (.var 3) (.cst (.int (0)))) "str") .nil)))) (.cons (.asg (.nm 2) (.bin .Add (.var 2) (.bi ("list" : Str) (.cons (.ite (.cmp .In (.ix (.var 3) (.cst (.int (0)))) (.glo ("ONES" : Str) (.tup [.str ("select" : Str), .str ("project" : Str), .str ("crowd" : Str)]))) (.sl (.var 3) (.yes (.cst (.int (1)))) (.yes (.cst (.int (2))))) (.ite (.cmp .In (.ix (.var 3) (.cst (.int (0)))) (.glo ("TWOS" : Str) (.tup [.str ("product" : Str), .str ("join" : Str), .str ("union" : Str), .str ("leftover" : Str), .str ("divide" : Str)]))) (.sl (.var 3) (.yes (.cst (.int (1)))) (.yes (.cst (.int (3))))) (.tup (.nil)))) .nil)))) .nil) (.nil)) .nil))
def l_knots_in_2 : S := .whl (.and (.cons (.cmp .NotEq (.var 2) (.lst (.nil))) (.cons (.cmp .LtE (.bi ("len" : Str) (.cons (.var 1) .nil)) (.glo ("KNOTS" : Str) (.int (20)))) .nil))) (b_knots_in_1)
def x_crowded_1 : C := .lc2 [(("cells" : Str), 4), (("row" : Str), 5)] (.nm 4) (.seq (.var 3)) (.cons (.cmp .GtE (.bi ("len" : Str) (.cons (.ix (.var 3) (.var 4)) .nil)) (.var 2)) .nil) [5] (.nm 5) (.seq (.ix (.var 3) (.var 4))) (.nil) (.var 5)
def x_divided_1 : C := .lc [(("row" : Str), 7)] (.nm 7) (.seq (.ix (.var 3) (.var 5))) (.cons (.cmp .In (.sl (.var 7) (.yes (.var 2)) (.no)) (.var 4)) .nil) (.var 7)
def x_divided_2 : C := .lc [(("cells" : Str), 5)] (.nm 5) (.seq (.var 3)) (.cons (.cmp .Eq (.bi ("len" : Str) (.cons (x_divided_1) .nil)) (.bi ("len" : Str) (.cons (.var 4) .nil))) .nil) (.var 5)
def x_divided_3 : C := .lc [(("other" : Str), 6)] (.nm 6) (.seq (.var 1)) (.nil) (.tup (.cons (.var 6) (.cons (.cst (.bl true)) .nil)))
def x_joined_1 : C := .lc2 [(("row" : Str), 5), (("some" : Str), 7), (("other" : Str), 6)] (.tp [.nm 5, .nm 7]) (.seq (.var 4)) (.nil) [6] (.nm 6) (.seq (.var 7)) (.nil) (.bin .Add (.var 5) (.var 6))
def x_joined_2 : C := .lc [(("row" : Str), 5), (("some" : Str), 7)] (.tp [.nm 5, .nm 7]) (.seq (.var 4)) (.nil) (.bi ("len" : Str) (.cons (.var 7) .nil))
def x_joined_3 : C := .lc [(("first" : Str), 8), (("second" : Str), 9)] (.tp [.nm 8, .nm 9]) (.seq (.var 2)) (.nil) (.ix (.var 5) (.var 8))
def x_joined_4 : C := .lc [(("row" : Str), 5)] (.nm 5) (.seq (.var 0)) (.nil) (.tup (.cons (.var 5) (.cons (.get (.var 3) (.bi ("tuple" : Str) (.cons (x_joined_3) .nil)) (.lst (.nil))) .nil)))
def x_joined_5 : C := .lc [(("first" : Str), 8), (("second" : Str), 9)] (.tp [.nm 8, .nm 9]) (.seq (.var 2)) (.nil) (.var 9)
def x_cells_in_1 : C := .lc2 [(("row" : Str), 4), (("cell" : Str), 5)] (.nm 4) (.seq (.ix (.var 3) (.cst (.int (1))))) (.nil) [5] (.nm 5) (.seq (.var 4)) (.nil) (.var 5)
def b_cells_in_2 : Ss := .cons (.asg (.nm 1) (.bin .Add (.var 1) (x_cells_in_1))) .nil
def l_cells_in_3 : S := .for_ (.tp [.nm 2, .nm 3]) (.seq (.var 0)) (b_cells_in_2)
def x_columns_of_one_1 : C := .lc [(("test" : Str), 4)] (.nm 4) (.seq (.ix (.var 3) (.cst (.int (0))))) (.nil) (.call ("fits_test" : Str) (.cons (.var 1) (.cons (.var 4) .nil)))
def x_grouped_1 : C := .lc [(("cells" : Str), 11), (("row" : Str), 5)] (.tp [.nm 11, .nm 5]) (.seq (.sl (.var 2) (.yes (.var 8)) (.yes (.var 9)))) (.nil) (.var 5)
def x_grouped_2 : C := .lc [(("one" : Str), 8), (("end" : Str), 9)] (.tp [.nm 8, .nm 9]) (.zip (.var 3) (.var 4)) (.nil) (.tup (.cons (.ix (.ix (.var 2) (.var 8)) (.cst (.int (0)))) (.cons (x_grouped_1) .nil)))
def x_grouped_3 : C := .lc [(("at" : Str), 6), (("pair" : Str), 7)] (.tp [.nm 6, .nm 7]) (.enum (.var 2)) (.cons (.or (.cons (.cmp .Eq (.var 6) (.cst (.int (0)))) (.cons (.cmp .NotEq (.ix (.ix (.var 2) (.bin .Sub (.var 6) (.cst (.int (1))))) (.cst (.int (0)))) (.ix (.var 7) (.cst (.int (0))))) .nil))) .nil) (.var 6)
def x_grouped_4 : C := .lc [(("column" : Str), 10)] (.nm 10) (.seq (.var 1)) (.nil) (.ix (.var 5) (.var 10))
def x_grouped_5 : C := .lc [(("row" : Str), 5)] (.nm 5) (.seq (.var 0)) (.nil) (.tup (.cons (.bi ("tuple" : Str) (.cons (x_grouped_4) .nil)) (.cons (.var 5) .nil)))
def x_are_columns_1 : C := .lc [(("column" : Str), 3)] (.nm 3) (.seq (.var 2)) (.nil) (.call ("is_whole" : Str) (.cons (.var 3) (.cons (.cst (.int (0))) (.cons (.bin .Sub (.var 0) (.cst (.int (1)))) .nil))))
def x_fits_test_1 : C := .lc [(("word" : Str), 2)] (.nm 2) (.seq (.sl (.var 1) (.yes (.cst (.int (1)))) (.yes (.cst (.int (3)))))) (.nil) (.isi (.var 2) "str")
def x_are_pairs_1 : C := .lc [(("first" : Str), 3), (("second" : Str), 4)] (.tp [.nm 3, .nm 4]) (.seq (.var 2)) (.nil) (.and (.cons (.call ("is_whole" : Str) (.cons (.var 3) (.cons (.cst (.int (0))) (.cons (.bin .Sub (.var 0) (.cst (.int (1)))) .nil)))) (.cons (.call ("is_whole" : Str) (.cons (.var 4) (.cons (.cst (.int (0))) (.cons (.bin .Sub (.var 1) (.cst (.int (1)))) .nil)))) .nil)))
def x_are_pairs_2 : C := .lc [(("pair" : Str), 5)] (.nm 5) (.seq (.var 2)) (.nil) (.call ("is_tuple_of" : Str) (.cons (.var 5) (.cons (.cst (.int (2))) (.cons (.cst (.int (2))) .nil))))
def f_is_whole : Fn := ⟨3, 3, false, .cons (.ret (.and (.cons (.isi (.var 0) "int") (.cons (.not (.isi (.var 0) "bool")) (.cons (.cmp2 .LtE .LtE (.var 1) (.var 0) (.var 2)) .nil))))) .nil⟩
def t_is_whole : Txt := ⟨"is_whole", top 14, ["value", "low", "high"], ["value", "low", "high"], f_is_whole⟩
def f_is_tuple_of : Fn := ⟨3, 3, false, .cons (.ret (.and (.cons (.isi (.var 0) "tuple") (.cons (.cmp2 .LtE .LtE (.var 1) (.bi ("len" : Str) (.cons (.var 0) .nil)) (.var 2)) .nil)))) .nil⟩
def t_is_tuple_of : Txt := ⟨"is_tuple_of", top 15, ["value", "low", "high"], ["value", "low", "high"], f_is_tuple_of⟩
def f_fits_value : Fn := ⟨1, 1, false, .cons (.ret (.call ("is_whole" : Str) (.cons (.var 0) (.cons (.cst (.int (0))) (.cons (.glo ("GREATEST" : Str) (.int (1000000))) .nil))))) .nil⟩
def t_fits_value : Txt := ⟨"fits_value", top 16, ["value"], ["value"], f_fits_value⟩
def f_fits_row : Fn := ⟨2, 3, false, .cons (.ret (.and (.cons (.call ("is_tuple_of" : Str) (.cons (.var 1) (.cons (.var 0) (.cons (.var 0) .nil)))) (.cons (.bi ("all" : Str) (.cons (x_fits_row_1) .nil)) .nil)))) .nil⟩
def t_fits_row : Txt := ⟨"fits_row", top 17, ["columns", "value", "cell"], ["columns", "value"], f_fits_row⟩
def f_does_ascend : Fn := ⟨1, 3, false, .cons (.ret (.bi ("all" : Str) (.cons (x_does_ascend_1) .nil))) .nil⟩
def t_does_ascend : Txt := ⟨"does_ascend", top 18, ["items", "one", "other"], ["items"], f_does_ascend⟩
def f_fits_table : Fn := ⟨1, 2, false, .cons (.ife (.or (.cons (.not (.call ("is_tuple_of" : Str) (.cons (.var 0) (.cons (.cst (.int (2))) (.cons (.cst (.int (2))) .nil))))) (.cons (.not (.call ("is_whole" : Str) (.cons (.ix (.var 0) (.cst (.int (0)))) (.cons (.cst (.int (0))) (.cons (.glo ("COLUMNS_stores" : Str) (.int (6))) .nil))))) (.cons (.not (.call ("is_tuple_of" : Str) (.cons (.ix (.var 0) (.cst (.int (1)))) (.cons (.cst (.int (0))) (.cons (.glo ("ROWS" : Str) (.int (40))) .nil))))) .nil)))) (.cons (.ret (.cst (.bl false))) .nil) (.nil)) (.cons (.ret (.and (.cons (.bi ("all" : Str) (.cons (x_fits_table_1) .nil)) (.cons (.call ("does_ascend" : Str) (.cons (.ix (.var 0) (.cst (.int (1)))) .nil)) .nil)))) .nil)⟩
def t_fits_table : Txt := ⟨"fits_table", top 19, ["value", "row"], ["value"], f_fits_table⟩
def f_fits_letter : Fn := ⟨1, 1, false, .cons (.ret (.and (.cons (.isi (.var 0) "str") (.cons (.cmp .Eq (.bi ("len" : Str) (.cons (.var 0) .nil)) (.cst (.int (1)))) (.cons (.cmp .In (.var 0) (.glo ("LETTERS" : Str) (.str ("abcdefghijklmnopqrstuvwxyz" : Str)))) .nil))))) .nil⟩
def t_fits_letter : Txt := ⟨"fits_letter", top 20, ["value"], ["value"], f_fits_letter⟩
def f_fits_store : Fn := ⟨1, 4, false, .cons (.ife (.or (.cons (.not (.call ("is_tuple_of" : Str) (.cons (.var 0) (.cons (.cst (.int (0))) (.cons (.glo ("TABLES" : Str) (.int (4))) .nil))))) (.cons (.not (.bi ("all" : Str) (.cons (x_fits_store_4) .nil))) .nil))) (.cons (.ret (.cst (.bl false))) .nil) (.nil)) (.cons (.ife (.not (.bi ("all" : Str) (.cons (x_fits_store_3) .nil))) (.cons (.ret (.cst (.bl false))) .nil) (.nil)) (.cons (.ret (.and (.cons (.call ("does_ascend" : Str) (.cons (x_fits_store_2) .nil)) (.cons (.cmp .LtE (.bi ("sum" : Str) (.cons (x_fits_store_1) .nil)) (.glo ("ROWS" : Str) (.int (40)))) .nil)))) .nil))⟩
def t_fits_store : Txt := ⟨"fits_store", top 21, ["value", "pair", "letter", "table"], ["value"], f_fits_store⟩
def f_cells_in : Fn := ⟨1, 6, false, .cons (.asg (.nm 1) (.lst (.nil))) (.cons (l_cells_in_3) (.cons (.ret (.bi ("sorted" : Str) (.cons (.bi ("set" : Str) (.cons (.var 1) .nil)) .nil))) .nil))⟩
def t_cells_in : Txt := ⟨"cells_in", top 22, ["store", "found", "letter", "table", "row", "cell"], ["store"], f_cells_in⟩
def f_unknowns_in : Fn := ⟨1, 2, false, .cons (.ret (.bi ("tuple" : Str) (.cons (x_unknowns_in_1) .nil))) .nil⟩
def t_unknowns_in : Txt := ⟨"unknowns_in", top 23, ["store", "cell"], ["store"], f_unknowns_in⟩
def f_row_by : Fn := ⟨2, 3, false, .cons (.ret (.bi ("tuple" : Str) (.cons (x_row_by_1) .nil))) .nil⟩
def t_row_by : Txt := ⟨"row_by", top 24, ["row", "worths", "cell"], ["row", "worths"], f_row_by⟩
def f_worths_of : Fn := ⟨2, 2, false, .cons (.ret (.bi ("dict" : Str) (.cons (.lzip (.call ("unknowns_in" : Str) (.cons (.var 0) .nil)) (.var 1)) .nil))) .nil⟩
def t_worths_of : Txt := ⟨"worths_of", top 25, ["store", "filling"], ["store", "filling"], f_worths_of⟩
def f_filled_by : Fn := ⟨2, 7, false, .cons (.asg (.nm 2) (.tup (.nil))) (.cons (l_filled_by_3) (.cons (.ret (.var 2)) .nil))⟩
def t_filled_by : Txt := ⟨"filled_by", top 26, ["store", "worths", "found", "letter", "table", "rows", "row"], ["store", "worths"], f_filled_by⟩
def f_fits_filling : Fn := ⟨2, 4, false, .cons (.asg (.nm 2) (.bi ("len" : Str) (.cons (.call ("unknowns_in" : Str) (.cons (.var 0) .nil)) .nil))) (.cons (.ret (.and (.cons (.call ("is_tuple_of" : Str) (.cons (.var 1) (.cons (.var 2) (.cons (.var 2) .nil)))) (.cons (.bi ("all" : Str) (.cons (x_fits_filling_1) .nil)) .nil)))) .nil)⟩
def t_fits_filling : Txt := ⟨"fits_filling", top 27, ["store", "value", "many", "one"], ["store", "value"], f_fits_filling⟩
def f_need_store : Fn := ⟨1, 1, false, .cons (.ife (.not (.call ("fits_store" : Str) (.cons (.var 0) .nil))) (.cons (.no) .nil) (.nil)) .nil⟩
def t_need_store : Txt := ⟨"need_store", top 28, ["value"], ["value"], f_need_store⟩
def f_need_filling : Fn := ⟨2, 2, false, .cons (.ife (.not (.call ("fits_filling" : Str) (.cons (.var 0) (.cons (.var 1) .nil)))) (.cons (.no) .nil) (.nil)) .nil⟩
def t_need_filling : Txt := ⟨"need_filling", top 29, ["store", "value"], ["store", "value"], f_need_filling⟩
def f_fits_test : Fn := ⟨2, 3, false, .cons (.ife (.or (.cons (.not (.call ("is_tuple_of" : Str) (.cons (.var 1) (.cons (.cst (.int (4))) (.cons (.cst (.int (4))) .nil))))) (.cons (.not (.call ("is_whole" : Str) (.cons (.ix (.var 1) (.cst (.int (0)))) (.cons (.cst (.int (0))) (.cons (.bin .Sub (.var 0) (.cst (.int (1)))) .nil))))) .nil))) (.cons (.ret (.cst (.bl false))) .nil) (.nil)) (.cons (.ife (.or (.cons (.not (.bi ("all" : Str) (.cons (x_fits_test_1) .nil))) (.cons (.cmp .NotIn (.ix (.var 1) (.cst (.int (1)))) (.tup (.cons (.cst (.str ("is" : Str))) (.cons (.cst (.str ("not" : Str))) .nil)))) .nil))) (.cons (.ret (.cst (.bl false))) .nil) (.nil)) (.cons (.ret (.or (.cons (.and (.cons (.cmp .Eq (.ix (.var 1) (.cst (.int (2)))) (.cst (.str ("column" : Str)))) (.cons (.call ("is_whole" : Str) (.cons (.ix (.var 1) (.cst (.int (3)))) (.cons (.cst (.int (0))) (.cons (.bin .Sub (.var 0) (.cst (.int (1)))) .nil)))) .nil))) (.cons (.and (.cons (.cmp .Eq (.ix (.var 1) (.cst (.int (2)))) (.cst (.str ("value" : Str)))) (.cons (.call ("fits_value" : Str) (.cons (.ix (.var 1) (.cst (.int (3)))) .nil)) .nil))) .nil)))) .nil))⟩
def t_fits_test : Txt := ⟨"fits_test", top 38, ["columns", "value", "word"], ["columns", "value"], f_fits_test⟩
def f_are_columns : Fn := ⟨3, 4, false, .cons (.ret (.and (.cons (.call ("is_tuple_of" : Str) (.cons (.var 2) (.cons (.cst (.int (0))) (.cons (.var 1) .nil)))) (.cons (.bi ("all" : Str) (.cons (x_are_columns_1) .nil)) .nil)))) .nil⟩
def t_are_columns : Txt := ⟨"are_columns", top 39, ["columns", "most", "value", "column"], ["columns", "most", "value"], f_are_columns⟩
def f_columns_of_one : Fn := ⟨2, 5, false, .cons (.asg (.tp [.nm 2, .nm 3]) (.tup (.cons (.ix (.var 0) (.cst (.int (0)))) (.cons (.sl (.var 0) (.yes (.cst (.int (2)))) (.no)) .nil)))) (.cons (.ife (.and (.cons (.cmp .Eq (.var 2) (.cst (.str ("select" : Str)))) (.cons (.cmp .Eq (.bi ("len" : Str) (.cons (.var 3) .nil)) (.cst (.int (1)))) (.cons (.call ("is_tuple_of" : Str) (.cons (.ix (.var 3) (.cst (.int (0)))) (.cons (.cst (.int (0))) (.cons (.glo ("TESTS" : Str) (.int (6))) .nil)))) .nil)))) (.cons (.ret (.ite (.bi ("all" : Str) (.cons (x_columns_of_one_1) .nil)) (.var 1) (.cst .non))) .nil) (.nil)) (.cons (.ife (.and (.cons (.cmp .Eq (.var 2) (.cst (.str ("project" : Str)))) (.cons (.cmp .Eq (.bi ("len" : Str) (.cons (.var 3) .nil)) (.cst (.int (1)))) (.cons (.call ("are_columns" : Str) (.cons (.var 1) (.cons (.glo ("COLUMNS_trees" : Str) (.int (12))) (.cons (.ix (.var 3) (.cst (.int (0)))) .nil)))) .nil)))) (.cons (.ret (.bi ("len" : Str) (.cons (.ix (.var 3) (.cst (.int (0)))) .nil))) .nil) (.nil)) (.cons (.ife (.and (.cons (.cmp .Eq (.var 2) (.cst (.str ("crowd" : Str)))) (.cons (.cmp .Eq (.bi ("len" : Str) (.cons (.var 3) .nil)) (.cst (.int (2)))) (.cons (.call ("are_columns" : Str) (.cons (.var 1) (.cons (.glo ("COLUMNS_trees" : Str) (.int (12))) (.cons (.ix (.var 3) (.cst (.int (0)))) .nil)))) (.cons (.call ("is_whole" : Str) (.cons (.ix (.var 3) (.cst (.int (1)))) (.cons (.cst (.int (1))) (.cons (.glo ("CROWD" : Str) (.int (40))) .nil)))) .nil))))) (.cons (.ret (.ite (.cmp .Eq (.bi ("len" : Str) (.cons (.bi ("set" : Str) (.cons (.ix (.var 3) (.cst (.int (0)))) .nil)) .nil)) (.bi ("len" : Str) (.cons (.ix (.var 3) (.cst (.int (0)))) .nil))) (.var 1) (.cst .non))) .nil) (.nil)) (.cons (.ret (.cst .non)) .nil))))⟩
def t_columns_of_one : Txt := ⟨"columns_of_one", top 40, ["tree", "columns", "word", "rest", "test"], ["tree", "columns"], f_columns_of_one⟩
def f_are_pairs : Fn := ⟨3, 6, false, .cons (.ife (.or (.cons (.not (.call ("is_tuple_of" : Str) (.cons (.var 2) (.cons (.cst (.int (0))) (.cons (.glo ("PAIRS" : Str) (.int (6))) .nil))))) (.cons (.not (.bi ("all" : Str) (.cons (x_are_pairs_2) .nil))) .nil))) (.cons (.ret (.cst (.bl false))) .nil) (.nil)) (.cons (.ret (.bi ("all" : Str) (.cons (x_are_pairs_1) .nil))) .nil)⟩
def t_are_pairs : Txt := ⟨"are_pairs", top 41, ["one", "two", "value", "first", "second", "pair"], ["one", "two", "value"], f_are_pairs⟩
def f_columns_of_two : Fn := ⟨3, 5, false, .cons (.asg (.tp [.nm 3, .nm 4]) (.tup (.cons (.ix (.var 0) (.cst (.int (0)))) (.cons (.sl (.var 0) (.yes (.cst (.int (3)))) (.no)) .nil)))) (.cons (.ife (.cmp .Eq (.var 3) (.cst (.str ("join" : Str)))) (.cons (.ret (.ite (.and (.cons (.cmp .Eq (.bi ("len" : Str) (.cons (.var 4) .nil)) (.cst (.int (1)))) (.cons (.call ("are_pairs" : Str) (.cons (.var 1) (.cons (.var 2) (.cons (.ix (.var 4) (.cst (.int (0)))) .nil)))) .nil))) (.bin .Add (.var 1) (.var 2)) (.cst .non))) .nil) (.nil)) (.cons (.ife (.cmp .NotEq (.var 4) (.tup (.nil))) (.cons (.ret (.cst .non)) .nil) (.nil)) (.cons (.ife (.cmp .Eq (.var 3) (.cst (.str ("product" : Str)))) (.cons (.ret (.bin .Add (.var 1) (.var 2))) .nil) (.nil)) (.cons (.ife (.cmp .Eq (.var 3) (.cst (.str ("divide" : Str)))) (.cons (.ret (.ite (.cmp .LtE (.var 2) (.var 1)) (.bin .Sub (.var 1) (.var 2)) (.cst .non))) .nil) (.nil)) (.cons (.ret (.ite (.cmp .Eq (.var 1) (.var 2)) (.var 1) (.cst .non))) .nil)))))⟩
def t_columns_of_two : Txt := ⟨"columns_of_two", top 42, ["tree", "one", "two", "word", "rest"], ["tree", "one", "two"], f_columns_of_two⟩
def f_columns_by : Fn := ⟨2, 9, false, .cons (.ife (.or (.cons (.not (.call ("is_tuple_of" : Str) (.cons (.var 1) (.cons (.cst (.int (2))) (.cons (.cst (.int (4))) .nil))))) (.cons (.not (.isi (.ix (.var 1) (.cst (.int (0)))) "str")) .nil))) (.cons (.ret (.cst .non)) .nil) (.nil)) (.cons (.ife (.cmp .Eq (.ix (.var 1) (.cst (.int (0)))) (.cst (.str ("table" : Str)))) (.cons (.asg (.nm 3) (x_columns_by_1)) (.cons (.ret (.ite (.cmp .NotEq (.var 3) (.lst (.nil))) (.ix (.ix (.var 3) (.cst (.int (0)))) (.cst (.int (0)))) (.cst .non))) .nil)) (.nil)) (.cons (.ife (.cmp .In (.ix (.var 1) (.cst (.int (0)))) (.glo ("ONES" : Str) (.tup [.str ("select" : Str), .str ("project" : Str), .str ("crowd" : Str)]))) (.cons (.asg (.nm 4) (.call ("columns_by" : Str) (.cons (.var 0) (.cons (.ix (.var 1) (.cst (.int (1)))) .nil)))) (.cons (.ret (.ite (.cmp .IsNot (.var 4) (.cst .non)) (.call ("columns_of_one" : Str) (.cons (.var 1) (.cons (.var 4) .nil))) (.cst .non))) .nil)) (.nil)) (.cons (.ife (.or (.cons (.cmp .NotIn (.ix (.var 1) (.cst (.int (0)))) (.glo ("TWOS" : Str) (.tup [.str ("product" : Str), .str ("join" : Str), .str ("union" : Str), .str ("leftover" : Str), .str ("divide" : Str)]))) (.cons (.cmp .Lt (.bi ("len" : Str) (.cons (.var 1) .nil)) (.cst (.int (3)))) .nil))) (.cons (.ret (.cst .non)) .nil) (.nil)) (.cons (.asg (.tp [.nm 5, .nm 6]) (.tup (.cons (.call ("columns_by" : Str) (.cons (.var 0) (.cons (.ix (.var 1) (.cst (.int (1)))) .nil))) (.cons (.call ("columns_by" : Str) (.cons (.var 0) (.cons (.ix (.var 1) (.cst (.int (2)))) .nil))) .nil)))) (.cons (.ife (.or (.cons (.cmp .Is (.var 5) (.cst .non)) (.cons (.cmp .Is (.var 6) (.cst .non)) .nil))) (.cons (.ret (.cst .non)) .nil) (.nil)) (.cons (.asg (.nm 2) (.call ("columns_of_two" : Str) (.cons (.var 1) (.cons (.var 5) (.cons (.var 6) .nil))))) (.cons (.ret (.ite (.or (.cons (.cmp .Is (.var 2) (.cst .non)) (.cons (.cmp .LtE (.var 2) (.glo ("COLUMNS_trees" : Str) (.int (12)))) .nil))) (.var 2) (.cst .non))) .nil)))))))⟩
def t_columns_by : Txt := ⟨"columns_by", top 43, ["store", "tree", "found", "tables", "columns", "one", "two", "letter", "table"], ["store", "tree"], f_columns_by⟩
def f_knots_in : Fn := ⟨1, 4, false, .cons (.asg (.tp [.nm 1, .nm 2]) (.tup (.cons (.lst (.nil)) (.cons (.lst (.cons (.var 0) .nil)) .nil)))) (.cons (l_knots_in_2) (.cons (.ret (.var 1)) .nil))⟩
def t_knots_in : Txt := ⟨"knots_in", top 44, ["tree", "found", "line", "knot"], ["tree"], f_knots_in⟩
def f_fits_tree : Fn := ⟨2, 2, false, .cons (.ret (.and (.cons (.cmp .LtE (.bi ("len" : Str) (.cons (.call ("knots_in" : Str) (.cons (.var 1) .nil)) .nil)) (.glo ("KNOTS" : Str) (.int (20)))) (.cons (.cmp .IsNot (.call ("columns_by" : Str) (.cons (.var 0) (.cons (.var 1) .nil))) (.cst .non)) .nil)))) .nil⟩
def t_fits_tree : Txt := ⟨"fits_tree", top 45, ["store", "value"], ["store", "value"], f_fits_tree⟩
def f_need_tree : Fn := ⟨2, 2, false, .cons (.ife (.not (.call ("fits_tree" : Str) (.cons (.var 0) (.cons (.var 1) .nil)))) (.cons (.no) .nil) (.nil)) .nil⟩
def t_need_tree : Txt := ⟨"need_tree", top 46, ["store", "value"], ["store", "value"], f_need_tree⟩
def f_need_few : Fn := ⟨1, 1, false, .cons (.ife (.cmp .Gt (.var 0) (.glo ("MOST" : Str) (.int (4000)))) (.cons (.no) .nil) (.nil)) .nil⟩
def t_need_few : Txt := ⟨"need_few", top 49, ["many"], ["many"], f_need_few⟩
def f_ascending : Fn := ⟨1, 1, false, .cons (.ret (.bi ("tuple" : Str) (.cons (.bi ("sorted" : Str) (.cons (.bi ("set" : Str) (.cons (.var 0) .nil)) .nil)) .nil))) .nil⟩
def t_ascending : Txt := ⟨"ascending", top 50, ["rows"], ["rows"], f_ascending⟩
def f_does_hold : Fn := ⟨2, 6, false, .cons (.asg (.tp [.nm 2, .nm 3, .nm 4, .nm 5]) (.var 1)) (.cons (.ret (.cmp .Eq (.cmp .Eq (.ix (.var 0) (.var 2)) (.ite (.cmp .Eq (.var 4) (.cst (.str ("column" : Str)))) (.ix (.var 0) (.var 5)) (.var 5))) (.cmp .Eq (.var 3) (.cst (.str ("is" : Str)))))) .nil)⟩
def t_does_hold : Txt := ⟨"does_hold", top 51, ["row", "test", "column", "word", "sort", "number"], ["row", "test"], f_does_hold⟩
def f_grouped : Fn := ⟨2, 12, false, .cons (.asg (.nm 2) (.bi ("sorted" : Str) (.cons (x_grouped_5) .nil))) (.cons (.asg (.nm 3) (x_grouped_3)) (.cons (.asg (.nm 4) (.bin .Add (.sl (.var 3) (.yes (.cst (.int (1)))) (.no)) (.lst (.cons (.bi ("len" : Str) (.cons (.var 2) .nil)) .nil)))) (.cons (.ret (.bi ("dict" : Str) (.cons (x_grouped_2) .nil))) .nil)))⟩
def t_grouped : Txt := ⟨"grouped", top 52, ["rows", "columns", "pairs", "starts", "ends", "row", "at", "pair", "one", "end", "column", "cells"], ["rows", "columns"], f_grouped⟩
def f_joined : Fn := ⟨3, 10, false, .cons (.asg (.nm 3) (.call ("grouped" : Str) (.cons (.var 1) (.cons (x_joined_5) .nil)))) (.cons (.asg (.nm 4) (x_joined_4)) (.cons (.ex (.call ("need_few" : Str) (.cons (.bi ("sum" : Str) (.cons (x_joined_2) .nil)) .nil))) (.cons (.ret (x_joined_1)) .nil)))⟩
def t_joined : Txt := ⟨"joined", top 53, ["rows", "others", "pairs", "groups", "mates", "row", "other", "some", "first", "second"], ["rows", "others", "pairs"], f_joined⟩
def f_divided : Fn := ⟨3, 8, false, .cons (.asg (.nm 3) (.call ("grouped" : Str) (.cons (.var 0) (.cons (.lrg1 (.var 2)) .nil)))) (.cons (.asg (.nm 4) (.bi ("dict" : Str) (.cons (x_divided_3) .nil))) (.cons (.ret (x_divided_2)) .nil))⟩
def t_divided : Txt := ⟨"divided", top 54, ["rows", "others", "columns", "groups", "wanted", "cells", "other", "row"], ["rows", "others", "columns"], f_divided⟩
def f_crowded : Fn := ⟨3, 6, false, .cons (.asg (.nm 3) (.call ("grouped" : Str) (.cons (.var 0) (.cons (.var 1) .nil)))) (.cons (.ret (x_crowded_1)) .nil)⟩
def t_crowded : Txt := ⟨"crowded", top 55, ["rows", "columns", "least", "groups", "cells", "row"], ["rows", "columns", "least"], f_crowded⟩
def f_one_done : Fn := ⟨2, 5, false, .cons (.ife (.cmp .Eq (.ix (.var 0) (.cst (.int (0)))) (.cst (.str ("select" : Str)))) (.cons (.ret (x_one_done_4)) .nil) (.nil)) (.cons (.ife (.cmp .Eq (.ix (.var 0) (.cst (.int (0)))) (.cst (.str ("project" : Str)))) (.cons (.ret (x_one_done_2)) .nil) (.nil)) (.cons (.ret (.call ("crowded" : Str) (.cons (.var 1) (.cons (.ix (.var 0) (.cst (.int (2)))) (.cons (.ix (.var 0) (.cst (.int (3)))) .nil))))) .nil))⟩
def t_one_done : Txt := ⟨"one_done", top 56, ["tree", "rows", "row", "column", "test"], ["tree", "rows"], f_one_done⟩
def f_two_done : Fn := ⟨4, 6, false, .cons (.ife (.cmp .In (.ix (.var 1) (.cst (.int (0)))) (.tup (.cons (.cst (.str ("product" : Str))) (.cons (.cst (.str ("join" : Str))) .nil)))) (.cons (.ret (.call ("joined" : Str) (.cons (.var 2) (.cons (.var 3) (.cons (.ite (.cmp .Eq (.ix (.var 1) (.cst (.int (0)))) (.cst (.str ("join" : Str)))) (.ix (.var 1) (.cst (.int (3)))) (.tup (.nil))) .nil))))) .nil) (.nil)) (.cons (.ife (.cmp .Eq (.ix (.var 1) (.cst (.int (0)))) (.cst (.str ("union" : Str)))) (.cons (.ret (.bin .Add (.var 2) (.var 3))) .nil) (.nil)) (.cons (.ife (.cmp .Eq (.ix (.var 1) (.cst (.int (0)))) (.cst (.str ("leftover" : Str)))) (.cons (.asg (.nm 4) (.bi ("dict" : Str) (.cons (x_two_done_2) .nil))) (.cons (.ret (x_two_done_1)) .nil)) (.nil)) (.cons (.ret (.call ("divided" : Str) (.cons (.var 2) (.cons (.var 3) (.cons (.call ("columns_by" : Str) (.cons (.var 0) (.cons (.var 1) .nil))) .nil))))) .nil)))⟩
def t_two_done : Txt := ⟨"two_done", top 57, ["store", "tree", "rows", "others", "found", "row"], ["store", "tree", "rows", "others"], f_two_done⟩
def f_rows_by : Fn := ⟨2, 4, false, .cons (.ife (.cmp .Eq (.ix (.var 1) (.cst (.int (0)))) (.cst (.str ("table" : Str)))) (.cons (.ret (.ix (.ix (.bi ("dict" : Str) (.cons (.bi ("list" : Str) (.cons (.var 0) .nil)) .nil)) (.ix (.var 1) (.cst (.int (1))))) (.cst (.int (1))))) .nil) (.nil)) (.cons (.asg (.nm 2) (.call ("rows_by" : Str) (.cons (.var 0) (.cons (.ix (.var 1) (.cst (.int (1)))) .nil)))) (.cons (.ife (.cmp .In (.ix (.var 1) (.cst (.int (0)))) (.tup (.cons (.cst (.str ("select" : Str))) (.cons (.cst (.str ("project" : Str))) (.cons (.cst (.str ("crowd" : Str))) .nil))))) (.cons (.asg (.nm 3) (.call ("one_done" : Str) (.cons (.var 1) (.cons (.var 2) .nil)))) .nil) (.cons (.asg (.nm 3) (.call ("two_done" : Str) (.cons (.var 0) (.cons (.var 1) (.cons (.var 2) (.cons (.call ("rows_by" : Str) (.cons (.var 0) (.cons (.ix (.var 1) (.cst (.int (2)))) .nil))) .nil)))))) .nil)) (.cons (.ex (.call ("need_few" : Str) (.cons (.bi ("len" : Str) (.cons (.bi ("set" : Str) (.cons (.var 3) .nil)) .nil)) .nil))) (.cons (.ret (.call ("ascending" : Str) (.cons (.var 3) .nil))) .nil))))⟩
def t_rows_by : Txt := ⟨"rows_by", top 58, ["store", "tree", "rows", "found"], ["store", "tree"], f_rows_by⟩
def f_is_in_by : Fn := ⟨4, 4, false, .cons (.ret (.cmp .In (.call ("row_by" : Str) (.cons (.var 2) (.cons (.var 3) .nil))) (.call ("rows_by" : Str) (.cons (.call ("filled_by" : Str) (.cons (.var 0) (.cons (.var 3) .nil))) (.cons (.var 1) .nil))))) .nil⟩
def t_is_in_by : Txt := ⟨"is_in_by", top 59, ["store", "tree", "row", "worths"], ["store", "tree", "row", "worths"], f_is_in_by⟩
def f_need_row : Fn := ⟨3, 5, false, .cons (.asg (.nm 3) (.call ("unknowns_in" : Str) (.cons (.var 0) .nil))) (.cons (.ife (.or (.cons (.not (.call ("fits_row" : Str) (.cons (.call ("columns_by" : Str) (.cons (.var 0) (.cons (.var 1) .nil))) (.cons (.var 2) .nil)))) (.cons (.not (.bi ("all" : Str) (.cons (x_need_row_1) .nil))) .nil))) (.cons (.no) .nil) (.nil)) .nil)⟩
def t_need_row : Txt := ⟨"need_row", top 60, ["store", "tree", "value", "unknowns", "cell"], ["store", "tree", "value"], f_need_row⟩
def f_answer_of : Fn := ⟨2, 2, false, .cons (.ex (.call ("need_store" : Str) (.cons (.var 0) .nil))) (.cons (.ex (.call ("need_tree" : Str) (.cons (.var 0) (.cons (.var 1) .nil)))) (.cons (.ret (.call ("rows_by" : Str) (.cons (.var 0) (.cons (.var 1) .nil)))) .nil))⟩
def t_answer_of : Txt := ⟨"answer_of", top 61, ["store", "tree"], ["store", "tree"], f_answer_of⟩
def f_filled_answer : Fn := ⟨3, 3, false, .cons (.ex (.call ("need_store" : Str) (.cons (.var 0) .nil))) (.cons (.ex (.call ("need_tree" : Str) (.cons (.var 0) (.cons (.var 1) .nil)))) (.cons (.ex (.call ("need_filling" : Str) (.cons (.var 0) (.cons (.var 2) .nil)))) (.cons (.ret (.call ("rows_by" : Str) (.cons (.call ("filled_by" : Str) (.cons (.var 0) (.cons (.call ("worths_of" : Str) (.cons (.var 0) (.cons (.var 2) .nil))) .nil))) (.cons (.var 1) .nil)))) .nil)))⟩
def t_filled_answer : Txt := ⟨"filled_answer", top 62, ["store", "tree", "filling"], ["store", "tree", "filling"], f_filled_answer⟩
def f_is_in : Fn := ⟨4, 4, false, .cons (.ex (.call ("need_store" : Str) (.cons (.var 0) .nil))) (.cons (.ex (.call ("need_tree" : Str) (.cons (.var 0) (.cons (.var 1) .nil)))) (.cons (.ex (.call ("need_row" : Str) (.cons (.var 0) (.cons (.var 1) (.cons (.var 2) .nil))))) (.cons (.ex (.call ("need_filling" : Str) (.cons (.var 0) (.cons (.var 3) .nil)))) (.cons (.ret (.call ("is_in_by" : Str) (.cons (.var 0) (.cons (.var 1) (.cons (.var 2) (.cons (.call ("worths_of" : Str) (.cons (.var 0) (.cons (.var 3) .nil))) .nil)))))) .nil))))⟩
def t_is_in : Txt := ⟨"is_in", top 63, ["store", "tree", "row", "filling"], ["store", "tree", "row", "filling"], f_is_in⟩
def f__law_cup : Fn := ⟨1, 2, true, .cons (.asg (.nm 1) (.bi ("abs" : Str) (.cons (.ix (.bin .Add (.bi ("list" : Str) (.cons (.var 0) .nil)) (.lst (.cons (.cst (.int (0))) .nil))) (.cst (.int (0)))) .nil))) (.cons (.ret (.new (.cons (.ite (.cmp .GtE (.var 1) (.bin .Pow (.cst (.int (10))) (.cst (.int (18))))) (.bin .FloorDiv (.var 1) (.cst (.int (43)))) (.cst (.int (0)))) (.cons (.bin .Add (.bin .Mod (.bi ("int" : Str) (.cons (.bin .Add (.bin .Mult (.var 1) (.cst (.int (251)))) (.cst (.int (2111)))) .nil)) (.cst (.int (2077503307)))) (.cst (.int (137)))) .nil)))) .nil)⟩
def t__law_cup : Txt := ⟨"_law_cup", top 65, ["script", "cell"], ["script"], f__law_cup⟩
def f__law_roll : Fn := ⟨2, 4, false, .cons (.ife (.cmp .Gt (.ix (.var 0) (.cst (.int (0)))) (.cst (.int (0)))) (.cons (.asg (.nm 3) (.bin .Mod (.bi ("int" : Str) (.cons (.ix (.var 0) (.cst (.int (0)))) .nil)) (.var 1))) (.cons (.put (.var 0) (.cst (.int (0))) (.bin .FloorDiv (.ix (.var 0) (.cst (.int (0)))) (.var 1))) (.cons (.ret (.var 3)) .nil))) (.nil)) (.cons (.put (.var 0) (.cst (.int (1))) (.bin .Mod (.bi ("int" : Str) (.cons (.bin .Add (.bin .Mult (.ix (.var 0) (.cst (.int (1)))) (.cst (.int (30983)))) (.cst (.int (7933)))) .nil)) (.cst (.int (2147483563))))) (.cons (.asg (.nm 2) (.bin .Mod (.bi ("int" : Str) (.cons (.bin .Mult (.ix (.var 0) (.cst (.int (1)))) (.bin .Add (.ix (.var 0) (.cst (.int (1)))) (.cst (.int (197))))) .nil)) (.cst (.int (2147483587))))) (.cons (.ret (.bin .Mod (.bi ("int" : Str) (.cons (.bin .FloorDiv (.var 2) (.cst (.int (773)))) .nil)) (.var 1))) .nil)))⟩
def t__law_roll : Txt := ⟨"_law_roll", top 66, ["cup", "many", "deep", "found"], ["cup", "many"], f__law_roll⟩
def f__law_some : Fn := ⟨2, 2, false, .cons (.ret (.ix (.var 1) (.call ("_law_roll" : Str) (.cons (.var 0) (.cons (.bi ("len" : Str) (.cons (.var 1) .nil)) .nil))))) .nil⟩
def t__law_some : Txt := ⟨"_law_some", top 67, ["cup", "things"], ["cup", "things"], f__law_some⟩
def f__law_unknowns : Fn := ⟨1, 6, false, .cons (.asg (.nm 1) (.lst (.nil))) (.cons (l__law_unknowns_5) (.cons (.ret (.bi ("sorted" : Str) (.cons (.bi ("set" : Str) (.cons (.var 1) .nil)) .nil))) .nil))⟩
def t__law_unknowns : Txt := ⟨"_law_unknowns", top 68, ["store", "found", "letter", "table", "row", "cell"], ["store"], f__law_unknowns⟩
def f__law_worths : Fn := ⟨2, 2, false, .cons (.ret (.bi ("dict" : Str) (.cons (.lzip (.call ("_law_unknowns" : Str) (.cons (.var 0) .nil)) (.var 1)) .nil))) .nil⟩
def t__law_worths : Txt := ⟨"_law_worths", top 69, ["store", "filling"], ["store", "filling"], f__law_worths⟩
def f__law_put : Fn := ⟨2, 3, false, .cons (.ret (.bi ("tuple" : Str) (.cons (x__law_put_1) .nil))) .nil⟩
def t__law_put : Txt := ⟨"_law_put", top 70, ["row", "worths", "cell"], ["row", "worths"], f__law_put⟩
def f__law_filled : Fn := ⟨2, 8, false, .cons (.asg (.tp [.nm 2, .nm 3]) (.tup (.cons (.call ("_law_worths" : Str) (.cons (.var 0) (.cons (.var 1) .nil))) (.cons (.tup (.nil)) .nil)))) (.cons (l__law_filled_3) (.cons (.ret (.var 3)) .nil))⟩
def t__law_filled : Txt := ⟨"_law_filled", top 71, ["store", "filling", "worths", "found", "letter", "table", "rows", "row"], ["store", "filling"], f__law_filled⟩
def f__law_holds : Fn := ⟨2, 3, false, .cons (.asg (.nm 2) (.ite (.cmp .Eq (.ix (.var 1) (.cst (.int (2)))) (.cst (.str ("column" : Str)))) (.ix (.var 0) (.ix (.var 1) (.cst (.int (3))))) (.ix (.var 1) (.cst (.int (3)))))) (.cons (.ret (.ite (.cmp .Eq (.ix (.var 1) (.cst (.int (1)))) (.cst (.str ("is" : Str)))) (.cmp .Eq (.ix (.var 0) (.ix (.var 1) (.cst (.int (0))))) (.var 2)) (.cmp .NotEq (.ix (.var 0) (.ix (.var 1) (.cst (.int (0))))) (.var 2)))) .nil)⟩
def t__law_holds : Txt := ⟨"_law_holds", top 72, ["row", "test", "other"], ["row", "test"], f__law_holds⟩
def f__law_select : Fn := ⟨2, 4, false, .cons (.ret (x__law_select_2)) .nil⟩
def t__law_select : Txt := ⟨"_law_select", top 73, ["rows", "tests", "row", "test"], ["rows", "tests"], f__law_select⟩
def f__law_join : Fn := ⟨3, 8, false, .cons (.asg (.nm 3) (.lst (.nil))) (.cons (l__law_join_4) (.cons (.ret (.var 3)) .nil))⟩
def t__law_join : Txt := ⟨"_law_join", top 74, ["rows", "others", "pairs", "found", "row", "other", "one", "two"], ["rows", "others", "pairs"], f__law_join⟩
def f__law_divide : Fn := ⟨3, 7, false, .cons (.asg (.nm 3) (x__law_divide_3)) (.cons (.ret (x__law_divide_2)) .nil)⟩
def t__law_divide : Txt := ⟨"_law_divide", top 75, ["rows", "others", "columns", "heads", "row", "head", "other"], ["rows", "others", "columns"], f__law_divide⟩
def f__law_crowd : Fn := ⟨3, 7, false, .cons (.asg (.nm 3) (x__law_crowd_3)) (.cons (.ret (x__law_crowd_1)) .nil)⟩
def t__law_crowd : Txt := ⟨"_law_crowd", top 76, ["rows", "columns", "least", "cells", "row", "at", "column"], ["rows", "columns", "least"], f__law_crowd⟩
def f__law_wide : Fn := ⟨2, 3, false, .cons (.ife (.cmp .Eq (.ix (.var 1) (.cst (.int (0)))) (.cst (.str ("table" : Str)))) (.cons (.ret (.ix (.ix (.bi ("dict" : Str) (.cons (.bi ("list" : Str) (.cons (.var 0) .nil)) .nil)) (.ix (.var 1) (.cst (.int (1))))) (.cst (.int (0))))) .nil) (.nil)) (.cons (.ife (.cmp .Eq (.ix (.var 1) (.cst (.int (0)))) (.cst (.str ("project" : Str)))) (.cons (.ret (.bi ("len" : Str) (.cons (.ix (.var 1) (.cst (.int (2)))) .nil))) .nil) (.nil)) (.cons (.asg (.nm 2) (.call ("_law_wide" : Str) (.cons (.var 0) (.cons (.ix (.var 1) (.cst (.int (1)))) .nil)))) (.cons (.ife (.cmp .In (.ix (.var 1) (.cst (.int (0)))) (.tup (.cons (.cst (.str ("product" : Str))) (.cons (.cst (.str ("join" : Str))) .nil)))) (.cons (.ret (.bin .Add (.var 2) (.call ("_law_wide" : Str) (.cons (.var 0) (.cons (.ix (.var 1) (.cst (.int (2)))) .nil))))) .nil) (.nil)) (.cons (.ret (.ite (.cmp .Eq (.ix (.var 1) (.cst (.int (0)))) (.cst (.str ("divide" : Str)))) (.bin .Sub (.var 2) (.call ("_law_wide" : Str) (.cons (.var 0) (.cons (.ix (.var 1) (.cst (.int (2)))) .nil)))) (.var 2))) .nil))))⟩
def t__law_wide : Txt := ⟨"_law_wide", top 77, ["store", "tree", "one"], ["store", "tree"], f__law_wide⟩
def f__law_answer : Fn := ⟨2, 7, false, .cons (.asg (.nm 2) (.ix (.var 1) (.cst (.int (0))))) (.cons (.ife (.cmp .Eq (.var 2) (.cst (.str ("table" : Str)))) (.cons (.ret (.bi ("list" : Str) (.cons (.ix (.ix (.bi ("dict" : Str) (.cons (.bi ("list" : Str) (.cons (.var 0) .nil)) .nil)) (.ix (.var 1) (.cst (.int (1))))) (.cst (.int (1)))) .nil))) .nil) (.nil)) (.cons (.asg (.nm 3) (.call ("_law_answer" : Str) (.cons (.var 0) (.cons (.ix (.var 1) (.cst (.int (1)))) .nil)))) (.cons (.ife (.cmp .Eq (.var 2) (.cst (.str ("select" : Str)))) (.cons (.asg (.nm 3) (.call ("_law_select" : Str) (.cons (.var 3) (.cons (.ix (.var 1) (.cst (.int (2)))) .nil)))) .nil) (.cons (.ife (.cmp .Eq (.var 2) (.cst (.str ("project" : Str)))) (.cons (.asg (.nm 3) (x__law_answer_2)) .nil) (.cons (.ife (.cmp .Eq (.var 2) (.cst (.str ("crowd" : Str)))) (.cons (.asg (.nm 3) (.call ("_law_crowd" : Str) (.cons (.var 3) (.cons (.ix (.var 1) (.cst (.int (2)))) (.cons (.ix (.var 1) (.cst (.int (3)))) .nil))))) .nil) (.cons (.asg (.nm 4) (.call ("_law_answer" : Str) (.cons (.var 0) (.cons (.ix (.var 1) (.cst (.int (2)))) .nil)))) (.cons (.ife (.cmp .In (.var 2) (.tup (.cons (.cst (.str ("product" : Str))) (.cons (.cst (.str ("join" : Str))) .nil)))) (.cons (.asg (.nm 3) (.call ("_law_join" : Str) (.cons (.var 3) (.cons (.var 4) (.cons (.ite (.cmp .Eq (.var 2) (.cst (.str ("join" : Str)))) (.ix (.var 1) (.cst (.int (3)))) (.tup (.nil))) .nil))))) .nil) (.cons (.ife (.cmp .Eq (.var 2) (.cst (.str ("union" : Str)))) (.cons (.asg (.nm 3) (.bin .Add (.var 3) (.var 4))) .nil) (.cons (.ife (.cmp .Eq (.var 2) (.cst (.str ("leftover" : Str)))) (.cons (.asg (.nm 3) (x__law_answer_3)) .nil) (.cons (.asg (.nm 3) (.call ("_law_divide" : Str) (.cons (.var 3) (.cons (.var 4) (.cons (.call ("_law_wide" : Str) (.cons (.var 0) (.cons (.var 1) .nil))) .nil))))) .nil)) .nil)) .nil)) .nil))) .nil)) .nil)) (.cons (.ret (.bi ("sorted" : Str) (.cons (.bi ("set" : Str) (.cons (.var 3) .nil)) .nil))) .nil))))⟩
def t__law_answer : Txt := ⟨"_law_answer", top 78, ["store", "tree", "word", "rows", "others", "row", "column"], ["store", "tree"], f__law_answer⟩
def f__law_cell : Fn := ⟨2, 3, false, .cons (.ret (.call ("_law_some" : Str) (.cons (.var 0) (.cons (.bin .Add (.lst (.cons (.cst (.int (1))) (.cons (.cst (.int (1))) (.cons (.cst (.int (2))) (.cons (.cst (.int (2))) (.cons (.cst (.int (3))) (.cons (.cst (.int (7))) (.cons (.cst (.int (0))) .nil)))))))) (.bin .Mult (x__law_cell_1) (.cst (.int (3))))) .nil)))) .nil⟩
def t__law_cell : Txt := ⟨"_law_cell", top 79, ["cup", "unknowns", "at"], ["cup", "unknowns"], f__law_cell⟩
def f__law_table : Fn := ⟨4, 7, false, .cons (.asg (.nm 4) (x__law_table_2)) (.cons (.ret (.tup (.cons (.var 1) (.cons (.bi ("tuple" : Str) (.cons (.bi ("sorted" : Str) (.cons (.bi ("set" : Str) (.cons (.var 4) .nil)) .nil)) .nil)) .nil)))) .nil)⟩
def t__law_table : Txt := ⟨"_law_table", top 80, ["cup", "columns", "rows", "unknowns", "found", "row", "column"], ["cup", "columns", "rows", "unknowns"], f__law_table⟩
def f__law_store : Fn := ⟨2, 4, false, .cons (.asg (.nm 2) (.tup (.cons (.tup (.cons (.cst (.str ("r" : Str))) (.cons (.call ("_law_table" : Str) (.cons (.var 0) (.cons (.call ("_law_some" : Str) (.cons (.var 0) (.cons (.lst (.cons (.cst (.int (1))) (.cons (.cst (.int (2))) (.cons (.cst (.int (2))) (.cons (.cst (.int (3))) .nil))))) .nil))) (.cons (.cst (.int (4))) (.cons (.var 1) .nil))))) .nil))) .nil))) (.cons (.asg (.nm 2) (.bin .Add (.var 2) (.tup (.cons (.tup (.cons (.cst (.str ("s" : Str))) (.cons (.call ("_law_table" : Str) (.cons (.var 0) (.cons (.call ("_law_some" : Str) (.cons (.var 0) (.cons (.lst (.cons (.cst (.int (1))) (.cons (.cst (.int (1))) (.cons (.cst (.int (2))) .nil)))) .nil))) (.cons (.cst (.int (3))) (.cons (.var 1) .nil))))) .nil))) .nil)))) (.cons (.asg (.nm 3) (.tup (.cons (.cst (.str ("t" : Str))) (.cons (.call ("_law_table" : Str) (.cons (.var 0) (.cons (.call ("_law_some" : Str) (.cons (.var 0) (.cons (.lst (.cons (.cst (.int (0))) (.cons (.cst (.int (1))) (.cons (.cst (.int (2))) .nil)))) .nil))) (.cons (.cst (.int (3))) (.cons (.var 1) .nil))))) .nil)))) (.cons (.ret (.bin .Add (.var 2) (.ite (.cmp .Eq (.call ("_law_roll" : Str) (.cons (.var 0) (.cons (.cst (.int (3))) .nil))) (.cst (.int (0)))) (.tup (.cons (.var 3) .nil)) (.tup (.nil))))) .nil)))⟩
def t__law_store : Txt := ⟨"_law_store", top 81, ["cup", "unknowns", "found", "third"], ["cup", "unknowns"], f__law_store⟩
def f__law_test : Fn := ⟨2, 3, false, .cons (.asg (.nm 2) (.call ("_law_some" : Str) (.cons (.var 0) (.cons (.lst (.cons (.cst (.str ("is" : Str))) (.cons (.cst (.str ("is" : Str))) (.cons (.cst (.str ("not" : Str))) .nil)))) .nil)))) (.cons (.ife (.cmp .Eq (.call ("_law_roll" : Str) (.cons (.var 0) (.cons (.cst (.int (2))) .nil))) (.cst (.int (0)))) (.cons (.ret (.tup (.cons (.call ("_law_roll" : Str) (.cons (.var 0) (.cons (.var 1) .nil))) (.cons (.var 2) (.cons (.cst (.str ("column" : Str))) (.cons (.call ("_law_roll" : Str) (.cons (.var 0) (.cons (.var 1) .nil))) .nil)))))) .nil) (.nil)) (.cons (.ret (.tup (.cons (.call ("_law_roll" : Str) (.cons (.var 0) (.cons (.var 1) .nil))) (.cons (.var 2) (.cons (.cst (.str ("value" : Str))) (.cons (.call ("_law_some" : Str) (.cons (.var 0) (.cons (.lst (.cons (.cst (.int (1))) (.cons (.cst (.int (1))) (.cons (.cst (.int (2))) (.cons (.cst (.int (3))) (.cons (.cst (.int (9))) .nil)))))) .nil))) .nil)))))) .nil))⟩
def t__law_test : Txt := ⟨"_law_test", top 82, ["cup", "columns", "word"], ["cup", "columns"], f__law_test⟩
def f__law_fit : Fn := ⟨4, 5, false, .cons (.ife (.cmp .Eq (.var 2) (.var 3)) (.cons (.ret (.var 1)) .nil) (.nil)) (.cons (.ret (.tup (.cons (.cst (.str ("project" : Str))) (.cons (.var 1) (.cons (.ite (.cmp .Gt (.var 2) (.cst (.int (0)))) (.bi ("tuple" : Str) (.cons (x__law_fit_1) .nil)) (.tup (.nil))) .nil))))) .nil)⟩
def t__law_fit : Txt := ⟨"_law_fit", top 83, ["cup", "tree", "columns", "wished", "column"], ["cup", "tree", "columns", "wished"], f__law_fit⟩
def f__law_one : Fn := ⟨3, 8, false, .cons (.asg (.nm 3) (.call ("_law_roll" : Str) (.cons (.var 0) (.cons (.cst (.int (4))) .nil)))) (.cons (.ife (.cmp .Lt (.var 3) (.cst (.int (2)))) (.cons (.asg (.nm 5) (.ite (.cmp .Gt (.var 2) (.cst (.int (0)))) (.bi ("tuple" : Str) (.cons (x__law_one_2) .nil)) (.tup (.nil)))) (.cons (.ret (.tup (.cons (.tup (.cons (.cst (.str ("select" : Str))) (.cons (.var 1) (.cons (.var 5) .nil)))) (.cons (.var 2) .nil)))) .nil)) (.nil)) (.cons (.asg (.nm 4) (.ite (.cmp .Gt (.var 2) (.cst (.int (0)))) (x__law_one_1) (.lst (.nil)))) (.cons (.ife (.cmp .Eq (.var 3) (.cst (.int (2)))) (.cons (.ret (.tup (.cons (.tup (.cons (.cst (.str ("project" : Str))) (.cons (.var 1) (.cons (.bi ("tuple" : Str) (.cons (.var 4) .nil)) .nil)))) (.cons (.bi ("len" : Str) (.cons (.var 4) .nil)) .nil)))) .nil) (.nil)) (.cons (.ret (.tup (.cons (.tup (.cons (.cst (.str ("crowd" : Str))) (.cons (.var 1) (.cons (.bi ("tuple" : Str) (.cons (.bi ("sorted" : Str) (.cons (.bi ("set" : Str) (.cons (.var 4) .nil)) .nil)) .nil)) (.cons (.bin .Add (.cst (.int (1))) (.call ("_law_roll" : Str) (.cons (.var 0) (.cons (.cst (.int (3))) .nil)))) .nil))))) (.cons (.var 2) .nil)))) .nil))))⟩
def t__law_one : Txt := ⟨"_law_one", top 84, ["cup", "tree", "columns", "way", "some", "tests", "column", "test"], ["cup", "tree", "columns"], f__law_one⟩
def f__law_two : Fn := ⟨3, 10, false, .cons (.asg (.tp [.tp [.nm 6, .nm 7], .tp [.nm 8, .nm 9]]) (.tup (.cons (.var 1) (.cons (.var 2) .nil)))) (.cons (.asg (.nm 3) (.call ("_law_roll" : Str) (.cons (.var 0) (.cons (.cst (.int (6))) .nil)))) (.cons (.ife (.and (.cons (.cmp .Lt (.var 3) (.cst (.int (2)))) (.cons (.cmp .LtE (.bin .Add (.var 7) (.var 9)) (.cst (.int (5)))) .nil))) (.cons (.ife (.or (.cons (.cmp .Eq (.var 3) (.cst (.int (0)))) (.cons (.cmp .Eq (.var 7) (.cst (.int (0)))) (.cons (.cmp .Eq (.var 9) (.cst (.int (0)))) .nil)))) (.cons (.ret (.tup (.cons (.tup (.cons (.cst (.str ("product" : Str))) (.cons (.var 6) (.cons (.var 8) .nil)))) (.cons (.bin .Add (.var 7) (.var 9)) .nil)))) .nil) (.nil)) (.cons (.ret (.tup (.cons (.tup (.cons (.cst (.str ("join" : Str))) (.cons (.var 6) (.cons (.var 8) (.cons (.tup (.cons (.tup (.cons (.call ("_law_roll" : Str) (.cons (.var 0) (.cons (.var 7) .nil))) (.cons (.call ("_law_roll" : Str) (.cons (.var 0) (.cons (.var 9) .nil))) .nil))) .nil)) .nil))))) (.cons (.bin .Add (.var 7) (.var 9)) .nil)))) .nil)) (.nil)) (.cons (.ife (.and (.cons (.cmp .Eq (.var 3) (.cst (.int (2)))) (.cons (.cmp .LtE (.var 9) (.var 7)) .nil))) (.cons (.ret (.tup (.cons (.tup (.cons (.cst (.str ("divide" : Str))) (.cons (.var 6) (.cons (.var 8) .nil)))) (.cons (.bin .Sub (.var 7) (.var 9)) .nil)))) .nil) (.nil)) (.cons (.asg (.nm 4) (.ite (.cmp .Gt (.var 9) (.cst (.int (0)))) (.var 7) (.cst (.int (0))))) (.cons (.asg (.nm 5) (.call ("_law_some" : Str) (.cons (.var 0) (.cons (.lst (.cons (.cst (.str ("union" : Str))) (.cons (.cst (.str ("leftover" : Str))) (.cons (.cst (.str ("leftover" : Str))) .nil)))) .nil)))) (.cons (.ret (.tup (.cons (.tup (.cons (.var 5) (.cons (.call ("_law_fit" : Str) (.cons (.var 0) (.cons (.var 6) (.cons (.var 7) (.cons (.var 4) .nil))))) (.cons (.call ("_law_fit" : Str) (.cons (.var 0) (.cons (.var 8) (.cons (.var 9) (.cons (.var 4) .nil))))) .nil)))) (.cons (.var 4) .nil)))) .nil))))))⟩
def t__law_two : Txt := ⟨"_law_two", top 85, ["cup", "one", "two", "way", "wished", "word", "tree", "columns", "other", "more"], ["cup", "one", "two"], f__law_two⟩
def f__law_tree : Fn := ⟨3, 7, false, .cons (.ife (.or (.cons (.cmp .Eq (.var 2) (.cst (.int (0)))) (.cons (.cmp .Eq (.call ("_law_roll" : Str) (.cons (.var 0) (.cons (.cst (.int (5))) .nil))) (.cst (.int (0)))) .nil))) (.cons (.asg (.tp [.nm 3, .nm 4]) (.call ("_law_some" : Str) (.cons (.var 0) (.cons (.var 1) .nil)))) (.cons (.ret (.tup (.cons (.tup (.cons (.cst (.str ("table" : Str))) (.cons (.var 3) .nil))) (.cons (.ix (.var 4) (.cst (.int (0)))) .nil)))) .nil)) (.nil)) (.cons (.ife (.cmp .Eq (.call ("_law_roll" : Str) (.cons (.var 0) (.cons (.cst (.int (2))) .nil))) (.cst (.int (0)))) (.cons (.asg (.tp [.nm 5, .nm 6]) (.call ("_law_tree" : Str) (.cons (.var 0) (.cons (.var 1) (.cons (.bin .Sub (.var 2) (.cst (.int (1)))) .nil))))) (.cons (.ret (.call ("_law_one" : Str) (.cons (.var 0) (.cons (.var 5) (.cons (.var 6) .nil))))) .nil)) (.nil)) (.cons (.ret (.call ("_law_two" : Str) (.cons (.var 0) (.cons (.call ("_law_tree" : Str) (.cons (.var 0) (.cons (.var 1) (.cons (.bin .Sub (.var 2) (.cst (.int (1)))) .nil)))) (.cons (.call ("_law_tree" : Str) (.cons (.var 0) (.cons (.var 1) (.cons (.bin .Sub (.var 2) (.cst (.int (1)))) .nil)))) .nil))))) .nil))⟩
def t__law_tree : Txt := ⟨"_law_tree", top 86, ["cup", "store", "deep", "letter", "table", "tree", "columns"], ["cup", "store", "deep"], f__law_tree⟩
def f__law_asked : Fn := ⟨4, 9, false, .cons (.asg (.tp [.nm 4, .nm 5]) (.tup (.cons (.call ("_law_answer" : Str) (.cons (.var 1) (.cons (.var 2) .nil))) (.cons (.bin .Add (.call ("_law_unknowns" : Str) (.cons (.var 1) .nil)) (.lst (.cons (.cst (.int (1))) (.cons (.cst (.int (2))) (.cons (.cst (.int (3))) (.cons (.cst (.int (5))) .nil)))))) .nil)))) (.cons (.ife (.and (.cons (.cmp .NotEq (.var 4) (.lst (.nil))) (.cons (.cmp .Gt (.call ("_law_roll" : Str) (.cons (.var 0) (.cons (.cst (.int (4))) .nil))) (.cst (.int (0)))) .nil))) (.cons (.asg (.nm 6) (.call ("_law_some" : Str) (.cons (.var 0) (.cons (.var 4) .nil)))) (.cons (.asg (.nm 7) (.call ("_law_roll" : Str) (.cons (.var 0) (.cons (.bin .Add (.var 3) (.cst (.int (1)))) .nil)))) (.cons (.ret (.ite (.or (.cons (.cmp .Eq (.var 7) (.var 3)) (.cons (.cmp .Eq (.call ("_law_roll" : Str) (.cons (.var 0) (.cons (.cst (.int (2))) .nil))) (.cst (.int (0)))) .nil))) (.var 6) (.bin .Add (.bin .Add (.sl (.var 6) (.no) (.yes (.var 7))) (.tup (.cons (.call ("_law_some" : Str) (.cons (.var 0) (.cons (.var 5) .nil))) .nil))) (.sl (.var 6) (.yes (.bin .Add (.var 7) (.cst (.int (1))))) (.no))))) .nil))) (.nil)) (.cons (.ret (.bi ("tuple" : Str) (.cons (x__law_asked_1) .nil))) .nil))⟩
def t__law_asked : Txt := ⟨"_law_asked", top 87, ["cup", "store", "tree", "columns", "rows", "cells", "row", "at", "column"], ["cup", "store", "tree", "columns"], f__law_asked⟩
def f__law_case : Fn := ⟨3, 6, false, .cons (.asg (.nm 3) (.call ("_law_store" : Str) (.cons (.var 0) (.cons (.var 1) .nil)))) (.cons (.asg (.tp [.nm 4, .nm 5]) (.call ("_law_tree" : Str) (.cons (.var 0) (.cons (.var 3) (.cons (.var 2) .nil))))) (.cons (.ret (.tup (.cons (.var 3) (.cons (.var 4) (.cons (.call ("_law_asked" : Str) (.cons (.var 0) (.cons (.var 3) (.cons (.var 4) (.cons (.var 5) .nil))))) .nil))))) .nil))⟩
def t__law_case : Txt := ⟨"_law_case", top 88, ["cup", "unknowns", "deep", "store", "tree", "columns"], ["cup", "unknowns", "deep"], f__law_case⟩
def f__law_filling : Fn := ⟨2, 3, false, .cons (.ret (.bi ("tuple" : Str) (.cons (x__law_filling_1) .nil))) .nil⟩
def t__law_filling : Txt := ⟨"_law_filling", top 89, ["cup", "store", "unknown"], ["cup", "store"], f__law_filling⟩
def f__law_in : Fn := ⟨4, 4, false, .cons (.ret (.cmp .In (.call ("_law_put" : Str) (.cons (.var 2) (.cons (.call ("_law_worths" : Str) (.cons (.var 0) (.cons (.var 3) .nil))) .nil))) (.call ("_law_answer" : Str) (.cons (.call ("_law_filled" : Str) (.cons (.var 0) (.cons (.var 3) .nil))) (.cons (.var 1) .nil))))) .nil⟩
def t__law_in : Txt := ⟨"_law_in", top 90, ["store", "tree", "row", "filling"], ["store", "tree", "row", "filling"], f__law_in⟩
def f__law_example : Fn := ⟨0, 0, false, .cons (.ret (.tup (.cons (.tup (.cons (.cst (.str ("r" : Str))) (.cons (.tup (.cons (.cst (.int (2))) (.cons (.tup (.cons (.tup (.cons (.neg (.cst (.int (1)))) (.cons (.cst (.int (7))) .nil))) (.cons (.tup (.cons (.cst (.int (3))) (.cons (.neg (.cst (.int (2)))) .nil))) (.cons (.tup (.cons (.cst (.int (3))) (.cons (.cst (.int (7))) .nil))) .nil)))) .nil))) .nil))) (.cons (.tup (.cons (.cst (.str ("s" : Str))) (.cons (.tup (.cons (.cst (.int (1))) (.cons (.tup (.cons (.tup (.cons (.neg (.cst (.int (1)))) .nil)) (.cons (.tup (.cons (.cst (.int (7))) .nil)) .nil))) .nil))) .nil))) .nil)))) .nil⟩
def t__law_example : Txt := ⟨"_law_example", top 91, [], [], f__law_example⟩
def f__law_right : Fn := ⟨4, 8, false, .cons (.asg (.nm 4) (.call ("answer_of" : Str) (.cons (.var 1) (.cons (.var 2) .nil)))) (.cons (.ife (.or (.cons (.not (.isi (.var 4) "tuple")) (.cons (.cmp .NotEq (.bi ("list" : Str) (.cons (.var 4) .nil)) (.call ("_law_answer" : Str) (.cons (.var 1) (.cons (.var 2) .nil)))) .nil))) (.cons (.ret (.cst (.bl false))) .nil) (.nil)) (.cons (l__law_right_2) (.cons (.ret (.cst (.bl true))) .nil)))⟩
def t__law_right : Txt := ⟨"_law_right", top 92, ["cup", "store", "tree", "row", "told", "turn", "filling", "inside"], ["cup", "store", "tree", "row"], f__law_right⟩
def f_law : Fn := ⟨1, 14, false, .cons (.asg (.nm 1) (.call ("_law_cup" : Str) (.cons (.var 0) .nil))) (.cons (l_law_4) (.cons (.asg (.tp [.nm 7, .nm 8, .nm 9]) (.tup (.cons (.call ("_law_example" : Str) (.nil)) (.cons (.tup (.cons (.cst (.str ("table" : Str))) (.cons (.cst (.str ("r" : Str))) .nil))) (.cons (.tup (.cons (.cst (.str ("table" : Str))) (.cons (.cst (.str ("s" : Str))) .nil))) .nil))))) (.cons (.asg (.nm 3) (.tup (.cons (.cst (.str ("select" : Str))) (.cons (.tup (.cons (.cst (.str ("join" : Str))) (.cons (.var 8) (.cons (.var 9) (.cons (.tup (.cons (.tup (.cons (.cst (.int (0))) (.cons (.cst (.int (0))) .nil))) .nil)) .nil))))) (.cons (.tup (.cons (.tup (.cons (.cst (.int (1))) (.cons (.cst (.str ("not" : Str))) (.cons (.cst (.str ("value" : Str))) (.cons (.cst (.int (5))) .nil))))) .nil)) .nil))))) (.cons (.asg (.nm 4) (.tup (.cons (.cst (.str ("leftover" : Str))) (.cons (.var 9) (.cons (.tup (.cons (.cst (.str ("project" : Str))) (.cons (.var 8) (.cons (.tup (.cons (.cst (.int (1))) .nil)) .nil)))) .nil))))) (.cons (.ife (.or (.cons (.cmp .NotEq (.call ("answer_of" : Str) (.cons (.var 7) (.cons (.var 3) .nil))) (.tup (.cons (.tup (.cons (.neg (.cst (.int (1)))) (.cons (.cst (.int (7))) (.cons (.neg (.cst (.int (1)))) .nil)))) .nil))) (.cons (.cmp .NotEq (.call ("answer_of" : Str) (.cons (.var 7) (.cons (.tup (.cons (.cst (.str ("divide" : Str))) (.cons (.var 8) (.cons (.var 9) .nil)))) .nil))) (.tup (.nil))) (.cons (.cmp .NotEq (.call ("answer_of" : Str) (.cons (.var 7) (.cons (.var 4) .nil))) (.tup (.cons (.tup (.cons (.neg (.cst (.int (1)))) .nil)) .nil))) .nil)))) (.cons (.ret (.cst (.bl false))) .nil) (.nil)) (.cons (.ife (.or (.cons (.cmp .NotEq (.call ("filled_answer" : Str) (.cons (.var 7) (.cons (.tup (.cons (.cst (.str ("divide" : Str))) (.cons (.var 8) (.cons (.var 9) .nil)))) (.cons (.tup (.cons (.cst (.int (3))) (.cons (.cst (.int (7))) .nil))) .nil)))) (.tup (.cons (.tup (.cons (.cst (.int (3))) .nil)) (.cons (.tup (.cons (.cst (.int (7))) .nil)) .nil)))) (.cons (.cmp .NotEq (.call ("answer_of" : Str) (.cons (.var 7) (.cons (.tup (.cons (.cst (.str ("crowd" : Str))) (.cons (.var 8) (.cons (.tup (.cons (.cst (.int (0))) .nil)) (.cons (.cst (.int (2))) .nil))))) .nil))) (.tup (.cons (.tup (.cons (.cst (.int (3))) (.cons (.neg (.cst (.int (2)))) .nil))) (.cons (.tup (.cons (.cst (.int (3))) (.cons (.cst (.int (7))) .nil))) .nil)))) .nil))) (.cons (.ret (.cst (.bl false))) .nil) (.nil)) (.cons (.ife (.or (.cons (.cmp .NotEq (.call ("answer_of" : Str) (.cons (.var 7) (.cons (.tup (.cons (.cst (.str ("project" : Str))) (.cons (.var 8) (.cons (.tup (.nil)) .nil)))) .nil))) (.tup (.cons (.tup (.nil)) .nil))) (.cons (.cmp .IsNot (.call ("is_in" : Str) (.cons (.var 7) (.cons (.var 9) (.cons (.tup (.cons (.cst (.int (3))) .nil)) (.cons (.tup (.cons (.cst (.int (0))) (.cons (.cst (.int (3))) .nil))) .nil))))) (.cst (.bl true))) (.cons (.cmp .IsNot (.call ("is_in" : Str) (.cons (.var 7) (.cons (.var 9) (.cons (.tup (.cons (.neg (.cst (.int (2)))) .nil)) (.cons (.tup (.cons (.cst (.int (7))) (.cons (.cst (.int (0))) .nil))) .nil))))) (.cst (.bl true))) .nil)))) (.cons (.ret (.cst (.bl false))) .nil) (.nil)) (.cons (.asg (.nm 5) (.tup (.cons (.cst (.str ("select" : Str))) (.cons (.var 9) (.cons (.tup (.cons (.tup (.cons (.cst (.int (0))) (.cons (.cst (.str ("is" : Str))) (.cons (.cst (.str ("value" : Str))) (.cons (.cst (.int (4))) .nil))))) (.cons (.tup (.cons (.cst (.int (0))) (.cons (.cst (.str ("not" : Str))) (.cons (.cst (.str ("value" : Str))) (.cons (.cst (.int (4))) .nil))))) .nil))) .nil))))) (.cons (.asg (.nm 6) (.lst (.cons (.tup (.cons (.tup (.cons (.cst (.str ("divide" : Str))) (.cons (.var 8) (.cons (.var 5) .nil)))) (.cons (.tup (.cons (.tup (.cons (.neg (.cst (.int (1)))) .nil)) (.cons (.tup (.cons (.cst (.int (3))) .nil)) .nil))) .nil))) (.cons (.tup (.cons (.tup (.cons (.cst (.str ("project" : Str))) (.cons (.var 5) (.cons (.tup (.nil)) .nil)))) (.cons (.tup (.nil)) .nil))) (.cons (.tup (.cons (.tup (.cons (.cst (.str ("product" : Str))) (.cons (.var 9) (.cons (.var 5) .nil)))) (.cons (.tup (.nil)) .nil))) (.cons (.tup (.cons (.tup (.cons (.cst (.str ("leftover" : Str))) (.cons (.var 9) (.cons (.var 5) .nil)))) (.cons (.tup (.cons (.tup (.cons (.neg (.cst (.int (1)))) .nil)) (.cons (.tup (.cons (.cst (.int (7))) .nil)) .nil))) .nil))) .nil)))))) (.cons (.asg (.nm 6) (.bin .Add (.var 6) (.lst (.cons (.tup (.cons (.tup (.cons (.cst (.str ("divide" : Str))) (.cons (.var 9) (.cons (.tup (.cons (.cst (.str ("project" : Str))) (.cons (.var 9) (.cons (.tup (.nil)) .nil)))) .nil)))) (.cons (.tup (.cons (.tup (.cons (.neg (.cst (.int (1)))) .nil)) (.cons (.tup (.cons (.cst (.int (7))) .nil)) .nil))) .nil))) (.cons (.tup (.cons (.tup (.cons (.cst (.str ("divide" : Str))) (.cons (.var 9) (.cons (.tup (.cons (.cst (.str ("project" : Str))) (.cons (.var 5) (.cons (.tup (.nil)) .nil)))) .nil)))) (.cons (.tup (.cons (.tup (.cons (.neg (.cst (.int (1)))) .nil)) (.cons (.tup (.cons (.cst (.int (7))) .nil)) .nil))) .nil))) .nil))))) (.cons (.asg (.nm 6) (.bin .Add (.var 6) (.lst (.cons (.tup (.cons (.tup (.cons (.cst (.str ("crowd" : Str))) (.cons (.var 8) (.cons (.tup (.nil)) (.cons (.cst (.int (3))) .nil))))) (.cons (.tup (.cons (.tup (.cons (.neg (.cst (.int (1)))) (.cons (.cst (.int (7))) .nil))) (.cons (.tup (.cons (.cst (.int (3))) (.cons (.neg (.cst (.int (2)))) .nil))) (.cons (.tup (.cons (.cst (.int (3))) (.cons (.cst (.int (7))) .nil))) .nil)))) .nil))) (.cons (.tup (.cons (.tup (.cons (.cst (.str ("crowd" : Str))) (.cons (.var 8) (.cons (.tup (.nil)) (.cons (.cst (.int (4))) .nil))))) (.cons (.tup (.nil)) .nil))) (.cons (.tup (.cons (.tup (.cons (.cst (.str ("crowd" : Str))) (.cons (.var 8) (.cons (.tup (.cons (.cst (.int (1))) .nil)) (.cons (.cst (.int (2))) .nil))))) (.cons (.tup (.cons (.tup (.cons (.neg (.cst (.int (1)))) (.cons (.cst (.int (7))) .nil))) (.cons (.tup (.cons (.cst (.int (3))) (.cons (.cst (.int (7))) .nil))) .nil))) .nil))) .nil)))))) (.cons (.asg (.nm 6) (.bin .Add (.var 6) (.lst (.cons (.tup (.cons (.tup (.cons (.cst (.str ("join" : Str))) (.cons (.var 8) (.cons (.var 8) (.cons (.tup (.cons (.tup (.cons (.cst (.int (0))) (.cons (.cst (.int (0))) .nil))) (.cons (.tup (.cons (.cst (.int (1))) (.cons (.cst (.int (1))) .nil))) .nil))) .nil))))) (.cons (.tup (.cons (.tup (.cons (.neg (.cst (.int (1)))) (.cons (.cst (.int (7))) (.cons (.neg (.cst (.int (1)))) (.cons (.cst (.int (7))) .nil))))) (.cons (.tup (.cons (.cst (.int (3))) (.cons (.neg (.cst (.int (2)))) (.cons (.cst (.int (3))) (.cons (.neg (.cst (.int (2)))) .nil))))) (.cons (.tup (.cons (.cst (.int (3))) (.cons (.cst (.int (7))) (.cons (.cst (.int (3))) (.cons (.cst (.int (7))) .nil))))) .nil)))) .nil))) (.cons (.tup (.cons (.tup (.cons (.cst (.str ("union" : Str))) (.cons (.var 9) (.cons (.var 9) .nil)))) (.cons (.tup (.cons (.tup (.cons (.neg (.cst (.int (1)))) .nil)) (.cons (.tup (.cons (.cst (.int (7))) .nil)) .nil))) .nil))) .nil))))) (.cons (.asg (.nm 6) (.bin .Add (.var 6) (.lst (.cons (.tup (.cons (.tup (.cons (.cst (.str ("project" : Str))) (.cons (.var 8) (.cons (.tup (.cons (.cst (.int (1))) (.cons (.cst (.int (1))) (.cons (.cst (.int (0))) .nil)))) .nil)))) (.cons (.tup (.cons (.tup (.cons (.neg (.cst (.int (2)))) (.cons (.neg (.cst (.int (2)))) (.cons (.cst (.int (3))) .nil)))) (.cons (.tup (.cons (.cst (.int (7))) (.cons (.cst (.int (7))) (.cons (.neg (.cst (.int (1)))) .nil)))) (.cons (.tup (.cons (.cst (.int (7))) (.cons (.cst (.int (7))) (.cons (.cst (.int (3))) .nil)))) .nil)))) .nil))) (.cons (.tup (.cons (.tup (.cons (.cst (.str ("select" : Str))) (.cons (.var 8) (.cons (.tup (.cons (.tup (.cons (.cst (.int (1))) (.cons (.cst (.str ("is" : Str))) (.cons (.cst (.str ("value" : Str))) (.cons (.cst (.int (7))) .nil))))) (.cons (.tup (.cons (.cst (.int (0))) (.cons (.cst (.str ("not" : Str))) (.cons (.cst (.str ("value" : Str))) (.cons (.cst (.int (3))) .nil))))) .nil))) .nil)))) (.cons (.tup (.cons (.tup (.cons (.neg (.cst (.int (1)))) (.cons (.cst (.int (7))) .nil))) .nil)) .nil))) .nil))))) (.cons (.asg (.nm 6) (.bin .Add (.var 6) (.lst (.cons (.tup (.cons (.tup (.cons (.cst (.str ("divide" : Str))) (.cons (.var 9) (.cons (.var 9) .nil)))) (.cons (.tup (.cons (.tup (.nil)) .nil)) .nil))) (.cons (.tup (.cons (.tup (.cons (.cst (.str ("divide" : Str))) (.cons (.var 5) (.cons (.var 5) .nil)))) (.cons (.tup (.nil)) .nil))) (.cons (.tup (.cons (.tup (.cons (.cst (.str ("divide" : Str))) (.cons (.var 5) (.cons (.var 9) .nil)))) (.cons (.tup (.nil)) .nil))) (.cons (.tup (.cons (.tup (.cons (.cst (.str ("join" : Str))) (.cons (.var 8) (.cons (.var 9) (.cons (.tup (.cons (.tup (.cons (.cst (.int (1))) (.cons (.cst (.int (0))) .nil))) .nil)) .nil))))) (.cons (.tup (.cons (.tup (.cons (.neg (.cst (.int (1)))) (.cons (.cst (.int (7))) (.cons (.cst (.int (7))) .nil)))) (.cons (.tup (.cons (.cst (.int (3))) (.cons (.cst (.int (7))) (.cons (.cst (.int (7))) .nil)))) .nil))) .nil))) .nil))))))) (.cons (l_law_2) (.cons (.ret (.and (.cons (.cmp .Eq (.call ("filled_answer" : Str) (.cons (.var 7) (.cons (.var 4) (.cons (.tup (.cons (.cst (.int (3))) (.cons (.cst (.int (7))) .nil))) .nil)))) (.tup (.nil))) (.cons (.cmp .Eq (.call ("filled_answer" : Str) (.cons (.var 7) (.cons (.var 4) (.cons (.tup (.cons (.cst (.int (3))) (.cons (.cst (.int (8))) .nil))) .nil)))) (.tup (.cons (.tup (.cons (.cst (.int (8))) .nil)) .nil))) (.cons (.cmp .Is (.call ("is_in" : Str) (.cons (.var 7) (.cons (.var 4) (.cons (.tup (.cons (.neg (.cst (.int (1)))) .nil)) (.cons (.tup (.cons (.cst (.int (7))) (.cons (.cst (.int (9))) .nil))) .nil))))) (.cst (.bl true))) .nil))))) .nil))))))))))))))))⟩
def t_law : Txt := ⟨"law", top 93, ["script", "cup", "turn", "t", "rest", "none", "rows", "a", "r", "s", "tree", "due", "store", "row"], ["script"], f_law⟩
def txts : List Txt := [t_is_whole, t_is_tuple_of, t_fits_value, t_fits_row, t_does_ascend, t_fits_table, t_fits_letter, t_fits_store, t_cells_in, t_unknowns_in, t_row_by, t_worths_of, t_filled_by, t_fits_filling, t_need_store, t_need_filling, t_fits_test, t_are_columns, t_columns_of_one, t_are_pairs, t_columns_of_two, t_columns_by, t_knots_in, t_fits_tree, t_need_tree, t_need_few, t_ascending, t_does_hold, t_grouped, t_joined, t_divided, t_crowded, t_one_done, t_two_done, t_rows_by, t_is_in_by, t_need_row, t_answer_of, t_filled_answer, t_is_in] ++ [t__law_cup, t__law_roll, t__law_some, t__law_unknowns, t__law_worths, t__law_put, t__law_filled, t__law_holds, t__law_select, t__law_join, t__law_divide, t__law_crowd, t__law_wide, t__law_answer, t__law_cell, t__law_table, t__law_store, t__law_test, t__law_fit, t__law_one, t__law_two, t__law_tree, t__law_asked, t__law_case, t__law_filling, t__law_in, t__law_example, t__law_right, t_law]
def prg : Prog := progOf txts
def G : Glb := ⟨(["is_whole", "is_tuple_of", "fits_value", "fits_row", "does_ascend", "fits_table", "fits_letter", "fits_store", "cells_in", "unknowns_in", "row_by", "worths_of", "filled_by", "fits_filling", "need_store", "need_filling", "fits_test", "are_columns", "columns_of_one", "are_pairs", "columns_of_two", "columns_by", "knots_in", "fits_tree", "need_tree", "need_few", "ascending", "does_hold", "grouped", "joined"] : List Str) ++ (["divided", "crowded", "one_done", "two_done", "rows_by", "is_in_by", "need_row", "answer_of", "filled_answer", "is_in", "_law_cup", "_law_roll", "_law_some", "_law_unknowns", "_law_worths", "_law_put", "_law_filled", "_law_holds", "_law_select", "_law_join", "_law_divide", "_law_crowd", "_law_wide", "_law_answer", "_law_cell", "_law_table", "_law_store", "_law_test", "_law_fit", "_law_one"] : List Str) ++ (["_law_two", "_law_tree", "_law_asked", "_law_case", "_law_filling", "_law_in", "_law_example", "_law_right", "law"] : List Str), ["abs", "all", "bool", "dict", "enumerate", "int", "isinstance", "len", "list", "range", "set", "sorted", "str", "sum", "tuple", "zip"], [("COLUMNS_stores", .int (6)), ("COLUMNS_trees", .int (12)), ("CROWD", .int (40)), ("GREATEST", .int (1000000)), ("KNOTS", .int (20)), ("LEAST", .int (-6)), ("LETTERS", .str ("abcdefghijklmnopqrstuvwxyz" : Str)), ("MOST", .int (4000)), ("ONES", .tup [.str ("select" : Str), .str ("project" : Str), .str ("crowd" : Str)]), ("PAIRS", .int (6)), ("ROWS", .int (40)), ("TABLES", .int (4)), ("TESTS", .int (6)), ("TWOS", .tup [.str ("product" : Str), .str ("join" : Str), .str ("union" : Str), .str ("leftover" : Str), .str ("divide" : Str)])]⟩
theorem c_is_whole (k : Nat) (ds : List D) (W : Wd) : callK prg (k + 1) "is_whole" ds W = fnRun (callK prg k) f_is_whole ds W := by kernel_rfl
theorem c_is_tuple_of (k : Nat) (ds : List D) (W : Wd) : callK prg (k + 1) "is_tuple_of" ds W = fnRun (callK prg k) f_is_tuple_of ds W := by kernel_rfl
theorem c_fits_value (k : Nat) (ds : List D) (W : Wd) : callK prg (k + 1) "fits_value" ds W = fnRun (callK prg k) f_fits_value ds W := by kernel_rfl
theorem c_fits_row (k : Nat) (ds : List D) (W : Wd) : callK prg (k + 1) "fits_row" ds W = fnRun (callK prg k) f_fits_row ds W := by kernel_rfl
theorem c_does_ascend (k : Nat) (ds : List D) (W : Wd) : callK prg (k + 1) "does_ascend" ds W = fnRun (callK prg k) f_does_ascend ds W := by kernel_rfl
theorem c_fits_table (k : Nat) (ds : List D) (W : Wd) : callK prg (k + 1) "fits_table" ds W = fnRun (callK prg k) f_fits_table ds W := by kernel_rfl
theorem c_fits_letter (k : Nat) (ds : List D) (W : Wd) : callK prg (k + 1) "fits_letter" ds W = fnRun (callK prg k) f_fits_letter ds W := by kernel_rfl
theorem c_fits_store (k : Nat) (ds : List D) (W : Wd) : callK prg (k + 1) "fits_store" ds W = fnRun (callK prg k) f_fits_store ds W := by kernel_rfl
theorem c_cells_in (k : Nat) (ds : List D) (W : Wd) : callK prg (k + 1) "cells_in" ds W = fnRun (callK prg k) f_cells_in ds W := by kernel_rfl
theorem c_unknowns_in (k : Nat) (ds : List D) (W : Wd) : callK prg (k + 1) "unknowns_in" ds W = fnRun (callK prg k) f_unknowns_in ds W := by kernel_rfl
theorem c_row_by (k : Nat) (ds : List D) (W : Wd) : callK prg (k + 1) "row_by" ds W = fnRun (callK prg k) f_row_by ds W := by kernel_rfl
theorem c_worths_of (k : Nat) (ds : List D) (W : Wd) : callK prg (k + 1) "worths_of" ds W = fnRun (callK prg k) f_worths_of ds W := by kernel_rfl
theorem c_filled_by (k : Nat) (ds : List D) (W : Wd) : callK prg (k + 1) "filled_by" ds W = fnRun (callK prg k) f_filled_by ds W := by kernel_rfl
theorem c_fits_filling (k : Nat) (ds : List D) (W : Wd) : callK prg (k + 1) "fits_filling" ds W = fnRun (callK prg k) f_fits_filling ds W := by kernel_rfl
theorem c_need_store (k : Nat) (ds : List D) (W : Wd) : callK prg (k + 1) "need_store" ds W = fnRun (callK prg k) f_need_store ds W := by kernel_rfl
theorem c_need_filling (k : Nat) (ds : List D) (W : Wd) : callK prg (k + 1) "need_filling" ds W = fnRun (callK prg k) f_need_filling ds W := by kernel_rfl
theorem c_fits_test (k : Nat) (ds : List D) (W : Wd) : callK prg (k + 1) "fits_test" ds W = fnRun (callK prg k) f_fits_test ds W := by kernel_rfl
theorem c_are_columns (k : Nat) (ds : List D) (W : Wd) : callK prg (k + 1) "are_columns" ds W = fnRun (callK prg k) f_are_columns ds W := by kernel_rfl
theorem c_columns_of_one (k : Nat) (ds : List D) (W : Wd) : callK prg (k + 1) "columns_of_one" ds W = fnRun (callK prg k) f_columns_of_one ds W := by kernel_rfl
theorem c_are_pairs (k : Nat) (ds : List D) (W : Wd) : callK prg (k + 1) "are_pairs" ds W = fnRun (callK prg k) f_are_pairs ds W := by kernel_rfl
theorem c_columns_of_two (k : Nat) (ds : List D) (W : Wd) : callK prg (k + 1) "columns_of_two" ds W = fnRun (callK prg k) f_columns_of_two ds W := by kernel_rfl
theorem c_columns_by (k : Nat) (ds : List D) (W : Wd) : callK prg (k + 1) "columns_by" ds W = fnRun (callK prg k) f_columns_by ds W := by kernel_rfl
theorem c_knots_in (k : Nat) (ds : List D) (W : Wd) : callK prg (k + 1) "knots_in" ds W = fnRun (callK prg k) f_knots_in ds W := by kernel_rfl
theorem c_fits_tree (k : Nat) (ds : List D) (W : Wd) : callK prg (k + 1) "fits_tree" ds W = fnRun (callK prg k) f_fits_tree ds W := by kernel_rfl
theorem c_need_tree (k : Nat) (ds : List D) (W : Wd) : callK prg (k + 1) "need_tree" ds W = fnRun (callK prg k) f_need_tree ds W := by kernel_rfl
theorem c_need_few (k : Nat) (ds : List D) (W : Wd) : callK prg (k + 1) "need_few" ds W = fnRun (callK prg k) f_need_few ds W := by kernel_rfl
theorem c_ascending (k : Nat) (ds : List D) (W : Wd) : callK prg (k + 1) "ascending" ds W = fnRun (callK prg k) f_ascending ds W := by kernel_rfl
theorem c_does_hold (k : Nat) (ds : List D) (W : Wd) : callK prg (k + 1) "does_hold" ds W = fnRun (callK prg k) f_does_hold ds W := by kernel_rfl
theorem c_grouped (k : Nat) (ds : List D) (W : Wd) : callK prg (k + 1) "grouped" ds W = fnRun (callK prg k) f_grouped ds W := by kernel_rfl
theorem c_joined (k : Nat) (ds : List D) (W : Wd) : callK prg (k + 1) "joined" ds W = fnRun (callK prg k) f_joined ds W := by kernel_rfl
theorem c_divided (k : Nat) (ds : List D) (W : Wd) : callK prg (k + 1) "divided" ds W = fnRun (callK prg k) f_divided ds W := by kernel_rfl
theorem c_crowded (k : Nat) (ds : List D) (W : Wd) : callK prg (k + 1) "crowded" ds W = fnRun (callK prg k) f_crowded ds W := by kernel_rfl
theorem c_one_done (k : Nat) (ds : List D) (W : Wd) : callK prg (k + 1) "one_done" ds W = fnRun (callK prg k) f_one_done ds W := by kernel_rfl
theorem c_two_done (k : Nat) (ds : List D) (W : Wd) : callK prg (k + 1) "two_done" ds W = fnRun (callK prg k) f_two_done ds W := by kernel_rfl
theorem c_rows_by (k : Nat) (ds : List D) (W : Wd) : callK prg (k + 1) "rows_by" ds W = fnRun (callK prg k) f_rows_by ds W := by kernel_rfl
theorem c_is_in_by (k : Nat) (ds : List D) (W : Wd) : callK prg (k + 1) "is_in_by" ds W = fnRun (callK prg k) f_is_in_by ds W := by kernel_rfl
theorem c_need_row (k : Nat) (ds : List D) (W : Wd) : callK prg (k + 1) "need_row" ds W = fnRun (callK prg k) f_need_row ds W := by kernel_rfl
theorem c_answer_of (k : Nat) (ds : List D) (W : Wd) : callK prg (k + 1) "answer_of" ds W = fnRun (callK prg k) f_answer_of ds W := by kernel_rfl
theorem c_filled_answer (k : Nat) (ds : List D) (W : Wd) : callK prg (k + 1) "filled_answer" ds W = fnRun (callK prg k) f_filled_answer ds W := by kernel_rfl
theorem c_is_in (k : Nat) (ds : List D) (W : Wd) : callK prg (k + 1) "is_in" ds W = fnRun (callK prg k) f_is_in ds W := by kernel_rfl
theorem c__law_cup (k : Nat) (ds : List D) (W : Wd) : callK prg (k + 1) "_law_cup" ds W = fnRun (callK prg k) f__law_cup ds W := by kernel_rfl
theorem c__law_roll (k : Nat) (ds : List D) (W : Wd) : callK prg (k + 1) "_law_roll" ds W = fnRun (callK prg k) f__law_roll ds W := by kernel_rfl
theorem c__law_some (k : Nat) (ds : List D) (W : Wd) : callK prg (k + 1) "_law_some" ds W = fnRun (callK prg k) f__law_some ds W := by kernel_rfl
theorem c__law_unknowns (k : Nat) (ds : List D) (W : Wd) : callK prg (k + 1) "_law_unknowns" ds W = fnRun (callK prg k) f__law_unknowns ds W := by kernel_rfl
theorem c__law_worths (k : Nat) (ds : List D) (W : Wd) : callK prg (k + 1) "_law_worths" ds W = fnRun (callK prg k) f__law_worths ds W := by kernel_rfl
theorem c__law_put (k : Nat) (ds : List D) (W : Wd) : callK prg (k + 1) "_law_put" ds W = fnRun (callK prg k) f__law_put ds W := by kernel_rfl
theorem c__law_filled (k : Nat) (ds : List D) (W : Wd) : callK prg (k + 1) "_law_filled" ds W = fnRun (callK prg k) f__law_filled ds W := by kernel_rfl
theorem c__law_holds (k : Nat) (ds : List D) (W : Wd) : callK prg (k + 1) "_law_holds" ds W = fnRun (callK prg k) f__law_holds ds W := by kernel_rfl
theorem c__law_select (k : Nat) (ds : List D) (W : Wd) : callK prg (k + 1) "_law_select" ds W = fnRun (callK prg k) f__law_select ds W := by kernel_rfl
theorem c__law_join (k : Nat) (ds : List D) (W : Wd) : callK prg (k + 1) "_law_join" ds W = fnRun (callK prg k) f__law_join ds W := by kernel_rfl
theorem c__law_divide (k : Nat) (ds : List D) (W : Wd) : callK prg (k + 1) "_law_divide" ds W = fnRun (callK prg k) f__law_divide ds W := by kernel_rfl
theorem c__law_crowd (k : Nat) (ds : List D) (W : Wd) : callK prg (k + 1) "_law_crowd" ds W = fnRun (callK prg k) f__law_crowd ds W := by kernel_rfl
theorem c__law_wide (k : Nat) (ds : List D) (W : Wd) : callK prg (k + 1) "_law_wide" ds W = fnRun (callK prg k) f__law_wide ds W := by kernel_rfl
theorem c__law_answer (k : Nat) (ds : List D) (W : Wd) : callK prg (k + 1) "_law_answer" ds W = fnRun (callK prg k) f__law_answer ds W := by kernel_rfl
theorem c__law_cell (k : Nat) (ds : List D) (W : Wd) : callK prg (k + 1) "_law_cell" ds W = fnRun (callK prg k) f__law_cell ds W := by kernel_rfl
theorem c__law_table (k : Nat) (ds : List D) (W : Wd) : callK prg (k + 1) "_law_table" ds W = fnRun (callK prg k) f__law_table ds W := by kernel_rfl
theorem c__law_store (k : Nat) (ds : List D) (W : Wd) : callK prg (k + 1) "_law_store" ds W = fnRun (callK prg k) f__law_store ds W := by kernel_rfl
theorem c__law_test (k : Nat) (ds : List D) (W : Wd) : callK prg (k + 1) "_law_test" ds W = fnRun (callK prg k) f__law_test ds W := by kernel_rfl
theorem c__law_fit (k : Nat) (ds : List D) (W : Wd) : callK prg (k + 1) "_law_fit" ds W = fnRun (callK prg k) f__law_fit ds W := by kernel_rfl
theorem c__law_one (k : Nat) (ds : List D) (W : Wd) : callK prg (k + 1) "_law_one" ds W = fnRun (callK prg k) f__law_one ds W := by kernel_rfl
theorem c__law_two (k : Nat) (ds : List D) (W : Wd) : callK prg (k + 1) "_law_two" ds W = fnRun (callK prg k) f__law_two ds W := by kernel_rfl
theorem c__law_tree (k : Nat) (ds : List D) (W : Wd) : callK prg (k + 1) "_law_tree" ds W = fnRun (callK prg k) f__law_tree ds W := by kernel_rfl
theorem c__law_asked (k : Nat) (ds : List D) (W : Wd) : callK prg (k + 1) "_law_asked" ds W = fnRun (callK prg k) f__law_asked ds W := by kernel_rfl
theorem c__law_case (k : Nat) (ds : List D) (W : Wd) : callK prg (k + 1) "_law_case" ds W = fnRun (callK prg k) f__law_case ds W := by kernel_rfl
theorem c__law_filling (k : Nat) (ds : List D) (W : Wd) : callK prg (k + 1) "_law_filling" ds W = fnRun (callK prg k) f__law_filling ds W := by kernel_rfl
theorem c__law_in (k : Nat) (ds : List D) (W : Wd) : callK prg (k + 1) "_law_in" ds W = fnRun (callK prg k) f__law_in ds W := by kernel_rfl
theorem c__law_example (k : Nat) (ds : List D) (W : Wd) : callK prg (k + 1) "_law_example" ds W = fnRun (callK prg k) f__law_example ds W := by kernel_rfl
theorem c__law_right (k : Nat) (ds : List D) (W : Wd) : callK prg (k + 1) "_law_right" ds W = fnRun (callK prg k) f__law_right ds W := by kernel_rfl
theorem c_law (k : Nat) (ds : List D) (W : Wd) : callK prg (k + 1) "law" ds W = fnRun (callK prg k) f_law ds W := by kernel_rfl
theorem chk_ok : chkP G txts = true := by decide +kernel
theorem gs_ok' : gsB G.gs = true := by decide +kernel
theorem bind_ok : ∀ t ∈ txts, BindOk t := by
  unfold txts
  simp only [List.cons_append, List.nil_append]
  refine List.forall_mem_cons.mpr ⟨fun _ _ _ _ _ _ us hl => match us, hl with | [_, _, _], _ => rfl, ?_⟩
  refine List.forall_mem_cons.mpr ⟨fun _ _ _ _ _ _ us hl => match us, hl with | [_, _, _], _ => rfl, ?_⟩
  refine List.forall_mem_cons.mpr ⟨fun _ _ _ _ _ _ us hl => match us, hl with | [_], _ => rfl, ?_⟩
  refine List.forall_mem_cons.mpr ⟨fun _ _ _ _ _ _ us hl => match us, hl with | [_, _], _ => rfl, ?_⟩
  refine List.forall_mem_cons.mpr ⟨fun _ _ _ _ _ _ us hl => match us, hl with | [_], _ => rfl, ?_⟩
  refine List.forall_mem_cons.mpr ⟨fun _ _ _ _ _ _ us hl => match us, hl with | [_], _ => rfl, ?_⟩
  refine List.forall_mem_cons.mpr ⟨fun _ _ _ _ _ _ us hl => match us, hl with | [_], _ => rfl, ?_⟩
  refine List.forall_mem_cons.mpr ⟨fun _ _ _ _ _ _ us hl => match us, hl with | [_], _ => rfl, ?_⟩
  refine List.forall_mem_cons.mpr ⟨fun _ _ _ _ _ _ us hl => match us, hl with | [_], _ => rfl, ?_⟩
  refine List.forall_mem_cons.mpr ⟨fun _ _ _ _ _ _ us hl => match us, hl with | [_], _ => rfl, ?_⟩
  refine List.forall_mem_cons.mpr ⟨fun _ _ _ _ _ _ us hl => match us, hl with | [_, _], _ => rfl, ?_⟩
  refine List.forall_mem_cons.mpr ⟨fun _ _ _ _ _ _ us hl => match us, hl with | [_, _], _ => rfl, ?_⟩
  refine List.forall_mem_cons.mpr ⟨fun _ _ _ _ _ _ us hl => match us, hl with | [_, _], _ => rfl, ?_⟩
  refine List.forall_mem_cons.mpr ⟨fun _ _ _ _ _ _ us hl => match us, hl with | [_, _], _ => rfl, ?_⟩
  refine List.forall_mem_cons.mpr ⟨fun _ _ _ _ _ _ us hl => match us, hl with | [_], _ => rfl, ?_⟩
  refine List.forall_mem_cons.mpr ⟨fun _ _ _ _ _ _ us hl => match us, hl with | [_, _], _ => rfl, ?_⟩
  refine List.forall_mem_cons.mpr ⟨fun _ _ _ _ _ _ us hl => match us, hl with | [_, _], _ => rfl, ?_⟩
  refine List.forall_mem_cons.mpr ⟨fun _ _ _ _ _ _ us hl => match us, hl with | [_, _, _], _ => rfl, ?_⟩
  refine List.forall_mem_cons.mpr ⟨fun _ _ _ _ _ _ us hl => match us, hl with | [_, _], _ => rfl, ?_⟩
  refine List.forall_mem_cons.mpr ⟨fun _ _ _ _ _ _ us hl => match us, hl with | [_, _, _], _ => rfl, ?_⟩
  refine List.forall_mem_cons.mpr ⟨fun _ _ _ _ _ _ us hl => match us, hl with | [_, _, _], _ => rfl, ?_⟩
  refine List.forall_mem_cons.mpr ⟨fun _ _ _ _ _ _ us hl => match us, hl with | [_, _], _ => rfl, ?_⟩
  refine List.forall_mem_cons.mpr ⟨fun _ _ _ _ _ _ us hl => match us, hl with | [_], _ => rfl, ?_⟩
  refine List.forall_mem_cons.mpr ⟨fun _ _ _ _ _ _ us hl => match us, hl with | [_, _], _ => rfl, ?_⟩
  refine List.forall_mem_cons.mpr ⟨fun _ _ _ _ _ _ us hl => match us, hl with | [_, _], _ => rfl, ?_⟩
  refine List.forall_mem_cons.mpr ⟨fun _ _ _ _ _ _ us hl => match us, hl with | [_], _ => rfl, ?_⟩
  refine List.forall_mem_cons.mpr ⟨fun _ _ _ _ _ _ us hl => match us, hl with | [_], _ => rfl, ?_⟩
  refine List.forall_mem_cons.mpr ⟨fun _ _ _ _ _ _ us hl => match us, hl with | [_, _], _ => rfl, ?_⟩
  refine List.forall_mem_cons.mpr ⟨fun _ _ _ _ _ _ us hl => match us, hl with | [_, _], _ => rfl, ?_⟩
  refine List.forall_mem_cons.mpr ⟨fun _ _ _ _ _ _ us hl => match us, hl with | [_, _, _], _ => rfl, ?_⟩
  refine List.forall_mem_cons.mpr ⟨fun _ _ _ _ _ _ us hl => match us, hl with | [_, _, _], _ => rfl, ?_⟩
  refine List.forall_mem_cons.mpr ⟨fun _ _ _ _ _ _ us hl => match us, hl with | [_, _, _], _ => rfl, ?_⟩
  refine List.forall_mem_cons.mpr ⟨fun _ _ _ _ _ _ us hl => match us, hl with | [_, _], _ => rfl, ?_⟩
  refine List.forall_mem_cons.mpr ⟨fun _ _ _ _ _ _ us hl => match us, hl with | [_, _, _, _], _ => rfl, ?_⟩
  refine List.forall_mem_cons.mpr ⟨fun _ _ _ _ _ _ us hl => match us, hl with | [_, _], _ => rfl, ?_⟩
  refine List.forall_mem_cons.mpr ⟨fun _ _ _ _ _ _ us hl => match us, hl with | [_, _, _, _], _ => rfl, ?_⟩
  refine List.forall_mem_cons.mpr ⟨fun _ _ _ _ _ _ us hl => match us, hl with | [_, _, _], _ => rfl, ?_⟩
  refine List.forall_mem_cons.mpr ⟨fun _ _ _ _ _ _ us hl => match us, hl with | [_, _], _ => rfl, ?_⟩
  refine List.forall_mem_cons.mpr ⟨fun _ _ _ _ _ _ us hl => match us, hl with | [_, _, _], _ => rfl, ?_⟩
  refine List.forall_mem_cons.mpr ⟨fun _ _ _ _ _ _ us hl => match us, hl with | [_, _, _, _], _ => rfl, ?_⟩
  refine List.forall_mem_cons.mpr ⟨fun _ _ _ _ _ _ us hl => match us, hl with | [_], _ => rfl, ?_⟩
  refine List.forall_mem_cons.mpr ⟨fun _ _ _ _ _ _ us hl => match us, hl with | [_, _], _ => rfl, ?_⟩
  refine List.forall_mem_cons.mpr ⟨fun _ _ _ _ _ _ us hl => match us, hl with | [_, _], _ => rfl, ?_⟩
  refine List.forall_mem_cons.mpr ⟨fun _ _ _ _ _ _ us hl => match us, hl with | [_], _ => rfl, ?_⟩
  refine List.forall_mem_cons.mpr ⟨fun _ _ _ _ _ _ us hl => match us, hl with | [_, _], _ => rfl, ?_⟩
  refine List.forall_mem_cons.mpr ⟨fun _ _ _ _ _ _ us hl => match us, hl with | [_, _], _ => rfl, ?_⟩
  refine List.forall_mem_cons.mpr ⟨fun _ _ _ _ _ _ us hl => match us, hl with | [_, _], _ => rfl, ?_⟩
  refine List.forall_mem_cons.mpr ⟨fun _ _ _ _ _ _ us hl => match us, hl with | [_, _], _ => rfl, ?_⟩
  refine List.forall_mem_cons.mpr ⟨fun _ _ _ _ _ _ us hl => match us, hl with | [_, _], _ => rfl, ?_⟩
  refine List.forall_mem_cons.mpr ⟨fun _ _ _ _ _ _ us hl => match us, hl with | [_, _, _], _ => rfl, ?_⟩
  refine List.forall_mem_cons.mpr ⟨fun _ _ _ _ _ _ us hl => match us, hl with | [_, _, _], _ => rfl, ?_⟩
  refine List.forall_mem_cons.mpr ⟨fun _ _ _ _ _ _ us hl => match us, hl with | [_, _, _], _ => rfl, ?_⟩
  refine List.forall_mem_cons.mpr ⟨fun _ _ _ _ _ _ us hl => match us, hl with | [_, _], _ => rfl, ?_⟩
  refine List.forall_mem_cons.mpr ⟨fun _ _ _ _ _ _ us hl => match us, hl with | [_, _], _ => rfl, ?_⟩
  refine List.forall_mem_cons.mpr ⟨fun _ _ _ _ _ _ us hl => match us, hl with | [_, _], _ => rfl, ?_⟩
  refine List.forall_mem_cons.mpr ⟨fun _ _ _ _ _ _ us hl => match us, hl with | [_, _, _, _], _ => rfl, ?_⟩
  refine List.forall_mem_cons.mpr ⟨fun _ _ _ _ _ _ us hl => match us, hl with | [_, _], _ => rfl, ?_⟩
  refine List.forall_mem_cons.mpr ⟨fun _ _ _ _ _ _ us hl => match us, hl with | [_, _], _ => rfl, ?_⟩
  refine List.forall_mem_cons.mpr ⟨fun _ _ _ _ _ _ us hl => match us, hl with | [_, _, _, _], _ => rfl, ?_⟩
  refine List.forall_mem_cons.mpr ⟨fun _ _ _ _ _ _ us hl => match us, hl with | [_, _, _], _ => rfl, ?_⟩
  refine List.forall_mem_cons.mpr ⟨fun _ _ _ _ _ _ us hl => match us, hl with | [_, _, _], _ => rfl, ?_⟩
  refine List.forall_mem_cons.mpr ⟨fun _ _ _ _ _ _ us hl => match us, hl with | [_, _, _], _ => rfl, ?_⟩
  refine List.forall_mem_cons.mpr ⟨fun _ _ _ _ _ _ us hl => match us, hl with | [_, _, _, _], _ => rfl, ?_⟩
  refine List.forall_mem_cons.mpr ⟨fun _ _ _ _ _ _ us hl => match us, hl with | [_, _, _], _ => rfl, ?_⟩
  refine List.forall_mem_cons.mpr ⟨fun _ _ _ _ _ _ us hl => match us, hl with | [_, _], _ => rfl, ?_⟩
  refine List.forall_mem_cons.mpr ⟨fun _ _ _ _ _ _ us hl => match us, hl with | [_, _, _, _], _ => rfl, ?_⟩
  refine List.forall_mem_cons.mpr ⟨fun _ _ _ _ _ _ us hl => match us, hl with | [], _ => rfl, ?_⟩
  refine List.forall_mem_cons.mpr ⟨fun _ _ _ _ _ _ us hl => match us, hl with | [_, _, _, _], _ => rfl, ?_⟩
  refine List.forall_mem_cons.mpr ⟨fun _ _ _ _ _ _ us hl => match us, hl with | [_], _ => rfl, ?_⟩
  exact fun _ h => nomatch h
end LW

namespace LW
open PySem PL
theorem roll (k : Nat) {W : Wd} (hW : Cup W) {m : Int} (h1 : 0 < m) (h2 : m < 1073741824) : ∃ (r : Int) (W' : Wd), callK prg (k + 1) "_law_roll" [.ref 0, .int m] W = .ok (.int r) W' ∧ Cup W' ∧ 0 ≤ r ∧ r < m := by
  obtain ⟨a, b, rfl⟩ := hW
  by_cases h : 0 < a
  · refine ⟨a % m, [[.int (a / m), .int b]], ?_, ⟨_, _, rfl⟩, Int.emod_nonneg _ (by omega), Int.emod_lt_of_pos _ h1⟩
    rw [c__law_roll]
    simp [f__law_roll, dIx, L2.atI, L2.ixN, h, h1, h2]
  · have hb : 0 ≤ (b * 30983 + 7933) % 2147483563 ∧ (b * 30983 + 7933) % 2147483563 < 2147483563 := ⟨Int.emod_nonneg _ (by omega), Int.emod_lt_of_pos _ (by omega)⟩
    refine ⟨((b * 30983 + 7933) % 2147483563 * ((b * 30983 + 7933) % 2147483563 + 197)) % 2147483587 / 773 % m, [[.int a, .int ((b * 30983 + 7933) % 2147483563)]], ?_, ⟨_, _, rfl⟩, Int.emod_nonneg _ (by omega), Int.emod_lt_of_pos _ h1⟩
    have hm : ((b * 30983 + 7933) % 2147483563).natAbs < 2 ^ 64 := by omega
    have hm' : ((b * 30983 + 7933) % 2147483563).natAbs < 18446744073709551616 := by omega
    rw [c__law_roll]
    generalize hb' : (b * 30983 + 7933) % 2147483563 = b' at *
    simp [f__law_roll, dIx, L2.atI, L2.ixN, h, h1, h2, hb', hm']
theorem some_of (k : Nat) {W : Wd} (hW : Cup W) {xs : List D} (h1 : xs ≠ []) (h2 : xs.length < 1073741824) : ∃ (x : D) (W' : Wd), callK prg (k + 2) "_law_some" [.ref 0, .lst xs] W = .ok x W' ∧ Cup W' ∧ x ∈ xs := by
  have hp : 0 < xs.length := List.length_pos_iff.mpr h1
  obtain ⟨r, W', e, c, g1, g2⟩ := roll k hW (m := xs.length) (by omega) (by omega)
  obtain ⟨x, ex, hm⟩ := ix_at W' xs r g1 g2
  refine ⟨x, W', ?_, c, hm⟩
  rw [c__law_some]
  obtain ⟨a, b, rfl⟩ := hW
  obtain ⟨a', b', rfl⟩ := c
  simp [f__law_some, e, ex]
theorem some_ofT (k : Nat) {W : Wd} (hW : Cup W) {xs : List D} (h1 : xs ≠ []) (h2 : xs.length < 1073741824) : ∃ (x : D) (W' : Wd), callK prg (k + 2) "_law_some" [.ref 0, .tup xs] W = .ok x W' ∧ Cup W' ∧ x ∈ xs := by
  have hp : 0 < xs.length := List.length_pos_iff.mpr h1
  obtain ⟨r, W', e, c, g1, g2⟩ := roll k hW (m := xs.length) (by omega) (by omega)
  obtain ⟨x, ex, hm⟩ := ix_tup W' xs r g1 g2
  refine ⟨x, W', ?_, c, hm⟩
  rw [c__law_some]
  obtain ⟨a, b, rfl⟩ := hW
  obtain ⟨a', b', rfl⟩ := c
  simp [f__law_some, e, ex]
theorem cup (k : Nat) (ns : List Int) (h : ns.length ≤ 63) : ∃ W, callK prg (k + 1) "_law_cup" [.scr ns] [] = .ok (.ref 0) W ∧ Cup W := by
  rw [c__law_cup]
  have hl : ns.length + 1 ≤ 16777216 := by omega
  have h0 : (0 : Int) < (ns.length : Int) + 1 := by omega
  cases ns with
  | nil =>
    refine ⟨[[.int 0, .int 2248]], ?_, ⟨_, _, rfl⟩⟩
    simp [f__law_cup, dIx, L2.atI, L2.ixN, dGe]
  | cons n ns =>
    refine ⟨[[.int (if (10 : Int) ^ 18 ≤ (if n < 0 then -n else n) then (if n < 0 then -n else n) / 43 else 0), .int (((if n < 0 then -n else n) * 251 + 2111) % 2077503307 + 137)]], ?_, ⟨_, _, rfl⟩⟩
    simp only [List.length_cons] at hl h0
    generalize hc : (if n < 0 then -n else n) = c
    by_cases hb : (10 : Int) ^ 18 ≤ c
    · have hb' : (1000000000000000000 : Int) ≤ c := by simpa using hb
      simp [f__law_cup, dIx, L2.atI, L2.ixN, hl, h0, hc, hb', dGe]
    · have hb' : ¬ (1000000000000000000 : Int) ≤ c := by simpa using hb
      simp [f__law_cup, dIx, L2.atI, L2.ixN, hl, h0, hc, hb', dGe]
end LW

namespace LW
open PySem PL
theorem isw (k : Nat) (i lo hi : Int) (W : Wd) : callK prg (k + 1) "is_whole" [.int i, .int lo, .int hi] W = .ok (.bl (decide (lo ≤ i) && decide (i ≤ hi))) W := by
  rw [c_is_whole]
  by_cases h : lo ≤ i <;> simp [f_is_whole, h]
theorem ist (k : Nat) (xs : List D) (lo hi : Int) (W : Wd) : callK prg (k + 1) "is_tuple_of" [.tup xs, .int lo, .int hi] W = .ok (.bl (decide (lo ≤ (xs.length : Int)) && decide ((xs.length : Int) ≤ hi))) W := by
  rw [c_is_tuple_of]
  by_cases h : lo ≤ (xs.length : Int) <;> simp [f_is_tuple_of, h]
theorem fval (k : Nat) (i : Int) (W : Wd) : callK prg (k + 2) "fits_value" [.int i] W = .ok (.bl (decide (0 ≤ i) && decide (i ≤ 1000000))) W := by
  rw [c_fits_value]
  simp [f_fits_value, isw k]
theorem frow (k : Nat) (c : Nat) (r : List Int) (h : OkRow c r) (hc : c ≤ 6) (W : Wd) : callK prg (k + 2) "fits_row" [.int c, tupD r] W = .ok (.bl true) W := by
  rw [c_fits_row]
  have hl := h.len
  have hl2 : r.length ≤ 16777216 := by omega
  simp [f_fits_row, x_fits_row_1, tupD, ist k, hl]
  rw [lc_mapi D.int (fun _ => .bl true)]
  · have := bls_map (fun _ : Int => true) r
    simp [hl2, this]
  · intro a ha
    have := h.cell a ha
    exact ⟨_, rfl, rfl, by simp [isw k, this]⟩
theorem ascend {α : Type} (k : Nat) (h : α → D) {xs : List α} (hl : xs.length ≤ 1000) {W : Wd} (hp : xs.Pairwise fun a b => dLt W (h a) (h b) = some true) {b : D} (hb : b = .lst (xs.map h) ∨ b = .tup (xs.map h)) : callK prg (k + 1) "does_ascend" [b] W = .ok (.bl true) W := by
  rw [c_does_ascend]
  have e := zip_adj h xs
  have hl2 : xs.length ≤ 16777217 := by omega
  have hz : lcLoop (fun d W => T.put W (.tp [.nm 1, .nm 2]) d (wipeD [some b, none, none] [1, 2])) (runT (callK prg k) .nil) (PL.run (callK prg k) (.cmp .Lt (.var 1) (.var 2))) ((xs.zip (xs.drop 1)).map fun p => pairD (h p.1) (h p.2)) W = .ok ((xs.zip (xs.drop 1)).map fun _ => .bl true) W := by
    refine lc_mapi (fun p : α × α => pairD (h p.1) (h p.2)) (fun _ => .bl true) fun p hpm => ?_
    have := adj_pw hp p hpm
    exact ⟨_, rfl, rfl, by simp [pairD, this]⟩
  have hall := bls_map (fun _ : α × α => true) (xs.zip (xs.drop 1))
  rcases hb with rfl | rfl
  · simp [f_does_ascend, x_does_ascend_1, drop1, dZip]
    simp at e
    rw [e]
    simp at hz hall
    rw [hz]
    simp [hl2, hall]
  · simp [f_does_ascend, x_does_ascend_1, drop1t, dZip]
    simp at e
    rw [e]
    simp at hz hall
    rw [hz]
    simp [hl2, hall]
theorem flet (k : Nat) {x : Str} (h : okLet x = true) (W : Wd) : callK prg (k + 1) "fits_letter" [.str x] W = .ok (.bl true) W := by
  rw [c_fits_letter]
  simp only [okLet, Bool.and_eq_true, beq_iff_eq] at h
  have h1 : x.length ≤ 16777216 := by omega
  have h2 : dIn W (.str x) (.str "abcdefghijklmnopqrstuvwxyz") = some true := by
    show some (strIn x abc) = _
    rw [h.2]
  simp [f_fits_letter, h.1, h2]
theorem ftab (k : Nat) {t : Tb} (h : OkTb t) (W : Wd) : callK prg (k + 3) "fits_table" [t.d] W = .ok (.bl true) W := by
  rw [c_fits_table]
  have h1 := h.c
  have h2 := h.many
  have h3 : t.rows.length ≤ 16777216 := by omega
  have i1 : (t.c : Int) ≤ 6 := by omega
  have i2 : ¬ 6 < (t.c : Int) := by omega
  have i3 : (t.rows.length : Int) ≤ 40 := by omega
  have ha := ascend (k + 1) tupD (xs := t.rows) (by omega) (W := W) (h.asc.imp fun {a b} hab => by rw [lt_tupD, decide_eq_true hab]) (.inr rfl)
  have c1 : PL.run (callK prg (k + 2)) x_fits_table_1 [some t.d, none] W = .ok (.lst (t.rows.map fun _ => .bl true)) W := by
    simp [x_fits_table_1, Tb.d]
    rw [lc_mapi tupD (fun _ => .bl true)]
    · simp [h3]
    · intro r hr
      exact ⟨_, rfl, rfl, by simp [frow k t.c r (h.row r hr) h1]⟩
  have hb := bls_map (fun _ : List Int => true) t.rows
  unfold f_fits_table
  generalize x_fits_table_1 = y1 at c1 ⊢
  simp only [Tb.d] at c1 ⊢
  simp [ist (k + 1), isw (k + 1), i1, i2, i3, c1, hb, ha]
theorem fsto (k : Nat) {s : Sto} (h : OkSt s) (W : Wd) : callK prg (k + 4) "fits_store" [stD s] W = .ok (.bl true) W := by
  rw [c_fits_store]
  have h1 := h.many
  have i1 : (s.length : Int) ≤ 4 := by omega
  have h3 : s.length ≤ 16777216 := by omega
  have c4 : PL.run (callK prg (k + 3)) x_fits_store_4 [some (stD s), none, none, none] W = .ok (.lst (s.map fun _ => .bl true)) W := by
    simp [x_fits_store_4, stD]
    rw [lc_mapi enD (fun _ => .bl true)]
    · simp [h3]
    · intro p hp
      exact ⟨_, rfl, rfl, by simp [enD, ist (k + 2)]⟩
  have c3 : PL.run (callK prg (k + 3)) x_fits_store_3 [some (stD s), none, none, none] W = .ok (.lst (s.map fun _ => .bl true)) W := by
    simp [x_fits_store_3, stD]
    rw [lc_mapi enD (fun _ => .bl true)]
    · simp [h3]
    · intro p hp
      refine ⟨_, rfl, rfl, ?_⟩
      simp [flet (k + 2) (h.lets p hp), ftab k (h.tb p hp)]
  have c2 : PL.run (callK prg (k + 3)) x_fits_store_2 [some (stD s), none, none, none] W = .ok (.lst (s.map fun p => .str p.1)) W := by
    simp [x_fits_store_2, stD]
    rw [lc_mapi enD (fun p => .str p.1)]
    · simp [h3]
    · intro p hp
      exact ⟨_, rfl, rfl, rfl⟩
  have c1 : PL.run (callK prg (k + 3)) x_fits_store_1 [some (stD s), none, none, none] W = .ok (.lst (s.map fun p => .int (p.2.rows.length : Int))) W := by
    simp [x_fits_store_1, stD]
    rw [lc_mapi enD (fun p => .int (p.2.rows.length : Int))]
    · simp [h3]
    · intro p hp
      exact ⟨_, rfl, rfl, by simp [Tb.d]⟩
  have ha := ascend (k + 2) (fun p : Str × Tb => D.str p.1) (xs := s) (by omega) (W := W) (h.asc.imp fun {a b} hab => by simp [hab]) (.inl rfl)
  have hn := nums_map (fun p : Str × Tb => (p.2.rows.length : Int)) s
  have hb := bls_map (fun _ : Str × Tb => true) s
  have hs : (s.map fun p => (p.2.rows.length : Int)).sum ≤ 40 := by
    have := h.sum
    have e := cast_sum (fun p : Str × Tb => p.2.rows.length) s
    omega
  unfold f_fits_store
  generalize x_fits_store_4 = y4 at c4 ⊢
  generalize x_fits_store_3 = y3 at c3 ⊢
  generalize x_fits_store_2 = y2 at c2 ⊢
  generalize x_fits_store_1 = y1 at c1 ⊢
  have hl : (stD s) = .tup (s.map enD) := rfl
  rw [hl] at c4 c3 c2 c1 ⊢
  simp [ist (k + 2), i1, c4, c3, c2, c1, ha, hn, hb, hs]
theorem nsto (k : Nat) {s : Sto} (h : OkSt s) (W : Wd) : callK prg (k + 5) "need_store" [stD s] W = .ok .non W := by
  rw [c_need_store]
  simp [f_need_store, fsto k h]
end LW

namespace LW
open PySem PL
theorem flat_map (rs : List (List Int)) : (rs.flatMap fun r => r.map D.int) = rs.flatten.map .int := by
  induction rs with
  | nil => rfl
  | cons r rs ih => simp [ih]
theorem flat_len2 (rs : List (List Int)) : (rs.map List.length).sum = rs.flatten.length := by simp [List.length_flatten]
theorem cells1 (k : Nat) {t : Tb} (h : OkTb t) (s found l : D) (W : Wd) : PL.run (callK prg k) x_cells_in_1 [some s, some found, some l, some t.d, none, none] W = .ok (.lst (t.rows.flatten.map .int)) W := by
  have hl : t.rows.flatten.length ≤ 16777216 := by have := h.cells; have := h.many; omega
  unfold x_cells_in_1
  rw [run_lc2]
  simp [Tb.d]
  rw [lc2_map tupD (fun r => r.map .int)]
  · rw [flat_map]
    show (if (t.rows.flatten.map D.int).length ≤ 16777216 then R.ok (D.lst (t.rows.flatten.map .int)) W else R.bad) = _
    rw [if_pos (by rw [List.length_map]; exact hl), List.map_flatten]
  · intro r hr
    refine ⟨_, rfl, rfl, ?_⟩
    simp [tupD]
    rw [lc_mapi D.int D.int]
    intro a ha
    exact ⟨_, rfl, rfl, rfl⟩
theorem cells_app (d : Sto) (p : Str × Tb) : cellsS (d ++ [p]) = cellsS d ++ p.2.rows.flatten := by simp [cellsS]
theorem cells_part {s d : Sto} {p : Str × Tb} (hs : OkSt s) (h : ∃ r, s = d ++ p :: r) : (cellsS d ++ p.2.rows.flatten).length ≤ 240 := by
  obtain ⟨r, rfl⟩ := h
  have := cells_len hs
  simp only [cellsS, List.flatMap_append, List.flatMap_cons, List.length_append] at this ⊢
  omega
theorem cellsin (k : Nat) {s : Sto} (h : OkSt s) (W : Wd) : callK prg (k + 1) "cells_in" [stD s] W = .ok (.lst ((sortI (cellsS s)).map .int)) W := by
  rw [c_cells_in]
  have hc := cells_len h
  obtain ⟨ρ', e, a2, a3, rfl⟩ := for_pre (W := W) (asg := fun d ρ W => T.put W (.tp [.nm 2, .nm 3]) d ρ) (body := runSs (callK prg k) b_cells_in_2) enD
    (fun (d : Sto) ρ => ∃ a2 a3, ρ = [some (stD s), some (.lst ((cellsS d).map .int)), a2, a3, none, none]) (xs := s) (ρ := [some (stD s), some (.lst []), none, none, none, none]) ⟨none, none, rfl⟩ (by
      rintro d p post ρ hs ⟨a2, a3, rfl⟩
      have hp := h.tb p (by rw [hs]; simp)
      have hl := cells_part h ⟨post, hs⟩
      have hl2 : (cellsS d).length + p.2.rows.flatten.length ≤ 16777216 := by rw [List.length_append] at hl; omega
      have h1 := cells1 k hp (stD s) (.lst ((cellsS d).map .int)) (.str p.1) W
      refine ⟨[some (stD s), some (.lst ((cellsS d).map .int)), some (.str p.1), some p.2.d, none, none], [some (stD s), some (.lst ((cellsS (d ++ [p])).map .int)), some (.str p.1), some p.2.d, none, none], rfl, ?_, _, _, rfl⟩
      unfold b_cells_in_2
      rw [cells_app]
      generalize x_cells_in_1 = y at h1 ⊢
      generalize p.2.rows.flatten = fl at h1 hl hl2 ⊢
      simp [h1, hl2])
  have hF : runS (callK prg k) l_cells_in_3 [some (stD s), some (.lst []), none, none, none, none] W = .nx [some (stD s), some (.lst ((cellsS s).map .int)), a2, a3, none, none] W := e
  unfold f_cells_in
  generalize l_cells_in_3 = y at hF ⊢
  have h2 : dSet W [.lst ((cellsS s).map .int)] = some (.set ((sortI (cellsS s)).map .int)) := set_ints W rfl (by omega)
  simp [hF, h2, sort_ints]
theorem unkin (k : Nat) {s : Sto} (h : OkSt s) (W : Wd) : callK prg (k + 2) "unknowns_in" [stD s] W = .ok (.tup ((unk s).map .int)) W := by
  rw [c_unknowns_in]
  have hc := cellsin k h W
  have hu := unk_len h
  have h1 : PL.run (callK prg (k + 1)) x_unknowns_in_1 [some (stD s), none] W = .ok (.lst ((unk s).map .int)) W := by
    unfold x_unknowns_in_1
    rw [run_lc]
    simp [hc]
    rw [lc_filt D.int D.int (fun a => decide (a < 0))]
    · show (if ((unk s).map D.int).length ≤ 16777216 then R.ok (D.lst ((unk s).map .int)) W else R.bad) = _
      rw [if_pos (by rw [List.length_map]; omega)]
    · intro a ha
      exact ⟨_, rfl, by simp, fun _ => by simp⟩
  unfold f_unknowns_in
  generalize x_unknowns_in_1 = y at h1 ⊢
  simp [h1]
theorem worthof (k : Nat) {s : Sto} (h : OkSt s) (f : List Int) (W : Wd) : callK prg (k + 3) "worths_of" [stD s, .tup (f.map .int)] W = .ok (.dct (kvsOf (unk s) f)) W := by
  rw [c_worths_of]
  have h1 := unkin k h W
  have hu := unk_len h
  have hl : min (unk s).length f.length ≤ 16777216 := by omega
  have hp := pairs_zip (unk s) f
  simp at hp
  simp [f_worths_of, h1, dZip, hp, kvsOf, hl]
theorem rowby (k : Nat) (r : List Int) (hr : r.length ≤ 1000) {kvs : List (L2.Key × D)} {g : Int → Int} (hg : Worth kvs g) (W : Wd) : callK prg (k + 1) "row_by" [tupD r, .dct kvs] W = .ok (tupD (r.map g)) W := by
  have h1 : r.length ≤ 16777216 := by omega
  rw [c_row_by]
  simp [f_row_by, x_row_by_1, tupD]
  rw [lc_mapi D.int (fun i => .int (g i))]
  · simp [h1]
  · intro x hx
    exact ⟨_, rfl, rfl, by simp [hg x]⟩
theorem fill1 (k : Nat) {t : Tb} (h : OkTb t) (s l f : D) {kvs : List (L2.Key × D)} {g : Int → Int} (hg : Worth kvs g) (W : Wd) (a5 : Option D) : PL.run (callK prg (k + 1)) x_filled_by_1 [some s, some (.dct kvs), some f, some l, some t.d, a5, none] W = .ok (.lst ((t.rows.map fun r => r.map g).map tupD)) W := by
  have hl := h.many
  unfold x_filled_by_1
  rw [run_lc]
  simp [Tb.d]
  rw [lc_mapi tupD (fun r => tupD (r.map g))]
  · have hl2 : t.rows.length ≤ 16777216 := by omega
    simp [hl2]
  · intro r hr
    have hlen := (h.row r hr).len
    have hc := h.c
    exact ⟨_, rfl, rfl, by simp [rowby k r (by omega) hg]⟩
theorem fillT_ok {t : Tb} (h : OkTb t) {g : Int → Int} (hg : ∀ a, -6 ≤ a → a ≤ 1000000 → -6 ≤ g a ∧ g a ≤ 1000000) : OkTb (fillT g t) := by
  refine ⟨h.c, ?_, fun r hr => ?_, sortL_pw _⟩
  · have := sortL_len (t.rows.map fun r => r.map g)
    have := h.many
    simp only [fillT]
    rw [List.length_map] at *
    omega
  · obtain ⟨q, hq, rfl⟩ := List.mem_map.mp (sortL_mem.mp hr)
    have := h.row q hq
    refine ⟨by rw [List.length_map]; exact this.len, fun a ha => ?_⟩
    obtain ⟨b, hb, rfl⟩ := List.mem_map.mp ha
    exact hg b (this.cell b hb).1 (this.cell b hb).2
theorem fillset (W : Wd) {t : Tb} (h : OkTb t) (g : Int → Int) : dSet W [.lst ((t.rows.map fun r => r.map g).map tupD)] = some (.set ((fillT g t).rows.map tupD)) ∧ dSort W [.set ((fillT g t).rows.map tupD)] = some (.lst ((fillT g t).rows.map tupD)) := by
  refine ⟨set_rows W (by rw [List.length_map]; have := h.many; omega), sort_rows W t.c fun k hk => ?_⟩
  obtain ⟨r, hr, rfl⟩ := List.mem_map.mp hk
  rw [List.length_map]
  exact (h.row r hr).len
theorem filledby (k : Nat) {s : Sto} (h : OkSt s) {kvs : List (L2.Key × D)} {g : Int → Int} (hg : Worth kvs g) (W : Wd) : callK prg (k + 2) "filled_by" [stD s, .dct kvs] W = .ok (stD (fillS g s)) W := by
  rw [c_filled_by]
  obtain ⟨ρ', e, a2, a3, a4, rfl⟩ := for_pre (W := W) (asg := fun d ρ W => T.put W (.tp [.nm 3, .nm 4]) d ρ) (body := runSs (callK prg (k + 1)) b_filled_by_2) enD
    (fun (d : Sto) ρ => ∃ a2 a3 a4, ρ = [some (stD s), some (.dct kvs), some (stD (fillS g d)), a2, a3, a4, none]) (xs := s) (ρ := [some (stD s), some (.dct kvs), some (.tup []), none, none, none, none]) ⟨none, none, none, rfl⟩ (by
      rintro d p post ρ hs ⟨a2, a3, a4, rfl⟩
      have hp := h.tb p (by rw [hs]; simp)
      have h1 := fill1 k hp (stD s) (.str p.1) (stD (fillS g d)) hg W a4
      obtain ⟨h2, h3⟩ := fillset W hp g
      have hm := hp.many
      have h4 : (fillT g p.2).rows.length ≤ 16777216 := by
        have := sortL_len (p.2.rows.map fun r => r.map g)
        simp only [fillT]
        rw [List.length_map] at this
        omega
      have h5 : d.length + 1 ≤ 16777216 := by
        have := h.many
        have : s.length = d.length + (post.length + 1) := by rw [hs]; simp
        omega
      refine ⟨[some (stD s), some (.dct kvs), some (stD (fillS g d)), some (.str p.1), some p.2.d, a4, none], [some (stD s), some (.dct kvs), some (stD (fillS g (d ++ [p]))), some (.str p.1), some p.2.d, some (.tup ((fillT g p.2).rows.map tupD)), none], rfl, ?_, _, _, _, rfl⟩
      unfold b_filled_by_2
      generalize x_filled_by_1 = y at h1 ⊢
      have e6 : stD (fillS g (d ++ [p])) = .tup ((fillS g d).map enD ++ [.tup [.str p.1, .tup [.int p.2.c, .tup ((fillT g p.2).rows.map tupD)]]]) := by
        simp [fillS, stD, enD, Tb.d, fillT]
      have e7 : (fillS g d).length + 1 ≤ 16777216 := by simpa [fillS] using h5
      rw [e6]
      generalize (p.2.rows.map fun r => r.map g).map tupD = rr at h1 h2
      simp only [stD, Tb.d] at h1 ⊢
      generalize fillS g d = fd at h1 e7 ⊢
      simp [h1, h2, h3, h4, e7])
  have hF : runS (callK prg (k + 1)) l_filled_by_3 [some (stD s), some (.dct kvs), some (.tup []), none, none, none, none] W = .nx [some (stD s), some (.dct kvs), some (stD (fillS g s)), a2, a3, a4, none] W := e
  unfold f_filled_by
  generalize l_filled_by_3 = y at hF ⊢
  simp [hF]
theorem fitsf (k : Nat) {s : Sto} (h : OkSt s) {f : List Int} (hl : f.length = (unk s).length) (hv : ∀ x ∈ f, 0 ≤ x ∧ x ≤ 1000000) (W : Wd) : callK prg (k + 3) "fits_filling" [stD s, .tup (f.map .int)] W = .ok (.bl true) W := by
  rw [c_fits_filling]
  have h1 := unkin k h W
  have hu := unk_len h
  have h2 : f.length ≤ 16777216 := by omega
  have c1 : PL.run (callK prg (k + 2)) x_fits_filling_1 [some (stD s), some (.tup (f.map .int)), some (.int ((unk s).length : Nat)), none] W = .ok (.lst (f.map fun _ => .bl true)) W := by
    unfold x_fits_filling_1
    rw [run_lc]
    simp
    rw [lc_mapi D.int (fun _ => .bl true)]
    · simp [h2]
    · intro x hx
      have := hv x hx
      exact ⟨_, rfl, rfl, by simp [fval k, this]⟩
  have hb := bls_map (fun _ : Int => true) f
  unfold f_fits_filling
  generalize x_fits_filling_1 = y at c1 ⊢
  simp [h1, ist (k + 1), hl, c1, hb]
theorem needf (k : Nat) {s : Sto} (h : OkSt s) {f : List Int} (hl : f.length = (unk s).length) (hv : ∀ x ∈ f, 0 ≤ x ∧ x ≤ 1000000) (W : Wd) : callK prg (k + 4) "need_filling" [stD s, .tup (f.map .int)] W = .ok .non W := by
  rw [c_need_filling]
  simp [f_need_filling, fitsf k h hl hv]
end LW

namespace LW
open PySem PL
/-- a drawn cell -/
def CellOk (n : Nat) (x : Int) : Prop := (x = 1 ∨ x = 2 ∨ x = 3 ∨ x = 7 ∨ x = 0) ∨ (-(n : Int) ≤ x ∧ x ≤ -1)
theorem cell (k : Nat) (n : Nat) (hn : n ≤ 6) {W : Wd} (hW : Cup W) : ∃ (x : Int) (W' : Wd), callK prg (k + 3) "_law_cell" [.ref 0, .int n] W = .ok (.int x) W' ∧ Cup W' ∧ CellOk n x := by
  obtain ⟨x, W', e, c, hm⟩ := some_of k hW (xs := .int 1 :: .int 1 :: .int 2 :: .int 2 :: .int 3 :: .int 7 :: .int 0 :: ((List.range n).map (fun (i : Nat) => D.int (-1 - (i : Int))) ++ ((List.range n).map (fun (i : Nat) => D.int (-1 - (i : Int))) ++ (List.range n).map fun (i : Nat) => D.int (-1 - (i : Int))))) (by simp) (by simp; omega)
  have hx : ∃ i : Int, x = .int i ∧ CellOk n i := by
    simp only [List.mem_cons, List.mem_append, List.mem_map, List.mem_range] at hm
    unfold CellOk
    rcases hm with rfl | rfl | rfl | rfl | rfl | rfl | rfl | ⟨i, hi, rfl⟩ | ⟨i, hi, rfl⟩ | ⟨i, hi, rfl⟩
    all_goals first
      | exact ⟨1, rfl, by simp⟩
      | exact ⟨2, rfl, by simp⟩
      | exact ⟨3, rfl, by simp⟩
      | exact ⟨7, rfl, by simp⟩
      | exact ⟨0, rfl, by simp⟩
      | exact ⟨_, rfl, .inr (by omega)⟩
  obtain ⟨i, rfl, hi⟩ := hx
  refine ⟨i, W', ?_, c, hi⟩
  rw [c__law_cell]
  have h1 : PL.run (callK prg (k + 2)) x__law_cell_1 [some (.ref 0), some (.int n), none] W = .ok (.lst ((List.range n).map fun (i : Nat) => D.int (-1 - (i : Int)))) W := by
    have hr := rng_ok (n : Int) (by omega) (by omega)
    simp at hr
    unfold x__law_cell_1
    rw [run_lc]
    simp [hr]
    rw [lc_mapi (fun (i : Nat) => D.int (i : Int)) (fun (i : Nat) => D.int (-1 - (i : Int)))]
    · have : n ≤ 16777216 := by omega
      simp [this]
    · intro i hi
      exact ⟨_, rfl, rfl, by simp⟩
  unfold f__law_cell
  generalize x__law_cell_1 = y at h1 ⊢
  have hl : n * 3 ≤ 16777216 := by omega
  have hl2 : 7 + (n + (n + n)) ≤ 16777216 := by omega
  obtain ⟨_, _, rfl⟩ := hW
  obtain ⟨_, _, rfl⟩ := c
  have er : ∀ l : List D, (List.replicate 3 l).flatten = l ++ (l ++ l) := fun l => by simp [List.replicate]
  simp [h1, hl, er, hl2, e]
theorem cell_le {n : Nat} (hn : n ≤ 6) {x : Int} (h : CellOk n x) : -6 ≤ x ∧ x ≤ 1000000 := by
  unfold CellOk at h; omega
theorem rowdraw (k : Nat) (n c r : Nat) (hn : n ≤ 6) (hc : c ≤ 6) (a4 a5 : Option D) {W : Wd} (hW : Cup W) : ∃ (q : List Int) (W' : Wd), PL.run (callK prg (k + 3)) x__law_table_1 [some (.ref 0), some (.int c), some (.int r), some (.int n), a4, a5, none] W = .ok (.lst (q.map .int)) W' ∧ Cup W' ∧ q.length = c ∧ ∀ a ∈ q, CellOk n a := by
  obtain ⟨ys, W4, g1, c4, gl, gp⟩ := lc_ex (asg := fun d W => T.put W (.nm 6) d (wipeD [some (.ref 0), some (.int c), some (.int r), some (.int n), a4, a5, none] [6])) (tst := runT (callK prg (k + 3)) .nil) (elt := PL.run (callK prg (k + 3)) (.call ("_law_cell" : Str) (.cons (.var 0) (.cons (.var 3) .nil))))
    (fun y => ∃ i : Int, y = .int i ∧ CellOk n i) (xs := (List.range c).map fun (i : Nat) => .int ((i : Int))) hW (fun x hx W hW => by
      obtain ⟨y, W', e, cW, hy⟩ := cell k n hn hW
      exact ⟨_, .int y, W', rfl, rfl, by simp [e], cW, y, rfl, hy⟩)
  obtain ⟨q, rfl, hq⟩ := map_of D.int gp
  have hlen : q.length = c := by simpa using gl
  refine ⟨q, W4, ?_, c4, hlen, hq⟩
  have hr := rng_ok (c : Int) (by omega) (by omega)
  simp at hr
  unfold x__law_table_1
  rw [run_lc]
  have hI : runI (callK prg (k + 3)) (.rng1 (.var 1)) [some (.ref 0), some (.int c), some (.int r), some (.int n), a4, a5, none] W = .ok ((List.range c).map fun (i : Nat) => .int ((i : Int))) W := by simp [hr]
  rw [hI]
  show (lcLoop (fun d W => T.put W (.nm 6) d (wipeD [some (.ref 0), some (.int c), some (.int r), some (.int n), a4, a5, none] [6])) (runT (callK prg (k + 3)) .nil) (PL.run (callK prg (k + 3)) (.call ("_law_cell" : Str) (.cons (.var 0) (.cons (.var 3) .nil)))) _ W).bndX _ = _
  rw [g1]
  show (if (q.map D.int).length ≤ 16777216 then _ else _) = _
  rw [if_pos (by rw [List.length_map]; omega)]
/-- a drawn table -/
structure DrawT (n w r : Nat) (t : Tb) : Prop where
  c : t.c = w
  many : t.rows.length ≤ r
  row : ∀ q ∈ t.rows, q.length = w ∧ ∀ a ∈ q, CellOk n a
  asc : t.rows.Pairwise (· < ·)
theorem DrawT.ok {n c r : Nat} (hn : n ≤ 6) (hc : c ≤ 6) (hr : r ≤ 40) {t : Tb} (h : DrawT n c r t) : OkTb t :=
  ⟨by rw [h.c]; exact hc, Nat.le_trans h.many hr, fun q hq => ⟨by rw [h.c]; exact (h.row q hq).1, fun a ha => cell_le hn ((h.row q hq).2 a ha)⟩, h.asc⟩
theorem table (k : Nat) (n c r : Nat) (hn : n ≤ 6) (hc : c ≤ 6) (hr : r ≤ 40) {W : Wd} (hW : Cup W) : ∃ (t : Tb) (W' : Wd), callK prg (k + 4) "_law_table" [.ref 0, .int c, .int r, .int n] W = .ok t.d W' ∧ Cup W' ∧ DrawT n c r t := by
  obtain ⟨q, W1, e1, c1, q0, q1⟩ := roll (k + 2) hW (m := (r : Int) + 1) (by omega) (by omega)
  obtain ⟨ys, W4, g1, c4, gl, gp⟩ := lc_ex (asg := fun d W => T.put W (.nm 5) d (wipeD [some (.ref 0), some (.int c), some (.int r), some (.int n), none, none, none] [5])) (tst := runT (callK prg (k + 3)) .nil) (elt := PL.run (callK prg (k + 3)) (.bi ("tuple" : Str) (.cons (x__law_table_1) .nil)))
    (fun y => ∃ i : List Int, y = tupD i ∧ (i.length = c ∧ ∀ a ∈ i, CellOk n a)) (xs := (List.range q.toNat).map fun (i : Nat) => .int ((i : Int))) c1 (fun x hx W hW => by
      obtain ⟨y, W', e, cW, hy⟩ := rowdraw k n c r hn hc none (some x) hW
      refine ⟨_, tupD y, W', rfl, rfl, ?_, cW, y, rfl, hy⟩
      generalize x__law_table_1 = y1 at e ⊢
      simp [e, tupD])
  obtain ⟨ks, rfl, hks⟩ := map_of tupD gp
  have hlen : ks.length = q.toNat := by simpa using gl
  have hl : ks.length ≤ r := by omega
  have hs := sortL_len ks
  refine ⟨⟨c, sortL ks⟩, W4, ?_, c4, rfl, by simp only; omega, fun p hp => hks p (sortL_mem.mp hp), sortL_pw ks⟩
  have h2 : PL.run (callK prg (k + 3)) x__law_table_2 [some (.ref 0), some (.int c), some (.int r), some (.int n), none, none, none] W = .ok (.lst (ks.map tupD)) W4 := by
    unfold x__law_table_2
    rw [run_lc]
    have hI : runI (callK prg (k + 3)) (.rng1 (.call ("_law_roll" : Str) (.cons (.var 0) (.cons (.bin .Add (.var 2) (.cst (.int (1)))) .nil)))) [some (.ref 0), some (.int c), some (.int r), some (.int n), none, none, none] W = .ok ((List.range q.toNat).map fun (i : Nat) => .int ((i : Int))) W1 := by
      simp [e1, rng_ok q q0 (by omega)]
    rw [hI]
    show (lcLoop (fun d W => T.put W (.nm 5) d (wipeD [some (.ref 0), some (.int c), some (.int r), some (.int n), none, none, none] [5])) (runT (callK prg (k + 3)) .nil) (PL.run (callK prg (k + 3)) (.bi ("tuple" : Str) (.cons (x__law_table_1) .nil))) _ W1).bndX _ = _
    rw [g1]
    show (if (ks.map tupD).length ≤ 16777216 then _ else _) = _
    rw [if_pos (by rw [List.length_map]; omega)]
  rw [c__law_table]
  unfold f__law_table
  generalize x__law_table_2 = y2 at h2 ⊢
  have h3 := set_rows W4 (ks := ks) (by omega)
  have h4 := sort_rows W4 c (ks := ks) fun p hp => (hks p hp).1
  have h5 : (sortL ks).length ≤ 16777216 := by omega
  obtain ⟨_, _, rfl⟩ := hW
  obtain ⟨_, _, rfl⟩ := c4
  simp [h2, h3, h4, h5, Tb.d]
/-- a drawn store -/
inductive Draw (n : Nat) : Sto → Prop
  | two {t1 t2 : Tb} (w1 w2 : Nat) : 1 ≤ w1 → w1 ≤ 3 → 1 ≤ w2 → w2 ≤ 2 → DrawT n w1 4 t1 → DrawT n w2 3 t2 → Draw n [("r", t1), ("s", t2)]
  | three {t1 t2 t3 : Tb} (w1 w2 w3 : Nat) : 1 ≤ w1 → w1 ≤ 3 → 1 ≤ w2 → w2 ≤ 2 → w3 ≤ 2 → DrawT n w1 4 t1 → DrawT n w2 3 t2 → DrawT n w3 3 t3 → Draw n [("r", t1), ("s", t2), ("t", t3)]
theorem let_r : okLet "r" = true := by decide +kernel
theorem let_s : okLet "s" = true := by decide +kernel
theorem let_t : okLet "t" = true := by decide +kernel
theorem lt_rs : ("r" : Str).cps.toList < ("s" : Str).cps.toList := by decide +kernel
theorem lt_rt : ("r" : Str).cps.toList < ("t" : Str).cps.toList := by decide +kernel
theorem lt_st : ("s" : Str).cps.toList < ("t" : Str).cps.toList := by decide +kernel
theorem Draw.ok {n : Nat} (hn : n ≤ 6) {s : Sto} (h : Draw n s) : OkSt s := by
  cases h with
  | two w1 w2 a1 a2 a3 a4 d1 d2 =>
    have m1 := d1.many
    have m2 := d2.many
    refine ⟨by simp, ?_, ?_, ?_, by simp; omega⟩
    · simp [let_r, let_s]
    · exact .cons (List.forall_mem_cons.mpr ⟨lt_rs, by simp⟩) (.cons (by simp) .nil)
    · simp [d1.ok hn (by omega) (by omega), d2.ok hn (by omega) (by omega)]
  | three w1 w2 w3 a1 a2 a3 a4 a5 d1 d2 d3 =>
    have m1 := d1.many
    have m2 := d2.many
    have m3 := d3.many
    refine ⟨by simp, ?_, ?_, ?_, by simp; omega⟩
    · simp [let_r, let_s, let_t]
    · exact .cons (List.forall_mem_cons.mpr ⟨lt_rs, List.forall_mem_cons.mpr ⟨lt_rt, by simp⟩⟩) (.cons (List.forall_mem_cons.mpr ⟨lt_st, by simp⟩) (.cons (by simp) .nil))
    · simp [d1.ok hn (by omega) (by omega), d2.ok hn (by omega) (by omega), d3.ok hn (by omega) (by omega)]
theorem pick (k : Nat) {W : Wd} (hW : Cup W) (l : List Nat) (h1 : l ≠ []) (h2 : l.length < 1000) : ∃ (x : Nat) (W' : Wd), callK prg (k + 2) "_law_some" [.ref 0, .lst (l.map fun (i : Nat) => D.int (i : Int))] W = .ok (.int x) W' ∧ Cup W' ∧ x ∈ l := by
  obtain ⟨x, W', e, c, hm⟩ := some_of k hW (xs := l.map fun (i : Nat) => D.int (i : Int)) (by simpa using h1) (by simp; omega)
  obtain ⟨i, hi, rfl⟩ := List.mem_map.mp hm
  exact ⟨i, W', e, c, hi⟩
theorem store (k : Nat) (n : Nat) (hn : n ≤ 6) {W : Wd} (hW : Cup W) : ∃ (s : Sto) (W' : Wd), callK prg (k + 5) "_law_store" [.ref 0, .int n] W = .ok (stD s) W' ∧ Cup W' ∧ Draw n s := by
  obtain ⟨w1, W1, e1, c1, m1⟩ := pick (k + 2) hW [1, 2, 2, 3] (by simp) (by simp)
  have b1 : 1 ≤ w1 ∧ w1 ≤ 3 := by simp at m1; omega
  obtain ⟨t1, W2, e2, c2, d1⟩ := table k n w1 4 hn (by omega) (by omega) c1
  obtain ⟨w2, W3, e3, c3, m2⟩ := pick (k + 2) c2 [1, 1, 2] (by simp) (by simp)
  have b2 : 1 ≤ w2 ∧ w2 ≤ 2 := by simp at m2; omega
  obtain ⟨t2, W4, e4, c4, d2⟩ := table k n w2 3 hn (by omega) (by omega) c3
  obtain ⟨w3, W5, e5, c5, m3⟩ := pick (k + 2) c4 [0, 1, 2] (by simp) (by simp)
  have b3 : w3 ≤ 2 := by simp at m3; omega
  obtain ⟨t3, W6, e6, c6, d3⟩ := table k n w3 3 hn (by omega) (by omega) c5
  obtain ⟨q, W7, e7, c7, q0, q1⟩ := roll (k + 3) c6 (m := 3) (by omega) (by omega)
  simp at e1 e3 e5 e2 e4 e6
  by_cases hq : q = 0
  · subst hq
    refine ⟨_, W7, ?_, c7, .three w1 w2 w3 b1.1 b1.2 b2.1 b2.2 b3 d1 d2 d3⟩
    rw [c__law_store]
    obtain ⟨_, _, rfl⟩ := hW
    obtain ⟨_, _, rfl⟩ := c7
    simp [f__law_store, e1, e2, e3, e4, e5, e6, e7, stD, enD]
  · refine ⟨_, W7, ?_, c7, .two w1 w2 b1.1 b1.2 b2.1 b2.2 d1 d2⟩
    rw [c__law_store]
    obtain ⟨_, _, rfl⟩ := hW
    obtain ⟨_, _, rfl⟩ := c7
    simp [f__law_store, e1, e2, e3, e4, e5, e6, e7, hq, stD, enD]
end LW

namespace LW
open PySem PL
def uF (found row : List Int) : List Int := found ++ row.filter fun c => decide (c < 0) && !decide (c ∈ found)
def uT (found : List Int) (rows : List (List Int)) : List Int := rows.foldl uF found
def uS (found : List Int) (s : Sto) : List Int := s.foldl (fun f p => uT f p.2.rows) found
theorem uF_mem {found row : List Int} {a : Int} : a ∈ uF found row ↔ a ∈ found ∨ (a < 0 ∧ a ∈ row) := by
  simp only [uF, List.mem_append, List.mem_filter, Bool.and_eq_true, decide_eq_true_eq, Bool.not_eq_true', decide_eq_false_iff_not]
  constructor
  · rintro (h | ⟨h1, h2, h3⟩)
    · exact .inl h
    · exact .inr ⟨h2, h1⟩
  · rintro (h | ⟨h1, h2⟩)
    · exact .inl h
    · by_cases h3 : a ∈ found
      · exact .inl h3
      · exact .inr ⟨h2, h1, h3⟩
theorem uT_mem {rows : List (List Int)} {a : Int} : ∀ {found : List Int}, a ∈ uT found rows ↔ a ∈ found ∨ (a < 0 ∧ ∃ r ∈ rows, a ∈ r) := by
  induction rows with
  | nil => intro found; simp [uT]
  | cons r rows ih =>
    intro found
    show a ∈ uT (uF found r) rows ↔ _
    rw [ih, uF_mem]
    simp only [List.mem_cons, exists_eq_or_imp]
    constructor
    · rintro ((h | h) | h)
      · exact .inl h
      · exact .inr ⟨h.1, .inl h.2⟩
      · exact .inr ⟨h.1, .inr h.2⟩
    · rintro (h | ⟨h, h' | h'⟩)
      · exact .inl (.inl h)
      · exact .inl (.inr ⟨h, h'⟩)
      · exact .inr ⟨h, h'⟩
theorem uS_mem {s : Sto} {a : Int} : ∀ {found : List Int}, a ∈ uS found s ↔ a ∈ found ∨ (a < 0 ∧ ∃ p ∈ s, ∃ r ∈ p.2.rows, a ∈ r) := by
  induction s with
  | nil => intro found; simp [uS]
  | cons p s ih =>
    intro found
    show a ∈ uS (uT found p.2.rows) s ↔ _
    rw [ih, uT_mem]
    simp only [List.mem_cons, exists_eq_or_imp]
    constructor
    · rintro ((h | h) | h)
      · exact .inl h
      · exact .inr ⟨h.1, .inl h.2⟩
      · exact .inr ⟨h.1, .inr h.2⟩
    · rintro (h | ⟨h, h' | h'⟩)
      · exact .inl (.inl h)
      · exact .inl (.inr ⟨h, h'⟩)
      · exact .inr ⟨h, h'⟩
theorem uS_unk (s : Sto) : sortI (uS [] s) = unk s := strict_oneI (sortI_pw _) (unk_asc s) fun z => by rw [sortI_mem, uS_mem, mem_unk]; simp
theorem uF_len (found row : List Int) : (uF found row).length ≤ found.length + row.length := by
  have := List.length_filter_le (fun c => decide (c < 0) && !decide (c ∈ found)) row
  simp only [uF, List.length_append]; omega
theorem uT_len (rows : List (List Int)) : ∀ found : List Int, (uT found rows).length ≤ found.length + rows.flatten.length := by
  induction rows with
  | nil => intro f; simp [uT]
  | cons r rows ih =>
    intro f
    have h1 := ih (uF f r)
    have h2 := uF_len f r
    show (uT (uF f r) rows).length ≤ _
    rw [List.flatten_cons, List.length_append]; omega
theorem uS_len (s : Sto) : ∀ found : List Int, (uS found s).length ≤ found.length + (cellsS s).length := by
  induction s with
  | nil => intro f; simp [uS]
  | cons p s ih =>
    intro f
    have h1 := ih (uT f p.2.rows)
    have h2 := uT_len p.2.rows f
    show (uS (uT f p.2.rows) s).length ≤ _
    have e : cellsS (p :: s) = p.2.rows.flatten ++ cellsS s := rfl
    rw [e, List.length_append]; omega
theorem uT_app (found : List Int) (pre : List (List Int)) (r : List Int) : uT found (pre ++ [r]) = uF (uT found pre) r := by simp [uT]
theorem uS_app (found : List Int) (pre : Sto) (p : Str × Tb) : uS found (pre ++ [p]) = uT (uS found pre) p.2.rows := by simp [uS]
theorem unk1 (k : Nat) (s : D) (found row : List Int) (hl : row.length ≤ 1000) (a2 a3 : Option D) (W : Wd) : PL.run (callK prg k) x__law_unknowns_1 [some s, some (.lst (found.map .int)), a2, a3, some (tupD row), none] W = .ok (.lst ((row.filter fun c => decide (c < 0) && !decide (c ∈ found)).map .int)) W := by
  unfold x__law_unknowns_1
  rw [run_lc]
  have hf := List.length_filter_le (fun c => decide (c < 0) && !decide (c ∈ found)) row
  simp only [tupD]
  simp
  rw [lc_filt D.int D.int (fun c => decide (c < 0) && !decide (c ∈ found))]
  · show (if ((row.filter fun c => decide (c < 0) && !decide (c ∈ found)).map D.int).length ≤ 16777216 then R.ok (D.lst _) W else R.bad) = _
    rw [if_pos (by rw [List.length_map]; omega)]
  · intro a ha
    refine ⟨_, rfl, ?_, fun _ => by simp⟩
    have hi := in_ints W a (b := .lst (found.map .int)) rfl
    by_cases h1 : a < 0 <;> simp [h1, hi]
theorem unkT (k : Nat) (s : D) (found : List Int) {t : Tb} (ht : OkTb t) (hf : found.length + t.rows.flatten.length ≤ 1000) (a2 a4 : Option D) (W : Wd) : ∃ b4, runSs (callK prg k) b__law_unknowns_4 [some s, some (.lst (found.map .int)), a2, some t.d, a4, none] W = .nx [some s, some (.lst ((uT found t.rows).map .int)), a2, some t.d, b4, none] W := by
  obtain ⟨ρ', e, b4, rfl⟩ := for_pre (W := W) (asg := fun d ρ W => T.put W (.nm 4) d ρ) (body := runSs (callK prg k) b__law_unknowns_2) tupD
    (fun (d : List (List Int)) ρ => ∃ a4, ρ = [some s, some (.lst ((uT found d).map .int)), a2, some t.d, a4, none]) (xs := t.rows) (ρ := [some s, some (.lst (found.map .int)), a2, some t.d, a4, none]) ⟨a4, rfl⟩ (by
      rintro d r post ρ hs ⟨a4, rfl⟩
      have hr := ht.row r (by rw [hs]; simp)
      have hc := ht.c
      have h1 := unk1 k s (uT found d) r (by rw [hr.len]; omega) a2 (some t.d) W
      have h2 := uT_len (d ++ [r]) found
      have h3 : (d ++ [r]).flatten.length ≤ t.rows.flatten.length := by
        rw [hs]; simp only [List.flatten_append, List.flatten_cons, List.flatten_nil, List.length_append, List.append_nil]; omega
      rw [uT_app] at h2
      refine ⟨[some s, some (.lst ((uT found d).map .int)), a2, some t.d, some (tupD r), none], [some s, some (.lst ((uT found (d ++ [r])).map .int)), a2, some t.d, some (tupD r), none], rfl, ?_, _, rfl⟩
      unfold b__law_unknowns_2
      rw [uT_app]
      have e5 : uF (uT found d) r = uT found d ++ r.filter fun c => decide (c < 0) && !decide (c ∈ uT found d) := rfl
      rw [e5] at h2 ⊢
      generalize x__law_unknowns_1 = y at h1 ⊢
      generalize (r.filter fun c => decide (c < 0) && !decide (c ∈ uT found d)) = q at h1 h2 ⊢
      generalize uT found d = z at h1 h2 ⊢
      have h6 : z.length + q.length ≤ 16777216 := by rw [List.length_append] at h2; omega
      simp [h1, h6])
  refine ⟨b4, ?_⟩
  have hF : runS (callK prg k) l__law_unknowns_3 [some s, some (.lst (found.map .int)), a2, some t.d, a4, none] W = .nx [some s, some (.lst ((uT found t.rows).map .int)), a2, some t.d, b4, none] W := e
  unfold b__law_unknowns_4
  generalize l__law_unknowns_3 = y at hF ⊢
  simp [hF]
theorem lunk (k : Nat) {s : Sto} (h : OkSt s) (W : Wd) : callK prg (k + 1) "_law_unknowns" [stD s] W = .ok (.lst ((unk s).map .int)) W := by
  rw [c__law_unknowns]
  have hc := cells_len h
  obtain ⟨ρ', e, a2, a3, a4, rfl⟩ := for_pre (W := W) (asg := fun d ρ W => T.put W (.tp [.nm 2, .nm 3]) d ρ) (body := runSs (callK prg k) b__law_unknowns_4) enD
    (fun (d : Sto) ρ => ∃ a2 a3 a4, ρ = [some (stD s), some (.lst ((uS [] d).map .int)), a2, a3, a4, none]) (xs := s) (ρ := [some (stD s), some (.lst []), none, none, none, none]) ⟨none, none, none, rfl⟩ (by
      rintro d p post ρ hs ⟨a2, a3, a4, rfl⟩
      have hp := h.tb p (by rw [hs]; simp)
      have hl := cells_part h ⟨post, hs⟩
      have h2 := uS_len d []
      rw [List.length_append] at hl
      simp only [List.length_nil] at h2
      obtain ⟨b4, e⟩ := unkT k (stD s) (uS [] d) hp (by omega) (some (.str p.1)) a4 W
      exact ⟨[some (stD s), some (.lst ((uS [] d).map .int)), some (.str p.1), some p.2.d, a4, none], [some (stD s), some (.lst ((uS [] (d ++ [p])).map .int)), some (.str p.1), some p.2.d, b4, none], rfl, by rw [uS_app]; exact e, _, _, _, rfl⟩)
  have hF : runS (callK prg k) l__law_unknowns_5 [some (stD s), some (.lst []), none, none, none, none] W = .nx [some (stD s), some (.lst ((uS [] s).map .int)), a2, a3, a4, none] W := e
  have h3 := uS_len s []
  have h2 : dSet W [.lst ((uS [] s).map .int)] = some (.set ((unk s).map .int)) := by rw [set_ints W rfl (by simp at h3; omega), uS_unk]
  unfold f__law_unknowns
  generalize l__law_unknowns_5 = y at hF ⊢
  simp [hF, h2, sort_ints]
theorem lworth (k : Nat) {s : Sto} (h : OkSt s) (f : List Int) (W : Wd) : callK prg (k + 2) "_law_worths" [stD s, .tup (f.map .int)] W = .ok (.dct (kvsOf (unk s) f)) W := by
  rw [c__law_worths]
  have h1 := lunk k h W
  have hu := unk_len h
  have hl : min (unk s).length f.length ≤ 16777216 := by omega
  have hp := pairs_zip (unk s) f
  simp at hp
  simp [f__law_worths, h1, dZip, hp, kvsOf, hl]
theorem lput (k : Nat) (r : List Int) (hr : r.length ≤ 1000) {kvs : List (L2.Key × D)} {g : Int → Int} (hg : Worth kvs g) (W : Wd) : callK prg (k + 1) "_law_put" [tupD r, .dct kvs] W = .ok (tupD (r.map g)) W := by
  have h1 : r.length ≤ 16777216 := by omega
  rw [c__law_put]
  simp [f__law_put, x__law_put_1, tupD]
  rw [lc_mapi D.int (fun i => .int (g i))]
  · simp [h1]
  · intro x hx
    exact ⟨_, rfl, rfl, by simp [hg x]⟩
theorem lfill1 (k : Nat) {t : Tb} (h : OkTb t) (s fl l f : D) {kvs : List (L2.Key × D)} {g : Int → Int} (hg : Worth kvs g) (W : Wd) (a6 : Option D) : PL.run (callK prg (k + 1)) x__law_filled_1 [some s, some fl, some (.dct kvs), some f, some l, some t.d, a6, none] W = .ok (.lst ((t.rows.map fun r => r.map g).map tupD)) W := by
  have hl := h.many
  unfold x__law_filled_1
  rw [run_lc]
  simp [Tb.d]
  rw [lc_mapi tupD (fun r => tupD (r.map g))]
  · have hl2 : t.rows.length ≤ 16777216 := by omega
    simp [hl2]
  · intro r hr
    have hlen := (h.row r hr).len
    have hc := h.c
    exact ⟨_, rfl, rfl, by simp [lput k r (by omega) hg]⟩
theorem lfilled (k : Nat) {s : Sto} (h : OkSt s) (f : List Int) (W : Wd) : callK prg (k + 3) "_law_filled" [stD s, .tup (f.map .int)] W = .ok (stD (fillS (gOf (unk s) f) s)) W := by
  rw [c__law_filled]
  have hw := lworth k h f W
  have hg := worth (unk s) f
  generalize kvsOf (unk s) f = kvs at hw hg
  generalize gOf (unk s) f = g at hg ⊢
  obtain ⟨ρ', e, a2, a3, a4, rfl⟩ := for_pre (W := W) (asg := fun d ρ W => T.put W (.tp [.nm 4, .nm 5]) d ρ) (body := runSs (callK prg (k + 2)) b__law_filled_2) enD
    (fun (d : Sto) ρ => ∃ a2 a3 a4, ρ = [some (stD s), some (.tup (f.map .int)), some (.dct kvs), some (stD (fillS g d)), a2, a3, a4, none]) (xs := s) (ρ := [some (stD s), some (.tup (f.map .int)), some (.dct kvs), some (.tup []), none, none, none, none]) ⟨none, none, none, rfl⟩ (by
      rintro d p post ρ hs ⟨a2, a3, a4, rfl⟩
      have hp := h.tb p (by rw [hs]; simp)
      have h1 := lfill1 (k + 1) hp (stD s) (.tup (f.map .int)) (.str p.1) (stD (fillS g d)) hg W a4
      obtain ⟨h2, h3⟩ := fillset W hp g
      have hm := hp.many
      have h4 : (fillT g p.2).rows.length ≤ 16777216 := by
        have := sortL_len (p.2.rows.map fun r => r.map g)
        simp only [fillT]
        rw [List.length_map] at this
        omega
      have h5 : d.length + 1 ≤ 16777216 := by
        have := h.many
        have : s.length = d.length + (post.length + 1) := by rw [hs]; simp
        omega
      refine ⟨[some (stD s), some (.tup (f.map .int)), some (.dct kvs), some (stD (fillS g d)), some (.str p.1), some p.2.d, a4, none], [some (stD s), some (.tup (f.map .int)), some (.dct kvs), some (stD (fillS g (d ++ [p]))), some (.str p.1), some p.2.d, some (.tup ((fillT g p.2).rows.map tupD)), none], rfl, ?_, _, _, _, rfl⟩
      unfold b__law_filled_2
      generalize x__law_filled_1 = y at h1 ⊢
      have e6 : stD (fillS g (d ++ [p])) = .tup ((fillS g d).map enD ++ [.tup [.str p.1, .tup [.int p.2.c, .tup ((fillT g p.2).rows.map tupD)]]]) := by
        simp [fillS, stD, enD, Tb.d, fillT]
      have e7 : (fillS g d).length + 1 ≤ 16777216 := by simpa [fillS] using h5
      rw [e6]
      generalize (p.2.rows.map fun r => r.map g).map tupD = rr at h1 h2
      simp only [stD, Tb.d] at h1 ⊢
      generalize fillS g d = fd at h1 e7 ⊢
      simp [h1, h2, h3, h4, e7])
  have hF : runS (callK prg (k + 2)) l__law_filled_3 [some (stD s), some (.tup (f.map .int)), some (.dct kvs), some (.tup []), none, none, none, none] W = .nx [some (stD s), some (.tup (f.map .int)), some (.dct kvs), some (stD (fillS g s)), a2, a3, a4, none] W := e
  unfold f__law_filled
  generalize l__law_filled_3 = y at hF ⊢
  simp [hw, hF]
theorem lfilling (k : Nat) {s : Sto} (h : OkSt s) {W : Wd} (hW : Cup W) : ∃ (f : List Int) (W' : Wd), callK prg (k + 3) "_law_filling" [.ref 0, stD s] W = .ok (.tup (f.map .int)) W' ∧ Cup W' ∧ f.length = (unk s).length ∧ ∀ x ∈ f, 0 ≤ x ∧ x ≤ 1000000 := by
  have h0 := lunk (k + 1) h W
  obtain ⟨ys, W2, g1, c2, gl, gp⟩ := lc_ex (asg := fun d W => T.put W (.nm 2) d (wipeD [some (.ref 0), some (stD s), none] [2])) (tst := runT (callK prg (k + 2)) .nil)
    (elt := PL.run (callK prg (k + 2)) (.call ("_law_some" : Str) (.cons (.var 0) (.cons (.lst (.cons (.cst (.int (1))) (.cons (.cst (.int (1))) (.cons (.cst (.int (2))) (.cons (.cst (.int (3))) (.cons (.cst (.int (4))) (.cons (.cst (.int (7))) (.cons (.cst (.int (9))) .nil)))))))) .nil))))
    (fun y => ∃ n : Int, y = .int n ∧ (0 ≤ n ∧ n ≤ 1000000)) (xs := (unk s).map .int) hW (fun x hx W hW => by
      obtain ⟨y, W', e, cW, hy⟩ := pick k hW [1, 1, 2, 3, 4, 7, 9] (by simp) (by simp)
      simp at e
      exact ⟨_, .int y, W', rfl, rfl, by simp [e], cW, y, rfl, by simp at hy; omega⟩)
  obtain ⟨f, rfl, hf⟩ := map_of D.int gp
  have hfl : f.length = (unk s).length := by simpa using gl
  have hu := unk_len h
  refine ⟨f, W2, ?_, c2, hfl, hf⟩
  have hL : PL.run (callK prg (k + 2)) x__law_filling_1 [some (.ref 0), some (stD s), none] W = .ok (.lst (f.map .int)) W2 := by
    unfold x__law_filling_1
    rw [run_lc]
    have hI : runI (callK prg (k + 2)) (.seq (.call ("_law_unknowns" : Str) (.cons (.var 1) .nil))) [some (.ref 0), some (stD s), none] W = .ok ((unk s).map .int) W := by simp [h0]
    rw [hI]
    show (lcLoop (fun d W => T.put W (.nm 2) d (wipeD [some (.ref 0), some (stD s), none] [2])) (runT (callK prg (k + 2)) .nil) (PL.run (callK prg (k + 2)) (.call ("_law_some" : Str) (.cons (.var 0) (.cons (.lst (.cons (.cst (.int (1))) (.cons (.cst (.int (1))) (.cons (.cst (.int (2))) (.cons (.cst (.int (3))) (.cons (.cst (.int (4))) (.cons (.cst (.int (7))) (.cons (.cst (.int (9))) .nil)))))))) .nil)))) ((unk s).map .int) W).bndX _ = _
    rw [g1]
    show (if (f.map D.int).length ≤ 16777216 then _ else _) = _
    rw [if_pos (by rw [List.length_map]; omega)]
  rw [c__law_filling]
  unfold f__law_filling
  generalize x__law_filling_1 = y at hL ⊢
  have hl2 : f.length ≤ 16777216 := by omega
  obtain ⟨_, _, rfl⟩ := hW
  obtain ⟨_, _, rfl⟩ := c2
  simp [hL]
end LW

namespace LW
open PySem PL
def ColsD (c : D) (cs : List Nat) : Prop := c = .lst (natsD cs) ∨ c = .tup (natsD cs)
theorem g4 (k : Nat) {r : Row} {cs : List Nat} (hc : ∀ c ∈ cs, c < r.length) (hl : cs.length ≤ 12) {c : D} (hd : ColsD c cs) (a0 a2 a3 a4 a6 a7 a8 a9 a10 a11 : Option D) (W : Wd) :
    PL.run (callK prg k) x_grouped_4 [a0, some c, a2, a3, a4, some (tupD r), a6, a7, a8, a9, a10, a11] W = .ok (.lst ((proj cs r).map .int)) W := by
  have h1 : cs.length ≤ 16777216 := by omega
  have hI : runI (callK prg k) (.seq (.var 1)) [a0, some c, a2, a3, a4, some (tupD r), a6, a7, a8, a9, a10, a11] W = .ok (cs.map fun (i : Nat) => .int (i : Int)) W := by
    rcases hd with rfl | rfl <;> simp [natsD]
  unfold x_grouped_4
  rw [run_lc, hI]
  show ((lcLoop _ _ _ (cs.map fun (i : Nat) => D.int (i : Int)) W).bndX _) = _
  rw [lc_mapi (fun (i : Nat) => D.int (i : Int)) (fun c => .int (at0 r c))]
  · simp [proj, h1]
  · intro i hi
    have := ix_row W (r := r) (c := i) (hc i hi)
    exact ⟨_, rfl, rfl, by simp [this]⟩
theorem g5 (k : Nat) {rs : List Row} {n : Nat} (hw : ∀ r ∈ rs, r.length = n) (hl : rs.length ≤ 1000) {cs : List Nat} (hc : ∀ c ∈ cs, c < n) (hcl : cs.length ≤ 12) {c : D} (hd : ColsD c cs) (a2 a3 a4 a5 a6 a7 a8 a9 a10 a11 : Option D) (W : Wd) :
    PL.run (callK prg k) x_grouped_5 [some (.tup (rs.map tupD)), some c, a2, a3, a4, a5, a6, a7, a8, a9, a10, a11] W = .ok (.lst ((rs.map fun r => (proj cs r, r)).map krD)) W := by
  have h1 : rs.length ≤ 16777216 := by omega
  have h2 : cs.length ≤ 16777216 := by omega
  have hI : runI (callK prg k) (.seq (.var 0)) [some (.tup (rs.map tupD)), some c, a2, a3, a4, a5, a6, a7, a8, a9, a10, a11] W = .ok (rs.map tupD) W := by simp
  unfold x_grouped_5
  rw [run_lc, hI]
  show ((lcLoop _ _ _ (rs.map tupD) W).bndX _) = _
  rw [lc_mapi tupD (fun r => krD (proj cs r, r))]
  · simp [h1]
  · intro r hr
    have e := g4 k (r := r) (cs := cs) (fun c h => by rw [hw r hr]; exact hc c h) hcl hd (some (.tup (rs.map tupD))) a2 a3 a4 a6 a7 a8 a9 a10 a11 W
    refine ⟨_, rfl, rfl, ?_⟩
    generalize x_grouped_4 = y at e ⊢
    generalize rs.map tupD = z at e ⊢
    have h3 : (proj cs r).length ≤ 16777216 := by simp [proj, h2]
    have e2 : krD (proj cs r, r) = .tup [.tup ((proj cs r).map .int), tupD r] := rfl
    rw [e2]
    generalize tupD r = tr at e ⊢
    simp [e, h3]
theorem ix_kr (W : Wd) {P : List KR} {i : Nat} (h : i < P.length) : dIx W (.lst (P.map krD)) (.int (i : Int)) = some (krD P[i]) := by
  rw [ix_natL W (by simpa using h)]
  simp
theorem ix_k0 (W : Wd) (p : KR) : dIxA W (krD p) (.int 0) = some (tupD p.1) := by
  show dIx W (krD p) (.int 0) = _
  unfold krD
  rw [ix0]
theorem g3 (k : Nat) {P : List KR} (hl : P.length ≤ 1000) (a0 a1 a3 a4 a5 a6 a7 a8 a9 a10 a11 : Option D) (W : Wd) :
    PL.run (callK prg k) x_grouped_3 [a0, a1, some (.lst (P.map krD)), a3, a4, a5, a6, a7, a8, a9, a10, a11] W = .ok (.lst ((stx (P.map (·.1))).map fun (i : Nat) => .int (i : Int))) W := by
  have hI : runI (callK prg k) (.enum (.var 2)) [a0, a1, some (.lst (P.map krD)), a3, a4, a5, a6, a7, a8, a9, a10, a11] W = .ok (P.zipIdx.map fun p => pairD (.int (p.2 : Nat)) (krD p.1)) W := by
    have he := enum_eq krD P
    simp only [runI, PL.run]
    show ((R.ok (D.lst (P.map krD)) W).bnd _) = _
    simp only [R.bnd, dEnum, asL, Option.map_some]
    rw [he]; rfl
  have hs : (P.zipIdx.filter fun p => atS (P.map (·.1)) p.2).map (fun p => D.int (p.2 : Int)) = (stx (P.map (·.1))).map fun (i : Nat) => .int (i : Int) := by
    rw [← stx_filt (P.map (·.1)), List.length_map]
    have e1 : List.range P.length = P.zipIdx.map (·.2) := by
      rw [List.zipIdx_map_snd]
      simp [List.range_eq_range']
    rw [e1, List.filter_map, List.map_map]
    rfl
  unfold x_grouped_3
  rw [run_lc, hI]
  show ((lcLoop _ _ _ (P.zipIdx.map fun p => pairD (.int (p.2 : Nat)) (krD p.1)) W).bndX _) = _
  rw [lc_filt (fun (p : KR × Nat) => pairD (.int (p.2 : Nat)) (krD p.1)) (fun p => .int (p.2 : Int)) (fun p => atS (P.map (·.1)) p.2)]
  · have hf := List.length_filter_le (fun (p : KR × Nat) => atS (P.map (·.1)) p.2) P.zipIdx
    rw [List.length_zipIdx] at hf
    rw [hs]
    have h3 : ((stx (P.map (·.1))).map fun (i : Nat) => D.int (i : Int)).length ≤ 16777216 := by
      rw [← hs, List.length_map]; omega
    show (if _ then _ else _) = _
    rw [if_pos h3]
  · intro p hp
    obtain ⟨q, i⟩ := p
    have hq : P[i]? = some q := by simpa using List.mem_zipIdx_iff_getElem?.mp hp
    have hi : i < P.length := (List.getElem?_eq_some_iff.mp hq).1
    have hqi : P[i] = q := (List.getElem?_eq_some_iff.mp hq).2
    have k1 := ix_k0 W q
    refine ⟨_, rfl, ?_, fun _ => by simp [pairD]⟩
    cases i with
    | zero => simp [pairD, atS]
    | succ j =>
      have hj : j < P.length := by omega
      have k2 := ix_kr W hj
      have k3 := ix_k0 W P[j]
      have k4 := eq_tupD W P[j].1 q.1
      have e1 : ((j + 1 : Nat) : Int) - 1 = (j : Int) := by omega
      have e2 : ¬ (j : Int) + 1 = 0 := by omega
      have e3 : atS (P.map (·.1)) (j + 1) = !decide (P[j].1 = q.1) := by
        simp [atS, hj, hi, hqi]
      rw [e3]
      generalize P.map krD = z at k2 ⊢
      generalize krD q = kq at k1 ⊢
      generalize krD P[j] = kj at k2 k3 ⊢
      simp [pairD, k1, e1, e2, k2, k3, oNB, k4]
theorem sl_ab (W : Wd) (xs : List D) {s : Nat} (e : Nat) (hs : s ≤ xs.length) : dSl W (.lst xs) (some (s : Int)) (some (e : Int)) = some (.lst ((xs.drop s).take (e - s))) := by
  show (asL W (.lst xs)).map (fun xs => D.lst (cutD xs (some (s : Int)) (some (e : Int)))) = _
  simp only [asL, Option.map_some, cutD, HT.sIx_nat]
  rw [Nat.min_eq_left hs]
  by_cases h : e ≤ xs.length
  · rw [Nat.min_eq_left h]
  · rw [Nat.min_eq_right (by omega), List.take_of_length_le (by rw [List.length_drop]; omega), List.take_of_length_le (by rw [List.length_drop]; omega)]
theorem sl_tail (W : Wd) (xs : List D) : dSl W (.lst xs) (some 1) none = some (.lst xs.tail) := by
  cases xs <;> simp [dSl, cutD, HT.sIx]
theorem g1 (k : Nat) {P : List KR} (hl : P.length ≤ 1000) {s : Nat} (e : Nat) (hs : s ≤ P.length) (a0 a1 a3 a4 a5 a6 a7 a10 a11 : Option D) (W : Wd) :
    PL.run (callK prg k) x_grouped_1 [a0, a1, some (.lst (P.map krD)), a3, a4, a5, a6, a7, some (.int (s : Int)), some (.int (e : Int)), a10, a11] W = .ok (.lst ((cutR P s e).2.map tupD)) W := by
  have h1 := sl_ab W (P.map krD) (s := s) e (by rw [List.length_map]; exact hs)
  have hI : runI (callK prg k) (.seq (.sl (.var 2) (.yes (.var 8)) (.yes (.var 9)))) [a0, a1, some (.lst (P.map krD)), a3, a4, a5, a6, a7, some (.int (s : Int)), some (.int (e : Int)), a10, a11] W = .ok (((P.drop s).take (e - s)).map krD) W := by
    rw [List.map_take, List.map_drop]
    generalize P.map krD = z at h1 ⊢
    simp [h1]
  unfold x_grouped_1
  rw [run_lc, hI]
  show ((lcLoop _ _ _ (((P.drop s).take (e - s)).map krD) W).bndX _) = _
  rw [lc_mapi krD (fun p => tupD p.2)]
  · have h2 : (((P.drop s).take (e - s)).map fun p => tupD p.2).length ≤ 16777216 := by
      rw [List.length_map, List.length_take, List.length_drop]; omega
    show (if _ then _ else _) = _
    rw [if_pos h2]
    simp [cutR, Function.comp_def]
  · intro p hp
    exact ⟨_, rfl, rfl, by simp⟩
theorem stx_lt {P : List KR} {i : Nat} (h : i ∈ stx (P.map (·.1))) : i < P.length := by
  rw [← stx_filt] at h
  simpa using (List.mem_filter.mp h).1
theorem g2 (k : Nat) {P : List KR} (hl : P.length ≤ 1000) {E : List Nat} (a0 a1 a5 a6 a7 a8 a9 a10 a11 : Option D) (W : Wd) :
    PL.run (callK prg k) x_grouped_2 [a0, a1, some (.lst (P.map krD)), some (.lst ((stx (P.map (·.1))).map fun (i : Nat) => .int (i : Int))), some (.lst (E.map fun (i : Nat) => .int (i : Int))), a5, a6, a7, a8, a9, a10, a11] W =
      .ok (.lst (((stx (P.map (·.1))).zipWith (cutR P) E).map fun g => .tup [tupD g.1, .lst (g.2.map tupD)])) W := by
  have hz : ∀ S E : List Nat, (S.map fun (i : Nat) => D.int (i : Int)).zipWith pairD (E.map fun (i : Nat) => D.int (i : Int)) = (S.zip E).map fun q => pairD (.int (q.1 : Int)) (.int (q.2 : Int)) := by
    intro S
    induction S with
    | nil => intro E; rfl
    | cons a S ih =>
      intro E
      cases E with
      | nil => rfl
      | cons b E => simp [ih]
  have hr : ∀ S E : List Nat, (S.zip E).map (fun q => D.tup [tupD (cutR P q.1 q.2).1, .lst ((cutR P q.1 q.2).2.map tupD)]) = (S.zipWith (cutR P) E).map fun g => .tup [tupD g.1, .lst (g.2.map tupD)] := by
    intro S
    induction S with
    | nil => intro E; rfl
    | cons a S ih =>
      intro E
      cases E with
      | nil => rfl
      | cons b E => simp [ih]
  have hlen : (stx (P.map (·.1))).length ≤ P.length := by
    rw [← stx_filt]
    exact Nat.le_trans (List.length_filter_le _ _) (by simp)
  have hm : ∀ i ∈ stx (P.map (·.1)), i < P.length := fun i hi => stx_lt hi
  rw [← hr]
  generalize stx (P.map (·.1)) = S at hlen hm ⊢
  have hI : runI (callK prg k) (.zip (.var 3) (.var 4)) [a0, a1, some (.lst (P.map krD)), some (.lst (S.map fun (i : Nat) => .int (i : Int))), some (.lst (E.map fun (i : Nat) => .int (i : Int))), a5, a6, a7, a8, a9, a10, a11] W = .ok ((S.zip E).map fun q => pairD (.int (q.1 : Int)) (.int (q.2 : Int))) W := by
    rw [← hz]
    rfl
  unfold x_grouped_2
  rw [run_lc, hI]
  show ((lcLoop _ _ _ ((S.zip E).map fun q => pairD (.int (q.1 : Int)) (.int (q.2 : Int))) W).bndX _) = _
  rw [lc_mapi (fun (q : Nat × Nat) => pairD (.int (q.1 : Int)) (.int (q.2 : Int))) (fun q => D.tup [tupD (cutR P q.1 q.2).1, .lst ((cutR P q.1 q.2).2.map tupD)])]
  · have h2 : ((S.zip E).map fun q => D.tup [tupD (cutR P q.1 q.2).1, .lst ((cutR P q.1 q.2).2.map tupD)]).length ≤ 16777216 := by
      rw [List.length_map, List.length_zip]; omega
    show (if _ then _ else _) = _
    rw [if_pos h2]
  · intro q hq
    have hi := hm q.1 (List.of_mem_zip hq).1
    have h1 := g1 k hl (s := q.1) q.2 (by omega) a0 a1 (some (.lst (S.map fun (i : Nat) => .int (i : Int)))) (some (.lst (E.map fun (i : Nat) => .int (i : Int)))) a5 a6 a7 a10 a11 W
    have k2 := ix_kr W hi
    have k3 := ix_k0 W P[q.1]
    have e1 : (cutR P q.1 q.2).1 = P[q.1].1 := by simp [cutR, hi]
    refine ⟨_, rfl, rfl, ?_⟩
    rw [e1]
    generalize (cutR P q.1 q.2).2 = cr at h1 ⊢
    generalize x_grouped_1 = y at h1 ⊢
    generalize P.map krD = z at h1 k2 ⊢
    generalize krD P[q.1] = kj at k2 k3 ⊢
    simp [pairD, h1, k2, k3]
theorem grp (k : Nat) {rs : List Row} {n : Nat} (hw : ∀ r ∈ rs, r.length = n) (hl : rs.length ≤ 1000) {cs : List Nat} (hc : ∀ c ∈ cs, c < n) (hcl : cs.length ≤ 12) {c : D} (hd : ColsD c cs) (W : Wd) :
    ∃ P : List KR, P.Perm (rs.map fun r => (proj cs r, r)) ∧ KeyUp P ∧ callK prg (k + 1) "grouped" [.tup (rs.map tupD), c] W = .ok (grpD P) W := by
  obtain ⟨P, hp, hu, hs⟩ := sort_kr W (rs.map fun r => (proj cs r, r))
  refine ⟨P, hp, hu, ?_⟩
  have hPl : P.length ≤ 1000 := by rw [hp.length_eq, List.length_map]; exact hl
  have h5 := g5 k hw hl hc hcl hd none none none none none none none none none none W
  have h3 := g3 k hPl (some (.tup (rs.map tupD))) (some c) none none none none none none none none none W
  have h2 := g2 k hPl (E := (stx (P.map (·.1))).tail ++ [P.length]) (some (.tup (rs.map tupD))) (some c) none none none none none none none W
  rw [rns_cut] at h2
  have ht := sl_tail W ((stx (P.map (·.1))).map fun (i : Nat) => D.int (i : Int))
  have hlen : (stx (P.map (·.1))).length ≤ P.length := by
    rw [← stx_filt]
    exact Nat.le_trans (List.length_filter_le _ _) (by simp)
  have hdr := dict_rns W hu
  have e4 : ((stx (P.map (·.1))).tail ++ [P.length]).map (fun (i : Nat) => D.int (i : Int)) = ((stx (P.map (·.1))).map fun (i : Nat) => D.int (i : Int)).tail ++ [.int (P.length : Int)] := by
    rw [List.map_append, List.map_tail]; rfl
  rw [e4] at h2
  have hL : (P.map krD).length = P.length := List.length_map _
  have hadd : (((stx (P.map (·.1))).map fun (i : Nat) => D.int (i : Int)).tail).length + 1 ≤ 16777216 := by
    rw [List.length_tail, List.length_map]; omega
  rw [c_grouped]
  unfold f_grouped
  generalize ((rns P).map fun g => D.tup [tupD g.1, .lst (g.2.map tupD)]) = gg at h2 hdr
  generalize ((rs.map fun r => (proj cs r, r)).map krD) = l0 at hs h5
  generalize (stx (P.map (·.1))).map (fun (i : Nat) => D.int (i : Int)) = S at h3 h2 ht hadd
  generalize P.map krD = PP at hs h3 h2 hL
  generalize rs.map tupD = R0 at h5 h3 h2 ⊢
  generalize x_grouped_5 = y5 at h5 ⊢
  generalize x_grouped_3 = y3 at h3 ⊢
  generalize x_grouped_2 = y2 at h2 ⊢
  simp at hadd
  simp [h5, hs, h3, ht, hL, h2, hdr, hadd]
end LW

namespace LW
open PySem PL
theorem nfew (k : Nat) {i : Nat} (h : i ≤ 4000) (W : Wd) : callK prg (k + 1) "need_few" [.int (i : Int)] W = .ok .non W := by
  rw [c_need_few]
  have h1 : ¬ (4000 : Int) < (i : Int) := by omega
  simp [f_need_few, h1]
abbrev psD (ps : List (Nat × Nat)) : D := .tup (ps.map prD)
theorem j5 (k : Nat) {ps : List (Nat × Nat)} (hl : ps.length ≤ 6) (a0 a1 a3 a4 a5 a6 a7 a8 a9 : Option D) (W : Wd) :
    PL.run (callK prg k) x_joined_5 [a0, a1, some (psD ps), a3, a4, a5, a6, a7, a8, a9] W = .ok (.lst (natsD (ps.map (·.2)))) W := by
  have h1 : ps.length ≤ 16777216 := by omega
  have hI : runI (callK prg k) (.seq (.var 2)) [a0, a1, some (psD ps), a3, a4, a5, a6, a7, a8, a9] W = .ok (ps.map prD) W := by simp [psD]
  unfold x_joined_5
  rw [run_lc, hI]
  show ((lcLoop _ _ _ (ps.map prD) W).bndX _) = _
  rw [lc_mapi prD (fun p => .int (p.2 : Int))]
  · simp [natsD, h1, Function.comp_def]
  · intro p hp
    exact ⟨_, rfl, rfl, by simp⟩
theorem j3 (k : Nat) {ps : List (Nat × Nat)} (hl : ps.length ≤ 6) {r : Row} (hc : ∀ p ∈ ps, p.1 < r.length) (a0 a1 a3 a4 a6 a7 a8 a9 : Option D) (W : Wd) :
    PL.run (callK prg k) x_joined_3 [a0, a1, some (psD ps), a3, a4, some (tupD r), a6, a7, a8, a9] W = .ok (.lst ((proj (ps.map (·.1)) r).map .int)) W := by
  have h1 : ps.length ≤ 16777216 := by omega
  have hI : runI (callK prg k) (.seq (.var 2)) [a0, a1, some (psD ps), a3, a4, some (tupD r), a6, a7, a8, a9] W = .ok (ps.map prD) W := by simp [psD]
  unfold x_joined_3
  rw [run_lc, hI]
  show ((lcLoop _ _ _ (ps.map prD) W).bndX _) = _
  rw [lc_mapi prD (fun p => .int (at0 r p.1))]
  · simp [proj, h1, Function.comp_def]
  · intro p hp
    have := ix_row W (hc p hp)
    refine ⟨_, rfl, rfl, ?_⟩
    generalize tupD r = tr at this ⊢
    simp [this]
def mateD (P : List KR) (ps : List (Nat × Nat)) (r : Row) : D := .tup [tupD r, .lst ((under P (proj (ps.map (·.1)) r)).map tupD)]
theorem j4 (k : Nat) {rs : List Row} {ps : List (Nat × Nat)} (hrl : rs.length ≤ 1000) (hl : ps.length ≤ 6) (hc : ∀ r ∈ rs, ∀ p ∈ ps, p.1 < r.length) {P : List KR} (hu : KeyUp P) (a1 a4 a5 a6 a7 a8 a9 : Option D) (W : Wd) :
    PL.run (callK prg k) x_joined_4 [some (.tup (rs.map tupD)), a1, some (psD ps), some (grpD P), a4, a5, a6, a7, a8, a9] W = .ok (.lst (rs.map (mateD P ps))) W := by
  have h1 : rs.length ≤ 16777216 := by omega
  have h2 : ps.length ≤ 16777216 := by omega
  have hI : runI (callK prg k) (.seq (.var 0)) [some (.tup (rs.map tupD)), a1, some (psD ps), some (grpD P), a4, a5, a6, a7, a8, a9] W = .ok (rs.map tupD) W := by simp
  have hd : isDct (grpD P) = true := by
    unfold grpD
    cases rns P <;> rfl
  unfold x_joined_4
  rw [run_lc, hI]
  show ((lcLoop _ _ _ (rs.map tupD) W).bndX _) = _
  rw [lc_mapi tupD (mateD P ps)]
  · simp [h1]
  · intro r hr
    have e := j3 k hl (r := r) (hc r hr) (some (.tup (rs.map tupD))) a1 (some (grpD P)) a4 a6 a7 a8 a9 W
    have hg := get_grp hu (proj (ps.map (·.1)) r)
    have h3 : (proj (ps.map (·.1)) r).length ≤ 16777216 := by simp [proj, h2]
    refine ⟨_, rfl, rfl, ?_⟩
    unfold mateD
    have e2 : tupD (proj (ps.map (·.1)) r) = .tup ((proj (ps.map (·.1)) r).map .int) := rfl
    rw [e2] at hg
    generalize (under P (proj (ps.map (·.1)) r)).map tupD = u at hg ⊢
    generalize x_joined_3 = y at e ⊢
    generalize rs.map tupD = z at e ⊢
    generalize grpD P = g at e hg hd ⊢
    generalize tupD r = tr at e ⊢
    simp [e, h3, hd, hg]
theorem j2 (k : Nat) {rs : List Row} {ps : List (Nat × Nat)} (hrl : rs.length ≤ 1000) (P : List KR) (a0 a1 a2 a3 a5 a6 a7 a8 a9 : Option D) (W : Wd) :
    PL.run (callK prg k) x_joined_2 [a0, a1, a2, a3, some (.lst (rs.map (mateD P ps))), a5, a6, a7, a8, a9] W = .ok (.lst (rs.map fun r => .int ((under P (proj (ps.map (·.1)) r)).length : Int))) W := by
  have h1 : rs.length ≤ 16777216 := by omega
  have hI : runI (callK prg k) (.seq (.var 4)) [a0, a1, a2, a3, some (.lst (rs.map (mateD P ps))), a5, a6, a7, a8, a9] W = .ok (rs.map (mateD P ps)) W := by simp
  unfold x_joined_2
  rw [run_lc, hI]
  show ((lcLoop _ _ _ (rs.map (mateD P ps)) W).bndX _) = _
  rw [lc_mapi (mateD P ps) (fun r => .int ((under P (proj (ps.map (·.1)) r)).length : Int))]
  · simp [h1]
  · intro r hr
    exact ⟨_, rfl, rfl, by simp⟩
theorem add_rows (W : Wd) (a b : Row) (h : a.length + b.length ≤ 16777216) : dAdd W (tupD a) (tupD b) = some (tupD (a ++ b)) := by
  simp [dAdd, tupD, h]
theorem j1 (k : Nat) {rs : List Row} {ps : List (Nat × Nat)} (P : List KR) (hb : ((rs.flatMap fun r => (under P (proj (ps.map (·.1)) r)).map (r ++ ·))).length ≤ 16777216)
    (hw : ∀ r ∈ rs, r.length ≤ 100) (hv : ∀ k, ∀ o ∈ under P k, o.length ≤ 100) (a0 a1 a2 a3 a5 a6 a7 a8 a9 : Option D) (W : Wd) :
    PL.run (callK prg k) x_joined_1 [a0, a1, a2, a3, some (.lst (rs.map (mateD P ps))), a5, a6, a7, a8, a9] W = .ok (.lst ((rs.flatMap fun r => (under P (proj (ps.map (·.1)) r)).map (r ++ ·)).map tupD)) W := by
  have hI : runI (callK prg k) (.seq (.var 4)) [a0, a1, a2, a3, some (.lst (rs.map (mateD P ps))), a5, a6, a7, a8, a9] W = .ok (rs.map (mateD P ps)) W := by simp
  unfold x_joined_1
  rw [run_lc2, hI]
  show ((lc2Loop _ _ _ (rs.map (mateD P ps)) W).bndX _) = _
  rw [lc2_map (mateD P ps) (fun r => (under P (proj (ps.map (·.1)) r)).map fun o => tupD (r ++ o))]
  · have e : (rs.flatMap fun r => (under P (proj (ps.map (·.1)) r)).map fun o => tupD (r ++ o)) = (rs.flatMap fun r => (under P (proj (ps.map (·.1)) r)).map (r ++ ·)).map tupD := by
      rw [List.map_flatMap]
      simp [Function.comp_def]
    rw [e]
    show (if _ then _ else _) = _
    rw [if_pos (by rw [List.length_map]; exact hb)]
  · intro r hr
    refine ⟨_, rfl, rfl, ?_⟩
    show ((R.ok _ W).bnd _).bndX _ = _
    show (lcLoop _ _ _ ((under P (proj (ps.map (·.1)) r)).map tupD) W) = _
    rw [lc_mapi tupD (fun o => tupD (r ++ o))]
    intro o ho
    have h1 := hw r hr
    have h2 := hv _ o ho
    have h3 := add_rows W r o (by omega)
    refine ⟨_, rfl, rfl, ?_⟩
    generalize tupD r = tr at h3 ⊢
    generalize tupD o = to at h3 ⊢
    simp [h3]
theorem sum_le_mul {α : Type} (f : α → Nat) (m : Nat) : ∀ (l : List α), (∀ x ∈ l, f x ≤ m) → (l.map f).sum ≤ l.length * m
  | [], _ => by simp
  | x :: l, h => by
    have h1 := sum_le_mul f m l fun y hy => h y (by simp [hy])
    have h2 := h x (by simp)
    simp only [List.map_cons, List.sum_cons, List.length_cons, Nat.succ_mul]
    omega
theorem mate_iff {r o : Row} {ps : List (Nat × Nat)} : mateB r o ps = true ↔ proj (ps.map (·.2)) o = proj (ps.map (·.1)) r := by
  induction ps with
  | nil => simp [mateB, proj]
  | cons p ps ih =>
    unfold mateB proj at ih ⊢
    simp only [List.all_cons, Bool.and_eq_true, decide_eq_true_eq, List.map_cons, List.cons.injEq]
    rw [ih]
    constructor
    · rintro ⟨a, b⟩; exact ⟨a.symm, b⟩
    · rintro ⟨a, b⟩; exact ⟨a.symm, b⟩
theorem joined (k : Nat) {rs os : List Row} {n i m j : Nat} (hr : OkRows rs n m) (ho : OkRows os i j) (hn : n ≤ 12) (hi : i ≤ 12) (hm : m ≤ 1000) (hj : j ≤ 1000) (hmj : m * j ≤ 1000) {ps : List (Nat × Nat)} (hl : ps.length ≤ 6) (hp : ∀ p ∈ ps, p.1 < n ∧ p.2 < i) (W : Wd) :
    ∃ found : List Row, callK prg (k + 2) "joined" [.tup (rs.map tupD), .tup (os.map tupD), psD ps] W = .ok (.lst (found.map tupD)) W ∧ found.length ≤ m * j ∧ ∀ z, z ∈ found ↔ z ∈ joinL rs os ps := by
  have hrm := hr.few
  have hom := ho.few
  obtain ⟨P, pp, hu, hg⟩ := grp k (rs := os) (n := i) ho.w (by omega) (cs := ps.map (·.2)) (fun c hc => by
    obtain ⟨p, hpp, rfl⟩ := List.mem_map.mp hc
    exact (hp p hpp).2) (by rw [List.length_map]; omega) (.inl rfl) W
  have hul : ∀ k, (under P k).length ≤ j := fun k => Nat.le_trans (under_len pp k) hom
  have hsum : (rs.map fun r => (under P (proj (ps.map (·.1)) r)).length).sum ≤ m * j := Nat.le_trans (sum_le_mul _ j rs fun r _ => hul _) (Nat.mul_le_mul_right j hrm)
  have hfl : (rs.flatMap fun r => (under P (proj (ps.map (·.1)) r)).map (r ++ ·)).length ≤ m * j := by
    rw [List.length_flatMap]
    simpa using hsum
  refine ⟨_, ?_, hfl, fun z => ?_⟩
  · have e5 := j5 (k + 1) hl (some (.tup (rs.map tupD))) (some (.tup (os.map tupD))) none none none none none none none W
    have e4 := j4 (k + 1) (rs := rs) (ps := ps) (by omega) hl (fun r hrr p hpp => by rw [hr.w r hrr]; exact (hp p hpp).1) hu (some (.tup (os.map tupD))) none none none none none none W
    have e2 := j2 (k + 1) (rs := rs) (ps := ps) (by omega) P (some (.tup (rs.map tupD))) (some (.tup (os.map tupD))) (some (psD ps)) (some (grpD P)) none none none none none W
    have e1 := j1 (k + 1) (rs := rs) (ps := ps) P (by omega) (fun r hrr => by rw [hr.w r hrr]; omega) (fun k o hoo => by rw [ho.w o ((under_mem pp).mp hoo).1]; omega) (some (.tup (rs.map tupD))) (some (.tup (os.map tupD))) (some (psD ps)) (some (grpD P)) none none none none none W
    have es : dSum W [.lst (rs.map fun r => .int ((under P (proj (ps.map (·.1)) r)).length : Int))] = some (.int (((rs.map fun r => (under P (proj (ps.map (·.1)) r)).length).sum : Nat) : Int)) := by
      simp only [dSum, asL]
      rw [nums_map, ← cast_sum]; rfl
    have hf := nfew k (i := (rs.map fun r => (under P (proj (ps.map (·.1)) r)).length).sum) (by omega) W
    rw [c_joined]
    unfold f_joined
    generalize ((rs.flatMap fun r => (under P (proj (ps.map (·.1)) r)).map (r ++ ·)).map tupD) = fl at e1 ⊢
    generalize (rs.map fun r => D.int ((under P (proj (ps.map (·.1)) r)).length : Int)) = sl at e2 es
    generalize (rs.map fun r => (under P (proj (ps.map (·.1)) r)).length).sum = sm at es hf
    generalize rs.map (mateD P ps) = md at e4 e2 e1
    generalize grpD P = gd at hg e4 e2 e1
    generalize natsD (ps.map (·.2)) = nd at e5 hg
    generalize psD ps = pd at e5 e4 e2 e1 ⊢
    generalize rs.map tupD = R0 at e5 e4 e2 e1 ⊢
    generalize os.map tupD = O0 at e5 e4 e2 e1 hg ⊢
    generalize x_joined_5 = y5 at e5 ⊢
    generalize x_joined_4 = y4 at e4 ⊢
    generalize x_joined_2 = y2 at e2 ⊢
    generalize x_joined_1 = y1 at e1 ⊢
    simp [e5, hg, e4, e2, es, hf, e1]
  · unfold joinL
    rw [List.mem_flatMap, List.mem_flatMap]
    constructor
    · rintro ⟨r, hrr, hz⟩
      obtain ⟨o, hoo, rfl⟩ := List.mem_map.mp hz
      have := (under_mem pp).mp hoo
      exact ⟨r, hrr, List.mem_map.mpr ⟨o, List.mem_filter.mpr ⟨this.1, mate_iff.mpr this.2⟩, rfl⟩⟩
    · rintro ⟨r, hrr, hz⟩
      obtain ⟨o, hoo, rfl⟩ := List.mem_map.mp hz
      obtain ⟨h1, h2⟩ := List.mem_filter.mp hoo
      exact ⟨r, hrr, List.mem_map.mpr ⟨o, (under_mem pp).mpr ⟨h1, mate_iff.mp h2⟩, rfl⟩⟩
end LW

namespace LW
open PySem PL
theorem nd_of_asc {l : List Row} (h : l.Pairwise (· < ·)) : l.Nodup := by
  refine List.Pairwise.imp (fun {a b} (lt : a < b) (e : a = b) => ?_) h
  subst e
  exact ltL_irr _ lt
theorem isKeys (k : Nat) (P : List KR) (i : Nat) (ρ : EnvD) (hρ : ρ[i]? = some (some (grpD P))) (W : Wd) : runI (callK prg k) (.seq (.var i)) ρ W = .ok (((rns P).map (·.1)).map tupD) W := by
  have h := keys_grp P W
  simp only [runI, PL.run, hρ]
  exact h
theorem keys_nd {P : List KR} (hu : KeyUp P) : ((rns P).map (·.1)).Nodup := nd_of_asc (List.pairwise_map.mpr (rns_up hu))
theorem crowded (k : Nat) {rs : List Row} {n m : Nat} (hr : OkRows rs n m) (hn : n ≤ 12) (hm : m ≤ 1000) {cs : List Nat} (hc : ∀ c ∈ cs, c < n) (hcl : cs.length ≤ 12) (l : Nat) (W : Wd) :
    ∃ found : List Row, callK prg (k + 2) "crowded" [.tup (rs.map tupD), .tup (natsD cs), .int (l : Int)] W = .ok (.lst (found.map tupD)) W ∧ found.length ≤ m ∧ ∀ z, z ∈ found ↔ z ∈ crdL rs cs l := by
  have hrm := hr.few
  obtain ⟨P, pp, hu, hg⟩ := grp k (rs := rs) (n := n) hr.w (by omega) (cs := cs) hc hcl (.inr rfl) W
  have hP : P.length ≤ m := by rw [pp.length_eq, List.length_map]; exact hrm
  have hmem : ∀ z : Row, z ∈ (((rns P).map (·.1)).filter fun k => decide ((l : Int) ≤ ((under P k).length : Int))).flatMap (under P) ↔ z ∈ crdL rs cs l := by
    intro z
    unfold crdL
    rw [List.mem_flatMap, List.mem_filter]
    have hlen : (rs.filter fun q => decide (proj cs q = proj cs z)).length = (under P (proj cs z)).length := (under_perm pp (proj cs z)).length_eq.symm
    rw [hlen]
    constructor
    · rintro ⟨k, hk, hz⟩
      obtain ⟨_, h2⟩ := List.mem_filter.mp hk
      obtain ⟨h3, rfl⟩ := (under_mem pp).mp hz
      have := of_decide_eq_true h2
      exact ⟨h3, decide_eq_true (by omega)⟩
    · rintro ⟨h1, h2⟩
      have hz := (under_mem pp (k := proj cs z)).mpr ⟨h1, rfl⟩
      have := of_decide_eq_true h2
      exact ⟨proj cs z, List.mem_filter.mpr ⟨rns_keys.mpr (List.ne_nil_of_mem hz), decide_eq_true (by omega)⟩, hz⟩
  have hnd : ((((rns P).map (·.1)).filter fun k => decide ((l : Int) ≤ ((under P k).length : Int))).flatMap (under P)).Nodup := by
    refine List.pairwise_flatMap.mpr ⟨fun a _ => ?_, ?_⟩
    · exact ((under_perm pp a).nodup_iff).mpr ((nd_of_asc hr.asc).filter _)
    · refine ((keys_nd hu).filter _).imp fun {a b} ne x hx y hy e => ne ?_
      have h1 := ((under_mem pp).mp hx).2
      have h2 := ((under_mem pp).mp hy).2
      rw [← h1, ← h2, e]
  have hfl : ((((rns P).map (·.1)).filter fun k => decide ((l : Int) ≤ ((under P k).length : Int))).flatMap (under P)).length ≤ m := by
    refine Nat.le_trans (hnd.length_le_of_subset (l₂ := rs) fun z hz => ?_) hrm
    exact (List.mem_filter.mp ((hmem z).mp hz)).1
  refine ⟨_, ?_, hfl, hmem⟩
  have hl2 : PL.run (callK prg (k + 1)) x_crowded_1 [some (.tup (rs.map tupD)), some (.tup (natsD cs)), some (.int (l : Int)), some (grpD P), none, none] W = .ok (.lst (((((rns P).map (·.1)).filter fun k => decide ((l : Int) ≤ ((under P k).length : Int))).flatMap (under P)).map tupD)) W := by
    have hI := isKeys (k + 1) P 3 [some (.tup (rs.map tupD)), some (.tup (natsD cs)), some (.int (l : Int)), some (grpD P), none, none] rfl W
    unfold x_crowded_1
    rw [run_lc2, hI]
    show ((lc2Loop _ _ _ (((rns P).map (·.1)).map tupD) W).bndX _) = _
    rw [lc2_filt tupD (fun k => (under P k).map tupD) (fun k => decide ((l : Int) ≤ ((under P k).length : Int)))]
    · have e : ((((rns P).map (·.1)).filter fun k => decide ((l : Int) ≤ ((under P k).length : Int))).flatMap fun k => (under P k).map tupD) = ((((rns P).map (·.1)).filter fun k => decide ((l : Int) ≤ ((under P k).length : Int))).flatMap (under P)).map tupD := by
        rw [List.map_flatMap]
      rw [e]
      show (if _ then _ else _) = _
      rw [if_pos (by rw [List.length_map]; omega)]
    · intro key hk
      have hx := ix_grp W hu (rns_keys.mp hk)
      have hll : ((under P key).map tupD).length = (under P key).length := List.length_map _
      refine ⟨_, rfl, ?_, fun _ => ?_⟩
      · generalize (under P key).map tupD = u at hx hll ⊢
        generalize grpD P = g at hx ⊢
        generalize tupD key = t at hx ⊢
        simp [hx, hll, dGe, oB]
      · have hI2 : ∀ a b c e, runI (callK prg (k + 1)) (.seq (.ix (.var 3) (.var 4))) [a, b, c, some (grpD P), some (tupD key), e] W = .ok ((under P key).map tupD) W := by
          intro a b c e
          generalize (under P key).map tupD = u at hx ⊢
          generalize grpD P = g at hx ⊢
          generalize tupD key = t at hx ⊢
          simp [hx]
        show ((runI (callK prg (k + 1)) (.seq (.ix (.var 3) (.var 4))) [some (.tup (rs.map tupD)), some (.tup (natsD cs)), some (.int (l : Int)), some (grpD P), some (tupD key), none] W).bndX _) = _
        rw [hI2]
        show (lcLoop _ _ _ ((under P key).map tupD) W) = _
        rw [lc_mapi tupD tupD]
        intro o ho
        exact ⟨_, rfl, rfl, rfl⟩
  rw [c_crowded]
  unfold f_crowded
  generalize (((((rns P).map (·.1)).filter fun k => decide ((l : Int) ≤ ((under P k).length : Int))).flatMap (under P)).map tupD) = fl at hl2 ⊢
  generalize grpD P = gd at hg hl2
  generalize natsD cs = nd at hg hl2 ⊢
  generalize rs.map tupD = R0 at hg hl2 ⊢
  generalize x_crowded_1 = y1 at hl2 ⊢
  simp [hg, hl2]
end LW

namespace LW
open PySem PL
/-- dict([(row, True) ..]) -/
def wantD (os : List Row) : D := match os with
  | [] => .dct []
  | os => .dtt os (os.map fun _ => .bl true)
theorem want_dict (W : Wd) {os : List Row} (h : os.Nodup) : dDict W [.lst (os.map fun o => .tup [tupD o, .bl true])] = some (wantD os) := by
  cases os with
  | nil => rfl
  | cons o os =>
    have hp : ∀ l : List Row, pairsT (l.map fun o => .tup [tupD o, .bl true]) = some (l.map fun o => (o, .bl true)) := fun l => by
      induction l with
      | nil => rfl
      | cons a l ih =>
        rw [List.map_cons, List.map_cons]
        simp only [tupD] at ih ⊢
        simp only [pairsT, nums_ints, ih]
    have hk : pairsK ((o :: os).map fun o => D.tup [tupD o, .bl true]) = none := by simp [pairsK, tupD, asKey]
    simp only [dDict, asL, hk, hp, Option.map_some]
    rw [tabMerge_new _ _ (fun a ha => by cases ha) (List.pairwise_map.mpr (h.imp fun {a b} ne => ne))]
    simp [wantD, Function.comp_def]
theorem want_in (W : Wd) (os : List Row) (q : Row) : dIn W (tupD q) (wantD os) = some (decide (q ∈ os)) := by
  cases os with
  | nil => simp [wantD, dIn, tupD, asKey, nums_ints]
  | cons o os => simp [wantD, dIn, tupD, nums_ints]
theorem want_len (W : Wd) (os : List Row) : dLenS W [wantD os] = some (.int (os.length : Int)) := by
  cases os with
  | nil => rfl
  | cons o os => rfl
theorem proj_range {n c : Nat} {r : Row} (hr : r.length = n) (hc : c ≤ n) : proj (List.range c) r = r.take c := by
  unfold proj
  apply List.ext_getElem?
  intro i
  rw [List.getElem?_map, List.getElem?_take]
  by_cases h : i < c
  · rw [List.getElem?_range h, if_pos h]
    simp [at0, List.getD]
    rw [List.getElem?_eq_getElem (by omega)]
    rfl
  · rw [if_neg h]
    have : (List.range c)[i]? = none := by simp; omega
    rw [this]; rfl
theorem sl_drop (W : Wd) (r : Row) (c : Nat) (hc : c ≤ r.length) : dSl W (tupD r) (some (c : Int)) none = some (tupD (r.drop c)) := by
  simp only [tupD, dSl, cutD, HT.sIx_nat, HT.sIx_none, List.length_map]
  rw [Nat.min_eq_left hc, List.take_of_length_le (by rw [List.length_drop, List.length_map]; omega), List.map_drop]
theorem all_of_len {l1 l2 : List Row} (h1 : l1.Nodup) (hs : ∀ x ∈ l1, x ∈ l2) (hl : l1.length = l2.length) : ∀ x ∈ l2, x ∈ l1 := by
  intro x hx
  by_cases q : x ∈ l1
  · exact q
  · have := (List.nodup_cons.mpr ⟨q, h1⟩).length_le_of_subset (l₂ := l2) fun z hz => by
      rcases List.mem_cons.mp hz with rfl | hz
      · exact hx
      · exact hs z hz
    rw [List.length_cons] at this
    omega
theorem divided (k : Nat) {rs os : List Row} {n i m j c : Nat} (hr : OkRows rs n m) (ho : OkRows os i j) (hn : n ≤ 12) (hm : m ≤ 1000) (hj : j ≤ 1000) (hc : c + i = n) (W : Wd) :
    ∃ found : List Row, callK prg (k + 2) "divided" [.tup (rs.map tupD), .tup (os.map tupD), .int (c : Int)] W = .ok (.lst (found.map tupD)) W ∧ found.length ≤ m ∧ ∀ z, z ∈ found ↔ z ∈ dvdL rs os c := by
  have hrm := hr.few
  have hom := ho.few
  obtain ⟨P, pp, hu, hg⟩ := grp k (rs := rs) (n := n) hr.w (by omega) (cs := List.range c) (fun a ha => by have := List.mem_range.mp ha; omega) (by rw [List.length_range]; omega) (.inl rfl) W
  have pr : ∀ r ∈ rs, proj (List.range c) r = r.take c := fun r hrr => proj_range (hr.w r hrr) (by omega)
  have hum : ∀ {k o : Row}, o ∈ under P k ↔ o ∈ rs ∧ o.take c = k := fun {k o} => by
    rw [under_mem pp]
    constructor
    · rintro ⟨a, b⟩; exact ⟨a, by rw [← pr o a]; exact b⟩
    · rintro ⟨a, b⟩; exact ⟨a, by rw [pr o a]; exact b⟩
  have hund : ∀ k, (under P k).Nodup := fun k => ((under_perm pp k).nodup_iff).mpr ((nd_of_asc hr.asc).filter _)
  have hmem : ∀ z : Row, z ∈ ((rns P).map (·.1)).filter (fun k => decide ((((under P k).filter fun r => decide (r.drop c ∈ os)).length : Int) = (os.length : Int))) ↔ z ∈ dvdL rs os c := by
    intro z
    unfold dvdL
    rw [List.mem_filter, List.mem_filter, rns_keys, decide_eq_true_eq, List.all_eq_true]
    have hkey : under P z ≠ [] ↔ z ∈ rs.map (·.take c) := by
      constructor
      · intro h
        obtain ⟨o, hoo⟩ := List.exists_mem_of_ne_nil _ h
        obtain ⟨h1, h2⟩ := hum.mp hoo
        exact List.mem_map.mpr ⟨o, h1, h2⟩
      · intro h
        obtain ⟨o, h1, h2⟩ := List.mem_map.mp h
        exact List.ne_nil_of_mem (hum.mpr ⟨h1, h2⟩)
    rw [hkey]
    refine and_congr_right fun hz => ?_
    have hzl : z.length = c := by
      obtain ⟨o, h1, rfl⟩ := List.mem_map.mp hz
      rw [List.length_take, hr.w o h1]; omega
    -- the tails
    have nd2 : (((under P z).filter fun r => decide (r.drop c ∈ os)).map (·.drop c)).Nodup := by
      refine List.pairwise_map.mpr (((hund z).filter _).imp_of_mem fun {a b} ha hb ne e => ne ?_)
      have h1 := (hum.mp (List.mem_filter.mp ha).1).2
      have h2 := (hum.mp (List.mem_filter.mp hb).1).2
      rw [← List.take_append_drop c a, ← List.take_append_drop c b, h1, h2, e]
    have hsub : ∀ x ∈ ((under P z).filter fun r => decide (r.drop c ∈ os)).map (·.drop c), x ∈ os := fun x hx => by
      obtain ⟨r, hrr, rfl⟩ := List.mem_map.mp hx
      exact of_decide_eq_true (List.mem_filter.mp hrr).2
    have hin : ∀ o, z ++ o ∈ rs → o ∈ os → o ∈ ((under P z).filter fun r => decide (r.drop c ∈ os)).map (·.drop c) := fun o h1 h2 => by
      have hd : (z ++ o).drop c = o := by rw [← hzl, List.drop_left]
      have ht : (z ++ o).take c = z := by rw [← hzl, List.take_left]
      exact List.mem_map.mpr ⟨z ++ o, List.mem_filter.mpr ⟨hum.mpr ⟨h1, ht⟩, by rw [hd]; exact decide_eq_true h2⟩, hd⟩
    constructor
    · intro hlen o hoo
      have := all_of_len nd2 hsub (by rw [List.length_map]; omega) o hoo
      obtain ⟨r, hrr, rfl⟩ := List.mem_map.mp this
      have hru := hum.mp (List.mem_filter.mp hrr).1
      rw [decide_eq_true_eq, ← hru.2, List.take_append_drop]
      exact hru.1
    · intro h
      have h1 := nd2.length_le_of_subset (l₂ := os) hsub
      have h2 := (nd_of_asc ho.asc).length_le_of_subset fun o hoo => hin o (of_decide_eq_true (h o hoo)) hoo
      rw [List.length_map] at h1 h2
      omega
  have hfl : (((rns P).map (·.1)).filter (fun k => decide ((((under P k).filter fun r => decide (r.drop c ∈ os)).length : Int) = (os.length : Int)))).length ≤ m := by
    have hnd := (keys_nd hu).filter (fun k => decide ((((under P k).filter fun r => decide (r.drop c ∈ os)).length : Int) = (os.length : Int)))
    refine Nat.le_trans ((show List.Nodup _ from hnd).length_le_of_subset (l₂ := rs.map (·.take c)) fun z hz => ?_) (by rw [List.length_map]; exact hrm)
    exact (List.mem_filter.mp ((hmem z).mp hz)).1
  refine ⟨_, ?_, hfl, hmem⟩
  -- the walk
  have h3 : PL.run (callK prg (k + 1)) x_divided_3 [some (.tup (rs.map tupD)), some (.tup (os.map tupD)), some (.int (c : Int)), some (grpD P), none, none, none, none] W = .ok (.lst (os.map fun o => .tup [tupD o, .bl true])) W := by
    have hI : runI (callK prg (k + 1)) (.seq (.var 1)) [some (.tup (rs.map tupD)), some (.tup (os.map tupD)), some (.int (c : Int)), some (grpD P), none, none, none, none] W = .ok (os.map tupD) W := by simp
    unfold x_divided_3
    rw [run_lc, hI]
    show ((lcLoop _ _ _ (os.map tupD) W).bndX _) = _
    rw [lc_mapi tupD (fun o => .tup [tupD o, .bl true])]
    · show (if _ then _ else _) = _
      rw [if_pos (by rw [List.length_map]; omega)]
    · intro o hoo
      refine ⟨_, rfl, rfl, ?_⟩
      generalize tupD o = t
      simp
  have h1 : ∀ key, key ∈ (rns P).map (·.1) → ∀ a6 a7, PL.run (callK prg (k + 1)) x_divided_1 [some (.tup (rs.map tupD)), some (.tup (os.map tupD)), some (.int (c : Int)), some (grpD P), some (wantD os), some (tupD key), a6, a7] W = .ok (.lst (((under P key).filter fun r => decide (r.drop c ∈ os)).map tupD)) W := by
    intro key hk a6 a7
    have hx := ix_grp W hu (rns_keys.mp hk)
    have hI : runI (callK prg (k + 1)) (.seq (.ix (.var 3) (.var 5))) [some (.tup (rs.map tupD)), some (.tup (os.map tupD)), some (.int (c : Int)), some (grpD P), some (wantD os), some (tupD key), a6, a7] W = .ok ((under P key).map tupD) W := by
      generalize (under P key).map tupD = u at hx ⊢
      generalize grpD P = g at hx ⊢
      generalize tupD key = t at hx ⊢
      simp [hx]
    unfold x_divided_1
    rw [run_lc, hI]
    show ((lcLoop _ _ _ ((under P key).map tupD) W).bndX _) = _
    rw [lc_filt tupD tupD (fun r => decide (r.drop c ∈ os))]
    · show (if _ then _ else _) = _
      have := under_len pp key
      rw [if_pos (by rw [List.length_map]; exact Nat.le_trans (List.length_filter_le _ _) (by omega))]
    · intro r hrr
      have hrl := hr.w r (hum.mp hrr).1
      have e1 := sl_drop W r c (by omega)
      have e2 := want_in W os (r.drop c)
      refine ⟨_, rfl, ?_, fun _ => rfl⟩
      generalize wantD os = w at e2 ⊢
      generalize tupD (r.drop c) = d at e1 e2 ⊢
      generalize tupD r = t at e1 ⊢
      simp [e1, e2, oB]
  have h2 : PL.run (callK prg (k + 1)) x_divided_2 [some (.tup (rs.map tupD)), some (.tup (os.map tupD)), some (.int (c : Int)), some (grpD P), some (wantD os), none, none, none] W = .ok (.lst ((((rns P).map (·.1)).filter (fun k => decide ((((under P k).filter fun r => decide (r.drop c ∈ os)).length : Int) = (os.length : Int)))).map tupD)) W := by
    have hI := isKeys (k + 1) P 3 [some (.tup (rs.map tupD)), some (.tup (os.map tupD)), some (.int (c : Int)), some (grpD P), some (wantD os), none, none, none] rfl W
    unfold x_divided_2
    rw [run_lc, hI]
    show ((lcLoop _ _ _ (((rns P).map (·.1)).map tupD) W).bndX _) = _
    rw [lc_filt tupD tupD (fun k => decide ((((under P k).filter fun r => decide (r.drop c ∈ os)).length : Int) = (os.length : Int)))]
    · show (if _ then _ else _) = _
      rw [if_pos (by rw [List.length_map]; exact Nat.le_trans hfl (by omega))]
    · intro key hk
      have e1 := h1 key hk none none
      have e2 := want_len W os
      have hll : (((under P key).filter fun r => decide (r.drop c ∈ os)).map tupD).length = ((under P key).filter fun r => decide (r.drop c ∈ os)).length := List.length_map _
      refine ⟨[some (.tup (rs.map tupD)), some (.tup (os.map tupD)), some (.int (c : Int)), some (grpD P), some (wantD os), some (tupD key), none, none], rfl, ?_, fun _ => rfl⟩
      generalize ((under P key).filter fun r => decide (r.drop c ∈ os)).map tupD = u at e1 hll ⊢
      generalize ((under P key).filter fun r => decide (r.drop c ∈ os)).length = ul at hll ⊢
      generalize os.length = ol at e2 ⊢
      generalize wantD os = w at e1 e2 ⊢
      generalize x_divided_1 = y1 at e1 ⊢
      generalize grpD P = g at e1 ⊢
      generalize rs.map tupD = R0 at e1 ⊢
      generalize os.map tupD = O0 at e1 ⊢
      generalize tupD key = t at e1 ⊢
      simp [e1, e2, hll, oB]
      exact Bool.eq_iff_iff.mpr (by simp)
  have hlr : dLrg (.int 0) (.int (c : Int)) = some (.lst (natsD (List.range c))) := by
    have hb : dRange 0 (c : Int) = some ((List.range c).map fun (i : Nat) => .int ((i : Int))) := by
      have := rng_ok (c : Int) (by omega) (by omega)
      simpa using this
    have hc2 : c ≤ 16777216 := by omega
    simp [dLrg, hb, hc2, natsD]
  have hw := want_dict W (nd_of_asc ho.asc)
  rw [c_divided]
  unfold f_divided
  generalize ((((rns P).map (·.1)).filter (fun k => decide ((((under P k).filter fun r => decide (r.drop c ∈ os)).length : Int) = (os.length : Int)))).map tupD) = fl at h2 ⊢
  generalize (os.map fun o => D.tup [tupD o, .bl true]) = wl at h3 hw
  generalize wantD os = w at h2 hw
  generalize grpD P = gd at hg h3 h2
  generalize natsD (List.range c) = nd at hg hlr
  generalize rs.map tupD = R0 at hg h3 h2 ⊢
  generalize os.map tupD = O0 at h3 h2 ⊢
  generalize x_divided_3 = y3 at h3 ⊢
  generalize x_divided_2 = y2 at h2 ⊢
  simp [hlr, hg, h3, hw, h2]
end LW

namespace LW
open PySem PL
theorem s_not_is : (("not" : Str) == ("is" : Str)) = false := by decide +kernel
theorem s_not_is' : ¬ ("not" : Str) = ("is" : Str) := by decide +kernel
theorem s_val_col : ¬ ("value" : Str) = ("column" : Str) := by decide +kernel
theorem hold (k : Nat) {r : Row} {q : Tst} (h : OkTst r.length q) (W : Wd) : callK prg (k + 1) "does_hold" [tupD r, q.d] W = .ok (.bl (holdB r q)) W := by
  obtain ⟨c, is, col, v⟩ := q
  obtain ⟨h1, h2, h3⟩ := h
  simp only at h1 h2 h3
  rw [c_does_hold]
  have e1 := ix_row W h1
  cases col with
  | true =>
    obtain ⟨i, rfl, hi⟩ := h2 rfl
    have e2 := ix_row W hi
    cases is
    all_goals
      unfold holdB
      simp only [Int.toNat_natCast, if_true]
      generalize at0 r c = x at e1 ⊢
      generalize at0 r i = y at e2 ⊢
      generalize tupD r = t at e1 e2 ⊢
      by_cases e : x = y <;> simp [f_does_hold, Tst.d, e1, e2, e, dEq, pyW, PyData.depth, PyData.eqv, s_not_is, s_not_is']
  | false =>
    cases is
    all_goals
      unfold holdB
      generalize at0 r c = x at e1 ⊢
      generalize tupD r = t at e1 ⊢
      by_cases e : x = v <;> simp [f_does_hold, Tst.d, e1, e, dEq, pyW, PyData.depth, PyData.eqv, s_not_is, s_not_is', s_val_col]
theorem select (k : Nat) {rs : List Row} {n m : Nat} (hr : OkRows rs n m) (hm : m ≤ 1000) {ts : List Tst} (hl : ts.length ≤ 6) (ht : ∀ q ∈ ts, OkTst n q) (td : D) (a2 a3 a4 : Option D) (W : Wd) :
    PL.run (callK prg (k + 1)) x_one_done_4 [some (.tup [.str "select", td, .tup (ts.map Tst.d)]), some (.tup (rs.map tupD)), a2, a3, a4] W = .ok (.lst ((selL rs ts).map tupD)) W := by
  have hrm := hr.few
  have h3 : ∀ r ∈ rs, ∀ a3 a4, PL.run (callK prg (k + 1)) x_one_done_3 [some (.tup [.str "select", td, .tup (ts.map Tst.d)]), some (.tup (rs.map tupD)), some (tupD r), a3, a4] W = .ok (.lst (ts.map fun q => .bl (holdB r q))) W := by
    intro r hrr a3 a4
    have hI : runI (callK prg (k + 1)) (.seq (.ix (.var 0) (.cst (.int (2))))) [some (.tup [.str "select", td, .tup (ts.map Tst.d)]), some (.tup (rs.map tupD)), some (tupD r), a3, a4] W = .ok (ts.map Tst.d) W := by simp
    unfold x_one_done_3
    rw [run_lc, hI]
    show ((lcLoop _ _ _ (ts.map Tst.d) W).bndX _) = _
    rw [lc_mapi Tst.d (fun q => .bl (holdB r q))]
    · show (if _ then _ else _) = _
      rw [if_pos (by rw [List.length_map]; omega)]
    · intro q hq
      have e := hold k (r := r) (q := q) (by rw [hr.w r hrr]; exact ht q hq) W
      refine ⟨_, rfl, rfl, ?_⟩
      generalize tupD r = t at e ⊢
      generalize q.d = qd at e ⊢
      simp [e]
  have hI : runI (callK prg (k + 1)) (.seq (.var 1)) [some (.tup [.str "select", td, .tup (ts.map Tst.d)]), some (.tup (rs.map tupD)), a2, a3, a4] W = .ok (rs.map tupD) W := by simp
  unfold x_one_done_4
  rw [run_lc, hI]
  show ((lcLoop _ _ _ (rs.map tupD) W).bndX _) = _
  rw [lc_filt tupD tupD (fun r => ts.all (holdB r))]
  · show (if _ then _ else _) = _
    rw [if_pos (by rw [List.length_map]; exact Nat.le_trans (List.length_filter_le _ _) (by omega))]
    rfl
  · intro r hrr
    have e := h3 r hrr a3 a4
    have hb := bls_map (holdB r) ts
    refine ⟨[some (.tup [.str "select", td, .tup (ts.map Tst.d)]), some (.tup (rs.map tupD)), some (tupD r), a3, a4], rfl, ?_, fun _ => rfl⟩
    generalize (ts.map fun q => D.bl (holdB r q)) = bl at e hb
    generalize ts.map Tst.d = td2 at e ⊢
    generalize rs.map tupD = R0 at e ⊢
    generalize tupD r = t at e ⊢
    generalize x_one_done_3 = y at e ⊢
    simp [e, hb, Function.comp_def]
theorem project (k : Nat) {rs : List Row} {n m : Nat} (hr : OkRows rs n m) (hm : m ≤ 1000) {cs : List Nat} (hl : cs.length ≤ 12) (hc : ∀ c ∈ cs, c < n) (td : D) (a2 a3 a4 : Option D) (W : Wd) :
    PL.run (callK prg k) x_one_done_2 [some (.tup [.str "project", td, .tup (natsD cs)]), some (.tup (rs.map tupD)), a2, a3, a4] W = .ok (.lst ((rs.map (proj cs)).map tupD)) W := by
  have hrm := hr.few
  have hcl : cs.length ≤ 16777216 := by omega
  have h3 : ∀ r ∈ rs, ∀ a3 a4, PL.run (callK prg k) x_one_done_1 [some (.tup [.str "project", td, .tup (natsD cs)]), some (.tup (rs.map tupD)), some (tupD r), a3, a4] W = .ok (.lst ((proj cs r).map .int)) W := by
    intro r hrr a3 a4
    have hI : runI (callK prg k) (.seq (.ix (.var 0) (.cst (.int (2))))) [some (.tup [.str "project", td, .tup (natsD cs)]), some (.tup (rs.map tupD)), some (tupD r), a3, a4] W = .ok (cs.map fun (i : Nat) => .int (i : Int)) W := by simp [natsD]
    unfold x_one_done_1
    rw [run_lc, hI]
    show ((lcLoop _ _ _ (cs.map fun (i : Nat) => D.int (i : Int)) W).bndX _) = _
    rw [lc_mapi (fun (i : Nat) => D.int (i : Int)) (fun c => .int (at0 r c))]
    · simp [proj, hcl]
    · intro c hcc
      have := ix_row W (r := r) (c := c) (by rw [hr.w r hrr]; exact hc c hcc)
      refine ⟨_, rfl, rfl, ?_⟩
      generalize tupD r = t at this ⊢
      simp [this]
  have hI : runI (callK prg k) (.seq (.var 1)) [some (.tup [.str "project", td, .tup (natsD cs)]), some (.tup (rs.map tupD)), a2, a3, a4] W = .ok (rs.map tupD) W := by simp
  unfold x_one_done_2
  rw [run_lc, hI]
  show ((lcLoop _ _ _ (rs.map tupD) W).bndX _) = _
  rw [lc_mapi tupD (fun r => tupD (proj cs r))]
  · show (if _ then _ else _) = _
    rw [if_pos (by rw [List.length_map]; omega), List.map_map]
    rfl
  · intro r hrr
    have e := h3 r hrr a3 a4
    refine ⟨[some (.tup [.str "project", td, .tup (natsD cs)]), some (.tup (rs.map tupD)), some (tupD r), a3, a4], rfl, rfl, ?_⟩
    have h4 : (proj cs r).length ≤ 16777216 := by simp [proj, hcl]
    have e2 : tupD (proj cs r) = .tup ((proj cs r).map .int) := rfl
    rw [e2]
    generalize natsD cs = nd at e ⊢
    generalize rs.map tupD = R0 at e ⊢
    generalize tupD r = t at e ⊢
    generalize x_one_done_1 = y at e ⊢
    simp [e, h4]
theorem one_sel (k : Nat) {rs : List Row} {n m : Nat} (hr : OkRows rs n m) (hm : m ≤ 1000) {ts : List Tst} (hl : ts.length ≤ 6) (ht : ∀ q ∈ ts, OkTst n q) (t : Tr) (W : Wd) :
    callK prg (k + 2) "one_done" [(Tr.sel t ts).d, .tup (rs.map tupD)] W = .ok (.lst ((selL rs ts).map tupD)) W := by
  have e := select k hr hm hl ht t.d none none none W
  rw [c_one_done]
  unfold f_one_done
  generalize x_one_done_4 = y at e ⊢
  generalize x_one_done_2 = y2
  simp only [Tr.d]
  generalize ts.map Tst.d = td2 at e ⊢
  generalize rs.map tupD = R0 at e ⊢
  generalize (selL rs ts).map tupD = fl at e ⊢
  simp [e]
theorem one_prj (k : Nat) {rs : List Row} {n m : Nat} (hr : OkRows rs n m) (hm : m ≤ 1000) {cs : List Nat} (hl : cs.length ≤ 12) (hc : ∀ c ∈ cs, c < n) (t : Tr) (W : Wd) :
    callK prg (k + 1) "one_done" [(Tr.prj t cs).d, .tup (rs.map tupD)] W = .ok (.lst ((rs.map (proj cs)).map tupD)) W := by
  have e := project k hr hm hl hc t.d none none none W
  rw [c_one_done]
  unfold f_one_done
  generalize x_one_done_4 = y
  generalize x_one_done_2 = y2 at e ⊢
  simp only [Tr.d]
  generalize natsD cs = nd at e ⊢
  generalize (rs.map (proj cs)).map tupD = fl at e ⊢
  generalize rs.map tupD = R0 at e ⊢
  simp [e]
theorem one_crd (k : Nat) {rs : List Row} {n m : Nat} (hr : OkRows rs n m) (hn : n ≤ 12) (hm : m ≤ 1000) {cs : List Nat} (hc : ∀ c ∈ cs, c < n) (hcl : cs.length ≤ 12) (l : Nat) (t : Tr) (W : Wd) :
    ∃ found : List Row, callK prg (k + 3) "one_done" [(Tr.crd t cs l).d, .tup (rs.map tupD)] W = .ok (.lst (found.map tupD)) W ∧ found.length ≤ m ∧ ∀ z, z ∈ found ↔ z ∈ crdL rs cs l := by
  obtain ⟨fl, e, h1, h2⟩ := crowded k hr hn hm hc hcl l W
  refine ⟨fl, ?_, h1, h2⟩
  rw [c_one_done]
  unfold f_one_done
  generalize x_one_done_4 = y
  generalize x_one_done_2 = y2
  simp only [Tr.d]
  generalize natsD cs = nd at e ⊢
  generalize fl.map tupD = fl2 at e ⊢
  generalize rs.map tupD = R0 at e ⊢
  simp [e]
end LW

namespace LW
open PySem PL
theorem s_is_str : ∀ b : Bool, isiB "str" "str" = true := fun _ => by decide +kernel
theorem word_in (b : Bool) (W : Wd) : dIn W (.str (if b = true then "is" else "not")) (.tup [.str "is", .str "not"]) = some true := by
  rw [in_strs W _ (b := .tup [.str "is", .str "not"]) (ns := ["is", "not"]) rfl]
  cases b <;> decide +kernel
theorem ftest (k : Nat) {n : Nat} {q : Tst} (h : OkTst n q) (W : Wd) : callK prg (k + 3) "fits_test" [.int (n : Int), q.d] W = .ok (.bl true) W := by
  obtain ⟨c, is, col, v⟩ := q
  obtain ⟨h1, h2, h3⟩ := h
  simp only at h1 h2 h3
  have hw := word_in is W
  have c1 : (0 : Int) ≤ (c : Int) ∧ (c : Int) ≤ (n : Int) - 1 := by omega
  have x1 : ∀ w1 w2 : Str, PL.run (callK prg (k + 2)) x_fits_test_1 [some (.int (n : Int)), some (.tup [.int (c : Int), .str w1, .str w2, .int v]), none] W = .ok (.lst [.bl true, .bl true]) W := by
    intro w1 w2
    have hs : dSl W (.tup [.int (c : Int), .str w1, .str w2, .int v]) (some 1) (some 3) = some (.tup [.str w1, .str w2]) := by
      simp [dSl, cutD, HT.sIx]
    have hI : runI (callK prg (k + 2)) (.seq (.sl (.var 1) (.yes (.cst (.int (1)))) (.yes (.cst (.int (3)))))) [some (.int (n : Int)), some (.tup [.int (c : Int), .str w1, .str w2, .int v]), none] W = .ok ([w1, w2].map .str) W := by
      simp [hs]
    unfold x_fits_test_1
    rw [run_lc, hI]
    simp only [R.bnd]
    rw [lc_mapi D.str (fun _ => .bl true)]
    · rfl
    · intro w _
      refine ⟨_, rfl, rfl, ?_⟩
      show (match tyName W (.str w) with | some A => R.ok (D.bl (isiB A "str")) W | none => .bad) = _
      rfl
  have x := x1 (if is = true then "is" else "not") (if col = true then "column" else "value")
  rw [c_fits_test]
  unfold f_fits_test
  cases col with
  | true =>
    obtain ⟨i, rfl, hi⟩ := h2 rfl
    have c2 : (0 : Int) ≤ (i : Int) ∧ (i : Int) ≤ (n : Int) - 1 := by omega
    simp only [Tst.d]
    simp only [if_true] at x
    generalize (if is = true then ("is" : Str) else "not") = w at x hw ⊢
    generalize x_fits_test_1 = y at x ⊢
    simp [ist (k + 1), isw (k + 1), c1.2, c2.2, x, PL.bls, hw, oNB]
  | false =>
    obtain ⟨g1, g2⟩ := h3 rfl
    simp only [Tst.d]
    simp only [Bool.false_eq_true, if_false] at x
    generalize (if is = true then ("is" : Str) else "not") = w at x hw ⊢
    generalize x_fits_test_1 = y at x ⊢
    simp [ist (k + 1), isw (k + 1), fval k, c1.2, g1, g2, x, PL.bls, hw, oNB, s_val_col]
theorem arecol (k : Nat) {n : Nat} {cs : List Nat} (hl : cs.length ≤ 12) (hc : ∀ c ∈ cs, c < n) (W : Wd) : callK prg (k + 2) "are_columns" [.int (n : Int), .int 12, .tup (natsD cs)] W = .ok (.bl true) W := by
  have h1 : cs.length ≤ 16777216 := by omega
  have x : PL.run (callK prg (k + 1)) x_are_columns_1 [some (.int (n : Int)), some (.int 12), some (.tup (natsD cs)), none] W = .ok (.lst (cs.map fun _ => .bl true)) W := by
    have hI : runI (callK prg (k + 1)) (.seq (.var 2)) [some (.int (n : Int)), some (.int 12), some (.tup (natsD cs)), none] W = .ok (cs.map fun (i : Nat) => .int (i : Int)) W := by simp [natsD]
    unfold x_are_columns_1
    rw [run_lc, hI]
    show ((lcLoop _ _ _ (cs.map fun (i : Nat) => D.int (i : Int)) W).bndX _) = _
    rw [lc_mapi (fun (i : Nat) => D.int (i : Int)) (fun _ => .bl true)]
    · simp [h1]
    · intro c hcc
      have h2 : (c : Int) ≤ (n : Int) - 1 := by have := hc c hcc; omega
      exact ⟨_, rfl, rfl, by simp [isw k, h2]⟩
  have hb := bls_map (fun _ : Nat => true) cs
  have hl2 : (natsD cs).length = cs.length := List.length_map _
  have hl3 : (cs.length : Int) ≤ 12 := by omega
  rw [c_are_columns]
  unfold f_are_columns
  generalize (cs.map fun _ => D.bl true) = bl at x hb
  generalize natsD cs = nd at x hl2 ⊢
  generalize x_are_columns_1 = y at x ⊢
  simp [ist k, x, hb, hl2, hl3]
theorem arepr (k : Nat) {n i : Nat} {ps : List (Nat × Nat)} (hl : ps.length ≤ 6) (hp : ∀ p ∈ ps, p.1 < n ∧ p.2 < i) (W : Wd) : callK prg (k + 2) "are_pairs" [.int (n : Int), .int (i : Int), psD ps] W = .ok (.bl true) W := by
  have h1 : ps.length ≤ 16777216 := by omega
  have x2 : PL.run (callK prg (k + 1)) x_are_pairs_2 [some (.int (n : Int)), some (.int (i : Int)), some (psD ps), none, none, none] W = .ok (.lst (ps.map fun _ => .bl true)) W := by
    have hI : runI (callK prg (k + 1)) (.seq (.var 2)) [some (.int (n : Int)), some (.int (i : Int)), some (psD ps), none, none, none] W = .ok (ps.map prD) W := by simp [psD]
    unfold x_are_pairs_2
    rw [run_lc, hI]
    show ((lcLoop _ _ _ (ps.map prD) W).bndX _) = _
    rw [lc_mapi prD (fun _ => .bl true)]
    · simp [h1]
    · intro p hpp
      exact ⟨_, rfl, rfl, by simp [prD, ist k]⟩
  have x1 : PL.run (callK prg (k + 1)) x_are_pairs_1 [some (.int (n : Int)), some (.int (i : Int)), some (psD ps), none, none, none] W = .ok (.lst (ps.map fun _ => .bl true)) W := by
    have hI : runI (callK prg (k + 1)) (.seq (.var 2)) [some (.int (n : Int)), some (.int (i : Int)), some (psD ps), none, none, none] W = .ok (ps.map prD) W := by simp [psD]
    unfold x_are_pairs_1
    rw [run_lc, hI]
    show ((lcLoop _ _ _ (ps.map prD) W).bndX _) = _
    rw [lc_mapi prD (fun _ => .bl true)]
    · simp [h1]
    · intro p hpp
      have h2 : (p.1 : Int) ≤ (n : Int) - 1 := by have := hp p hpp; omega
      have h3 : (p.2 : Int) ≤ (i : Int) - 1 := by have := hp p hpp; omega
      exact ⟨_, rfl, rfl, by simp [isw k, h2, h3]⟩
  have hb := bls_map (fun _ : Nat × Nat => true) ps
  have hl3 : (ps.length : Int) ≤ 6 := by omega
  rw [c_are_pairs]
  unfold f_are_pairs
  generalize (ps.map fun _ => D.bl true) = bl at x1 x2 hb
  have hi : callK prg (k + 1) "is_tuple_of" [psD ps, .int 0, .int 6] W = .ok (.bl true) W := by rw [psD, ist k]; simp [hl3]
  generalize psD ps = pd at x1 x2 hi ⊢
  generalize x_are_pairs_1 = y1 at x1 ⊢
  generalize x_are_pairs_2 = y2 at x2 ⊢
  simp [hi, x1, x2, hb]
end LW

namespace LW
open PySem PL
@[simp] theorem cut2_3 (W : Wd) (a b c : D) : dSl W (.tup [a, b, c]) (some 2) none = some (.tup [c]) := by simp [dSl, cutD, HT.sIx]
@[simp] theorem cut2_4 (W : Wd) (a b c d : D) : dSl W (.tup [a, b, c, d]) (some 2) none = some (.tup [c, d]) := by simp [dSl, cutD, HT.sIx]
@[simp] theorem cut3_3 (W : Wd) (a b c : D) : dSl W (.tup [a, b, c]) (some 3) none = some (.tup []) := by simp [dSl, cutD, HT.sIx]
@[simp] theorem cut3_4 (W : Wd) (a b c d : D) : dSl W (.tup [a, b, c, d]) (some 3) none = some (.tup [d]) := by simp [dSl, cutD, HT.sIx]
theorem c1_sel (k : Nat) {n : Nat} {ts : List Tst} (hl : ts.length ≤ 6) (ht : ∀ q ∈ ts, OkTst n q) (t : Tr) (W : Wd) : callK prg (k + 4) "columns_of_one" [(Tr.sel t ts).d, .int (n : Int)] W = .ok (.int (n : Int)) W := by
  have h1 : ts.length ≤ 16777216 := by omega
  have hl3 : (ts.length : Int) ≤ 6 := by omega
  have x : PL.run (callK prg (k + 3)) x_columns_of_one_1 [some (.tup [.str "select", t.d, .tup (ts.map Tst.d)]), some (.int (n : Int)), some (.str "select"), some (.tup [.tup (ts.map Tst.d)]), none] W = .ok (.lst (ts.map fun _ => .bl true)) W := by
    have hI : runI (callK prg (k + 3)) (.seq (.ix (.var 3) (.cst (.int (0))))) [some (.tup [.str "select", t.d, .tup (ts.map Tst.d)]), some (.int (n : Int)), some (.str "select"), some (.tup [.tup (ts.map Tst.d)]), none] W = .ok (ts.map Tst.d) W := by simp
    unfold x_columns_of_one_1
    rw [run_lc, hI]
    show ((lcLoop _ _ _ (ts.map Tst.d) W).bndX _) = _
    rw [lc_mapi Tst.d (fun _ => .bl true)]
    · simp [h1]
    · intro q hq
      have e := ftest k (ht q hq) W
      exact ⟨_, rfl, rfl, by simp [e]⟩
  have hb := bls_map (fun _ : Tst => true) ts
  have hi : callK prg (k + 3) "is_tuple_of" [.tup (ts.map Tst.d), .int 0, .int 6] W = .ok (.bl true) W := by rw [ist (k + 2)]; simp [hl3]
  rw [c_columns_of_one]
  unfold f_columns_of_one
  simp only [Tr.d]
  generalize (ts.map fun _ => D.bl true) = bl at x hb
  generalize ts.map Tst.d = td at x hi ⊢
  generalize x_columns_of_one_1 = y at x ⊢
  simp [x, hb, hi]
theorem c1_prj (k : Nat) {n : Nat} {cs : List Nat} (hl : cs.length ≤ 12) (hc : ∀ c ∈ cs, c < n) (t : Tr) (W : Wd) : callK prg (k + 3) "columns_of_one" [(Tr.prj t cs).d, .int (n : Int)] W = .ok (.int (cs.length : Int)) W := by
  have e := arecol k hl hc W
  have hl2 : (natsD cs).length = cs.length := List.length_map _
  rw [c_columns_of_one]
  unfold f_columns_of_one
  simp only [Tr.d]
  generalize natsD cs = nd at e hl2 ⊢
  generalize x_columns_of_one_1 = y
  simp [e, hl2]
theorem sortI_nd {ns : List Int} (h : ns.Nodup) : (sortI ns).length = ns.length := by
  have h2 : (sortI ns).Nodup := (sortI_pw ns).imp fun {a b} h => by omega
  exact Nat.le_antisymm (h2.length_le_of_subset fun z hz => sortI_mem.mp hz) (h.length_le_of_subset fun z hz => sortI_mem.mpr hz)
theorem set_nats (W : Wd) {cs : List Nat} (hl : cs.length ≤ 12) (h : cs.Nodup) : ∃ S : List D, dSet W [.tup (natsD cs)] = some (.set S) ∧ S.length = cs.length := by
  have e1 : natsD cs = (cs.map fun (i : Nat) => (i : Int)).map .int := by simp [natsD, Function.comp_def]
  refine ⟨(sortI (cs.map fun (i : Nat) => (i : Int))).map .int, ?_, ?_⟩
  · rw [set_ints W (b := .tup (natsD cs)) (ns := cs.map fun (i : Nat) => (i : Int)) (by rw [← e1]; rfl) (by rw [List.length_map]; omega)]
  · have hn : (cs.map fun (i : Nat) => (i : Int)).Nodup := List.pairwise_map.mpr (h.imp fun {a b} ne e => ne (by omega))
    rw [List.length_map, sortI_nd hn, List.length_map]
theorem c1_crd (k : Nat) {n l : Nat} {cs : List Nat} (hl : cs.length ≤ 12) (hc : ∀ c ∈ cs, c < n) (hn : cs.Nodup) (h1 : 1 ≤ l) (h2 : l ≤ 40) (t : Tr) (W : Wd) : callK prg (k + 3) "columns_of_one" [(Tr.crd t cs l).d, .int (n : Int)] W = .ok (.int (n : Int)) W := by
  have e := arecol k hl hc W
  have hl2 : (natsD cs).length = cs.length := List.length_map _
  obtain ⟨S, hs, hS⟩ := set_nats W hl hn
  have w := isw (k + 1) (l : Int) 1 40 W
  have g1 : (1 : Int) ≤ (l : Int) := by omega
  have g2 : (l : Int) ≤ 40 := by omega
  rw [decide_eq_true g1, decide_eq_true g2] at w
  rw [c_columns_of_one]
  unfold f_columns_of_one
  simp only [Tr.d]
  generalize natsD cs = nd at e hl2 hs ⊢
  generalize x_columns_of_one_1 = y
  simp [e, hl2, hs, hS, w]
theorem c2_jn (k : Nat) {n i : Nat} {ps : List (Nat × Nat)} (hl : ps.length ≤ 6) (hp : ∀ p ∈ ps, p.1 < n ∧ p.2 < i) (a b : Tr) (W : Wd) : callK prg (k + 3) "columns_of_two" [(Tr.jn a b ps).d, .int (n : Int), .int (i : Int)] W = .ok (.int ((n + i : Nat) : Int)) W := by
  have e := arepr k hl hp W
  unfold psD at e
  rw [c_columns_of_two]
  unfold f_columns_of_two
  simp only [Tr.d]
  generalize (D.tup (ps.map prD)) = pd at e ⊢
  simp [e, dAdd]
theorem c2_prd (k : Nat) (n i : Nat) (a b : Tr) (W : Wd) : callK prg (k + 1) "columns_of_two" [(Tr.prd a b).d, .int (n : Int), .int (i : Int)] W = .ok (.int ((n + i : Nat) : Int)) W := by
  have h0 := eq_tnil W (xs := []) rfl
  rw [c_columns_of_two]
  simp [f_columns_of_two, Tr.d, dAdd, h0, oNB]
theorem c2_dvd (k : Nat) {n i : Nat} (h : i ≤ n) (a b : Tr) (W : Wd) : callK prg (k + 1) "columns_of_two" [(Tr.dvd a b).d, .int (n : Int), .int (i : Int)] W = .ok (.int ((n - i : Nat) : Int)) W := by
  have h0 := eq_tnil W (xs := []) rfl
  have h1 : (i : Int) ≤ (n : Int) := by omega
  have h2 : ((n - i : Nat) : Int) = (n : Int) - (i : Int) := by omega
  rw [c_columns_of_two, h2]
  simp [f_columns_of_two, Tr.d, dSub, h0, oNB, h1]
theorem c2_uni (k : Nat) (n : Nat) (a b : Tr) (W : Wd) : callK prg (k + 1) "columns_of_two" [(Tr.uni a b).d, .int (n : Int), .int (n : Int)] W = .ok (.int (n : Int)) W := by
  have h0 := eq_tnil W (xs := []) rfl
  rw [c_columns_of_two]
  simp [f_columns_of_two, Tr.d, h0, oNB]
theorem c2_lft (k : Nat) (n : Nat) (a b : Tr) (W : Wd) : callK prg (k + 1) "columns_of_two" [(Tr.lft a b).d, .int (n : Int), .int (n : Int)] W = .ok (.int (n : Int)) W := by
  have h0 := eq_tnil W (xs := []) rfl
  rw [c_columns_of_two]
  simp [f_columns_of_two, Tr.d, h0, oNB]
end LW

namespace LW
open PySem PL
theorem ones_in (W : Wd) (w : Str) : dIn W (.str w) (.tup [.str ("select" : Str), .str ("project" : Str), .str ("crowd" : Str)]) = some (decide (w ∈ (["select", "project", "crowd"] : List Str))) := in_strs W w (b := .tup [.str "select", .str "project", .str "crowd"]) (ns := ["select", "project", "crowd"]) rfl
theorem twos_in (W : Wd) (w : Str) : dIn W (.str w) (.tup [.str ("product" : Str), .str ("join" : Str), .str ("union" : Str), .str ("leftover" : Str), .str ("divide" : Str)]) = some (decide (w ∈ (["product", "join", "union", "leftover", "divide"] : List Str))) := in_strs W w (b := .tup [.str "product", .str "join", .str "union", .str "leftover", .str "divide"]) (ns := ["product", "join", "union", "leftover", "divide"]) rfl
theorem cb_tab (k : Nat) {s : Sto} (hs : OkSt s) {x : Str} {t : Tb} (hm : (x, t) ∈ s) (W : Wd) : callK prg (k + 2) "columns_by" [stD s, (Tr.tab x).d] W = .ok (.int (t.c : Int)) W := by
  have hf : s.filter (fun p => decide (p.1 = x)) = [(x, t)] := by
    have pw := hs.asc
    have hnd : s.Pairwise fun a b => a.1 ≠ b.1 := pw.imp fun {a b} h e => by rw [e] at h; exact List.lt_irrefl _ h
    clear hs pw
    induction s with
    | nil => cases hm
    | cons p s ih =>
      obtain ⟨p1, p2⟩ := List.pairwise_cons.mp hnd
      rcases List.mem_cons.mp hm with rfl | hm
      · rw [List.filter_cons, if_pos (by simp)]
        congr 1
        rw [List.filter_eq_nil_iff]
        intro q hq
        have := p1 q hq
        simpa using fun e => this e.symm
      · rw [List.filter_cons, if_neg (by simpa using fun e => p1 _ hm e), ih hm p2]
  have hx : PL.run (callK prg (k + 1)) x_columns_by_1 [some (stD s), some (.tup [.str "table", .str x]), none, none, none, none, none, none, none] W = .ok (.lst [t.d]) W := by
    have hI : runI (callK prg (k + 1)) (.seq (.var 0)) [some (stD s), some (.tup [.str "table", .str x]), none, none, none, none, none, none, none] W = .ok (s.map enD) W := by simp [stD]
    unfold x_columns_by_1
    rw [run_lc, hI]
    show ((lcLoop _ _ _ (s.map enD) W).bndX _) = _
    rw [lc_filt enD (fun p => p.2.d) (fun p => decide (p.1 = x)), hf]
    · rfl
    · intro p hp
      refine ⟨_, rfl, ?_, fun _ => rfl⟩
      by_cases e : p.1 = x <;> simp [e]
  have hn : Nbs [t.d] = true := by
    have := nb_rows t.rows
    simp [Nbs, Nb, Tb.d, this]
  have h0 := eq_lnil W hn
  rw [c_columns_by]
  unfold f_columns_by
  simp only [Tr.d]
  generalize stD s = sd at hx ⊢
  generalize x_columns_by_1 = y at hx ⊢
  have ht : dIx W t.d (.int 0) = some (.int (t.c : Int)) := by simp [Tb.d]
  have ht2 : dIxA W t.d (.int 0) = some (.int (t.c : Int)) := ht
  generalize t.d = td at hx h0 ht2 ⊢
  simp [ist k, hx, h0, oNB, ht2]
end LW

namespace LW
open PySem PL
theorem colby {s : Sto} (hs : OkSt s) (W : Wd) : ∀ {t : Tr} {n m : Nat}, OkTr s t n m → ∀ k, t.deep ≤ k → callK prg (k + 5) "columns_by" [stD s, t.d] W = .ok (.int (n : Int)) W := by
  intro t n m h
  induction h with
  | tab hm _ _ => intro k _; exact cb_tab (k + 3) hs hm W
  | @sel t n m ts ht hl hq ih =>
    intro k hk
    obtain ⟨k, rfl⟩ : ∃ j, k = j + 1 := ⟨k - 1, by simp only [Tr.deep] at hk; omega⟩
    have e1 := ih k (by simp only [Tr.deep] at hk; omega)
    have e2 := c1_sel (k + 1) hl hq t W
    have e3 := ones_in W "select"
    have i := ist (k + 4) [.str "select", t.d, .tup (ts.map Tst.d)] 2 4 W
    rw [c_columns_by]
    unfold f_columns_by
    simp only [Tr.d] at e2 ⊢
    generalize stD s = sd at e1 ⊢
    generalize D.tup (ts.map Tst.d) = td at e2 i ⊢
    generalize t.d = tt at e1 e2 i ⊢
    generalize x_columns_by_1 = y
    simp [i, e1, e2, e3, oNB, dIs]
  | @prj t n m cs ht hl hc ih =>
    intro k hk
    obtain ⟨k, rfl⟩ : ∃ j, k = j + 1 := ⟨k - 1, by simp only [Tr.deep] at hk; omega⟩
    have e1 := ih k (by simp only [Tr.deep] at hk; omega)
    have e2 := c1_prj (k + 2) hl hc t W
    have e3 := ones_in W "project"
    have i := ist (k + 4) [.str "project", t.d, .tup (natsD cs)] 2 4 W
    rw [c_columns_by]
    unfold f_columns_by
    simp only [Tr.d] at e2 ⊢
    generalize stD s = sd at e1 ⊢
    generalize D.tup (natsD cs) = td at e2 i ⊢
    generalize t.d = tt at e1 e2 i ⊢
    generalize x_columns_by_1 = y
    simp [i, e1, e2, e3, oNB, dIs]
  | @crd t n m l cs ht hl hc hn h1 h2 ih =>
    intro k hk
    obtain ⟨k, rfl⟩ : ∃ j, k = j + 1 := ⟨k - 1, by simp only [Tr.deep] at hk; omega⟩
    have e1 := ih k (by simp only [Tr.deep] at hk; omega)
    have e2 := c1_crd (k + 2) hl hc hn h1 h2 t W
    have e3 := ones_in W "crowd"
    have i := ist (k + 4) [.str "crowd", t.d, .tup (natsD cs), .int (l : Int)] 2 4 W
    rw [c_columns_by]
    unfold f_columns_by
    simp only [Tr.d] at e2 ⊢
    generalize stD s = sd at e1 ⊢
    generalize D.tup (natsD cs) = td at e2 i ⊢
    generalize t.d = tt at e1 e2 i ⊢
    generalize x_columns_by_1 = y
    simp [i, e1, e2, e3, oNB, dIs]
  | @prd a b n m q j ha hb hn hm iha ihb =>
    intro k hk
    obtain ⟨k, rfl⟩ : ∃ j, k = j + 1 := ⟨k - 1, by simp only [Tr.deep] at hk; omega⟩
    have e1 := iha k (by simp only [Tr.deep] at hk; omega)
    have e4 := ihb k (by simp only [Tr.deep] at hk; omega)
    have e2 := c2_prd (k + 4) n q a b W
    have e3 := ones_in W "product"
    have e5 := twos_in W "product"
    have hi := ist (k + 4) [.str "product", a.d, b.d] 2 4 W
    have hw := (OkTr.bound hs (OkTr.prd ha hb hn hm)).1
    have h12 : ((n + q : Nat) : Int) ≤ 12 := by omega
    rw [c_columns_by]
    unfold f_columns_by
    simp only [Tr.d] at e2 ⊢
    generalize stD s = sd at e1 e4 ⊢
    generalize a.d = ta at e1 e2 hi ⊢
    generalize b.d = tb at e4 e2 hi ⊢
    generalize x_columns_by_1 = y
    generalize ((n + q : Nat) : Int) = w at e2 h12 ⊢
    simp [hi, e1, e4, e2, e3, e5, oNB, dIs, h12]
  | @jn a b n m q j ps ha hb hn hm hl hp iha ihb =>
    intro k hk
    obtain ⟨k, rfl⟩ : ∃ j, k = j + 1 := ⟨k - 1, by simp only [Tr.deep] at hk; omega⟩
    have e1 := iha k (by simp only [Tr.deep] at hk; omega)
    have e4 := ihb k (by simp only [Tr.deep] at hk; omega)
    have e2 := c2_jn (k + 2) hl hp a b W
    have e3 := ones_in W "join"
    have e5 := twos_in W "join"
    have hi := ist (k + 4) [.str "join", a.d, b.d, .tup (ps.map prD)] 2 4 W
    have hw := (OkTr.bound hs (OkTr.jn ha hb hn hm hl hp)).1
    have h12 : ((n + q : Nat) : Int) ≤ 12 := by omega
    rw [c_columns_by]
    unfold f_columns_by
    simp only [Tr.d] at e2 ⊢
    generalize stD s = sd at e1 e4 ⊢
    generalize D.tup (ps.map prD) = pd at e2 hi ⊢
    generalize a.d = ta at e1 e2 hi ⊢
    generalize b.d = tb at e4 e2 hi ⊢
    generalize x_columns_by_1 = y
    generalize ((n + q : Nat) : Int) = w at e2 h12 ⊢
    simp [hi, e1, e4, e2, e3, e5, oNB, dIs, h12]
  | @uni a b n m j ha hb hm iha ihb =>
    intro k hk
    obtain ⟨k, rfl⟩ : ∃ j, k = j + 1 := ⟨k - 1, by simp only [Tr.deep] at hk; omega⟩
    have e1 := iha k (by simp only [Tr.deep] at hk; omega)
    have e4 := ihb k (by simp only [Tr.deep] at hk; omega)
    have e2 := c2_uni (k + 4) n a b W
    have e3 := ones_in W "union"
    have e5 := twos_in W "union"
    have hi := ist (k + 4) [.str "union", a.d, b.d] 2 4 W
    have hw := (OkTr.bound hs (OkTr.uni ha hb hm)).1
    have h12 : ((n : Nat) : Int) ≤ 12 := by omega
    rw [c_columns_by]
    unfold f_columns_by
    simp only [Tr.d] at e2 ⊢
    generalize stD s = sd at e1 e4 ⊢
    generalize a.d = ta at e1 e2 hi ⊢
    generalize b.d = tb at e4 e2 hi ⊢
    generalize x_columns_by_1 = y
    simp [hi, e1, e4, e2, e3, e5, oNB, dIs, h12]
  | @lft a b n m j ha hb iha ihb =>
    intro k hk
    obtain ⟨k, rfl⟩ : ∃ j, k = j + 1 := ⟨k - 1, by simp only [Tr.deep] at hk; omega⟩
    have e1 := iha k (by simp only [Tr.deep] at hk; omega)
    have e4 := ihb k (by simp only [Tr.deep] at hk; omega)
    have e2 := c2_lft (k + 4) n a b W
    have e3 := ones_in W "leftover"
    have e5 := twos_in W "leftover"
    have hi := ist (k + 4) [.str "leftover", a.d, b.d] 2 4 W
    have hw := (OkTr.bound hs (OkTr.lft ha hb)).1
    have h12 : ((n : Nat) : Int) ≤ 12 := by omega
    rw [c_columns_by]
    unfold f_columns_by
    simp only [Tr.d] at e2 ⊢
    generalize stD s = sd at e1 e4 ⊢
    generalize a.d = ta at e1 e2 hi ⊢
    generalize b.d = tb at e4 e2 hi ⊢
    generalize x_columns_by_1 = y
    simp [hi, e1, e4, e2, e3, e5, oNB, dIs, h12]
  | @dvd a b n m q j ha hb hq iha ihb =>
    intro k hk
    obtain ⟨k, rfl⟩ : ∃ j, k = j + 1 := ⟨k - 1, by simp only [Tr.deep] at hk; omega⟩
    have e1 := iha k (by simp only [Tr.deep] at hk; omega)
    have e4 := ihb k (by simp only [Tr.deep] at hk; omega)
    have e2 := c2_dvd (k + 4) hq a b W
    have e3 := ones_in W "divide"
    have e5 := twos_in W "divide"
    have hi := ist (k + 4) [.str "divide", a.d, b.d] 2 4 W
    have hw := (OkTr.bound hs (OkTr.dvd ha hb hq)).1
    have h12 : ((n - q : Nat) : Int) ≤ 12 := by omega
    rw [c_columns_by]
    unfold f_columns_by
    simp only [Tr.d] at e2 ⊢
    generalize stD s = sd at e1 e4 ⊢
    generalize a.d = ta at e1 e2 hi ⊢
    generalize b.d = tb at e4 e2 hi ⊢
    generalize x_columns_by_1 = y
    generalize ((n - q : Nat) : Int) = w at e2 h12 ⊢
    simp [hi, e1, e4, e2, e3, e5, oNB, dIs, h12]
/-! ### the knots -/
def kids : Tr → List Tr
  | .tab _ => []
  | .sel t _ => [t]
  | .prj t _ => [t]
  | .crd t _ _ => [t]
  | .prd a b => [a, b]
  | .jn a b _ => [a, b]
  | .uni a b => [a, b]
  | .lft a b => [a, b]
  | .dvd a b => [a, b]
theorem kids_size (t : Tr) : t.size = ((kids t).map Tr.size).sum + 1 := by
  cases t <;> simp [kids, Tr.size] <;> omega
theorem nb_nats (cs : List Nat) : Nbs (natsD cs) = true := by
  have : natsD cs = (cs.map fun (i : Nat) => (i : Int)).map .int := by simp [natsD, Function.comp_def]
  rw [this]
  exact nb_ints _
theorem nb_tsts (ts : List Tst) : Nbs (ts.map Tst.d) = true := by
  induction ts with
  | nil => rfl
  | cons t ts ih => simp [Nbs, Nb, Tst.d, ih]
theorem nb_prs (ps : List (Nat × Nat)) : Nbs (ps.map prD) = true := by
  induction ps with
  | nil => rfl
  | cons t ts ih => simp [Nbs, Nb, prD, ih]
theorem nb_tr (t : Tr) : Nb t.d = true := by
  induction t with
  | tab x => rfl
  | sel t ts ih => simp [Tr.d, Nb, Nbs, ih, nb_tsts]
  | prj t cs ih => simp [Tr.d, Nb, Nbs, ih, nb_nats]
  | crd t cs n ih => simp [Tr.d, Nb, Nbs, ih, nb_nats]
  | prd a b iha ihb => simp [Tr.d, Nb, Nbs, iha, ihb]
  | jn a b ps iha ihb => simp [Tr.d, Nb, Nbs, iha, ihb, nb_prs]
  | uni a b iha ihb => simp [Tr.d, Nb, Nbs, iha, ihb]
  | lft a b iha ihb => simp [Tr.d, Nb, Nbs, iha, ihb]
  | dvd a b iha ihb => simp [Tr.d, Nb, Nbs, iha, ihb]
theorem nb_trs (L : List Tr) : Nbs (L.map Tr.d) = true := by
  induction L with
  | nil => rfl
  | cons t L ih => simp [Nbs, nb_tr, ih]
end LW

namespace LW
open PySem PL
theorem sl12 (W : Wd) (a : D) (b : D) (xs : List D) : dSl W (.tup (a :: b :: xs)) (some 1) (some 2) = some (.tup [b]) := by
  have h1 : min 2 (xs.length + 1 + 1) = 2 := by omega
  simp [dSl, cutD, HT.sIx, h1]
theorem sl13 (W : Wd) (a b c : D) (xs : List D) : dSl W (.tup (a :: b :: c :: xs)) (some 1) (some 3) = some (.tup [b, c]) := by
  have h1 : min 3 (xs.length + 1 + 1 + 1) = 3 := by omega
  simp [dSl, cutD, HT.sIx, h1]
theorem knot1 (k : Nat) (t : Tr) (F L : List D) (hF : F.length ≤ 30) (hL : L.length ≤ 30) (a0 a3 : Option D) (W : Wd) :
    runSs (callK prg k) b_knots_in_1 [a0, some (.lst F), some (.lst (t.d :: L)), a3] W = .nx [a0, some (.lst (F ++ [t.d])), some (.lst (L ++ (kids t).map Tr.d)), some t.d] W := by
  have h1 : F.length + 1 ≤ 16777216 := by omega
  have h2 : L.length + 1 ≤ 16777216 := by omega
  have h3 : L.length + 2 ≤ 16777216 := by omega
  have h4 : L.length ≤ 16777216 := by omega
  have hn := nb_tr t
  cases t
  all_goals
    simp only [Tr.d] at hn ⊢
    have h0 := eq_tnil W (by simpa only [Nb] using hn)
    simp [b_knots_in_1, h0, oNB, isiB, tyName, ones_in, twos_in, sl12, sl13, kids, Tr.d, h1, h2, h3, h4, dAdd, asL]
def szs (L : List Tr) : Nat := (L.map Tr.size).sum
theorem size_pos (t : Tr) : 1 ≤ t.size := by cases t <;> simp [Tr.size]
theorem len_szs (L : List Tr) : L.length ≤ szs L := by
  induction L with
  | nil => simp
  | cons t L ih =>
    have := size_pos t
    simp only [szs, List.map_cons, List.sum_cons, List.length_cons] at ih ⊢
    omega
def kCond : C := .and (.cons (.cmp .NotEq (.var 2) (.lst (.nil))) (.cons (.cmp .LtE (.bi ("len" : Str) (.cons (.var 1) .nil)) (.glo ("KNOTS" : Str) (.int (20)))) .nil))
theorem kcond (k : Nat) (L : List Tr) (F : List D) (hF : F.length ≤ 20) (a0 a3 : Option D) (W : Wd) : truR (PL.run (callK prg k) kCond [a0, some (.lst F), some (.lst (L.map Tr.d)), a3] W) = .ok (!L.isEmpty) W := by
  have h0 := eq_lnil W (nb_trs L)
  have h1 : (F.length : Int) ≤ 20 := by omega
  have h2 : (L.map Tr.d).isEmpty = L.isEmpty := by cases L <;> rfl
  rw [h2] at h0
  unfold kCond
  generalize L.map Tr.d = l at h0 ⊢
  cases hb : L.isEmpty <;> rw [hb] at h0 <;> simp [truR, h0, oNB, h1]
theorem kloop (k : Nat) (a0 : Option D) (W : Wd) : ∀ (z : Nat) (L : List Tr) (F : List D) (a3 : Option D) (N : Nat), szs L = z → F.length + z ≤ 20 → z < N →
    ∃ F' a3', whlLoop (fun ρ W => truR (PL.run (callK prg k) kCond ρ W)) (runSs (callK prg k) b_knots_in_1) N [a0, some (.lst F), some (.lst (L.map Tr.d)), a3] W = .nx [a0, some (.lst F'), some (.lst []), a3'] W ∧ F'.length = F.length + z := by
  intro z
  induction z using Nat.strongRecOn with
  | _ z ih =>
    intro L F a3 N hz hF hN
    obtain ⟨N, rfl⟩ : ∃ M, N = M + 1 := ⟨N - 1, by omega⟩
    have hc := kcond k L F (by omega) a0 a3 W
    cases L with
    | nil =>
      refine ⟨F, a3, ?_, by simp [szs] at hz; omega⟩
      unfold whlLoop
      simp only [hc]
      rfl
    | cons t L =>
      have hl := len_szs L
      have ht := kids_size t
      have hz2 : t.size + szs L = z := by simpa [szs] using hz
      have hs := size_pos t
      have e := knot1 k t F (L.map Tr.d) (by omega) (by rw [List.length_map]; omega) a0 a3 W
      have hz3 : szs (L ++ kids t) = z - 1 := by
        have : szs (L ++ kids t) = szs L + ((kids t).map Tr.size).sum := by simp [szs]
        omega
      obtain ⟨F', a3', e2, e3⟩ := ih (z - 1) (by omega) (L ++ kids t) (F ++ [t.d]) (some t.d) N hz3 (by rw [List.length_append, List.length_singleton]; omega) (by omega)
      refine ⟨F', a3', ?_, by rw [e3, List.length_append, List.length_singleton]; omega⟩
      unfold whlLoop
      simp only [List.map_cons] at hc ⊢
      simp only [hc]
      show (runSs (callK prg k) b_knots_in_1 [a0, some (.lst F), some (.lst (t.d :: L.map Tr.d)), a3] W).thn _ = _
      rw [e, ← List.map_append]
      exact e2
theorem knots (k : Nat) {t : Tr} (h : t.size ≤ 20) (W : Wd) : ∃ F : List D, callK prg (k + 1) "knots_in" [t.d] W = .ok (.lst F) W ∧ F.length = t.size := by
  obtain ⟨F, a3, e, hl⟩ := kloop k (some t.d) W t.size [t] [] none 1000000000 (by simp [szs]) (by simpa using h) (by omega)
  refine ⟨F, ?_, by simpa using hl⟩
  have hL : runS (callK prg k) l_knots_in_2 [some t.d, some (.lst []), some (.lst [t.d]), none] W = .nx [some t.d, some (.lst F), some (.lst []), a3] W := e
  rw [c_knots_in]
  unfold f_knots_in
  generalize t.d = td at hL ⊢
  generalize l_knots_in_2 = y at hL ⊢
  simp [hL]
theorem ftree {s : Sto} (hs : OkSt s) {t : Tr} {n m : Nat} (h : OkTr s t n m) (hz : t.size ≤ 20) (k : Nat) (hk : t.deep ≤ k) (W : Wd) : callK prg (k + 6) "fits_tree" [stD s, t.d] W = .ok (.bl true) W := by
  obtain ⟨F, e1, hl⟩ := knots (k + 4) hz W
  have e2 := colby hs W h k hk
  have h1 : (F.length : Int) ≤ 20 := by omega
  rw [c_fits_tree]
  unfold f_fits_tree
  generalize stD s = sd at e2 ⊢
  generalize t.d = td at e1 e2 ⊢
  simp [e1, e2, h1, oNB, dIs]
theorem ntree {s : Sto} (hs : OkSt s) {t : Tr} {n m : Nat} (h : OkTr s t n m) (hz : t.size ≤ 20) (k : Nat) (hk : t.deep ≤ k) (W : Wd) : callK prg (k + 7) "need_tree" [stD s, t.d] W = .ok .non W := by
  have e := ftree hs h hz k hk W
  rw [c_need_tree]
  unfold f_need_tree
  generalize stD s = sd at e ⊢
  generalize t.d = td at e ⊢
  simp [e]
end LW

namespace LW
open PySem PL
theorem pj_in (W : Wd) (w : Str) : dIn W (.str w) (.tup [.str ("product" : Str), .str ("join" : Str)]) = some (decide (w ∈ (["product", "join"] : List Str))) := in_strs W w (b := .tup [.str "product", .str "join"]) (ns := ["product", "join"]) rfl
/-- what one step gives: any list of the same rows -/
def Gives (d : D) (rows : List Row) (m : Nat) : Prop := ∃ found : List Row, (d = .lst (found.map tupD) ∨ d = .tup (found.map tupD)) ∧ found.length ≤ m ∧ ∀ z, z ∈ found ↔ z ∈ rows
theorem two_jn (k : Nat) {rs os : List Row} {n i m j : Nat} (hr : OkRows rs n m) (ho : OkRows os i j) (hn : n ≤ 12) (hi : i ≤ 12) (hm : m ≤ 1000) (hj : j ≤ 1000) (hmj : m * j ≤ 1000) {ps : List (Nat × Nat)} (hl : ps.length ≤ 6) (hp : ∀ p ∈ ps, p.1 < n ∧ p.2 < i) (sd : D) (a b : Tr) (W : Wd) :
    ∃ d, callK prg (k + 3) "two_done" [sd, (Tr.jn a b ps).d, .tup (rs.map tupD), .tup (os.map tupD)] W = .ok d W ∧ Gives d (joinL rs os ps) (m * j) := by
  obtain ⟨fl, e, h1, h2⟩ := joined k hr ho hn hi hm hj hmj hl hp W
  refine ⟨.lst (fl.map tupD), ?_, fl, .inl rfl, h1, h2⟩
  have e3 := pj_in W "join"
  unfold psD at e
  rw [c_two_done]
  unfold f_two_done
  simp only [Tr.d]
  generalize D.tup (ps.map prD) = pd at e ⊢
  generalize fl.map tupD = f2 at e ⊢
  generalize rs.map tupD = R0 at e ⊢
  generalize os.map tupD = O0 at e ⊢
  generalize x_two_done_1 = y1
  generalize x_two_done_2 = y2
  simp [e, e3]
theorem two_prd (k : Nat) {rs os : List Row} {n i m j : Nat} (hr : OkRows rs n m) (ho : OkRows os i j) (hn : n ≤ 12) (hi : i ≤ 12) (hm : m ≤ 1000) (hj : j ≤ 1000) (hmj : m * j ≤ 1000) (sd : D) (a b : Tr) (W : Wd) :
    ∃ d, callK prg (k + 3) "two_done" [sd, (Tr.prd a b).d, .tup (rs.map tupD), .tup (os.map tupD)] W = .ok d W ∧ Gives d (joinL rs os []) (m * j) := by
  obtain ⟨fl, e, h1, h2⟩ := joined k hr ho hn hi hm hj hmj (ps := []) (by simp) (by simp) W
  refine ⟨.lst (fl.map tupD), ?_, fl, .inl rfl, h1, h2⟩
  have e3 := pj_in W "product"
  have e4 : psD [] = .tup [] := rfl
  rw [e4] at e
  rw [c_two_done]
  unfold f_two_done
  simp only [Tr.d]
  generalize fl.map tupD = f2 at e ⊢
  generalize rs.map tupD = R0 at e ⊢
  generalize os.map tupD = O0 at e ⊢
  generalize x_two_done_1 = y1
  generalize x_two_done_2 = y2
  simp [e, e3]
theorem two_uni (k : Nat) {rs os : List Row} {n m j : Nat} (hr : OkRows rs n m) (ho : OkRows os n j) (hm : m + j ≤ 1000) (sd : D) (a b : Tr) (W : Wd) :
    ∃ d, callK prg (k + 1) "two_done" [sd, (Tr.uni a b).d, .tup (rs.map tupD), .tup (os.map tupD)] W = .ok d W ∧ Gives d (rs ++ os) (m + j) := by
  have h1 := hr.few
  have h2 := ho.few
  refine ⟨.tup ((rs ++ os).map tupD), ?_, rs ++ os, .inr rfl, by rw [List.length_append]; omega, fun z => Iff.rfl⟩
  have e3 := pj_in W "union"
  have h3 : (rs.map tupD).length + (os.map tupD).length ≤ 16777216 := by rw [List.length_map, List.length_map]; omega
  rw [c_two_done, List.map_append]
  unfold f_two_done
  simp only [Tr.d]
  generalize rs.map tupD = R0 at h3 ⊢
  generalize os.map tupD = O0 at h3 ⊢
  generalize x_two_done_1 = y1
  generalize x_two_done_2 = y2
  simp [e3, dAdd, h3]
theorem two_lft (k : Nat) {rs os : List Row} {n m j : Nat} (hr : OkRows rs n m) (ho : OkRows os n j) (hm : m ≤ 1000) (hj : j ≤ 1000) (sd : D) (a b : Tr) (W : Wd) :
    ∃ d, callK prg (k + 1) "two_done" [sd, (Tr.lft a b).d, .tup (rs.map tupD), .tup (os.map tupD)] W = .ok d W ∧ Gives d (lftL rs os) m := by
  have h1 := hr.few
  have h2 := ho.few
  refine ⟨.lst ((lftL rs os).map tupD), ?_, lftL rs os, .inl rfl, Nat.le_trans (List.length_filter_le _ _) h1, fun z => Iff.rfl⟩
  have e3 := pj_in W "leftover"
  have hw := want_dict W (nd_of_asc ho.asc)
  have x2 : PL.run (callK prg k) x_two_done_2 [some sd, some (Tr.lft a b).d, some (.tup (rs.map tupD)), some (.tup (os.map tupD)), none, none] W = .ok (.lst (os.map fun o => .tup [tupD o, .bl true])) W := by
    have hI : runI (callK prg k) (.seq (.var 3)) [some sd, some (Tr.lft a b).d, some (.tup (rs.map tupD)), some (.tup (os.map tupD)), none, none] W = .ok (os.map tupD) W := by simp
    unfold x_two_done_2
    rw [run_lc, hI]
    show ((lcLoop _ _ _ (os.map tupD) W).bndX _) = _
    rw [lc_mapi tupD (fun o => .tup [tupD o, .bl true])]
    · show (if _ then _ else _) = _
      rw [if_pos (by rw [List.length_map]; omega)]
    · intro o hoo
      refine ⟨_, rfl, rfl, ?_⟩
      generalize tupD o = t
      simp
  have x1 : PL.run (callK prg k) x_two_done_1 [some sd, some (Tr.lft a b).d, some (.tup (rs.map tupD)), some (.tup (os.map tupD)), some (wantD os), none] W = .ok (.lst ((lftL rs os).map tupD)) W := by
    have hI : runI (callK prg k) (.seq (.var 2)) [some sd, some (Tr.lft a b).d, some (.tup (rs.map tupD)), some (.tup (os.map tupD)), some (wantD os), none] W = .ok (rs.map tupD) W := by simp
    unfold x_two_done_1
    rw [run_lc, hI]
    show ((lcLoop _ _ _ (rs.map tupD) W).bndX _) = _
    rw [lc_filt tupD tupD (fun r => decide (r ∉ os))]
    · show (if _ then _ else _) = _
      rw [if_pos (by rw [List.length_map]; exact Nat.le_trans (List.length_filter_le _ _) (by omega))]
      rfl
    · intro r hrr
      have e2 := want_in W os r
      refine ⟨[some sd, some (Tr.lft a b).d, some (.tup (rs.map tupD)), some (.tup (os.map tupD)), some (wantD os), some (tupD r)], rfl, ?_, fun _ => rfl⟩
      generalize wantD os = w at e2 ⊢
      generalize tupD r = t at e2 ⊢
      simp [e2, oNB]
  rw [c_two_done]
  unfold f_two_done
  simp only [Tr.d] at x1 x2 ⊢
  generalize (os.map fun o => D.tup [tupD o, .bl true]) = wl at x2 hw
  generalize (lftL rs os).map tupD = fl at x1 ⊢
  generalize wantD os = w at x1 hw
  generalize rs.map tupD = R0 at x1 x2 ⊢
  generalize os.map tupD = O0 at x1 x2 ⊢
  generalize x_two_done_1 = y1 at x1 ⊢
  generalize x_two_done_2 = y2 at x2 ⊢
  simp [e3, x2, hw, x1]
theorem two_dvd (k : Nat) {s : Sto} {rs os : List Row} {n i m j : Nat} (hr : OkRows rs n m) (ho : OkRows os i j) (hn : n ≤ 12) (hm : m ≤ 1000) (hj : j ≤ 1000) (hi : i ≤ n) (a b : Tr) (W : Wd) (hc : callK prg (k + 2) "columns_by" [stD s, (Tr.dvd a b).d] W = .ok (.int ((n - i : Nat) : Int)) W) :
    ∃ d, callK prg (k + 3) "two_done" [stD s, (Tr.dvd a b).d, .tup (rs.map tupD), .tup (os.map tupD)] W = .ok d W ∧ Gives d (dvdL rs os (n - i)) m := by
  obtain ⟨fl, e, h1, h2⟩ := divided k (c := n - i) hr ho hn hm hj (by omega) W
  refine ⟨.lst (fl.map tupD), ?_, fl, .inl rfl, h1, h2⟩
  have e3 := pj_in W "divide"
  rw [c_two_done]
  unfold f_two_done
  simp only [Tr.d] at hc ⊢
  generalize stD s = sd at hc ⊢
  generalize ((n - i : Nat) : Int) = w at hc e
  generalize fl.map tupD = f2 at e ⊢
  generalize rs.map tupD = R0 at e ⊢
  generalize os.map tupD = O0 at e ⊢
  generalize x_two_done_1 = y1
  generalize x_two_done_2 = y2
  simp [e3, hc, e]
end LW

namespace LW
open PySem PL
theorem fin_set {d : D} {rows : List Row} {m : Nat} (hg : Gives d rows m) (hm : m ≤ 1000) (W : Wd) : dSet W [d] = some (.set ((sortL rows).map tupD)) ∧ (sortL rows).length ≤ 1000 := by
  obtain ⟨fl, hd, hl, hz⟩ := hg
  have e : sortL fl = sortL rows := strict_one (sortL_pw _) (sortL_pw _) fun z => by rw [sortL_mem, sortL_mem, hz]
  have h2 := sortL_len fl
  rw [← e]
  refine ⟨?_, by omega⟩
  rcases hd with rfl | rfl
  · exact set_rowsQ W rfl (by omega)
  · exact set_rowsQ W rfl (by omega)
theorem fin_asc (k : Nat) {d : D} {rows : List Row} {n m : Nat} (hg : Gives d rows m) (hm : m ≤ 1000) (hw : ∀ r ∈ rows, r.length = n) (W : Wd) : callK prg (k + 1) "ascending" [d] W = .ok (.tup ((sortL rows).map tupD)) W := by
  obtain ⟨h1, h2⟩ := fin_set hg hm W
  have h3 := sort_rows W n hw
  rw [c_ascending]
  unfold f_ascending
  generalize (sortL rows).map tupD = R0 at h1 h3 ⊢
  simp [h1, h3]
theorem fin_few (k : Nat) {rows : List Row} (h : (sortL rows).length ≤ 1000) (W : Wd) : ∃ i : Nat, dLenS W [.set ((sortL rows).map tupD)] = some (.int (i : Int)) ∧ callK prg (k + 1) "need_few" [.int (i : Int)] W = .ok .non W :=
  ⟨(sortL rows).length, by show some (D.int (((sortL rows).map tupD).length : Int)) = _; rw [List.length_map], nfew k (by omega) W⟩
theorem one_step (k : Nat) {w : Str} {r1 : List D} (hw : w ∈ (["select", "project", "crowd"] : List Str)) (ht : ¬ w = "table") {sd td : D} {R0 : D} {d : D} {rows : List Row} {n m : Nat} (W : Wd) (e1 : callK prg (k + 1) "rows_by" [sd, td] W = .ok R0 W) (e2 : callK prg (k + 1) "one_done" [.tup (.str w :: td :: r1), R0] W = .ok d W)
    (hg : Gives d rows m) (hm : m ≤ 1000) (hr : ∀ r ∈ rows, r.length = n) : callK prg (k + 2) "rows_by" [sd, .tup (.str w :: td :: r1)] W = .ok (.tup ((sortL rows).map tupD)) W := by
  obtain ⟨h1, h2⟩ := fin_set hg hm W
  have h3 := fin_asc k hg hm hr W
  obtain ⟨i, h4, h5⟩ := fin_few k h2 W
  have h6 := ones_in W w
  rw [decide_eq_true hw] at h6
  have h7 : (w == "table") = false := by simpa using ht
  rw [c_rows_by]
  unfold f_rows_by
  generalize (sortL rows).map tupD = S at h1 h3 h4 ⊢
  simp [ht, h7, e1, e2, h1, h3, h4, h5, h6]
theorem two_step (k : Nat) {w : Str} {r1 : List D} (hw : w ∉ (["select", "project", "crowd"] : List Str)) (ht : ¬ w = "table") {sd ta tb : D} {R0 O0 : D} {d : D} {rows : List Row} {n m : Nat} (W : Wd) (e1 : callK prg (k + 1) "rows_by" [sd, ta] W = .ok R0 W) (e0 : callK prg (k + 1) "rows_by" [sd, tb] W = .ok O0 W)
    (e2 : callK prg (k + 1) "two_done" [sd, .tup (.str w :: ta :: tb :: r1), R0, O0] W = .ok d W)
    (hg : Gives d rows m) (hm : m ≤ 1000) (hr : ∀ r ∈ rows, r.length = n) : callK prg (k + 2) "rows_by" [sd, .tup (.str w :: ta :: tb :: r1)] W = .ok (.tup ((sortL rows).map tupD)) W := by
  obtain ⟨h1, h2⟩ := fin_set hg hm W
  have h3 := fin_asc k hg hm hr W
  obtain ⟨i, h4, h5⟩ := fin_few k h2 W
  have h6 := ones_in W w
  rw [decide_eq_false hw] at h6
  have h7 : (w == "table") = false := by simpa using ht
  rw [c_rows_by]
  unfold f_rows_by
  generalize (sortL rows).map tupD = S at h1 h3 h4 ⊢
  simp [ht, h7, e1, e0, e2, h1, h3, h4, h5, h6]
theorem rowsby {s : Sto} (hs : OkSt s) (W : Wd) : ∀ {t : Tr} {n m : Nat}, OkTr s t n m → ∀ k, t.deep ≤ k → callK prg (k + 7) "rows_by" [stD s, t.d] W = .ok (.tup ((t.rows s).map tupD)) W := by
  intro t n m h
  induction h with
  | @tab x tb m hm _ _ =>
    intro k _
    have e := find_tab hs hm
    have er : (Tr.tab x).rows s = tb.rows := by show tabRows s x = _; unfold tabRows; rw [e]; rfl
    have h1 := dict_sto W s
    have h2 := tabs_get hs hm
    simp only at h2
    rw [c_rows_by, er]
    have h0 : dIxA W (.dct (tabsD s)) (.str x) = some tb.d := by
      show (asKey (.str x)).bind (fun k => keyGet (tabsD s) k) = _
      simp [asKey, h2]
    have h3 : dIxA W tb.d (.int 1) = some (.tup (tb.rows.map tupD)) := by
      show dIx W tb.d (.int 1) = _
      simp [Tb.d]
    unfold f_rows_by
    simp only [Tr.d, stD]
    have h4 : PL.run (callK prg (k + 6)) (.bi ("dict" : Str) (.cons (.bi ("list" : Str) (.cons (.var 0) .nil)) .nil)) [some (.tup (s.map enD)), some (.tup [.str "table", .str x]), none, none] W = .ok (.dct (tabsD s)) W := by
      have h5 : PL.run (callK prg (k + 6)) (.bi ("list" : Str) (.cons (.var 0) .nil)) [some (.tup (s.map enD)), some (.tup [.str "table", .str x]), none, none] W = .ok (.lst (s.map enD)) W := by simp
      simp only [PL.run, runs] at h5 ⊢
      rw [h5]
      simp only [R.bnd, bi_dict, h1, ofO]
    generalize (C.bi ("dict" : Str) (.cons (.bi ("list" : Str) (.cons (.var 0) .nil)) .nil)) = y at h4 ⊢
    generalize s.map enD = l at h4 ⊢
    generalize tabsD s = td at h4 h0
    generalize tb.rows.map tupD = R0 at h3 ⊢
    generalize tb.d = tt at h0 h3
    simp [h4, h0, h3]
  | @sel t n m ts ht hl hq ih =>
    intro k hk
    obtain ⟨k, rfl⟩ : ∃ j, k = j + 1 := ⟨k - 1, by simp only [Tr.deep] at hk; omega⟩
    obtain ⟨b1, b2, _, b4⟩ := OkTr.bound hs ht
    have e1 := ih k (by simp only [Tr.deep] at hk; omega)
    have e2 := one_sel (k + 5) b4 b2 hl hq t W
    exact one_step (k + 6) (by decide +kernel) (by decide +kernel) W e1 e2 ⟨_, .inl rfl, Nat.le_trans (List.length_filter_le _ _) b4.few, fun z => Iff.rfl⟩ b2 (n := n) fun r hr => b4.w r (mem_filt hr)
  | @prj t n m cs ht hl hc ih =>
    intro k hk
    obtain ⟨k, rfl⟩ : ∃ j, k = j + 1 := ⟨k - 1, by simp only [Tr.deep] at hk; omega⟩
    obtain ⟨b1, b2, _, b4⟩ := OkTr.bound hs ht
    have e1 := ih k (by simp only [Tr.deep] at hk; omega)
    have e2 := one_prj (k + 6) b4 b2 hl hc t W
    exact one_step (k + 6) (by decide +kernel) (by decide +kernel) W e1 e2 ⟨_, .inl rfl, by rw [List.length_map]; exact b4.few, fun z => Iff.rfl⟩ b2 (n := cs.length) fun r hr => by
      obtain ⟨q, _, rfl⟩ := List.mem_map.mp hr
      simp [proj]
  | @crd t n m l cs ht hl hc hn h1 h2 ih =>
    intro k hk
    obtain ⟨k, rfl⟩ : ∃ j, k = j + 1 := ⟨k - 1, by simp only [Tr.deep] at hk; omega⟩
    obtain ⟨b1, b2, _, b4⟩ := OkTr.bound hs ht
    have e1 := ih k (by simp only [Tr.deep] at hk; omega)
    obtain ⟨fl, e2, g1, g2⟩ := one_crd (k + 4) b4 b1 b2 hc hl l t W
    exact one_step (k + 6) (by decide +kernel) (by decide +kernel) W e1 e2 ⟨fl, .inl rfl, g1, g2⟩ b2 (n := n) fun r hr => b4.w r (mem_filt hr)
  | @prd a b n m q j ha hb hn hm iha ihb =>
    intro k hk
    obtain ⟨k, rfl⟩ : ∃ j, k = j + 1 := ⟨k - 1, by simp only [Tr.deep] at hk; omega⟩
    obtain ⟨b1, b2, _, b4⟩ := OkTr.bound hs ha
    obtain ⟨c1, c2, _, c4⟩ := OkTr.bound hs hb
    have hB := OkTr.bound hs (OkTr.prd ha hb hn hm)
    have e1 := iha k (by simp only [Tr.deep] at hk; omega)
    have e0 := ihb k (by simp only [Tr.deep] at hk; omega)
    obtain ⟨d, e2, hg⟩ := two_prd (k + 4) b4 c4 b1 c1 b2 c2 hm (stD s) a b W
    exact two_step (k + 6) (by decide +kernel) (by decide +kernel) W e1 e0 e2 hg hB.2.1 fun r hr => hB.2.2.2.w r (sortL_mem.mpr hr)
  | @jn a b n m q j ps ha hb hn hm hl hp iha ihb =>
    intro k hk
    obtain ⟨k, rfl⟩ : ∃ j, k = j + 1 := ⟨k - 1, by simp only [Tr.deep] at hk; omega⟩
    obtain ⟨b1, b2, _, b4⟩ := OkTr.bound hs ha
    obtain ⟨c1, c2, _, c4⟩ := OkTr.bound hs hb
    have hB := OkTr.bound hs (OkTr.jn ha hb hn hm hl hp)
    have e1 := iha k (by simp only [Tr.deep] at hk; omega)
    have e0 := ihb k (by simp only [Tr.deep] at hk; omega)
    obtain ⟨d, e2, hg⟩ := two_jn (k + 4) b4 c4 b1 c1 b2 c2 hm hl hp (stD s) a b W
    exact two_step (k + 6) (by decide +kernel) (by decide +kernel) W e1 e0 e2 hg hB.2.1 fun r hr => hB.2.2.2.w r (sortL_mem.mpr hr)
  | @uni a b n m j ha hb hm iha ihb =>
    intro k hk
    obtain ⟨k, rfl⟩ : ∃ j, k = j + 1 := ⟨k - 1, by simp only [Tr.deep] at hk; omega⟩
    obtain ⟨b1, b2, _, b4⟩ := OkTr.bound hs ha
    obtain ⟨c1, c2, _, c4⟩ := OkTr.bound hs hb
    have hB := OkTr.bound hs (OkTr.uni ha hb hm)
    have e1 := iha k (by simp only [Tr.deep] at hk; omega)
    have e0 := ihb k (by simp only [Tr.deep] at hk; omega)
    obtain ⟨d, e2, hg⟩ := two_uni (k + 6) b4 c4 hm (stD s) a b W
    exact two_step (k + 6) (by decide +kernel) (by decide +kernel) W e1 e0 e2 hg hB.2.1 fun r hr => hB.2.2.2.w r (sortL_mem.mpr hr)
  | @lft a b n m j ha hb iha ihb =>
    intro k hk
    obtain ⟨k, rfl⟩ : ∃ j, k = j + 1 := ⟨k - 1, by simp only [Tr.deep] at hk; omega⟩
    obtain ⟨b1, b2, _, b4⟩ := OkTr.bound hs ha
    obtain ⟨c1, c2, _, c4⟩ := OkTr.bound hs hb
    have hB := OkTr.bound hs (OkTr.lft ha hb)
    have e1 := iha k (by simp only [Tr.deep] at hk; omega)
    have e0 := ihb k (by simp only [Tr.deep] at hk; omega)
    obtain ⟨d, e2, hg⟩ := two_lft (k + 6) b4 c4 b2 c2 (stD s) a b W
    exact two_step (k + 6) (by decide +kernel) (by decide +kernel) W e1 e0 e2 hg hB.2.1 fun r hr => hB.2.2.2.w r (sortL_mem.mpr hr)
  | @dvd a b n m q j ha hb hq iha ihb =>
    intro k hk
    obtain ⟨k, rfl⟩ : ∃ j, k = j + 1 := ⟨k - 1, by simp only [Tr.deep] at hk; omega⟩
    obtain ⟨b1, b2, _, b4⟩ := OkTr.bound hs ha
    obtain ⟨c1, c2, _, c4⟩ := OkTr.bound hs hb
    have hB := OkTr.bound hs (OkTr.dvd ha hb hq)
    have e1 := iha k (by simp only [Tr.deep] at hk; omega)
    have e0 := ihb k (by simp only [Tr.deep] at hk; omega)
    have hc := colby hs W (OkTr.dvd ha hb hq) (k + 1) hk
    obtain ⟨d, e2, hg⟩ := two_dvd (k + 4) b4 c4 b1 b2 c2 hq a b W hc
    have hw : (Tr.dvd a b).wide s = n - q := hB.2.2.1
    rw [← hw] at hg
    exact two_step (k + 6) (by decide +kernel) (by decide +kernel) W e1 e0 e2 hg hB.2.1 fun r hr => hB.2.2.2.w r (sortL_mem.mpr hr)
end LW

namespace LW
open PySem PL
theorem lhold (k : Nat) {r : Row} {q : Tst} (h : OkTst r.length q) (W : Wd) : callK prg (k + 1) "_law_holds" [tupD r, q.d] W = .ok (.bl (holdB r q)) W := by
  obtain ⟨c, is, col, v⟩ := q
  obtain ⟨h1, h2, h3⟩ := h
  simp only at h1 h2 h3
  rw [c__law_holds]
  have e1 := ix_row W h1
  cases col with
  | true =>
    obtain ⟨i, rfl, hi⟩ := h2 rfl
    have e2 := ix_row W hi
    cases is
    all_goals
      unfold holdB
      simp only [Int.toNat_natCast, if_true]
      generalize at0 r c = x at e1 ⊢
      generalize at0 r i = y at e2 ⊢
      generalize tupD r = t at e1 e2 ⊢
      by_cases e : x = y <;> simp [f__law_holds, Tst.d, e1, e2, e, dEq, pyW, PyData.depth, PyData.eqv, s_not_is, s_not_is', oNB]
  | false =>
    cases is
    all_goals
      unfold holdB
      generalize at0 r c = x at e1 ⊢
      generalize tupD r = t at e1 ⊢
      by_cases e : x = v <;> simp [f__law_holds, Tst.d, e1, e, dEq, pyW, PyData.depth, PyData.eqv, s_not_is, s_not_is', s_val_col, oNB]
theorem lsel (k : Nat) {rs : List Row} {n m : Nat} (hr : OkRows rs n m) (hm : m ≤ 1000) {ts : List Tst} (hl : ts.length ≤ 6) (ht : ∀ q ∈ ts, OkTst n q) (W : Wd) :
    callK prg (k + 2) "_law_select" [.lst (rs.map tupD), .tup (ts.map Tst.d)] W = .ok (.lst ((selL rs ts).map tupD)) W := by
  have hrm := hr.few
  have h3 : ∀ r ∈ rs, ∀ a3, PL.run (callK prg (k + 1)) x__law_select_1 [some (.lst (rs.map tupD)), some (.tup (ts.map Tst.d)), some (tupD r), a3] W = .ok (.lst ((ts.filter fun q => !holdB r q).map Tst.d)) W := by
    intro r hrr a3
    have hI : runI (callK prg (k + 1)) (.seq (.var 1)) [some (.lst (rs.map tupD)), some (.tup (ts.map Tst.d)), some (tupD r), a3] W = .ok (ts.map Tst.d) W := by simp
    unfold x__law_select_1
    rw [run_lc, hI]
    show ((lcLoop _ _ _ (ts.map Tst.d) W).bndX _) = _
    rw [lc_filt Tst.d Tst.d (fun q => !holdB r q)]
    · show (if _ then _ else _) = _
      rw [if_pos (by rw [List.length_map]; exact Nat.le_trans (List.length_filter_le _ _) (by omega))]
    · intro q hq
      have e := lhold k (r := r) (q := q) (by rw [hr.w r hrr]; exact ht q hq) W
      refine ⟨[some (.lst (rs.map tupD)), some (.tup (ts.map Tst.d)), some (tupD r), some q.d], rfl, ?_, fun _ => rfl⟩
      generalize tupD r = t at e ⊢
      generalize q.d = qd at e ⊢
      cases hb : holdB r q <;> rw [hb] at e <;> simp [e]
  have x2 : PL.run (callK prg (k + 1)) x__law_select_2 [some (.lst (rs.map tupD)), some (.tup (ts.map Tst.d)), none, none] W = .ok (.lst ((selL rs ts).map tupD)) W := by
    have hI : runI (callK prg (k + 1)) (.seq (.var 0)) [some (.lst (rs.map tupD)), some (.tup (ts.map Tst.d)), none, none] W = .ok (rs.map tupD) W := by simp
    unfold x__law_select_2
    rw [run_lc, hI]
    show ((lcLoop _ _ _ (rs.map tupD) W).bndX _) = _
    rw [lc_filt tupD tupD (fun r => ts.all (holdB r))]
    · show (if _ then _ else _) = _
      rw [if_pos (by rw [List.length_map]; exact Nat.le_trans (List.length_filter_le _ _) (by omega))]
      rfl
    · intro r hrr
      have e := h3 r hrr none
      have h0 := eq_lnil W (nb_tsts (ts.filter fun q => !holdB r q))
      have he : ((ts.filter fun q => !holdB r q).map Tst.d).isEmpty = ts.all (holdB r) := by
        clear e h0 h3 hI hl ht
        induction ts with
        | nil => rfl
        | cons q ts ih => cases hb : holdB r q <;> simp [List.filter_cons, hb] <;> simpa using ih
      rw [he] at h0
      refine ⟨[some (.lst (rs.map tupD)), some (.tup (ts.map Tst.d)), some (tupD r), none], rfl, ?_, fun _ => rfl⟩
      generalize (ts.filter fun q => !holdB r q).map Tst.d = fl at e h0
      generalize ts.map Tst.d = td2 at e ⊢
      generalize rs.map tupD = R0 at e ⊢
      generalize tupD r = t at e ⊢
      generalize x__law_select_1 = y at e ⊢
      simp [e, h0]
  rw [c__law_select]
  unfold f__law_select
  generalize x__law_select_2 = y at x2 ⊢
  simp [x2]
end LW

namespace LW
open PySem PL
theorem lj1 (k : Nat) {r o : Row} {ps : List (Nat × Nat)} (hl : ps.length ≤ 6) (h1 : ∀ p ∈ ps, p.1 < r.length ∧ p.2 < o.length) (a0 a1 a3 a6 a7 : Option D) (W : Wd) :
    PL.run (callK prg k) x__law_join_1 [a0, a1, some (psD ps), a3, some (tupD r), some (tupD o), a6, a7] W = .ok (.lst ((ps.filter fun p => !decide (at0 r p.1 = at0 o p.2)).map fun _ => .int 1)) W := by
  have hI : runI (callK prg k) (.seq (.var 2)) [a0, a1, some (psD ps), a3, some (tupD r), some (tupD o), a6, a7] W = .ok (ps.map prD) W := by simp [psD]
  unfold x__law_join_1
  rw [run_lc, hI]
  show ((lcLoop _ _ _ (ps.map prD) W).bndX _) = _
  rw [lc_filt prD (fun _ => .int 1) (fun p => !decide (at0 r p.1 = at0 o p.2))]
  · show (if _ then _ else _) = _
    rw [if_pos (by rw [List.length_map]; exact Nat.le_trans (List.length_filter_le _ _) (by omega))]
  · intro p hp
    have e1 := ix_row W (h1 p hp).1
    have e2 := ix_row W (h1 p hp).2
    refine ⟨[a0, a1, some (psD ps), a3, some (tupD r), some (tupD o), some (.int (p.1 : Int)), some (.int (p.2 : Int))], rfl, ?_, fun _ => rfl⟩
    generalize tupD r = t at e1 ⊢
    generalize tupD o = u at e2 ⊢
    generalize psD ps = pd
    by_cases e : at0 r p.1 = at0 o p.2 <;> simp [e1, e2, oNB, e]
def ljR (os : List Row) (ps : List (Nat × Nat)) (r : Row) : List Row := (os.filter fun o => mateB r o ps).map (r ++ ·)
theorem lj2 (k : Nat) {r : Row} {os : List Row} {n i j : Nat} (hr : r.length = n) (ho : OkRows os i j) (hn : n ≤ 12) (hi : i ≤ 12) (hj : j ≤ 1000) {ps : List (Nat × Nat)} (hl : ps.length ≤ 6) (hp : ∀ p ∈ ps, p.1 < n ∧ p.2 < i) (a0 a3 a5 a6 a7 : Option D) (W : Wd) :
    PL.run (callK prg k) x__law_join_2 [a0, some (.lst (os.map tupD)), some (psD ps), a3, some (tupD r), a5, a6, a7] W = .ok (.lst ((ljR os ps r).map tupD)) W := by
  have hom := ho.few
  have hI : runI (callK prg k) (.seq (.var 1)) [a0, some (.lst (os.map tupD)), some (psD ps), a3, some (tupD r), a5, a6, a7] W = .ok (os.map tupD) W := by simp
  unfold x__law_join_2
  rw [run_lc, hI]
  show ((lcLoop _ _ _ (os.map tupD) W).bndX _) = _
  rw [lc_filt tupD (fun o => tupD (r ++ o)) (fun o => mateB r o ps)]
  · show (if _ then _ else _) = _
    rw [if_pos (by rw [List.length_map]; exact Nat.le_trans (List.length_filter_le _ _) (by omega))]
    simp [ljR, Function.comp_def]
  · intro o hoo
    have hol := ho.w o hoo
    have e := lj1 k (r := r) (o := o) hl (fun p hpp => by rw [hr, hol]; exact hp p hpp) a0 (some (.lst (os.map tupD))) a3 a6 a7 W
    have hnb : Nbs ((ps.filter fun p => !decide (at0 r p.1 = at0 o p.2)).map fun _ => D.int 1) = true := by
      generalize (ps.filter fun p => !decide (at0 r p.1 = at0 o p.2)) = l
      induction l with
      | nil => rfl
      | cons a l ih => simp [Nbs, Nb, ih]
    have h0 := eq_lnil W hnb
    have he : ((ps.filter fun p => !decide (at0 r p.1 = at0 o p.2)).map fun _ => D.int 1).isEmpty = mateB r o ps := by
      unfold mateB
      clear e h0 hnb hI hl hp
      induction ps with
      | nil => rfl
      | cons q ts ih =>
        by_cases hb : at0 r q.1 = at0 o q.2 <;> simp [List.filter_cons, hb] <;> simpa using ih
    rw [he] at h0
    have h3 := add_rows W r o (by omega)
    refine ⟨[a0, some (.lst (os.map tupD)), some (psD ps), a3, some (tupD r), some (tupD o), a6, a7], rfl, ?_, fun _ => ?_⟩
    · generalize ((ps.filter fun p => !decide (at0 r p.1 = at0 o p.2)).map fun _ => D.int 1) = fl at e h0
      generalize x__law_join_1 = y at e ⊢
      generalize psD ps = pd at e ⊢
      generalize os.map tupD = O0 at e ⊢
      generalize tupD r = t at e ⊢
      generalize tupD o = u at e ⊢
      simp [e, h0]
    · generalize psD ps = pd
      generalize tupD r = t at h3 ⊢
      generalize tupD o = u at h3 ⊢
      simp [h3]
theorem ljoin (k : Nat) {rs os : List Row} {n i m j : Nat} (hr : OkRows rs n m) (ho : OkRows os i j) (hn : n ≤ 12) (hi : i ≤ 12) (hm : m ≤ 1000) (hj : j ≤ 1000) (hmj : m * j ≤ 1000) {ps : List (Nat × Nat)} (hl : ps.length ≤ 6) (hp : ∀ p ∈ ps, p.1 < n ∧ p.2 < i) (W : Wd) :
    callK prg (k + 1) "_law_join" [.lst (rs.map tupD), .lst (os.map tupD), psD ps] W = .ok (.lst ((joinL rs os ps).map tupD)) W := by
  have hrm := hr.few
  have hom := ho.few
  have hcut : ∀ d, (∃ r, rs = d ++ r) → (joinL d os ps).length ≤ 1000 := fun d ⟨r, h⟩ => by
    have h1 := joinL_len d os ps
    have h2 : d.length ≤ m := by rw [h, List.length_append] at hrm; omega
    exact Nat.le_trans h1 (Nat.le_trans (Nat.mul_le_mul h2 hom) hmj)
  obtain ⟨ρ', e, a4, rfl⟩ := for_pre (W := W) (asg := fun d ρ W => T.put W (.nm 4) d ρ) (body := runSs (callK prg k) b__law_join_3) tupD
    (fun (d : List Row) ρ => ∃ a4, ρ = [some (.lst (rs.map tupD)), some (.lst (os.map tupD)), some (psD ps), some (.lst ((joinL d os ps).map tupD)), a4, none, none, none]) (xs := rs) (ρ := [some (.lst (rs.map tupD)), some (.lst (os.map tupD)), some (psD ps), some (.lst []), none, none, none, none]) ⟨none, rfl⟩ (by
      rintro d r post ρ hs ⟨a4, rfl⟩
      have hrr := hr.w r (by rw [hs]; simp)
      have h1 := lj2 k (r := r) hrr ho hn hi hj hl hp (some (.lst (rs.map tupD))) (some (.lst ((joinL d os ps).map tupD))) none none none W
      have eJ : joinL (d ++ [r]) os ps = joinL d os ps ++ ljR os ps r := by simp [joinL, ljR]
      have h2 := hcut (d ++ [r]) ⟨post, by rw [hs]; simp⟩
      refine ⟨[some (.lst (rs.map tupD)), some (.lst (os.map tupD)), some (psD ps), some (.lst ((joinL d os ps).map tupD)), some (tupD r), none, none, none], [some (.lst (rs.map tupD)), some (.lst (os.map tupD)), some (psD ps), some (.lst ((joinL (d ++ [r]) os ps).map tupD)), some (tupD r), none, none, none], rfl, ?_, _, rfl⟩
      rw [eJ, List.length_append] at h2
      rw [eJ, List.map_append]
      have h3 : ((joinL d os ps).map tupD).length + ((ljR os ps r).map tupD).length ≤ 16777216 := by rw [List.length_map, List.length_map]; omega
      unfold b__law_join_3
      generalize (ljR os ps r).map tupD = q at h1 h3 ⊢
      generalize (joinL d os ps).map tupD = z at h1 h3 ⊢
      generalize rs.map tupD = R0 at h1 ⊢
      generalize os.map tupD = O0 at h1 ⊢
      generalize psD ps = pd at h1 ⊢
      generalize tupD r = t at h1 ⊢
      generalize x__law_join_2 = y at h1 ⊢
      simp [h1, dAdd, asL, h3])
  have hF : runS (callK prg k) l__law_join_4 [some (.lst (rs.map tupD)), some (.lst (os.map tupD)), some (psD ps), some (.lst []), none, none, none, none] W = .nx [some (.lst (rs.map tupD)), some (.lst (os.map tupD)), some (psD ps), some (.lst ((joinL rs os ps).map tupD)), a4, none, none, none] W := e
  rw [c__law_join]
  unfold f__law_join
  generalize (joinL rs os ps).map tupD = fl at hF ⊢
  generalize rs.map tupD = R0 at hF ⊢
  generalize os.map tupD = O0 at hF ⊢
  generalize psD ps = pd at hF ⊢
  generalize l__law_join_4 = y at hF ⊢
  simp [hF]
end LW

namespace LW
open PySem PL
theorem sl_take (W : Wd) (r : Row) (c : Nat) : dSl W (tupD r) none (some (c : Int)) = some (tupD (r.take c)) := by
  simp only [tupD, dSl, cutD, HT.sIx_nat, HT.sIx_none, List.length_map, List.drop_zero, Nat.sub_zero]
  rw [← List.map_take]
  by_cases h : c ≤ r.length
  · rw [Nat.min_eq_left h]
  · rw [Nat.min_eq_right (by omega), List.take_of_length_le (Nat.le_refl _), List.take_of_length_le (by omega)]
theorem ldivide (k : Nat) {rs os : List Row} {n i m j : Nat} (hr : OkRows rs n m) (ho : OkRows os i j) (hn : n ≤ 12) (hi : i ≤ 12) (hm : m ≤ 1000) (hj : j ≤ 1000) (c : Nat) (W : Wd) :
    callK prg (k + 1) "_law_divide" [.lst (rs.map tupD), .lst (os.map tupD), .int (c : Int)] W = .ok (.lst ((dvdL rs os c).map tupD)) W := by
  have hrm := hr.few
  have hom := ho.few
  have x3 : PL.run (callK prg k) x__law_divide_3 [some (.lst (rs.map tupD)), some (.lst (os.map tupD)), some (.int (c : Int)), none, none, none, none] W = .ok (.lst ((rs.map (·.take c)).map tupD)) W := by
    have hI : runI (callK prg k) (.seq (.var 0)) [some (.lst (rs.map tupD)), some (.lst (os.map tupD)), some (.int (c : Int)), none, none, none, none] W = .ok (rs.map tupD) W := by simp
    unfold x__law_divide_3
    rw [run_lc, hI]
    show ((lcLoop _ _ _ (rs.map tupD) W).bndX _) = _
    rw [lc_mapi tupD (fun r => tupD (r.take c))]
    · show (if _ then _ else _) = _
      rw [if_pos (by rw [List.length_map]; omega), List.map_map]
      rfl
    · intro r hrr
      have e := sl_take W r c
      refine ⟨_, rfl, rfl, ?_⟩
      generalize tupD (r.take c) = u at e ⊢
      generalize tupD r = t at e ⊢
      simp [e]
  have x1 : ∀ h : Row, h.length ≤ 12 → ∀ a3 a4 a6, PL.run (callK prg k) x__law_divide_1 [some (.lst (rs.map tupD)), some (.lst (os.map tupD)), some (.int (c : Int)), a3, a4, some (tupD h), a6] W = .ok (.lst ((os.filter fun o => !decide (h ++ o ∈ rs)).map tupD)) W := by
    intro h hh a3 a4 a6
    have hI : runI (callK prg k) (.seq (.var 1)) [some (.lst (rs.map tupD)), some (.lst (os.map tupD)), some (.int (c : Int)), a3, a4, some (tupD h), a6] W = .ok (os.map tupD) W := by simp
    unfold x__law_divide_1
    rw [run_lc, hI]
    show ((lcLoop _ _ _ (os.map tupD) W).bndX _) = _
    rw [lc_filt tupD tupD (fun o => !decide (h ++ o ∈ rs))]
    · show (if _ then _ else _) = _
      rw [if_pos (by rw [List.length_map]; exact Nat.le_trans (List.length_filter_le _ _) (by omega))]
    · intro o hoo
      have hol := ho.w o hoo
      have e1 := add_rows W h o (by omega)
      have e2 := in_rows W (h ++ o) (b := .lst (rs.map tupD)) (ks := rs) rfl
      refine ⟨[some (.lst (rs.map tupD)), some (.lst (os.map tupD)), some (.int (c : Int)), a3, a4, some (tupD h), some (tupD o)], rfl, ?_, fun _ => rfl⟩
      generalize os.map tupD = O0
      generalize rs.map tupD = R0 at e2 ⊢
      generalize tupD (h ++ o) = z at e1 e2 ⊢
      generalize tupD h = t at e1 ⊢
      generalize tupD o = u at e1 ⊢
      simp [e1, e2, oNB]
  have x2 : PL.run (callK prg k) x__law_divide_2 [some (.lst (rs.map tupD)), some (.lst (os.map tupD)), some (.int (c : Int)), some (.lst ((rs.map (·.take c)).map tupD)), none, none, none] W = .ok (.lst ((dvdL rs os c).map tupD)) W := by
    have hI : runI (callK prg k) (.seq (.var 3)) [some (.lst (rs.map tupD)), some (.lst (os.map tupD)), some (.int (c : Int)), some (.lst ((rs.map (·.take c)).map tupD)), none, none, none] W = .ok ((rs.map (·.take c)).map tupD) W := by simp
    unfold x__law_divide_2
    rw [run_lc, hI]
    show ((lcLoop _ _ _ ((rs.map (·.take c)).map tupD) W).bndX _) = _
    rw [lc_filt tupD tupD (fun h => os.all fun o => decide (h ++ o ∈ rs))]
    · show (if _ then _ else _) = _
      rw [if_pos (by rw [List.length_map]; exact Nat.le_trans (List.length_filter_le _ _) (by rw [List.length_map]; omega))]
      rfl
    · intro h hh
      have hl : h.length ≤ 12 := by
        obtain ⟨r, hrr, rfl⟩ := List.mem_map.mp hh
        rw [List.length_take, hr.w r hrr]; omega
      have e := x1 h hl (some (.lst ((rs.map (·.take c)).map tupD))) none none
      have h0 := eq_lnil W (nb_rows (os.filter fun o => !decide (h ++ o ∈ rs)))
      have he : ((os.filter fun o => !decide (h ++ o ∈ rs)).map tupD).isEmpty = os.all fun o => decide (h ++ o ∈ rs) := by
        clear e h0 x1 x3 hI ho hom
        induction os with
        | nil => rfl
        | cons q ts ih =>
          by_cases hb : h ++ q ∈ rs <;> simp [List.filter_cons, hb] <;> simpa using ih
      rw [he] at h0
      refine ⟨[some (.lst (rs.map tupD)), some (.lst (os.map tupD)), some (.int (c : Int)), some (.lst ((rs.map (·.take c)).map tupD)), none, some (tupD h), none], rfl, ?_, fun _ => rfl⟩
      generalize (os.filter fun o => !decide (h ++ o ∈ rs)).map tupD = fl at e h0
      generalize (rs.map (·.take c)).map tupD = H0 at e ⊢
      generalize os.map tupD = O0 at e ⊢
      generalize rs.map tupD = R0 at e ⊢
      generalize tupD h = t at e ⊢
      generalize x__law_divide_1 = y at e ⊢
      simp [e, h0]
  rw [c__law_divide]
  unfold f__law_divide
  generalize (rs.map (·.take c)).map tupD = H0 at x3 x2
  generalize (dvdL rs os c).map tupD = fl at x2 ⊢
  generalize os.map tupD = O0 at x2 x3 ⊢
  generalize rs.map tupD = R0 at x2 x3 ⊢
  generalize x__law_divide_3 = y3 at x3 ⊢
  generalize x__law_divide_2 = y2 at x2 ⊢
  simp [x3, x2]
end LW

namespace LW
open PySem PL
theorem pys_rows (ks : List Row) : D.pys (ks.map tupD) = some (ks.map fun k => PyData.tuple (k.map .int)) := by
  induction ks with
  | nil => rfl
  | cons k ks ih => simp [D.pys, D.py, tupD, pysD_ints] at ih ⊢; simp [ih]
theorem plain_ints (k : Row) : PyData.plainAll (k.map .int) = true := by
  induction k with
  | nil => rfl
  | cons a k ih => simp [PyData.plainAll, PyData.plain, ih]
theorem plain_rows (ks : List Row) : PyData.plainAll (ks.map fun k => PyData.tuple (k.map .int)) = true := by
  induction ks with
  | nil => rfl
  | cons k ks ih => simp [PyData.plainAll, PyData.plain, plain_ints, ih]
theorem depth_ints (k : Row) : PyData.depthAll (k.map .int) ≤ 1 := by
  induction k with
  | nil => simp [PyData.depthAll]
  | cons a k ih => simp only [List.map_cons, PyData.depthAll, PyData.depth]; omega
theorem depth_row (k : Row) : (PyData.tuple (k.map .int)).depth ≤ 2 := by
  have := depth_ints k
  simp only [PyData.depth]; omega
theorem eqv_row (a b : Row) : PyData.eqv (.tuple (a.map .int)) (.tuple (b.map .int)) = decide (a = b) := by
  have := Nbs.eqv (a := a.map .int) (b := b.map .int) (nb_ints a) (nb_ints b) (pysD_ints a) (pysD_ints b)
  rw [same_ints] at this
  simpa [PyData.eqv] using this
theorem count_rows (W : Wd) (ks : List Row) (k : Row) : dMt .count W (.lst (ks.map tupD)) (tupD k) = some (.int ((ks.filter fun q => decide (q = k)).length : Int)) := by
  have h1 := pys_rows ks
  have h2 : pyW W (tupD k) = some (.tuple (k.map .int)) := by simp [pyW, tupD, D.py, pysD_ints]
  have h3 := plain_rows ks
  have h4 : PyData.plain (.tuple (k.map .int)) = true := by simp [PyData.plain, plain_ints]
  have h5 : min (PyData.depthAll (ks.map fun k => PyData.tuple (k.map .int))) (PyData.tuple (k.map .int)).depth ≤ 100 := Nat.le_trans (Nat.min_le_right _ _) (Nat.le_trans (depth_row k) (by decide))
  have h6 : ((ks.map fun k => PyData.tuple (k.map .int)).countP fun z => PyData.eqv z (.tuple (k.map .int))) = (ks.filter fun q => decide (q = k)).length := by
    rw [List.countP_map, List.countP_eq_length_filter]
    congr 1
    apply List.filter_congr
    intro q _
    exact eqv_row q k
  simp only [dMt, asL, h1, h2]
  rw [if_pos ⟨h3, h4, h5⟩, h6]
end LW

namespace LW
open PySem PL
theorem lcrowd (k : Nat) {rs : List Row} {n m : Nat} (hr : OkRows rs n m) (hm : m ≤ 1000) {cs : List Nat} (hl : cs.length ≤ 12) (hc : ∀ c ∈ cs, c < n) (l : Nat) (W : Wd) :
    callK prg (k + 1) "_law_crowd" [.lst (rs.map tupD), .tup (natsD cs), .int (l : Int)] W = .ok (.lst ((crdL rs cs l).map tupD)) W := by
  have hrm := hr.few
  have hcl : cs.length ≤ 16777216 := by omega
  have x2 : ∀ r ∈ rs, ∀ a3 a5 a6, PL.run (callK prg k) x__law_crowd_2 [some (.lst (rs.map tupD)), some (.tup (natsD cs)), some (.int (l : Int)), a3, some (tupD r), a5, a6] W = .ok (.lst ((proj cs r).map .int)) W := by
    intro r hrr a3 a5 a6
    have hI : runI (callK prg k) (.seq (.var 1)) [some (.lst (rs.map tupD)), some (.tup (natsD cs)), some (.int (l : Int)), a3, some (tupD r), a5, a6] W = .ok (cs.map fun (i : Nat) => .int (i : Int)) W := by simp [natsD]
    unfold x__law_crowd_2
    rw [run_lc, hI]
    show ((lcLoop _ _ _ (cs.map fun (i : Nat) => D.int (i : Int)) W).bndX _) = _
    rw [lc_mapi (fun (i : Nat) => D.int (i : Int)) (fun c => .int (at0 r c))]
    · simp [proj, hcl]
    · intro c hcc
      have := ix_row W (r := r) (c := c) (by rw [hr.w r hrr]; exact hc c hcc)
      refine ⟨_, rfl, rfl, ?_⟩
      generalize tupD r = t at this ⊢
      simp [this]
  have x3 : PL.run (callK prg k) x__law_crowd_3 [some (.lst (rs.map tupD)), some (.tup (natsD cs)), some (.int (l : Int)), none, none, none, none] W = .ok (.lst ((rs.map (proj cs)).map tupD)) W := by
    have hI : runI (callK prg k) (.seq (.var 0)) [some (.lst (rs.map tupD)), some (.tup (natsD cs)), some (.int (l : Int)), none, none, none, none] W = .ok (rs.map tupD) W := by simp
    unfold x__law_crowd_3
    rw [run_lc, hI]
    show ((lcLoop _ _ _ (rs.map tupD) W).bndX _) = _
    rw [lc_mapi tupD (fun r => tupD (proj cs r))]
    · show (if _ then _ else _) = _
      rw [if_pos (by rw [List.length_map]; omega), List.map_map]
      rfl
    · intro r hrr
      have e := x2 r hrr none none none
      refine ⟨[some (.lst (rs.map tupD)), some (.tup (natsD cs)), some (.int (l : Int)), none, some (tupD r), none, none], rfl, rfl, ?_⟩
      have h4 : (proj cs r).length ≤ 16777216 := by simp [proj, hcl]
      have e2 : tupD (proj cs r) = .tup ((proj cs r).map .int) := rfl
      rw [e2]
      generalize natsD cs = nd at e ⊢
      generalize rs.map tupD = R0 at e ⊢
      generalize tupD r = t at e ⊢
      generalize x__law_crowd_2 = y at e ⊢
      simp [e, h4]
  have x1 : PL.run (callK prg k) x__law_crowd_1 [some (.lst (rs.map tupD)), some (.tup (natsD cs)), some (.int (l : Int)), some (.lst ((rs.map (proj cs)).map tupD)), none, none, none] W = .ok (.lst ((crdL rs cs l).map tupD)) W := by
    have hI : runI (callK prg k) (.enum (.var 0)) [some (.lst (rs.map tupD)), some (.tup (natsD cs)), some (.int (l : Int)), some (.lst ((rs.map (proj cs)).map tupD)), none, none, none] W = .ok (rs.zipIdx.map fun p => pairD (.int (p.2 : Nat)) (tupD p.1)) W := by
      have he := enum_eq tupD rs
      simp only [runI, PL.run]
      show ((R.ok (D.lst (rs.map tupD)) W).bnd _) = _
      simp only [R.bnd, dEnum, asL, Option.map_some]
      rw [he]; rfl
    have hfin : (rs.zipIdx.filter fun p => decide (l ≤ (rs.filter fun q => decide (proj cs q = proj cs p.1)).length)).map (fun p => tupD p.1) = (crdL rs cs l).map tupD := by
      unfold crdL
      have e1 : rs = rs.zipIdx.map (·.1) := by rw [List.zipIdx_map_fst]
      generalize hP : (fun r : Row => decide (l ≤ (rs.filter fun q => decide (proj cs q = proj cs r)).length)) = P
      have hP2 : (fun p : Row × Nat => decide (l ≤ (rs.filter fun q => decide (proj cs q = proj cs p.1)).length)) = P ∘ (·.1) := by rw [← hP]; rfl
      rw [hP2]
      conv => rhs; rw [e1]
      rw [List.filter_map, List.map_map]
      rfl
    unfold x__law_crowd_1
    rw [run_lc, hI]
    show ((lcLoop _ _ _ (rs.zipIdx.map fun p => pairD (.int (p.2 : Nat)) (tupD p.1)) W).bndX _) = _
    rw [lc_filt (fun (p : Row × Nat) => pairD (.int (p.2 : Nat)) (tupD p.1)) (fun p => tupD p.1) (fun p => decide (l ≤ (rs.filter fun q => decide (proj cs q = proj cs p.1)).length)), hfin]
    · show (if _ then _ else _) = _
      rw [if_pos (by rw [List.length_map]; exact Nat.le_trans (List.length_filter_le _ _) (by omega))]
    · intro p hp
      obtain ⟨r, i⟩ := p
      have hq : rs[i]? = some r := by simpa using List.mem_zipIdx_iff_getElem?.mp hp
      have hi : i < rs.length := (List.getElem?_eq_some_iff.mp hq).1
      have hqi : rs[i] = r := (List.getElem?_eq_some_iff.mp hq).2
      have k1 : dIx W (.lst ((rs.map (proj cs)).map tupD)) (.int (i : Int)) = some (tupD (proj cs r)) := by
        rw [ix_natL W (by simpa using hi)]
        simp [hqi]
      have k2 := count_rows W (rs.map (proj cs)) (proj cs r)
      have k3 : ((rs.map (proj cs)).filter fun q => decide (q = proj cs r)).length = (rs.filter fun q => decide (proj cs q = proj cs r)).length := by
        rw [List.filter_map, List.length_map]; rfl
      rw [k3] at k2
      refine ⟨[some (.lst (rs.map tupD)), some (.tup (natsD cs)), some (.int (l : Int)), some (.lst ((rs.map (proj cs)).map tupD)), some (tupD r), some (.int (i : Int)), none], rfl, ?_, fun _ => rfl⟩
      generalize (rs.filter fun q => decide (proj cs q = proj cs r)).length = w at k2 ⊢
      generalize (rs.map (proj cs)).map tupD = c0 at k1 k2 ⊢
      generalize tupD (proj cs r) = t at k1 k2 ⊢
      simp [k1, k2, oB, dGe]
  rw [c__law_crowd]
  unfold f__law_crowd
  generalize (rs.map (proj cs)).map tupD = c0 at x3 x1
  generalize (crdL rs cs l).map tupD = fl at x1 ⊢
  generalize natsD cs = nd at x1 x3 ⊢
  generalize rs.map tupD = R0 at x1 x3 ⊢
  generalize x__law_crowd_3 = y3 at x3 ⊢
  generalize x__law_crowd_1 = y1 at x1 ⊢
  simp [x3, x1]
end LW

namespace LW
open PySem PL
theorem lwide {s : Sto} (hs : OkSt s) (W : Wd) : ∀ {t : Tr} {n m : Nat}, OkTr s t n m → ∀ k, t.deep ≤ k → callK prg (k + 1) "_law_wide" [stD s, t.d] W = .ok (.int (n : Int)) W := by
  intro t n m h
  induction h with
  | @tab x tb m hm _ _ =>
    intro k _
    have h1 := dict_sto W s
    have h2 := tabs_get hs hm
    simp only at h2
    have h0 : dIxA W (.dct (tabsD s)) (.str x) = some tb.d := by
      show (asKey (.str x)).bind (fun k => keyGet (tabsD s) k) = _
      simp [asKey, h2]
    have h3 : dIxA W tb.d (.int 0) = some (.int (tb.c : Int)) := by
      show dIx W tb.d (.int 0) = _
      simp [Tb.d]
    rw [c__law_wide]
    unfold f__law_wide
    simp only [Tr.d, stD]
    have h4 : PL.run (callK prg k) (.bi ("dict" : Str) (.cons (.bi ("list" : Str) (.cons (.var 0) .nil)) .nil)) [some (.tup (s.map enD)), some (.tup [.str "table", .str x]), none] W = .ok (.dct (tabsD s)) W := by
      have h5 : PL.run (callK prg k) (.bi ("list" : Str) (.cons (.var 0) .nil)) [some (.tup (s.map enD)), some (.tup [.str "table", .str x]), none] W = .ok (.lst (s.map enD)) W := by simp
      simp only [PL.run, runs] at h5 ⊢
      rw [h5]
      simp only [R.bnd, bi_dict, h1, ofO]
    generalize (C.bi ("dict" : Str) (.cons (.bi ("list" : Str) (.cons (.var 0) .nil)) .nil)) = y at h4 ⊢
    generalize s.map enD = l at h4 ⊢
    generalize tabsD s = td at h4 h0
    generalize tb.d = tt at h0 h3
    simp [h4, h0, h3]
  | @sel t n m ts ht hl hq ih =>
    intro k hk
    obtain ⟨k, rfl⟩ : ∃ j, k = j + 1 := ⟨k - 1, by simp only [Tr.deep] at hk; omega⟩
    have e1 := ih k (by simp only [Tr.deep] at hk; omega)
    have e3 := pj_in W "select"
    rw [c__law_wide]
    unfold f__law_wide
    simp only [Tr.d]
    generalize stD s = sd at e1 ⊢
    generalize t.d = tt at e1 ⊢
    simp [e1, e3]
  | @prj t n m cs ht hl hc ih =>
    intro k hk
    have hl2 : (natsD cs).length = cs.length := List.length_map _
    rw [c__law_wide]
    unfold f__law_wide
    simp only [Tr.d]
    generalize natsD cs = nd at hl2 ⊢
    generalize stD s = sd
    simp [hl2]
  | @crd t n m l cs ht hl hc hn h1 h2 ih =>
    intro k hk
    obtain ⟨k, rfl⟩ : ∃ j, k = j + 1 := ⟨k - 1, by simp only [Tr.deep] at hk; omega⟩
    have e1 := ih k (by simp only [Tr.deep] at hk; omega)
    have e3 := pj_in W "crowd"
    rw [c__law_wide]
    unfold f__law_wide
    simp only [Tr.d]
    generalize stD s = sd at e1 ⊢
    generalize t.d = tt at e1 ⊢
    simp [e1, e3]
  | @prd a b n m q j ha hb hn hm iha ihb =>
    intro k hk
    obtain ⟨k, rfl⟩ : ∃ j, k = j + 1 := ⟨k - 1, by simp only [Tr.deep] at hk; omega⟩
    have e1 := iha k (by simp only [Tr.deep] at hk; omega)
    have e2 := ihb k (by simp only [Tr.deep] at hk; omega)
    have e3 := pj_in W "product"
    rw [c__law_wide]
    unfold f__law_wide
    simp only [Tr.d]
    generalize stD s = sd at e1 e2 ⊢
    generalize a.d = ta at e1 ⊢
    generalize b.d = tb at e2 ⊢
    simp [e1, e2, e3, dAdd, dSub]
  | @jn a b n m q j ps ha hb hn hm hl hp iha ihb =>
    intro k hk
    obtain ⟨k, rfl⟩ : ∃ j, k = j + 1 := ⟨k - 1, by simp only [Tr.deep] at hk; omega⟩
    have e1 := iha k (by simp only [Tr.deep] at hk; omega)
    have e2 := ihb k (by simp only [Tr.deep] at hk; omega)
    have e3 := pj_in W "join"
    rw [c__law_wide]
    unfold f__law_wide
    simp only [Tr.d]
    generalize stD s = sd at e1 e2 ⊢
    generalize a.d = ta at e1 ⊢
    generalize b.d = tb at e2 ⊢
    simp [e1, e2, e3, dAdd, dSub]
  | @uni a b n m j ha hb hm iha ihb =>
    intro k hk
    obtain ⟨k, rfl⟩ : ∃ j, k = j + 1 := ⟨k - 1, by simp only [Tr.deep] at hk; omega⟩
    have e1 := iha k (by simp only [Tr.deep] at hk; omega)
    have e2 := ihb k (by simp only [Tr.deep] at hk; omega)
    have e3 := pj_in W "union"
    rw [c__law_wide]
    unfold f__law_wide
    simp only [Tr.d]
    generalize stD s = sd at e1 e2 ⊢
    generalize a.d = ta at e1 ⊢
    generalize b.d = tb at e2 ⊢
    simp [e1, e2, e3, dAdd, dSub]
  | @lft a b n m j ha hb iha ihb =>
    intro k hk
    obtain ⟨k, rfl⟩ : ∃ j, k = j + 1 := ⟨k - 1, by simp only [Tr.deep] at hk; omega⟩
    have e1 := iha k (by simp only [Tr.deep] at hk; omega)
    have e2 := ihb k (by simp only [Tr.deep] at hk; omega)
    have e3 := pj_in W "leftover"
    rw [c__law_wide]
    unfold f__law_wide
    simp only [Tr.d]
    generalize stD s = sd at e1 e2 ⊢
    generalize a.d = ta at e1 ⊢
    generalize b.d = tb at e2 ⊢
    simp [e1, e2, e3, dAdd, dSub]
  | @dvd a b n m q j ha hb hq iha ihb =>
    intro k hk
    obtain ⟨k, rfl⟩ : ∃ j, k = j + 1 := ⟨k - 1, by simp only [Tr.deep] at hk; omega⟩
    have e1 := iha k (by simp only [Tr.deep] at hk; omega)
    have e2 := ihb k (by simp only [Tr.deep] at hk; omega)
    have e3 := pj_in W "divide"
    have h9 : ((n - q : Nat) : Int) = (n : Int) - (q : Int) := by omega
    rw [c__law_wide]
    unfold f__law_wide
    simp only [Tr.d]
    generalize stD s = sd at e1 e2 ⊢
    generalize a.d = ta at e1 ⊢
    generalize b.d = tb at e2 ⊢
    simp [e1, e2, e3, dAdd, dSub, h9]
end LW

namespace LW
open PySem PL
theorem lfin {rows : List Row} {n m : Nat} (hm : m ≤ 1000) (hl : rows.length ≤ m) (hw : ∀ r ∈ rows, r.length = n) (W : Wd) : dSet W [.lst (rows.map tupD)] = some (.set ((sortL rows).map tupD)) ∧ dSort W [.set ((sortL rows).map tupD)] = some (.lst ((sortL rows).map tupD)) :=
  ⟨set_rows W (by omega), sort_rows W n hw⟩
theorem lans {s : Sto} (hs : OkSt s) (W : Wd) : ∀ {t : Tr} {n m : Nat}, OkTr s t n m → ∀ k, t.deep ≤ k → callK prg (k + 3) "_law_answer" [stD s, t.d] W = .ok (.lst ((t.rows s).map tupD)) W := by
  intro t n m h
  induction h with
  | @sel t n m ts ht hl hq ih =>
    intro k hk
    obtain ⟨k, rfl⟩ : ∃ j, k = j + 1 := ⟨k - 1, by simp only [Tr.deep] at hk; omega⟩
    obtain ⟨b1, b2, _, b4⟩ := OkTr.bound hs ht
    have e1 := ih k (by simp only [Tr.deep] at hk; omega)
    have e2 := lsel (k + 1) b4 b2 hl hq W
    obtain ⟨f1, f2⟩ := lfin (n := n) b2 (Nat.le_trans (List.length_filter_le _ _) b4.few) (fun r hr => b4.w r (mem_filt hr)) (rows := selL (t.rows s) ts) W
    rw [c__law_answer]
    unfold f__law_answer
    show _ = R.ok (D.lst ((sortL (selL (t.rows s) ts)).map tupD)) W
    simp only [Tr.d]
    generalize (sortL (selL (t.rows s) ts)).map tupD = S at f1 f2 ⊢
    generalize (selL (t.rows s) ts).map tupD = L at f1 e2
    generalize (t.rows s).map tupD = R0 at e1 e2
    generalize D.tup (ts.map Tst.d) = td at e2 ⊢
    generalize stD s = sd at e1 ⊢
    generalize t.d = tt at e1 ⊢
    generalize x__law_answer_2 = y2
    generalize x__law_answer_3 = y3
    simp [e1, e2, f1, f2]
  | @tab x tb m hm _ _ =>
    intro k _
    have e := find_tab hs hm
    have er : (Tr.tab x).rows s = tb.rows := by show tabRows s x = _; unfold tabRows; rw [e]; rfl
    have h1 := dict_sto W s
    have h2 := tabs_get hs hm
    simp only at h2
    have h0 : dIxA W (.dct (tabsD s)) (.str x) = some tb.d := by
      show (asKey (.str x)).bind (fun k => keyGet (tabsD s) k) = _
      simp [asKey, h2]
    have h3 : dIxA W tb.d (.int 1) = some (.tup (tb.rows.map tupD)) := by
      show dIx W tb.d (.int 1) = _
      simp [Tb.d]
    rw [c__law_answer, er]
    unfold f__law_answer
    simp only [Tr.d, stD]
    have h4 : ∀ a2, PL.run (callK prg (k + 2)) (.bi ("dict" : Str) (.cons (.bi ("list" : Str) (.cons (.var 0) .nil)) .nil)) [some (.tup (s.map enD)), some (.tup [.str "table", .str x]), a2, none, none, none, none] W = .ok (.dct (tabsD s)) W := by
      intro a2
      have h5 : PL.run (callK prg (k + 2)) (.bi ("list" : Str) (.cons (.var 0) .nil)) [some (.tup (s.map enD)), some (.tup [.str "table", .str x]), a2, none, none, none, none] W = .ok (.lst (s.map enD)) W := by simp
      simp only [PL.run, runs] at h5 ⊢
      rw [h5]
      simp only [R.bnd, bi_dict, h1, ofO]
    generalize (C.bi ("dict" : Str) (.cons (.bi ("list" : Str) (.cons (.var 0) .nil)) .nil)) = y at h4 ⊢
    generalize s.map enD = l at h4 ⊢
    generalize tabsD s = td at h4 h0
    generalize tb.rows.map tupD = R0 at h3 ⊢
    generalize tb.d = tt at h0 h3
    simp [h4, h0, h3]
  | @crd t n m l cs ht hl hc hn h1 h2 ih =>
    intro k hk
    obtain ⟨k, rfl⟩ : ∃ j, k = j + 1 := ⟨k - 1, by simp only [Tr.deep] at hk; omega⟩
    obtain ⟨b1, b2, _, b4⟩ := OkTr.bound hs ht
    have e1 := ih k (by simp only [Tr.deep] at hk; omega)
    have e2 := lcrowd (k + 2) b4 b2 hl hc l W
    obtain ⟨f1, f2⟩ := lfin (n := n) b2 (Nat.le_trans (List.length_filter_le _ _) b4.few) (fun r hr => b4.w r (mem_filt hr)) (rows := crdL (t.rows s) cs l) W
    rw [c__law_answer]
    unfold f__law_answer
    show _ = R.ok (D.lst ((sortL (crdL (t.rows s) cs l)).map tupD)) W
    simp only [Tr.d]
    generalize (sortL (crdL (t.rows s) cs l)).map tupD = S at f1 f2 ⊢
    generalize (crdL (t.rows s) cs l).map tupD = L at f1 e2
    generalize (t.rows s).map tupD = R0 at e1 e2
    generalize D.tup (natsD cs) = td at e2 ⊢
    generalize stD s = sd at e1 ⊢
    generalize t.d = tt at e1 ⊢
    generalize x__law_answer_2 = y2
    generalize x__law_answer_3 = y3
    simp [e1, e2, f1, f2]
  | @prd a b n m q j ha hb hn hm iha ihb =>
    intro k hk
    obtain ⟨k, rfl⟩ : ∃ j, k = j + 1 := ⟨k - 1, by simp only [Tr.deep] at hk; omega⟩
    obtain ⟨b1, b2, _, b4⟩ := OkTr.bound hs ha
    obtain ⟨c1, c2, _, c4⟩ := OkTr.bound hs hb
    have hB := OkTr.bound hs (OkTr.prd ha hb hn hm)
    have e1 := iha k (by simp only [Tr.deep] at hk; omega)
    have e0 := ihb k (by simp only [Tr.deep] at hk; omega)
    have e3 := pj_in W "product"
    have e2 := ljoin (k + 2) b4 c4 b1 c1 b2 c2 hm (ps := []) (by simp) (by simp) W
    have e9 : psD [] = .tup [] := rfl
    rw [e9] at e2
    obtain ⟨f1, f2⟩ := lfin hB.2.1 (Nat.le_trans (joinL_len _ _ _) (Nat.mul_le_mul b4.few c4.few)) (fun r hr => hB.2.2.2.w r (sortL_mem.mpr hr)) (rows := joinL (a.rows s) (b.rows s) []) W
    rw [c__law_answer]
    unfold f__law_answer
    show _ = R.ok (D.lst ((sortL (joinL (a.rows s) (b.rows s) [])).map tupD)) W
    simp only [Tr.d]
    generalize (sortL (joinL (a.rows s) (b.rows s) [])).map tupD = S at f1 f2 ⊢
    generalize (joinL (a.rows s) (b.rows s) []).map tupD = L at f1 e2
    generalize (a.rows s).map tupD = R0 at e1 e2
    generalize (b.rows s).map tupD = O0 at e0 e2
    generalize stD s = sd at e1 e0 ⊢
    generalize a.d = ta at e1 ⊢
    generalize b.d = tb at e0 ⊢
    generalize x__law_answer_2 = y2
    generalize x__law_answer_3 = y3
    simp [e1, e0, e3, e2, f1, f2]
  | @jn a b n m q j ps ha hb hn hm hl hp iha ihb =>
    intro k hk
    obtain ⟨k, rfl⟩ : ∃ j, k = j + 1 := ⟨k - 1, by simp only [Tr.deep] at hk; omega⟩
    obtain ⟨b1, b2, _, b4⟩ := OkTr.bound hs ha
    obtain ⟨c1, c2, _, c4⟩ := OkTr.bound hs hb
    have hB := OkTr.bound hs (OkTr.jn ha hb hn hm hl hp)
    have e1 := iha k (by simp only [Tr.deep] at hk; omega)
    have e0 := ihb k (by simp only [Tr.deep] at hk; omega)
    have e3 := pj_in W "join"
    have e2 := ljoin (k + 2) b4 c4 b1 c1 b2 c2 hm hl hp W
    unfold psD at e2
    obtain ⟨f1, f2⟩ := lfin hB.2.1 (Nat.le_trans (joinL_len _ _ _) (Nat.mul_le_mul b4.few c4.few)) (fun r hr => hB.2.2.2.w r (sortL_mem.mpr hr)) (rows := joinL (a.rows s) (b.rows s) ps) W
    rw [c__law_answer]
    unfold f__law_answer
    show _ = R.ok (D.lst ((sortL (joinL (a.rows s) (b.rows s) ps)).map tupD)) W
    simp only [Tr.d]
    generalize (sortL (joinL (a.rows s) (b.rows s) ps)).map tupD = S at f1 f2 ⊢
    generalize (joinL (a.rows s) (b.rows s) ps).map tupD = L at f1 e2
    generalize (a.rows s).map tupD = R0 at e1 e2
    generalize (b.rows s).map tupD = O0 at e0 e2
    generalize D.tup (ps.map prD) = pd at e2 ⊢
    generalize stD s = sd at e1 e0 ⊢
    generalize a.d = ta at e1 ⊢
    generalize b.d = tb at e0 ⊢
    generalize x__law_answer_2 = y2
    generalize x__law_answer_3 = y3
    simp [e1, e0, e3, e2, f1, f2]
  | @uni a b n m j ha hb hm iha ihb =>
    intro k hk
    obtain ⟨k, rfl⟩ : ∃ j, k = j + 1 := ⟨k - 1, by simp only [Tr.deep] at hk; omega⟩
    obtain ⟨b1, b2, _, b4⟩ := OkTr.bound hs ha
    obtain ⟨c1, c2, _, c4⟩ := OkTr.bound hs hb
    have hB := OkTr.bound hs (OkTr.uni ha hb hm)
    have e1 := iha k (by simp only [Tr.deep] at hk; omega)
    have e0 := ihb k (by simp only [Tr.deep] at hk; omega)
    have e3 := pj_in W "union"
    have g1 := b4.few
    have g2 := c4.few
    obtain ⟨f1, f2⟩ := lfin hB.2.1 (by rw [List.length_append]; omega) (fun r hr => hB.2.2.2.w r (sortL_mem.mpr hr)) (rows := a.rows s ++ b.rows s) W
    have h3 : ((a.rows s).map tupD).length + ((b.rows s).map tupD).length ≤ 16777216 := by rw [List.length_map, List.length_map]; omega
    rw [c__law_answer]
    unfold f__law_answer
    show _ = R.ok (D.lst ((sortL (a.rows s ++ b.rows s)).map tupD)) W
    simp only [Tr.d]
    generalize (sortL (a.rows s ++ b.rows s)).map tupD = S at f1 f2 ⊢
    rw [List.map_append] at f1
    generalize (a.rows s).map tupD = R0 at e1 f1 h3
    generalize (b.rows s).map tupD = O0 at e0 f1 h3
    generalize stD s = sd at e1 e0 ⊢
    generalize a.d = ta at e1 ⊢
    generalize b.d = tb at e0 ⊢
    generalize x__law_answer_2 = y2
    generalize x__law_answer_3 = y3
    simp [e1, e0, e3, dAdd, asL, h3, f1, f2]
  | @dvd a b n m q j ha hb hq iha ihb =>
    intro k hk
    have hk0 := hk
    obtain ⟨k, rfl⟩ : ∃ j, k = j + 1 := ⟨k - 1, by simp only [Tr.deep] at hk; omega⟩
    obtain ⟨b1, b2, _, b4⟩ := OkTr.bound hs ha
    obtain ⟨c1, c2, _, c4⟩ := OkTr.bound hs hb
    have hB := OkTr.bound hs (OkTr.dvd ha hb hq)
    have e1 := iha k (by simp only [Tr.deep] at hk; omega)
    have e0 := ihb k (by simp only [Tr.deep] at hk; omega)
    have e3 := pj_in W "divide"
    have e8 := lwide hs W (OkTr.dvd ha hb hq) (k + 2) (by omega)
    have e2 := ldivide (k + 2) b4 c4 b1 c1 b2 c2 (n - q) W
    have hw : (Tr.dvd a b).wide s = n - q := hB.2.2.1
    have hL : (Tr.dvd a b).rows s = sortL (dvdL (a.rows s) (b.rows s) (n - q)) := by rw [← hw]; rfl
    rw [hL] at hB
    obtain ⟨f1, f2⟩ := lfin hB.2.1 (Nat.le_trans (List.length_filter_le _ _) (by rw [List.length_map]; exact b4.few)) (fun r hr => hB.2.2.2.w r (sortL_mem.mpr hr)) (rows := dvdL (a.rows s) (b.rows s) (n - q)) W
    rw [c__law_answer, hL]
    unfold f__law_answer
    simp only [Tr.d] at e8 ⊢
    generalize (sortL (dvdL (a.rows s) (b.rows s) (n - q))).map tupD = S at f1 f2 ⊢
    generalize (dvdL (a.rows s) (b.rows s) (n - q)).map tupD = L at f1 e2
    generalize ((n - q : Nat) : Int) = w at e2 e8
    generalize (a.rows s).map tupD = R0 at e1 e2
    generalize (b.rows s).map tupD = O0 at e0 e2
    generalize stD s = sd at e1 e0 e8 ⊢
    generalize a.d = ta at e1 e8 ⊢
    generalize b.d = tb at e0 e8 ⊢
    generalize x__law_answer_2 = y2
    generalize x__law_answer_3 = y3
    simp [e1, e0, e3, e8, e2, f1, f2]
  | @lft a b n m j ha hb iha ihb =>
    intro k hk
    obtain ⟨k, rfl⟩ : ∃ j, k = j + 1 := ⟨k - 1, by simp only [Tr.deep] at hk; omega⟩
    obtain ⟨b1, b2, _, b4⟩ := OkTr.bound hs ha
    obtain ⟨c1, c2, _, c4⟩ := OkTr.bound hs hb
    have hB := OkTr.bound hs (OkTr.lft ha hb)
    have e1 := iha k (by simp only [Tr.deep] at hk; omega)
    have e0 := ihb k (by simp only [Tr.deep] at hk; omega)
    have e3 := pj_in W "leftover"
    have g1 := b4.few
    obtain ⟨f1, f2⟩ := lfin hB.2.1 (Nat.le_trans (List.length_filter_le _ _) b4.few) (fun r hr => hB.2.2.2.w r (sortL_mem.mpr hr)) (rows := lftL (a.rows s) (b.rows s)) W
    have x3 : ∀ a0 a1 a2, PL.run (callK prg (k + 3)) x__law_answer_3 [a0, a1, a2, some (.lst ((a.rows s).map tupD)), some (.lst ((b.rows s).map tupD)), none, none] W = .ok (.lst ((lftL (a.rows s) (b.rows s)).map tupD)) W := by
      intro a0 a1 a2
      have hI : runI (callK prg (k + 3)) (.seq (.var 3)) [a0, a1, a2, some (.lst ((a.rows s).map tupD)), some (.lst ((b.rows s).map tupD)), none, none] W = .ok ((a.rows s).map tupD) W := by simp
      unfold x__law_answer_3
      rw [run_lc, hI]
      show ((lcLoop _ _ _ ((a.rows s).map tupD) W).bndX _) = _
      rw [lc_filt tupD tupD (fun r => decide (r ∉ b.rows s))]
      · show (if _ then _ else _) = _
        rw [if_pos (by rw [List.length_map]; exact Nat.le_trans (List.length_filter_le _ _) (by omega))]
        rfl
      · intro r hrr
        have e2 := in_rows W r (b := .lst ((b.rows s).map tupD)) (ks := b.rows s) rfl
        refine ⟨[a0, a1, a2, some (.lst ((a.rows s).map tupD)), some (.lst ((b.rows s).map tupD)), some (tupD r), none], rfl, ?_, fun _ => rfl⟩
        generalize (a.rows s).map tupD = R0
        generalize (b.rows s).map tupD = O0 at e2 ⊢
        generalize tupD r = t at e2 ⊢
        simp [e2, oNB]
    rw [c__law_answer]
    unfold f__law_answer
    show _ = R.ok (D.lst ((sortL (lftL (a.rows s) (b.rows s))).map tupD)) W
    simp only [Tr.d]
    generalize (sortL (lftL (a.rows s) (b.rows s))).map tupD = S at f1 f2 ⊢
    generalize (lftL (a.rows s) (b.rows s)).map tupD = L at f1 x3
    generalize (a.rows s).map tupD = R0 at e1 x3
    generalize (b.rows s).map tupD = O0 at e0 x3
    generalize stD s = sd at e1 e0 ⊢
    generalize a.d = ta at e1 ⊢
    generalize b.d = tb at e0 ⊢
    generalize x__law_answer_2 = y2
    generalize x__law_answer_3 = y3 at x3 ⊢
    simp [e1, e0, e3, x3, f1, f2]
  | @prj t n m cs ht hl hc ih =>
    intro k hk
    obtain ⟨k, rfl⟩ : ∃ j, k = j + 1 := ⟨k - 1, by simp only [Tr.deep] at hk; omega⟩
    obtain ⟨b1, b2, _, b4⟩ := OkTr.bound hs ht
    have e1 := ih k (by simp only [Tr.deep] at hk; omega)
    have g1 := b4.few
    have hcl : cs.length ≤ 16777216 := by omega
    obtain ⟨f1, f2⟩ := lfin (n := cs.length) b2 (by rw [List.length_map]; exact g1) (fun r hr => by
      obtain ⟨q, _, rfl⟩ := List.mem_map.mp hr
      simp [proj]) (rows := (t.rows s).map (proj cs)) W
    have x2 : ∀ a0 a2, PL.run (callK prg (k + 3)) x__law_answer_2 [a0, some (.tup [.str "project", t.d, .tup (natsD cs)]), a2, some (.lst ((t.rows s).map tupD)), none, none, none] W = .ok (.lst (((t.rows s).map (proj cs)).map tupD)) W := by
      intro a0 a2
      have hI : runI (callK prg (k + 3)) (.seq (.var 3)) [a0, some (.tup [.str "project", t.d, .tup (natsD cs)]), a2, some (.lst ((t.rows s).map tupD)), none, none, none] W = .ok ((t.rows s).map tupD) W := by simp
      unfold x__law_answer_2
      rw [run_lc, hI]
      show ((lcLoop _ _ _ ((t.rows s).map tupD) W).bndX _) = _
      rw [lc_mapi tupD (fun r => tupD (proj cs r))]
      · show (if _ then _ else _) = _
        rw [if_pos (by rw [List.length_map]; omega), List.map_map]
        rfl
      · intro r hrr
        have e : PL.run (callK prg (k + 3)) x__law_answer_1 [a0, some (.tup [.str "project", t.d, .tup (natsD cs)]), a2, some (.lst ((t.rows s).map tupD)), none, some (tupD r), none] W = .ok (.lst ((proj cs r).map .int)) W := by
          have hI : runI (callK prg (k + 3)) (.seq (.ix (.var 1) (.cst (.int (2))))) [a0, some (.tup [.str "project", t.d, .tup (natsD cs)]), a2, some (.lst ((t.rows s).map tupD)), none, some (tupD r), none] W = .ok (cs.map fun (i : Nat) => .int (i : Int)) W := by simp [natsD]
          unfold x__law_answer_1
          rw [run_lc, hI]
          show ((lcLoop _ _ _ (cs.map fun (i : Nat) => D.int (i : Int)) W).bndX _) = _
          rw [lc_mapi (fun (i : Nat) => D.int (i : Int)) (fun c => .int (at0 r c))]
          · simp [proj, hcl]
          · intro c hcc
            have := ix_row W (r := r) (c := c) (by rw [b4.w r hrr]; exact hc c hcc)
            refine ⟨_, rfl, rfl, ?_⟩
            generalize tupD r = t at this ⊢
            simp [this]
        refine ⟨[a0, some (.tup [.str "project", t.d, .tup (natsD cs)]), a2, some (.lst ((t.rows s).map tupD)), none, some (tupD r), none], rfl, rfl, ?_⟩
        have h4 : (proj cs r).length ≤ 16777216 := by simp [proj, hcl]
        have e2 : tupD (proj cs r) = .tup ((proj cs r).map .int) := rfl
        rw [e2]
        generalize natsD cs = nd at e ⊢
        generalize (t.rows s).map tupD = R0 at e ⊢
        generalize tupD r = u at e ⊢
        generalize x__law_answer_1 = y at e ⊢
        simp [e, h4]
    rw [c__law_answer]
    unfold f__law_answer
    show _ = R.ok (D.lst ((sortL ((t.rows s).map (proj cs))).map tupD)) W
    simp only [Tr.d]
    generalize (sortL ((t.rows s).map (proj cs))).map tupD = S at f1 f2 ⊢
    generalize ((t.rows s).map (proj cs)).map tupD = L at f1 x2
    generalize (t.rows s).map tupD = R0 at e1 x2
    generalize D.tup (natsD cs) = td at x2 ⊢
    generalize stD s = sd at e1 ⊢
    generalize t.d = tt at e1 x2 ⊢
    generalize x__law_answer_2 = y2 at x2 ⊢
    generalize x__law_answer_3 = y3
    simp [e1, x2, f1, f2]
end LW

namespace LW
open PySem PL
theorem _root_.PL.Cup.len {W : Wd} (h : Cup W) : W.length = 1 := by obtain ⟨_, _, rfl⟩ := h; rfl
/-- a comprehension that draws -/
theorem run_draw {Δ : Tab} {v : Str} {i : Nat} {w : I} {e : C} {ρ : EnvD} {W W1 : Wd} {ds : List D} (P : D → Prop) (hi : runI Δ w ρ W = .ok ds W1) (hn : ds.length ≤ 1000) (h1 : Cup W1) (hl : i < ρ.length)
    (he : ∀ (x : D) (W : Wd), Cup W → ∃ (y : D) (W' : Wd), PL.run Δ e (ρ.set i (some x)) W = .ok y W' ∧ Cup W' ∧ P y) : ∃ (ys : List D) (W' : Wd), PL.run Δ (.lc [(v, i)] (.nm i) w .nil e) ρ W = .ok (.lst ys) W' ∧ Cup W' ∧ ys.length = ds.length ∧ ∀ y ∈ ys, P y := by
  obtain ⟨ys, W2, g1, c2, gl, gp⟩ := lc_ex (asg := fun d W => T.put W (.nm i) d (wipeD ρ [i])) (tst := runT Δ .nil) (elt := PL.run Δ e) P (xs := ds) h1 (fun x hx W hW => by
    obtain ⟨y, W', e1, c, p⟩ := he x W hW
    refine ⟨ρ.set i (some x), y, W', ?_, rfl, e1, c, p⟩
    simp [hl])
  refine ⟨ys, W2, ?_, c2, gl, gp⟩
  rw [run_lc, hi]
  show (lcLoop (fun d W => T.put W (.nm i) d (wipeD ρ [i])) (runT Δ .nil) (PL.run Δ e) ds W1).bndX _ = _
  rw [g1]
  show (if _ then _ else _) = _
  rw [if_pos (by omega)]
theorem rollN (k : Nat) {W : Wd} (hW : Cup W) {m : Nat} (h1 : 0 < m) (h2 : m < 1000000) : ∃ (r : Nat) (W' : Wd), callK prg (k + 1) "_law_roll" [.ref 0, .int (m : Int)] W = .ok (.int (r : Int)) W' ∧ Cup W' ∧ r < m := by
  obtain ⟨r, W', e, c, g1, g2⟩ := roll k hW (m := m) (by omega) (by omega)
  refine ⟨r.toNat, W', ?_, c, by omega⟩
  rw [e, Int.toNat_of_nonneg g1]
theorem range_I (Δ : Tab) (c : C) (ρ : EnvD) (W W1 : Wd) (n : Nat) (hn : n ≤ 1000) (h : PL.run Δ c ρ W = .ok (.int (n : Int)) W1) : runI Δ (.rng1 c) ρ W = .ok ((List.range n).map fun (i : Nat) => .int ((i : Int))) W1 := by
  have := rng_ok (n : Int) (by omega) (by omega)
  simp at this
  simp [h, this]
/-- columns drawn -/
theorem draw_cols (k : Nat) {v : Str} {i : Nat} {w : I} {e : C} {ρ : EnvD} {W W1 : Wd} {ds : List D} {n : Nat} (hn : 0 < n) (hn2 : n ≤ 12) (hi : runI (callK prg (k + 1)) w ρ W = .ok ds W1) (hd : ds.length ≤ 1000) (h1 : Cup W1) (hl : i < ρ.length)
    (he : ∀ (x : D) (W : Wd), PL.run (callK prg (k + 1)) e (ρ.set i (some x)) W = callK prg (k + 1) "_law_roll" [.ref 0, .int (n : Int)] W) : ∃ (cs : List Nat) (W' : Wd), PL.run (callK prg (k + 1)) (.lc [(v, i)] (.nm i) w .nil e) ρ W = .ok (.lst (natsD cs)) W' ∧ Cup W' ∧ cs.length = ds.length ∧ ∀ c ∈ cs, c < n := by
  obtain ⟨ys, W2, g1, c2, gl, gp⟩ := run_draw (v := v) (e := e) (fun y => ∃ c : Nat, y = .int (c : Int) ∧ c < n) hi hd h1 hl (fun x W hW => by
    obtain ⟨r, W', e1, c, hr⟩ := rollN k hW (m := n) hn (by omega)
    exact ⟨_, W', (he x W).trans e1, c, r, rfl, hr⟩)
  obtain ⟨cs, rfl, hcs⟩ := map_of (fun (c : Nat) => D.int (c : Int)) gp
  exact ⟨cs, W2, g1, c2, by simpa using gl, hcs⟩
/-- a drawn test -/
structure DrTst (n : Nat) (q : Tst) : Prop where
  ok : OkTst n q
  val : q.col = false → q.v = 1 ∨ q.v = 2 ∨ q.v = 3 ∨ q.v = 9
theorem ltest (k : Nat) {n : Nat} (hn : 0 < n) (h2 : n ≤ 12) {W : Wd} (hW : Cup W) : ∃ (q : Tst) (W' : Wd), callK prg (k + 3) "_law_test" [.ref 0, .int (n : Int)] W = .ok q.d W' ∧ Cup W' ∧ DrTst n q := by
  obtain ⟨w, W1, e1, c1, hw⟩ := some_of k hW (xs := [.str "is", .str "is", .str "not"]) (by simp) (by simp)
  obtain ⟨b, hb⟩ : ∃ b : Bool, w = .str (if b = true then "is" else "not") := by
    simp at hw
    rcases hw with rfl | rfl
    · exact ⟨true, rfl⟩
    · exact ⟨false, rfl⟩
  obtain ⟨r, W2, e2, c2, r0, r1⟩ := roll (k + 1) c1 (m := 2) (by omega) (by omega)
  obtain ⟨a, W3, e3, c3, ha⟩ := rollN (k + 1) c2 (m := n) hn (by omega)
  by_cases hr : r = 0
  · obtain ⟨z, W4, e4, c4, hz⟩ := rollN (k + 1) c3 (m := n) hn (by omega)
    refine ⟨⟨a, b, true, z⟩, W4, ?_, c4, ⟨⟨ha, (fun _ => ⟨z, rfl, hz⟩), (fun h => by cases h)⟩, fun h => by cases h⟩⟩
    rw [c__law_test]
    have l1 := hW.len
    have l4 := c4.len
    simp [f__law_test, e1, e2, hr, e3, e4, Tst.d, hb, l1, l4]
  · obtain ⟨z, W4, e4, c4, hz⟩ := some_of k c3 (xs := [.int 1, .int 1, .int 2, .int 3, .int 9]) (by simp) (by simp)
    obtain ⟨i, hi, hv⟩ : ∃ i : Int, z = .int i ∧ (i = 1 ∨ i = 2 ∨ i = 3 ∨ i = 9) := by
      simp at hz
      rcases hz with rfl | rfl | rfl | rfl <;> exact ⟨_, rfl, by simp⟩
    subst hi
    refine ⟨⟨a, b, false, i⟩, W4, ?_, c4, ⟨⟨ha, (fun h => by cases h), fun _ => ?_⟩, fun _ => hv⟩⟩
    · rw [c__law_test]
      have l1 := hW.len
      have l4 := c4.len
      simp [f__law_test, e1, e2, hr, e3, e4, Tst.d, hb, l1, l4]
    · show (0 : Int) ≤ i ∧ i ≤ 1000000
      omega
/-- a drawn tree, of n columns, of at most m rows, so deep, of so many knots -/
structure DrTr (s : Sto) (t : Tr) (n m d z : Nat) : Prop where
  ok : ∃ m0, OkTr s t n m0 ∧ m0 ≤ m
  deep : t.deep ≤ d
  size : t.size ≤ z
theorem DrTr.mono {s : Sto} {t : Tr} {n m d z m' d' z' : Nat} (h : DrTr s t n m d z) (h1 : m ≤ m') (h2 : d ≤ d') (h3 : z ≤ z') : DrTr s t n m' d' z' := by
  obtain ⟨m0, a, b⟩ := h.ok
  exact ⟨⟨m0, a, by omega⟩, Nat.le_trans h.deep h2, Nat.le_trans h.size h3⟩
def pairT (t : Tr) (n : Nat) : D := .tup [t.d, .int (n : Int)]
theorem lfit (k : Nat) {s : Sto} {t : Tr} {n m d z w : Nat} (h : DrTr s t n m d z) (hn : n ≤ 12) (hw : w ≤ 12) (hz : 0 < w → 0 < n) {W : Wd} (hW : Cup W) : ∃ (t' : Tr) (W' : Wd), callK prg (k + 2) "_law_fit" [.ref 0, t.d, .int (n : Int), .int (w : Int)] W = .ok t'.d W' ∧ Cup W' ∧ DrTr s t' w m (d + 1) (z + 1) := by
  obtain ⟨m0, o1, o2⟩ := h.ok
  have hd := h.deep
  have hs := h.size
  by_cases he : n = w
  · subst he
    refine ⟨t, W, ?_, hW, h.mono (Nat.le_refl _) (by omega) (by omega)⟩
    rw [c__law_fit]
    simp [f__law_fit]
  · have hne : ¬ (n : Int) = (w : Int) := by omega
    by_cases h0 : 0 < n
    · have hI := range_I (callK prg (k + 1)) (.var 3) [some (.ref 0), some t.d, some (.int (n : Int)), some (.int (w : Int)), none] W W w (by omega) rfl
      obtain ⟨cs, W1, e, c1, hl, hc⟩ := draw_cols k (v := ("column" : Str)) (i := 4) (e := .call ("_law_roll" : Str) (.cons (.var 0) (.cons (.var 2) .nil))) h0 hn hI (by simp; omega) hW (by simp) (fun x W => by simp)
      have hl2 : cs.length = w := by simpa using hl
      have e' : PL.run (callK prg (k + 1)) x__law_fit_1 [some (.ref 0), some t.d, some (.int (n : Int)), some (.int (w : Int)), none] W = .ok (.lst (natsD cs)) W1 := e
      refine ⟨.prj t cs, W1, ?_, c1, ⟨m0, hl2 ▸ OkTr.prj o1 (by omega) hc, o2⟩, by simp only [Tr.deep]; omega, by simp only [Tr.size]; omega⟩
      rw [c__law_fit]
      have l1 := hW.len
      have l4 := c1.len
      simp [f__law_fit, hne, h0, e', Tr.d, l1, l4]
    · have hw0 : w = 0 := by omega
      refine ⟨.prj t [], W, ?_, hW, ⟨m0, by subst hw0; exact OkTr.prj (cs := []) o1 (by simp) (by simp), o2⟩, by simp only [Tr.deep]; omega, by simp only [Tr.size]; omega⟩
      rw [c__law_fit]
      simp [f__law_fit, hne, h0, Tr.d, natsD]
theorem sortI_nat {ns : List Nat} : ∃ cs : List Nat, sortI (ns.map fun (i : Nat) => (i : Int)) = cs.map (fun (i : Nat) => (i : Int)) ∧ (∀ c, c ∈ cs ↔ c ∈ ns) ∧ cs.Nodup ∧ cs.length ≤ ns.length := by
  have hm : ∀ z ∈ sortI (ns.map fun (i : Nat) => (i : Int)), ∃ c : Nat, z = (c : Int) ∧ True := by
    intro z hz
    obtain ⟨i, _, rfl⟩ := List.mem_map.mp (sortI_mem.mp hz)
    exact ⟨i, rfl, trivial⟩
  have hall : ∃ cs : List Nat, sortI (ns.map fun (i : Nat) => (i : Int)) = cs.map (fun (i : Nat) => (i : Int)) := by
    generalize sortI (ns.map fun (i : Nat) => (i : Int)) = l at hm
    induction l with
    | nil => exact ⟨[], rfl⟩
    | cons a l ih =>
      obtain ⟨c, rfl, _⟩ := hm a (by simp)
      obtain ⟨cs, rfl⟩ := ih fun z hz => hm z (by simp [hz])
      exact ⟨c :: cs, rfl⟩
  obtain ⟨cs, e⟩ := hall
  refine ⟨cs, e, fun c => ?_, ?_, ?_⟩
  · have h1 : (c : Int) ∈ sortI (ns.map fun (i : Nat) => (i : Int)) ↔ (c : Int) ∈ ns.map fun (i : Nat) => (i : Int) := sortI_mem
    rw [e] at h1
    have hc : ∀ l : List Nat, ((c : Int) ∈ l.map fun (i : Nat) => (i : Int)) ↔ c ∈ l := fun l => ⟨fun h => by
      obtain ⟨a, ha, e⟩ := List.mem_map.mp h
      have : a = c := by omega
      exact this ▸ ha, fun h => List.mem_map.mpr ⟨c, h, rfl⟩⟩
    rw [hc, hc] at h1
    exact h1
  · have := sortI_pw (ns.map fun (i : Nat) => (i : Int))
    rw [e, List.pairwise_map] at this
    exact this.imp fun {a b} h he => by subst he; omega
  · have := sortI_len (ns.map fun (i : Nat) => (i : Int))
    rw [e] at this
    simpa using this
theorem natsD_i (cs : List Nat) : natsD cs = (cs.map fun (i : Nat) => (i : Int)).map .int := by simp [natsD]
theorem lone (k : Nat) {s : Sto} {t : Tr} {n m d z : Nat} (h : DrTr s t n m d z) (hn : n ≤ 5) {W : Wd} (hW : Cup W) : ∃ (t' : Tr) (n' : Nat) (W' : Wd), callK prg (k + 4) "_law_one" [.ref 0, t.d, .int (n : Int)] W = .ok (pairT t' n') W' ∧ Cup W' ∧ DrTr s t' n' m (d + 1) (z + 1) ∧ n' ≤ 5 := by
  obtain ⟨m0, o1, o2⟩ := h.ok
  have hd := h.deep
  have hs := h.size
  obtain ⟨q, W1, e1, c1, q0, q1⟩ := roll (k + 2) hW (m := 4) (by omega) (by omega)
  by_cases hq : q < 2
  · by_cases h0 : 0 < n
    · obtain ⟨r, W2, e2, c2, hr⟩ := rollN (k + 2) c1 (m := 2) (by omega) (by omega)
      have hI := range_I (callK prg (k + 3)) (.bin .Add (.cst (.int (1))) (.call ("_law_roll" : Str) (.cons (.var 0) (.cons (.cst (.int (2))) .nil)))) [some (.ref 0), some t.d, some (.int (n : Int)), some (.int q), none, none, none, none] W1 W2 (1 + r) (by omega) (by simp at e2; simp [e2])
      obtain ⟨ys, W3, e3, c3, hl, hp⟩ := run_draw (v := ("test" : Str)) (i := 7) (e := .call ("_law_test" : Str) (.cons (.var 0) (.cons (.var 2) .nil))) (fun y => ∃ q : Tst, y = q.d ∧ DrTst n q) hI (by simp; omega) c2 (by simp) (fun x W hW => by
        obtain ⟨q, W', e, c, h⟩ := ltest k h0 (by omega) hW
        exact ⟨_, W', by simpa using e, c, q, rfl, h⟩)
      obtain ⟨ts, rfl, hts⟩ := map_of Tst.d hp
      have e3' : PL.run (callK prg (k + 3)) x__law_one_2 [some (.ref 0), some t.d, some (.int (n : Int)), some (.int q), none, none, none, none] W1 = .ok (.lst (ts.map Tst.d)) W3 := e3
      have hl2 : ts.length = 1 + r := by simpa using hl
      refine ⟨.sel t ts, n, W3, ?_, c3, ⟨⟨m0, OkTr.sel o1 (by omega) fun q hq => (hts q hq).ok, o2⟩, by simp only [Tr.deep]; omega, by simp only [Tr.size]; omega⟩, hn⟩
      rw [c__law_one]
      have l1 := hW.len
      have l4 := c3.len
      simp [f__law_one, e1, hq, h0, e3', Tr.d, l1, l4, pairT]
    · refine ⟨.sel t [], n, W1, ?_, c1, ⟨⟨m0, OkTr.sel o1 (by simp) (by simp), o2⟩, by simp only [Tr.deep]; omega, by simp only [Tr.size]; omega⟩, hn⟩
      rw [c__law_one]
      have l1 := hW.len
      have l4 := c1.len
      simp [f__law_one, e1, hq, h0, Tr.d, l1, l4, pairT]
  · have some_ : ∃ (cs : List Nat) (W2 : Wd), (∀ (a : Option D), PL.run (callK prg (k + 3)) (.ite (.cmp .Gt (.var 2) (.cst (.int (0)))) (x__law_one_1) (.lst (.nil))) [some (.ref 0), some t.d, some (.int (n : Int)), some (.int q), none, none, none, none] W1 = .ok (.lst (natsD cs)) W2) ∧ Cup W2 ∧ cs.length ≤ 2 ∧ ∀ c ∈ cs, c < n := by
      by_cases h0 : 0 < n
      · obtain ⟨r, W2, e2, c2, hr⟩ := rollN (k + 2) c1 (m := 2) (by omega) (by omega)
        have hI := range_I (callK prg (k + 3)) (.bin .Add (.cst (.int (1))) (.call ("_law_roll" : Str) (.cons (.var 0) (.cons (.cst (.int (2))) .nil)))) [some (.ref 0), some t.d, some (.int (n : Int)), some (.int q), none, none, none, none] W1 W2 (1 + r) (by omega) (by simp at e2; simp [e2])
        obtain ⟨cs, W3, e3, c3, hl, hc⟩ := draw_cols (k + 2) (v := ("column" : Str)) (i := 6) (e := .call ("_law_roll" : Str) (.cons (.var 0) (.cons (.var 2) .nil))) h0 (by omega) hI (by simp; omega) c2 (by simp) (fun x W => by simp)
        have e3' : PL.run (callK prg (k + 3)) x__law_one_1 [some (.ref 0), some t.d, some (.int (n : Int)), some (.int q), none, none, none, none] W1 = .ok (.lst (natsD cs)) W3 := e3
        have hl2 : cs.length = 1 + r := by simpa using hl
        refine ⟨cs, W3, fun _ => ?_, c3, by omega, hc⟩
        simp [h0, e3']
      · exact ⟨[], W1, fun _ => by simp [h0, natsD], c1, by simp, by simp⟩
    obtain ⟨cs, W2, e2, c2, hl, hc⟩ := some_
    have l1 := hW.len
    have l2 := c2.len
    have hl3 : (natsD cs).length ≤ 16777216 := by simp [natsD]; omega
    by_cases hq2 : q = 2
    · refine ⟨.prj t cs, cs.length, W2, ?_, c2, ⟨⟨m0, OkTr.prj o1 (by omega) hc, o2⟩, by simp only [Tr.deep]; omega, by simp only [Tr.size]; omega⟩, by omega⟩
      rw [c__law_one]
      have e2' := e2 none
      have hcl : (natsD cs).length = cs.length := by simp [natsD]
      unfold f__law_one
      generalize (C.ite (.cmp .Gt (.var 2) (.cst (.int (0)))) (x__law_one_1) (.lst (.nil))) = y at e2' ⊢
      simp [e1, hq2, e2', Tr.d, l1, l2, pairT, hl3, hcl]
      subst hq2
      simp [e2', l1, l2, hcl]
    · obtain ⟨r, W3, e3, c3, hr⟩ := rollN (k + 2) c2 (m := 3) (by omega) (by omega)
      have l3 := c3.len
      obtain ⟨cs', es, hm, hnd, hl'⟩ := sortI_nat (ns := cs)
      have f1 : dSet W2 [.lst (natsD cs)] = some (.set (natsD cs')) := by
        rw [natsD_i, natsD_i, ← es]
        exact set_ints W2 rfl (by simp; omega)
      have f2 : dSort W2 [.set (natsD cs')] = some (.lst (natsD cs')) := by
        rw [natsD_i]; exact sort_ints W2 _
      refine ⟨.crd t cs' (1 + r), n, W3, ?_, c3, ⟨⟨m0, OkTr.crd o1 (by omega) (fun c h => hc c ((hm c).mp h)) hnd (by omega) (by omega), o2⟩, by simp only [Tr.deep]; omega, by simp only [Tr.size]; omega⟩, hn⟩
      rw [c__law_one]
      have e2' := e2 none
      simp at e3
      unfold f__law_one
      generalize (C.ite (.cmp .Gt (.var 2) (.cst (.int (0)))) (x__law_one_1) (.lst (.nil))) = y at e2' ⊢
      simp [e1, hq, hq2, e2', Tr.d, l1, l3, pairT, f1, f2, e3]
theorem ltwo (k : Nat) {s : Sto} {a b : Tr} {n i m j d z d2 z2 : Nat} (ha : DrTr s a n m d z) (hb : DrTr s b i j d2 z2) (hn : n ≤ 5) (hi : i ≤ 5) (hm : 2 ≤ m) (hj : 2 ≤ j) (hmj : m * j ≤ 1000) {W : Wd} (hW : Cup W) :
    ∃ (t' : Tr) (n' : Nat) (W' : Wd), callK prg (k + 4) "_law_two" [.ref 0, pairT a n, pairT b i] W = .ok (pairT t' n') W' ∧ Cup W' ∧ DrTr s t' n' (m * j) (max d d2 + 2) (z + z2 + 3) ∧ n' ≤ 5 := by
  obtain ⟨m0, o1, o2⟩ := ha.ok
  obtain ⟨j0, p1, p2⟩ := hb.ok
  have hd := ha.deep
  have hs := ha.size
  have hd2 := hb.deep
  have hs2 := hb.size
  have hm1 : m ≤ m * j := Nat.le_mul_of_pos_right m (by omega)
  have hj1 : j ≤ m * j := Nat.le_mul_of_pos_left j (by omega)
  have hmm : m0 * j0 ≤ m * j := Nat.mul_le_mul o2 p2
  have hadd : m + j ≤ m * j := by
    obtain ⟨x, rfl⟩ : ∃ x, m = x + 2 := ⟨m - 2, by omega⟩
    obtain ⟨y, rfl⟩ : ∃ y, j = y + 2 := ⟨j - 2, by omega⟩
    have : (x + 2) * (y + 2) = x * y + 2 * x + 2 * y + 4 := by simp only [Nat.add_mul, Nat.mul_add]; omega
    rw [this]; omega
  obtain ⟨q, W1, e1, c1, q0, q1⟩ := roll (k + 2) hW (m := 6) (by omega) (by omega)
  have l0 := hW.len
  have l1 := c1.len
  by_cases h1 : q < 2 ∧ n + i ≤ 5
  · obtain ⟨hq, hni⟩ := h1
    have hni' : (n : Int) + (i : Int) ≤ 5 := by omega
    by_cases h2 : q = 0 ∨ n = 0 ∨ i = 0
    · refine ⟨.prd a b, n + i, W1, ?_, c1, ⟨⟨m0 * j0, OkTr.prd o1 p1 (by omega) (by omega), hmm⟩, by simp only [Tr.deep]; omega, by simp only [Tr.size]; omega⟩, hni⟩
      rw [c__law_two]
      by_cases x1 : q = 0
      · simp [f__law_two, pairT, e1, x1, hni', Tr.d, l0, l1]
      · by_cases x2 : n = 0
        · subst x2
          simp at hni'
          simp [f__law_two, pairT, e1, x1, hni', hq, Tr.d, l0, l1]
        · have x3 : i = 0 := by omega
          subst x3
          simp at hni'
          simp [f__law_two, pairT, e1, x1, x2, hni', hq, Tr.d, l0, l1]
    · simp only [not_or] at h2
      obtain ⟨x1, x2, x3⟩ := h2
      obtain ⟨u, W2, e2, c2, hu⟩ := rollN (k + 2) c1 (m := n) (by omega) (by omega)
      obtain ⟨v, W3, e3, c3, hv⟩ := rollN (k + 2) c2 (m := i) (by omega) (by omega)
      have l3 := c3.len
      refine ⟨.jn a b [(u, v)], n + i, W3, ?_, c3, ⟨⟨m0 * j0, OkTr.jn o1 p1 (by omega) (by omega) (by simp) (by simp; omega), hmm⟩, by simp only [Tr.deep]; omega, by simp only [Tr.size]; omega⟩, hni⟩
      rw [c__law_two]
      simp [f__law_two, pairT, e1, x1, x2, x3, hq, hni', Tr.d, l0, l3, e2, e3, prD]
  · by_cases h3 : q = 2 ∧ i ≤ n
    · obtain ⟨hq, hin⟩ := h3
      have hin' : (i : Int) ≤ (n : Int) := by omega
      have hsub : ((n - i : Nat) : Int) = (n : Int) - (i : Int) := by omega
      refine ⟨.dvd a b, n - i, W1, ?_, c1, ⟨⟨m0, OkTr.dvd o1 p1 hin, by omega⟩, by simp only [Tr.deep]; omega, by simp only [Tr.size]; omega⟩, by omega⟩
      rw [c__law_two]
      simp [f__law_two, pairT, e1, hq, hin', Tr.d, l0, l1, hsub]
    · obtain ⟨x, W2, e2, c2, hx⟩ := some_of (k + 1) c1 (xs := [.str "union", .str "leftover", .str "leftover"]) (by simp) (by simp)
      have hw : ∃ w : Nat, ((if 0 < i then (.int (n : Int)) else .int 0) : D) = .int (w : Int) ∧ w ≤ 5 ∧ (0 < w → 0 < n) ∧ (0 < w → 0 < i) := by
        by_cases h : 0 < i
        · exact ⟨n, by rw [if_pos h], hn, id, fun _ => h⟩
        · exact ⟨0, by rw [if_neg h]; rfl, by omega, by omega, by omega⟩
      obtain ⟨w, ew, hw1, hw2, hw3⟩ := hw
      obtain ⟨a', W3, e3, c3, da⟩ := lfit (k + 1) ha (w := w) (by omega) (by omega) hw2 c2
      obtain ⟨b', W4, e4, c4, db⟩ := lfit (k + 1) hb (w := w) (by omega) (by omega) hw3 c3
      obtain ⟨m1, r1, r2⟩ := da.ok
      obtain ⟨j1, t1, t2⟩ := db.ok
      have g1 := da.deep
      have g2 := db.deep
      have g3 := da.size
      have g4 := db.size
      have l4 := c4.len
      have h1' : ¬ (q < 2 ∧ (n : Int) + (i : Int) ≤ 5) := by omega
      have h3' : ¬ (q = 2 ∧ (i : Int) ≤ (n : Int)) := by omega
      have body : ∀ (wd : Str) (t : Tr), x = .str wd → t.d = .tup [.str wd, a'.d, b'.d] → callK prg (k + 4) "_law_two" [.ref 0, pairT a n, pairT b i] W = .ok (pairT t w) W4 := by
        rintro wd t rfl ht
        rw [c__law_two]
        have hi2 : PL.run (callK prg (k + 3)) (.ite (.cmp .Gt (.var 9) (.cst (.int (0)))) (.var 7) (.cst (.int (0)))) [some (.ref 0), some (.tup [a.d, .int n]), some (.tup [b.d, .int i]), some (.int q), none, none, some a.d, some (.int n), some b.d, some (.int i)] W1 = .ok (.int w) W1 := by
          by_cases h : 0 < i
          · rw [if_pos h] at ew
            simp [h, ew]
          · rw [if_neg h] at ew
            have hw0 : w = 0 := by injection ew with ew; omega
            simp [h, hw0]
        unfold f__law_two
        generalize (C.ite (.cmp .Gt (.var 9) (.cst (.int (0)))) (.var 7) (.cst (.int (0)))) = y at hi2 ⊢
        by_cases y1 : q < 2
        · have y2 : ¬ (n : Int) + (i : Int) ≤ 5 := fun h => h1' ⟨y1, h⟩
          have y3 : ¬ q = 2 := by omega
          simp [pairT, e1, y1, y2, y3, hi2, e2, e3, e4, l0, l4, ht]
        · by_cases y3 : q = 2
          · have y4 : ¬ (i : Int) ≤ (n : Int) := fun h => h3' ⟨y3, h⟩
            subst y3
            simp [pairT, e1, y4, hi2, e2, e3, e4, l0, l4, ht]
          · simp [pairT, e1, y1, y3, hi2, e2, e3, e4, l0, l4, ht]
      simp at hx
      rcases hx with rfl | rfl
      · exact ⟨.uni a' b', w, W4, body "union" _ rfl rfl, c4, ⟨⟨m1 + j1, OkTr.uni r1 t1 (by omega), by omega⟩, by simp only [Tr.deep]; omega, by simp only [Tr.size]; omega⟩, hw1⟩
      · exact ⟨.lft a' b', w, W4, body "leftover" _ rfl rfl, c4, ⟨⟨m1, OkTr.lft r1 t1, by omega⟩, by simp only [Tr.deep]; omega, by simp only [Tr.size]; omega⟩, hw1⟩
/-- rows of one table of a store, at most -/
def Few (s : Sto) : Prop := s ≠ [] ∧ ∀ p ∈ s, p.2.c ≤ 3 ∧ p.2.rows.length ≤ 4
def dM : Nat → Nat
  | 0 => 4
  | d + 1 => dM d * dM d
def dZ : Nat → Nat
  | 0 => 1
  | d + 1 => 2 * dZ d + 3
theorem ltree {s : Sto} (hs : Few s) (hl : s.length ≤ 4) : ∀ (d : Nat), d ≤ 2 → ∀ (k : Nat) {W : Wd}, Cup W → ∃ (t : Tr) (n : Nat) (W' : Wd), callK prg (k + 5 + d) "_law_tree" [.ref 0, stD s, .int (d : Int)] W = .ok (pairT t n) W' ∧ Cup W' ∧ DrTr s t n (dM d) (2 * d) (dZ d) ∧ n ≤ 5 := by
  have base : ∀ (k d : Nat) {W : Wd}, Cup W → (∃ W1, Cup W1 ∧ PL.run (callK prg (k + 2)) (.or (.cons (.cmp .Eq (.var 2) (.cst (.int (0)))) (.cons (.cmp .Eq (.call ("_law_roll" : Str) (.cons (.var 0) (.cons (.cst (.int (5))) .nil))) (.cst (.int (0)))) .nil))) [some (.ref 0), some (stD s), some (.int (d : Int)), none, none, none, none] W = .ok (.bl true) W1) → ∃ (t : Tr) (n : Nat) (W' : Wd), callK prg (k + 3) "_law_tree" [.ref 0, stD s, .int (d : Int)] W = .ok (pairT t n) W' ∧ Cup W' ∧ DrTr s t n 4 0 1 ∧ n ≤ 5 := by
    rintro k d W hW ⟨W1, c1, e1⟩
    obtain ⟨x, W2, e2, c2, hx⟩ := some_ofT k c1 (xs := s.map enD) (by simpa using hs.1) (by simp; omega)
    obtain ⟨p, hp, rfl⟩ := List.mem_map.mp hx
    have hb := hs.2 p hp
    have l0 := hW.len
    have l2 := c2.len
    have e2' : callK prg (k + 2) "_law_some" [.ref 0, stD s] W1 = .ok (enD p) W2 := e2
    refine ⟨.tab p.1, p.2.c, W2, ?_, c2, ⟨⟨4, OkTr.tab (x := p.1) (t := p.2) hp hb.2 (by omega), by omega⟩, Nat.le_refl _, Nat.le_refl _⟩, by omega⟩
    rw [c__law_tree]
    unfold f__law_tree
    generalize (C.or (.cons (.cmp .Eq (.var 2) (.cst (.int (0)))) (.cons (.cmp .Eq (.call ("_law_roll" : Str) (.cons (.var 0) (.cons (.cst (.int (5))) .nil))) (.cst (.int (0)))) .nil))) = y at e1 ⊢
    simp [e1, e2', enD, Tb.d, l0, l2, pairT, Tr.d]
  intro d
  induction d with
  | zero =>
    intro _ k W hW
    obtain ⟨t, n, W', e, c, h, hn⟩ := base (k + 2) 0 hW ⟨W, hW, by simp⟩
    exact ⟨t, n, W', e, c, h, hn⟩
  | succ d ih =>
    intro hd k W hW
    have hdM : 4 ≤ dM d ∧ dM d * dM d ≤ 1000 := by
      have : d = 0 ∨ d = 1 := by omega
      rcases this with rfl | rfl <;> simp [dM]
    have hd0 : ¬ (d : Int) + 1 = 0 := by omega
    obtain ⟨q, W1, e1, c1, q0, q1⟩ := roll (k + 4 + d) hW (m := 5) (by omega) (by omega)
    have e1' : callK prg (k + 5 + d) "_law_roll" [.ref 0, .int 5] W = .ok (.int q) W1 := by rw [← e1]; congr 1; omega
    by_cases hq : q = 0
    · obtain ⟨t, n, W', e, c, h, hn⟩ := base (k + 3 + d) (d + 1) hW ⟨W1, c1, by
        have : k + 3 + d + 2 = k + 5 + d := by omega
        rw [this]
        simp [hd0, e1', hq]⟩
      refine ⟨t, n, W', ?_, c, h.mono ?_ (by omega) ?_, hn⟩
      · have : k + 5 + (d + 1) = k + 3 + d + 3 := by omega
        rw [this]; exact e
      · simp only [dM]; exact Nat.le_trans hdM.1 (Nat.le_mul_of_pos_right _ (by omega))
      · simp only [dZ]; omega
    · obtain ⟨r, W2, e2, c2, r0, r1⟩ := roll (k + 4 + d) c1 (m := 2) (by omega) (by omega)
      have e2' : callK prg (k + 5 + d) "_law_roll" [.ref 0, .int 2] W1 = .ok (.int r) W2 := by rw [← e2]; congr 1; omega
      obtain ⟨t, n, W3, e3, c3, h3, hn⟩ := ih (by omega) k c2
      have l0 := hW.len
      have hK : k + 5 + (d + 1) = (k + 5 + d) + 1 := by omega
      by_cases hr : r = 0
      · obtain ⟨t', n', W4, e4, c4, h4, hn'⟩ := lone (k + 1 + d) h3 hn c3
        have e4' : callK prg (k + 5 + d) "_law_one" [.ref 0, t.d, .int (n : Int)] W3 = .ok (pairT t' n') W4 := by rw [← e4]; congr 1; omega
        have l4 := c4.len
        refine ⟨t', n', W4, ?_, c4, h4.mono ?_ (by omega) ?_, hn'⟩
        · rw [hK, c__law_tree]
          simp [f__law_tree, hd0, e1', hq, e2', hr, e3, pairT, e4', l0, l4]
        · simp only [dM]; exact Nat.le_mul_of_pos_right _ (by omega)
        · simp only [dZ]; omega
      · obtain ⟨u, i, W4, e4, c4, h4, hi⟩ := ih (by omega) k c3
        obtain ⟨t', n', W5, e5, c5, h5, hn'⟩ := ltwo (k + 1 + d) h3 h4 hn hi (by omega) (by omega) hdM.2 c4
        have e5' : callK prg (k + 5 + d) "_law_two" [.ref 0, pairT t n, pairT u i] W4 = .ok (pairT t' n') W5 := by rw [← e5]; congr 1; omega
        have l5 := c5.len
        refine ⟨t', n', W5, ?_, c5, h5.mono (Nat.le_refl _) (by omega) (by simp only [dZ]; omega), hn'⟩
        rw [hK, c__law_tree]
        simp [f__law_tree, hd0, e1', hq, e2', hr, e3, e4, e5', l0, l5]
end LW

namespace LW
open PySem PL
theorem at0_mem {r : Row} {c : Nat} (h : c < r.length) : at0 r c ∈ r := by
  unfold at0
  rw [List.getD_eq_getElem?_getD, List.getElem?_eq_getElem h]
  exact List.getElem_mem h
/-- an answer's cells are the store's -/
theorem rows_cells {s : Sto} (hs : OkSt s) {t : Tr} {n m : Nat} (h : OkTr s t n m) : ∀ r ∈ t.rows s, ∀ a ∈ r, a ∈ cellsS s := by
  induction h with
  | @tab x tb m hm _ _ =>
    intro r hr a ha
    have e := find_tab hs hm
    have er : (Tr.tab x).rows s = tb.rows := by show tabRows s x = _; unfold tabRows; rw [e]; rfl
    rw [er] at hr
    exact mem_cells.mpr ⟨_, hm, r, hr, ha⟩
  | sel _ _ _ ih => exact fun r hr => ih r (mem_filt (sortL_mem.mp hr))
  | @prj t n m cs ht _ hc ih =>
    intro r hr a ha
    obtain ⟨q, hq, rfl⟩ := List.mem_map.mp (sortL_mem.mp hr)
    obtain ⟨c, hcc, rfl⟩ := List.mem_map.mp ha
    exact ih q hq _ (at0_mem (by rw [(OkTr.bound hs ht).2.2.2.w q hq]; exact hc c hcc))
  | crd _ _ _ _ _ _ ih => exact fun r hr => ih r (mem_filt (sortL_mem.mp hr))
  | prd _ _ _ _ iha ihb =>
    intro r hr a ha
    obtain ⟨q, hq, hr⟩ := List.mem_flatMap.mp (sortL_mem.mp hr)
    obtain ⟨o, ho, rfl⟩ := List.mem_map.mp hr
    rcases List.mem_append.mp ha with h | h
    · exact iha q hq a h
    · exact ihb o (mem_filt ho) a h
  | jn _ _ _ _ _ _ iha ihb =>
    intro r hr a ha
    obtain ⟨q, hq, hr⟩ := List.mem_flatMap.mp (sortL_mem.mp hr)
    obtain ⟨o, ho, rfl⟩ := List.mem_map.mp hr
    rcases List.mem_append.mp ha with h | h
    · exact iha q hq a h
    · exact ihb o (mem_filt ho) a h
  | uni _ _ _ iha ihb =>
    intro r hr
    rcases List.mem_append.mp (sortL_mem.mp hr) with h | h
    · exact iha r h
    · exact ihb r h
  | lft _ _ iha _ => exact fun r hr => iha r (mem_filt (sortL_mem.mp hr))
  | dvd _ _ _ iha _ =>
    intro r hr a ha
    obtain ⟨q, hq, rfl⟩ := List.mem_map.mp (mem_filt (sortL_mem.mp hr))
    exact iha q hq a (List.mem_of_mem_take ha)
/-- values that are drawn -/
def SmallV (a : Int) : Prop := a = 0 ∨ a = 1 ∨ a = 2 ∨ a = 3 ∨ a = 5 ∨ a = 7
theorem SmallV.le {a : Int} (h : SmallV a) : 0 ≤ a ∧ a ≤ 1000000 := by unfold SmallV at h; omega
structure Asked (s : Sto) (n : Nat) (r : Row) : Prop where
  len : r.length = n
  cell : ∀ a ∈ r, a ∈ unk s ∨ SmallV a
/-- a store with small values -/
def SmallS (s : Sto) : Prop := ∀ a ∈ cellsS s, a < 0 ∨ SmallV a
theorem Draw.small {n : Nat} {s : Sto} (h : Draw n s) : SmallS s := by
  have key : ∀ {w r : Nat} {t : Tb}, DrawT n w r t → ∀ q ∈ t.rows, ∀ a ∈ q, a < 0 ∨ SmallV a := by
    intro w r t d q hq a ha
    have := (d.row q hq).2 a ha
    unfold CellOk at this
    unfold SmallV
    omega
  intro a ha
  obtain ⟨p, hp, q, hq, haq⟩ := mem_cells.mp ha
  cases h with
  | two w1 w2 a1 a2 a3 a4 d1 d2 =>
    simp at hp
    rcases hp with rfl | rfl
    · exact key d1 q hq a haq
    · exact key d2 q hq a haq
  | three w1 w2 w3 a1 a2 a3 a4 a5 d1 d2 d3 =>
    simp at hp
    rcases hp with rfl | rfl | rfl
    · exact key d1 q hq a haq
    · exact key d2 q hq a haq
    · exact key d3 q hq a haq
theorem Draw.few {n : Nat} {s : Sto} (h : Draw n s) : Few s := by
  cases h with
  | two w1 w2 a1 a2 a3 a4 d1 d2 =>
    have m1 := d1.many
    have m2 := d2.many
    have e1 := d1.c
    have e2 := d2.c
    refine ⟨by simp, ?_⟩
    simp; omega
  | three w1 w2 w3 a1 a2 a3 a4 a5 d1 d2 d3 =>
    have m1 := d1.many
    have m2 := d2.many
    have m3 := d3.many
    have e1 := d1.c
    have e2 := d2.c
    have e3 := d3.c
    refine ⟨by simp, ?_⟩
    simp; omega
theorem in_small {s : Sto} (h : SmallS s) {a : Int} (ha : a ∈ cellsS s) : a ∈ unk s ∨ SmallV a := by
  rcases h a ha with h | h
  · left
    rw [mem_unk]
    exact ⟨h, mem_cells.mp ha⟩
  · exact .inr h
theorem sl_to (W : Wd) (r : Row) (n : Nat) : dSl W (tupD r) none (some (n : Int)) = some (tupD (r.take n)) := by
  unfold tupD
  have h : ¬ (n : Int) < 0 := by omega
  simp [dSl, cutD, HT.sIx, h]
theorem sl_from (W : Wd) (r : Row) (n : Nat) (h : n ≤ r.length) : dSl W (tupD r) (some (n : Int)) none = some (tupD (r.drop n)) := by
  unfold tupD
  have h0 : ¬ (n : Int) < 0 := by omega
  have h1 : min n r.length = n := by omega
  simp [dSl, cutD, HT.sIx, h0, h1]
  rw [List.take_of_length_le (by simp)]
theorem lasked (k : Nat) {s : Sto} (hs : OkSt s) (hv : SmallS s) {t : Tr} {n m d z : Nat} (ht : DrTr s t n m d z) (hn : n ≤ 12) {W : Wd} (hW : Cup W) : ∃ (r : Row) (W' : Wd), callK prg (k + d + 4) "_law_asked" [.ref 0, stD s, t.d, .int (n : Int)] W = .ok (tupD r) W' ∧ Cup W' ∧ Asked s n r := by
  obtain ⟨m0, ok, hm0⟩ := ht.ok
  obtain ⟨b1, b2, b3, b4⟩ := OkTr.bound hs ok
  have e1 := lans hs W ok (k + d) (Nat.le_trans ht.deep (by omega))
  have e2 := lunk (k + d + 2) hs W
  have l0 := hW.len
  have hf := b4.few
  have hu := unk_len hs
  have cells : ∀ a ∈ unk s ++ [1, 2, 3, 5], a ∈ unk s ∨ SmallV a := by
    intro a ha
    rcases List.mem_append.mp ha with h | h
    · exact .inl h
    · right; unfold SmallV; simp at h; omega
  have pickc : ∀ {W : Wd}, Cup W → ∃ (c : Int) (W' : Wd), callK prg (k + d + 3) "_law_some" [.ref 0, .lst ((unk s).map .int ++ [.int 1, .int 2, .int 3, .int 5])] W = .ok (.int c) W' ∧ Cup W' ∧ (c ∈ unk s ∨ SmallV c) := by
    intro W hW
    obtain ⟨x, W', e, c, hx⟩ := some_of (k + d + 1) hW (xs := (unk s).map .int ++ [.int 1, .int 2, .int 3, .int 5]) (by simp) (by simp; omega)
    have hx' : x ∈ (unk s ++ [1, 2, 3, 5]).map D.int := by simpa using hx
    obtain ⟨a, ha, rfl⟩ := List.mem_map.mp hx'
    exact ⟨a, W', e, c, cells a ha⟩
  have hcl : (unk s).length + 4 ≤ 16777216 := by omega
  have tailC : ∀ {W : Wd}, Cup W → ∀ (a6 a7 : Option D), ∃ (r : Row) (W' : Wd), PL.run (callK prg (k + d + 3)) x__law_asked_1 [some (.ref 0), some (stD s), some t.d, some (.int (n : Int)), some (.lst ((t.rows s).map tupD)), some (.lst ((unk s).map .int ++ [.int 1, .int 2, .int 3, .int 5])), a6, a7, none] W = .ok (.lst (r.map .int)) W' ∧ Cup W' ∧ Asked s n r := by
    intro W hW a6 a7
    have hI := range_I (callK prg (k + d + 3)) (.var 3) [some (.ref 0), some (stD s), some t.d, some (.int (n : Int)), some (.lst ((t.rows s).map tupD)), some (.lst ((unk s).map .int ++ [.int 1, .int 2, .int 3, .int 5])), a6, a7, none] W W n (by omega) rfl
    obtain ⟨ys, W3, e3, c3, hl, hp⟩ := run_draw (v := ("column" : Str)) (i := 8) (e := .call ("_law_some" : Str) (.cons (.var 0) (.cons (.var 5) .nil))) (fun y => ∃ c : Int, y = .int c ∧ (c ∈ unk s ∨ SmallV c)) hI (by simp; omega) hW (by simp) (fun x W hW => by
      obtain ⟨q, W', e, c, h⟩ := pickc hW
      exact ⟨_, W', by simpa using e, c, q, rfl, h⟩)
    obtain ⟨r, rfl, hr⟩ := map_of D.int hp
    exact ⟨r, W3, e3, c3, by simpa using hl, hr⟩
  have eE := eq_lnil W (nb_rows (t.rows s))
  have eE0 : dEq W (.lst []) (.lst []) = some true := eq_lnil W (xs := []) rfl
  by_cases hne : t.rows s = []
  · obtain ⟨r, W2, e3, c2, hr⟩ := tailC hW none none
    refine ⟨r, W2, ?_, c2, hr⟩
    have l2 := c2.len
    rw [c__law_asked]
    have hrl : r.length ≤ 16777216 := by have := hr.len; omega
    rw [hne] at e1 e3
    simp at e1 e2 e3
    simp [f__law_asked, e1, e2, e3, eE0, l0, l2, hcl, tupD, hrl]
  · obtain ⟨q, W1, e4, c1, q0, q1⟩ := roll (k + d + 2) hW (m := 4) (by omega) (by omega)
    have eE1 : dEq W (.lst ((t.rows s).map tupD)) (.lst []) = some false := by
      rw [eE]
      cases h : t.rows s with
      | nil => exact absurd h hne
      | cons a b => rfl
    by_cases hq : 0 < q
    · obtain ⟨x, W2, e5, c2, hx⟩ := some_of (k + d + 1) c1 (xs := (t.rows s).map tupD) (by simpa using hne) (by simp; omega)
      obtain ⟨r, hr, rfl⟩ := List.mem_map.mp hx
      have hrl := b4.w r hr
      obtain ⟨a, W3, e6, c3, ha⟩ := rollN (k + d + 2) c2 (m := n + 1) (by omega) (by omega)
      have hcell : ∀ a ∈ r, a ∈ unk s ∨ SmallV a := fun a ha => in_small hv (rows_cells hs ok r hr a ha)
      by_cases hA : a = n
      · refine ⟨r, W3, ?_, c3, hrl, hcell⟩
        have l3 := c3.len
        subst hA
        rw [c__law_asked]
        simp at e6
        generalize (t.rows s).map tupD = R0 at e1 e5 eE1
        generalize tupD r = rr at e5 ⊢
        simp [f__law_asked, e1, e2, eE1, e4, hq, e5, e6, l0, l3, hcl]
      · have hA' : ¬ (a : Int) = (n : Int) := by omega
        obtain ⟨b, W4, e7, c4, b0, b1⟩ := roll (k + d + 2) c3 (m := 2) (by omega) (by omega)
        by_cases hb : b = 0
        · refine ⟨r, W4, ?_, c4, hrl, hcell⟩
          have l4 := c4.len
          rw [c__law_asked]
          simp at e6
          generalize (t.rows s).map tupD = R0 at e1 e5 eE1
          generalize tupD r = rr at e5 ⊢
          simp [f__law_asked, e1, e2, eE1, e4, hq, e5, e6, hA', e7, hb, l0, l4, hcl]
        · obtain ⟨c, W5, e8, c5, hc⟩ := pickc c4
          refine ⟨r.take a ++ [c] ++ r.drop (a + 1), W5, ?_, c5, ?_, ?_⟩
          · have l5 := c5.len
            have s1 := sl_to W4 r a
            have s2 := sl_from W5 r (a + 1) (by omega)
            have s3 : ((a + 1 : Nat) : Int) = (a : Int) + 1 := by omega
            rw [s3] at s2
            have t1 : (r.take a).length + 1 ≤ 16777216 := by rw [List.length_take]; omega
            have t2 : (r.take a).length + 1 + (r.drop (a + 1)).length ≤ 16777216 := by rw [List.length_take, List.length_drop]; omega
            have d1 : dAdd W5 (tupD (r.take a)) (.tup [.int c]) = some (tupD (r.take a ++ [c])) := by
              show (if _ then _ else _) = _
              rw [if_pos (by simpa using t1)]
              simp [tupD]
            have d2 : dAdd W5 (tupD (r.take a ++ [c])) (tupD (r.drop (a + 1))) = some (tupD (r.take a ++ [c] ++ r.drop (a + 1))) := by
              show (if _ then _ else _) = _
              rw [if_pos (by simp only [List.length_map, List.length_append, List.length_singleton]; omega)]
              simp [tupD]
            rw [c__law_asked]
            simp at e6
            generalize (t.rows s).map tupD = R0 at e1 e5 eE1
            generalize tupD (r.take a ++ [c] ++ r.drop (a + 1)) = r3 at d2 ⊢
            generalize tupD (r.take a ++ [c]) = r4 at d1 d2
            generalize tupD (r.take a) = r5 at s1 d1
            generalize tupD (r.drop (a + 1)) = r6 at s2 d2
            generalize tupD r = rr at e5 s1 s2
            simp [f__law_asked, e1, e2, eE1, e4, hq, e5, e6, hA', e7, hb, e8, s1, s2, d1, d2, l0, l5, hcl]
          · simp; omega
          · intro x hx
            rcases List.mem_append.mp hx with h | h
            · rcases List.mem_append.mp h with h | h
              · exact hcell x (List.mem_of_mem_take h)
              · simp at h; subst h; exact hc
            · exact hcell x (List.mem_of_mem_drop h)
    · obtain ⟨r, W2, e3, c2, hr⟩ := tailC c1 none none
      refine ⟨r, W2, ?_, c2, hr⟩
      have l2 := c2.len
      rw [c__law_asked]
      have hrl : r.length ≤ 16777216 := by have := hr.len; omega
      generalize (t.rows s).map tupD = R0 at e1 e3 eE1
      simp [f__law_asked, e1, e2, eE1, e4, hq, e3, l0, l2, hcl, tupD, hrl]
/-- a drawn case -/
structure Case (u dd : Nat) (s : Sto) (t : Tr) (r : Row) (n : Nat) : Prop where
  st : Draw u s
  tr : DrTr s t n (dM dd) (2 * dd) (dZ dd)
  row : Asked s n r
  wide : n ≤ 5
theorem Case.ok {u dd : Nat} {s : Sto} {t : Tr} {r : Row} {n : Nat} (h : Case u dd s t r n) (hu : u ≤ 6) : OkSt s := h.st.ok hu
theorem lcase (k : Nat) (u dd : Nat) (hu : u ≤ 6) (hd : dd ≤ 2) {W : Wd} (hW : Cup W) : ∃ (s : Sto) (t : Tr) (r : Row) (n : Nat) (W' : Wd), callK prg (k + 9) "_law_case" [.ref 0, .int (u : Int), .int (dd : Int)] W = .ok (.tup [stD s, t.d, tupD r]) W' ∧ Cup W' ∧ Case u dd s t r n := by
  obtain ⟨s, W1, e1, c1, d1⟩ := store (k + 3) u hu hW
  have hs := d1.ok hu
  obtain ⟨t, n, W2, e2, c2, h2, hn⟩ := ltree d1.few (by have := hs.many; omega) dd hd (k + 3 - dd) c1
  obtain ⟨r, W3, e3, c3, h3⟩ := lasked (k + 4 - 2 * dd) hs d1.small h2 (by omega) c2
  have l0 := hW.len
  have l3 := c3.len
  refine ⟨s, t, r, n, W3, ?_, c3, d1, h2, h3, hn⟩
  have x2 : k + 3 - dd + 5 + dd = k + 8 := by omega
  have x3 : k + 4 - 2 * dd + 2 * dd + 4 = k + 8 := by omega
  rw [x2] at e2
  rw [x3] at e3
  rw [c__law_case]
  simp [f__law_case, e1, e2, e3, pairT, l0, l3]
end LW

namespace LW
open PySem PL
theorem gOf_in (u f : List Int) (hv : ∀ x ∈ f, 0 ≤ x ∧ x ≤ 1000000) (a : Int) (h1 : -6 ≤ a) (h2 : a ≤ 1000000) : -6 ≤ gOf u f a ∧ gOf u f a ≤ 1000000 := by
  unfold gOf
  split
  · rename_i p e
    have hm := List.mem_of_find?_eq_some e
    have hp : p ∈ u.zip f := by simpa using hm
    have := hv p.2 (List.of_mem_zip hp).2
    omega
  · exact ⟨h1, h2⟩
theorem fillS_ok {s : Sto} (h : OkSt s) {g : Int → Int} (hg : ∀ a, -6 ≤ a → a ≤ 1000000 → -6 ≤ g a ∧ g a ≤ 1000000) : OkSt (fillS g s) := by
  refine ⟨by simpa [fillS] using h.many, fun p hp => ?_, ?_, fun p hp => ?_, ?_⟩
  · obtain ⟨q, hq, rfl⟩ := List.mem_map.mp hp
    exact h.lets q hq
  · exact List.pairwise_map.mpr (h.asc.imp fun {a b} hab => hab)
  · obtain ⟨q, hq, rfl⟩ := List.mem_map.mp hp
    exact fillT_ok (h.tb q hq) hg
  · have key : ∀ l : Sto, ((fillS g l).map fun p => p.2.rows.length).sum ≤ (l.map fun p => p.2.rows.length).sum := by
      intro l
      induction l with
      | nil => simp [fillS]
      | cons p l ih =>
        have := sortL_len (p.2.rows.map fun r => r.map g)
        rw [List.length_map] at this
        simp only [fillS, List.map_cons, List.sum_cons, fillT] at ih ⊢
        omega
    exact Nat.le_trans (key s) h.sum
theorem fill_tr {s : Sto} {g : Int → Int} {t : Tr} {n m : Nat} (h : OkTr s t n m) : OkTr (fillS g s) t n m := by
  induction h with
  | @tab x tb m hm h1 h2 =>
    refine OkTr.tab (t := fillT g tb) (List.mem_map.mpr ⟨(x, tb), hm, rfl⟩) ?_ h2
    have := sortL_len (tb.rows.map fun r => r.map g)
    rw [List.length_map] at this
    exact Nat.le_trans this h1
  | sel _ a b ih => exact .sel ih a b
  | prj _ a b ih => exact .prj ih a b
  | crd _ a b c d e ih => exact .crd ih a b c d e
  | prd _ _ a b iha ihb => exact .prd iha ihb a b
  | jn _ _ a b c d iha ihb => exact .jn iha ihb a b c d
  | uni _ _ a iha ihb => exact .uni iha ihb a
  | lft _ _ iha ihb => exact .lft iha ihb
  | dvd _ _ a iha ihb => exact .dvd iha ihb a
/-- a row that may be asked -/
structure OkAsk (s : Sto) (n : Nat) (r : Row) : Prop where
  len : r.length = n
  cell : ∀ a ∈ r, a ∈ unk s ∨ (0 ≤ a ∧ a ≤ 1000000)
theorem unk_low {s : Sto} (h : OkSt s) {a : Int} (ha : a ∈ unk s) : -6 ≤ a ∧ a < 0 := by
  obtain ⟨h1, p, hp, r, hr, har⟩ := mem_unk.mp ha
  exact ⟨(((h.tb p hp).row r hr).cell a har).1, h1⟩
theorem frow12 (k : Nat) (c : Nat) (r : List Int) (h : OkRow c r) (hc : c ≤ 12) (W : Wd) : callK prg (k + 2) "fits_row" [.int c, tupD r] W = .ok (.bl true) W := by
  rw [c_fits_row]
  have hl := h.len
  have hl2 : r.length ≤ 16777216 := by omega
  simp [f_fits_row, x_fits_row_1, tupD, ist k, hl]
  rw [lc_mapi D.int (fun _ => .bl true)]
  · have := bls_map (fun _ : Int => true) r
    simp [hl2, this]
  · intro a ha
    have := h.cell a ha
    exact ⟨_, rfl, rfl, by simp [isw k, this]⟩
theorem needrow (k : Nat) {s : Sto} (hs : OkSt s) {t : Tr} {n m : Nat} (ht : OkTr s t n m) (hk : t.deep ≤ k) {r : Row} (hr : OkAsk s n r) (W : Wd) : callK prg (k + 6) "need_row" [stD s, t.d, tupD r] W = .ok .non W := by
  obtain ⟨b1, _, _, _⟩ := OkTr.bound hs ht
  have hl := hr.len
  have e1 := unkin (k + 3) hs W
  have e2 := colby hs W ht k hk
  have e3 := frow12 (k + 3) n r ⟨hl, fun a ha => by
    rcases hr.cell a ha with h | h
    · have := unk_low hs h; omega
    · omega⟩ b1 W
  have e4 : PL.run (callK prg (k + 5)) x_need_row_1 [some (stD s), some t.d, some (tupD r), some (.tup ((unk s).map .int)), none] W = .ok (.lst (r.map fun _ => .bl true)) W := by
    have hI : runI (callK prg (k + 5)) (.seq (.var 2)) [some (stD s), some t.d, some (tupD r), some (.tup ((unk s).map .int)), none] W = .ok (r.map .int) W := by simp [tupD]
    unfold x_need_row_1
    rw [run_lc, hI]
    show ((lcLoop _ _ _ (r.map D.int) W).bndX _) = _
    rw [lc_mapi D.int (fun _ => .bl true)]
    · show (if _ then _ else _) = _
      rw [if_pos (by rw [List.length_map]; omega)]
    · intro a ha
      have hi := in_ints W a (b := .tup ((unk s).map .int)) (ns := unk s) rfl
      refine ⟨_, rfl, rfl, ?_⟩
      rcases hr.cell a ha with h | h
      · have := unk_low hs h
        have hn : ¬ 0 ≤ a := by omega
        generalize (unk s).map D.int = U at hi ⊢
        simp [hn, hi, h]
      · simp [h.1]
  have hb := bls_map (fun _ : Int => true) r
  rw [c_need_row]
  unfold f_need_row
  generalize (unk s).map D.int = U at e1 e4
  generalize x_need_row_1 = y at e4 ⊢
  generalize tupD r = rr at e3 e4 ⊢
  simp [e1, e2, e3, e4, hb]
theorem isinby (k : Nat) {s : Sto} (hs : OkSt s) {t : Tr} {n m : Nat} (ht : OkTr s t n m) (hk : t.deep ≤ k) {r : Row} (hr : r.length ≤ 1000) {kvs : List (L2.Key × D)} {g : Int → Int} (hw : Worth kvs g) (hg : ∀ a, -6 ≤ a → a ≤ 1000000 → -6 ≤ g a ∧ g a ≤ 1000000) (W : Wd) :
    callK prg (k + 8) "is_in_by" [stD s, t.d, tupD r, .dct kvs] W = .ok (.bl (decide (r.map g ∈ t.rows (fillS g s)))) W := by
  have e1 := rowby (k + 6) r hr hw W
  have e2 := filledby (k + 5) hs hw W
  have e3 := rowsby (fillS_ok hs hg) W (fill_tr (g := g) ht) k hk
  have e4 := in_rows W (r.map g) (b := .tup ((t.rows (fillS g s)).map tupD)) (ks := t.rows (fillS g s)) rfl
  rw [c_is_in_by]
  generalize (t.rows (fillS g s)).map tupD = R0 at e3 e4
  generalize stD (fillS g s) = sf at e2 e3
  generalize tupD (r.map g) = r1 at e1 e4
  generalize tupD r = r2 at e1 ⊢
  simp [f_is_in_by, e1, e2, e3, e4]
def inB (s : Sto) (t : Tr) (r : Row) (g : Int → Int) : Bool := decide (r.map g ∈ t.rows (fillS g s))
structure OkFl (s : Sto) (f : List Int) : Prop where
  len : f.length = (unk s).length
  val : ∀ x ∈ f, 0 ≤ x ∧ x ≤ 1000000
theorem isin (k : Nat) {s : Sto} (hs : OkSt s) {t : Tr} {n m : Nat} (ht : OkTr s t n m) (hz : t.size ≤ 20) (hk : t.deep ≤ k) {r : Row} (hr : OkAsk s n r) {f : List Int} (hf : OkFl s f) (W : Wd) :
    callK prg (k + 9) "is_in" [stD s, t.d, tupD r, .tup (f.map .int)] W = .ok (.bl (inB s t r (gOf (unk s) f))) W := by
  obtain ⟨b1, _, _, _⟩ := OkTr.bound hs ht
  have hl := hr.len
  have e1 := nsto (k + 3) hs W
  have e2 := ntree hs ht hz (k + 1) (by omega) W
  have e3 := needrow (k + 2) hs ht (by omega) hr W
  have e4 := needf (k + 4) hs hf.len hf.val W
  have e5 := worthof (k + 5) hs f W
  have e6 := isinby k hs ht hk (r := r) (by omega) (worth (unk s) f) (gOf_in (unk s) f hf.val) W
  rw [c_is_in]
  generalize tupD r = r2 at e3 e6 ⊢
  generalize D.tup (f.map .int) = f2 at e4 e5 ⊢
  simp [f_is_in, e1, e2, e3, e4, e5, e6, inB]
theorem answerof (k : Nat) {s : Sto} (hs : OkSt s) {t : Tr} {n m : Nat} (ht : OkTr s t n m) (hz : t.size ≤ 20) (hk : t.deep ≤ k) (W : Wd) :
    callK prg (k + 8) "answer_of" [stD s, t.d] W = .ok (.tup ((t.rows s).map tupD)) W := by
  have e1 := nsto (k + 2) hs W
  have e2 := ntree hs ht hz k (by omega) W
  have e3 := rowsby hs W ht k hk
  rw [c_answer_of]
  generalize (t.rows s).map tupD = R0 at e3 ⊢
  simp [f_answer_of, e1, e2, e3]
theorem filledans (k : Nat) {s : Sto} (hs : OkSt s) {t : Tr} {n m : Nat} (ht : OkTr s t n m) (hz : t.size ≤ 20) (hk : t.deep ≤ k) {f : List Int} (hf : OkFl s f) (W : Wd) :
    callK prg (k + 8) "filled_answer" [stD s, t.d, .tup (f.map .int)] W = .ok (.tup ((t.rows (fillS (gOf (unk s) f) s)).map tupD)) W := by
  have e1 := nsto (k + 2) hs W
  have e2 := ntree hs ht hz k (by omega) W
  have e4 := needf (k + 3) hs hf.len hf.val W
  have e5 := worthof (k + 4) hs f W
  have e6 := filledby (k + 5) hs (worth (unk s) f) W
  have e3 := rowsby (fillS_ok hs (gOf_in (unk s) f hf.val)) W (fill_tr (g := gOf (unk s) f) ht) k hk
  rw [c_filled_answer]
  generalize (t.rows (fillS (gOf (unk s) f) s)).map tupD = R0 at e3 ⊢
  generalize stD (fillS (gOf (unk s) f) s) = sf at e3 e6
  generalize D.tup (f.map .int) = f2 at e4 e5 ⊢
  simp [f_filled_answer, e1, e2, e3, e4, e5, e6]
theorem lin (k : Nat) {s : Sto} (hs : OkSt s) {t : Tr} {n m : Nat} (ht : OkTr s t n m) (hk : t.deep ≤ k) {r : Row} (hr : r.length ≤ 1000) {f : List Int} (hf : OkFl s f) (W : Wd) :
    callK prg (k + 4) "_law_in" [stD s, t.d, tupD r, .tup (f.map .int)] W = .ok (.bl (inB s t r (gOf (unk s) f))) W := by
  have e5 := lworth (k + 1) hs f W
  have e1 := lput (k + 2) r hr (worth (unk s) f) W
  have e6 := lfilled k hs f W
  have e3 := lans (fillS_ok hs (gOf_in (unk s) f hf.val)) W (fill_tr (g := gOf (unk s) f) ht) k hk
  have e4 := in_rows W (r.map (gOf (unk s) f)) (b := .lst ((t.rows (fillS (gOf (unk s) f) s)).map tupD)) (ks := t.rows (fillS (gOf (unk s) f) s)) rfl
  rw [c__law_in]
  unfold inB
  generalize (t.rows (fillS (gOf (unk s) f) s)).map tupD = R0 at e3 e4
  generalize stD (fillS (gOf (unk s) f) s) = sf at e3 e6
  generalize tupD (r.map (gOf (unk s) f)) = r1 at e1 e4
  generalize tupD r = r2 at e1 ⊢
  generalize D.tup (f.map .int) = f2 at e5 e6 ⊢
  simp [f__law_in, e1, e5, e6, e3, e4]
end LW

namespace LW
open PySem PL
def lwR : Ss := .cons (.asg (.tp [.nm 7, .nm 8, .nm 9]) (.tup (.cons (.call ("_law_example" : Str) (.nil)) (.cons (.tup (.cons (.cst (.str ("table" : Str))) (.cons (.cst (.str ("r" : Str))) .nil))) (.cons (.tup (.cons (.cst (.str ("table" : Str))) (.cons (.cst (.str ("s" : Str))) .nil))) .nil))))) (.cons (.asg (.nm 3) (.tup (.cons (.cst (.str ("select" : Str))) (.cons (.tup (.cons (.cst (.str ("join" : Str))) (.cons (.var 8) (.cons (.var 9) (.cons (.tup (.cons (.tup (.cons (.cst (.int (0))) (.cons (.cst (.int (0))) .nil))) .nil)) .nil))))) (.cons (.tup (.cons (.tup (.cons (.cst (.int (1))) (.cons (.cst (.str ("not" : Str))) (.cons (.cst (.str ("value" : Str))) (.cons (.cst (.int (5))) .nil))))) .nil)) .nil))))) (.cons (.asg (.nm 4) (.tup (.cons (.cst (.str ("leftover" : Str))) (.cons (.var 9) (.cons (.tup (.cons (.cst (.str ("project" : Str))) (.cons (.var 8) (.cons (.tup (.cons (.cst (.int (1))) .nil)) .nil)))) .nil))))) (.cons (.ife (.or (.cons (.cmp .NotEq (.call ("answer_of" : Str) (.cons (.var 7) (.cons (.var 3) .nil))) (.tup (.cons (.tup (.cons (.neg (.cst (.int (1)))) (.cons (.cst (.int (7))) (.cons (.neg (.cst (.int (1)))) .nil)))) .nil))) (.cons (.cmp .NotEq (.call ("answer_of" : Str) (.cons (.var 7) (.cons (.tup (.cons (.cst (.str ("divide" : Str))) (.cons (.var 8) (.cons (.var 9) .nil)))) .nil))) (.tup (.nil))) (.cons (.cmp .NotEq (.call ("answer_of" : Str) (.cons (.var 7) (.cons (.var 4) .nil))) (.tup (.cons (.tup (.cons (.neg (.cst (.int (1)))) .nil)) .nil))) .nil)))) (.cons (.ret (.cst (.bl false))) .nil) (.nil)) (.cons (.ife (.or (.cons (.cmp .NotEq (.call ("filled_answer" : Str) (.cons (.var 7) (.cons (.tup (.cons (.cst (.str ("divide" : Str))) (.cons (.var 8) (.cons (.var 9) .nil)))) (.cons (.tup (.cons (.cst (.int (3))) (.cons (.cst (.int (7))) .nil))) .nil)))) (.tup (.cons (.tup (.cons (.cst (.int (3))) .nil)) (.cons (.tup (.cons (.cst (.int (7))) .nil)) .nil)))) (.cons (.cmp .NotEq (.call ("answer_of" : Str) (.cons (.var 7) (.cons (.tup (.cons (.cst (.str ("crowd" : Str))) (.cons (.var 8) (.cons (.tup (.cons (.cst (.int (0))) .nil)) (.cons (.cst (.int (2))) .nil))))) .nil))) (.tup (.cons (.tup (.cons (.cst (.int (3))) (.cons (.neg (.cst (.int (2)))) .nil))) (.cons (.tup (.cons (.cst (.int (3))) (.cons (.cst (.int (7))) .nil))) .nil)))) .nil))) (.cons (.ret (.cst (.bl false))) .nil) (.nil)) (.cons (.ife (.or (.cons (.cmp .NotEq (.call ("answer_of" : Str) (.cons (.var 7) (.cons (.tup (.cons (.cst (.str ("project" : Str))) (.cons (.var 8) (.cons (.tup (.nil)) .nil)))) .nil))) (.tup (.cons (.tup (.nil)) .nil))) (.cons (.cmp .IsNot (.call ("is_in" : Str) (.cons (.var 7) (.cons (.var 9) (.cons (.tup (.cons (.cst (.int (3))) .nil)) (.cons (.tup (.cons (.cst (.int (0))) (.cons (.cst (.int (3))) .nil))) .nil))))) (.cst (.bl true))) (.cons (.cmp .IsNot (.call ("is_in" : Str) (.cons (.var 7) (.cons (.var 9) (.cons (.tup (.cons (.neg (.cst (.int (2)))) .nil)) (.cons (.tup (.cons (.cst (.int (7))) (.cons (.cst (.int (0))) .nil))) .nil))))) (.cst (.bl true))) .nil)))) (.cons (.ret (.cst (.bl false))) .nil) (.nil)) (.cons (.asg (.nm 5) (.tup (.cons (.cst (.str ("select" : Str))) (.cons (.var 9) (.cons (.tup (.cons (.tup (.cons (.cst (.int (0))) (.cons (.cst (.str ("is" : Str))) (.cons (.cst (.str ("value" : Str))) (.cons (.cst (.int (4))) .nil))))) (.cons (.tup (.cons (.cst (.int (0))) (.cons (.cst (.str ("not" : Str))) (.cons (.cst (.str ("value" : Str))) (.cons (.cst (.int (4))) .nil))))) .nil))) .nil))))) (.cons (.asg (.nm 6) (.lst (.cons (.tup (.cons (.tup (.cons (.cst (.str ("divide" : Str))) (.cons (.var 8) (.cons (.var 5) .nil)))) (.cons (.tup (.cons (.tup (.cons (.neg (.cst (.int (1)))) .nil)) (.cons (.tup (.cons (.cst (.int (3))) .nil)) .nil))) .nil))) (.cons (.tup (.cons (.tup (.cons (.cst (.str ("project" : Str))) (.cons (.var 5) (.cons (.tup (.nil)) .nil)))) (.cons (.tup (.nil)) .nil))) (.cons (.tup (.cons (.tup (.cons (.cst (.str ("product" : Str))) (.cons (.var 9) (.cons (.var 5) .nil)))) (.cons (.tup (.nil)) .nil))) (.cons (.tup (.cons (.tup (.cons (.cst (.str ("leftover" : Str))) (.cons (.var 9) (.cons (.var 5) .nil)))) (.cons (.tup (.cons (.tup (.cons (.neg (.cst (.int (1)))) .nil)) (.cons (.tup (.cons (.cst (.int (7))) .nil)) .nil))) .nil))) .nil)))))) (.cons (.asg (.nm 6) (.bin .Add (.var 6) (.lst (.cons (.tup (.cons (.tup (.cons (.cst (.str ("divide" : Str))) (.cons (.var 9) (.cons (.tup (.cons (.cst (.str ("project" : Str))) (.cons (.var 9) (.cons (.tup (.nil)) .nil)))) .nil)))) (.cons (.tup (.cons (.tup (.cons (.neg (.cst (.int (1)))) .nil)) (.cons (.tup (.cons (.cst (.int (7))) .nil)) .nil))) .nil))) (.cons (.tup (.cons (.tup (.cons (.cst (.str ("divide" : Str))) (.cons (.var 9) (.cons (.tup (.cons (.cst (.str ("project" : Str))) (.cons (.var 5) (.cons (.tup (.nil)) .nil)))) .nil)))) (.cons (.tup (.cons (.tup (.cons (.neg (.cst (.int (1)))) .nil)) (.cons (.tup (.cons (.cst (.int (7))) .nil)) .nil))) .nil))) .nil))))) (.cons (.asg (.nm 6) (.bin .Add (.var 6) (.lst (.cons (.tup (.cons (.tup (.cons (.cst (.str ("crowd" : Str))) (.cons (.var 8) (.cons (.tup (.nil)) (.cons (.cst (.int (3))) .nil))))) (.cons (.tup (.cons (.tup (.cons (.neg (.cst (.int (1)))) (.cons (.cst (.int (7))) .nil))) (.cons (.tup (.cons (.cst (.int (3))) (.cons (.neg (.cst (.int (2)))) .nil))) (.cons (.tup (.cons (.cst (.int (3))) (.cons (.cst (.int (7))) .nil))) .nil)))) .nil))) (.cons (.tup (.cons (.tup (.cons (.cst (.str ("crowd" : Str))) (.cons (.var 8) (.cons (.tup (.nil)) (.cons (.cst (.int (4))) .nil))))) (.cons (.tup (.nil)) .nil))) (.cons (.tup (.cons (.tup (.cons (.cst (.str ("crowd" : Str))) (.cons (.var 8) (.cons (.tup (.cons (.cst (.int (1))) .nil)) (.cons (.cst (.int (2))) .nil))))) (.cons (.tup (.cons (.tup (.cons (.neg (.cst (.int (1)))) (.cons (.cst (.int (7))) .nil))) (.cons (.tup (.cons (.cst (.int (3))) (.cons (.cst (.int (7))) .nil))) .nil))) .nil))) .nil)))))) (.cons (.asg (.nm 6) (.bin .Add (.var 6) (.lst (.cons (.tup (.cons (.tup (.cons (.cst (.str ("join" : Str))) (.cons (.var 8) (.cons (.var 8) (.cons (.tup (.cons (.tup (.cons (.cst (.int (0))) (.cons (.cst (.int (0))) .nil))) (.cons (.tup (.cons (.cst (.int (1))) (.cons (.cst (.int (1))) .nil))) .nil))) .nil))))) (.cons (.tup (.cons (.tup (.cons (.neg (.cst (.int (1)))) (.cons (.cst (.int (7))) (.cons (.neg (.cst (.int (1)))) (.cons (.cst (.int (7))) .nil))))) (.cons (.tup (.cons (.cst (.int (3))) (.cons (.neg (.cst (.int (2)))) (.cons (.cst (.int (3))) (.cons (.neg (.cst (.int (2)))) .nil))))) (.cons (.tup (.cons (.cst (.int (3))) (.cons (.cst (.int (7))) (.cons (.cst (.int (3))) (.cons (.cst (.int (7))) .nil))))) .nil)))) .nil))) (.cons (.tup (.cons (.tup (.cons (.cst (.str ("union" : Str))) (.cons (.var 9) (.cons (.var 9) .nil)))) (.cons (.tup (.cons (.tup (.cons (.neg (.cst (.int (1)))) .nil)) (.cons (.tup (.cons (.cst (.int (7))) .nil)) .nil))) .nil))) .nil))))) (.cons (.asg (.nm 6) (.bin .Add (.var 6) (.lst (.cons (.tup (.cons (.tup (.cons (.cst (.str ("project" : Str))) (.cons (.var 8) (.cons (.tup (.cons (.cst (.int (1))) (.cons (.cst (.int (1))) (.cons (.cst (.int (0))) .nil)))) .nil)))) (.cons (.tup (.cons (.tup (.cons (.neg (.cst (.int (2)))) (.cons (.neg (.cst (.int (2)))) (.cons (.cst (.int (3))) .nil)))) (.cons (.tup (.cons (.cst (.int (7))) (.cons (.cst (.int (7))) (.cons (.neg (.cst (.int (1)))) .nil)))) (.cons (.tup (.cons (.cst (.int (7))) (.cons (.cst (.int (7))) (.cons (.cst (.int (3))) .nil)))) .nil)))) .nil))) (.cons (.tup (.cons (.tup (.cons (.cst (.str ("select" : Str))) (.cons (.var 8) (.cons (.tup (.cons (.tup (.cons (.cst (.int (1))) (.cons (.cst (.str ("is" : Str))) (.cons (.cst (.str ("value" : Str))) (.cons (.cst (.int (7))) .nil))))) (.cons (.tup (.cons (.cst (.int (0))) (.cons (.cst (.str ("not" : Str))) (.cons (.cst (.str ("value" : Str))) (.cons (.cst (.int (3))) .nil))))) .nil))) .nil)))) (.cons (.tup (.cons (.tup (.cons (.neg (.cst (.int (1)))) (.cons (.cst (.int (7))) .nil))) .nil)) .nil))) .nil))))) (.cons (.asg (.nm 6) (.bin .Add (.var 6) (.lst (.cons (.tup (.cons (.tup (.cons (.cst (.str ("divide" : Str))) (.cons (.var 9) (.cons (.var 9) .nil)))) (.cons (.tup (.cons (.tup (.nil)) .nil)) .nil))) (.cons (.tup (.cons (.tup (.cons (.cst (.str ("divide" : Str))) (.cons (.var 5) (.cons (.var 5) .nil)))) (.cons (.tup (.nil)) .nil))) (.cons (.tup (.cons (.tup (.cons (.cst (.str ("divide" : Str))) (.cons (.var 5) (.cons (.var 9) .nil)))) (.cons (.tup (.nil)) .nil))) (.cons (.tup (.cons (.tup (.cons (.cst (.str ("join" : Str))) (.cons (.var 8) (.cons (.var 9) (.cons (.tup (.cons (.tup (.cons (.cst (.int (1))) (.cons (.cst (.int (0))) .nil))) .nil)) .nil))))) (.cons (.tup (.cons (.tup (.cons (.neg (.cst (.int (1)))) (.cons (.cst (.int (7))) (.cons (.cst (.int (7))) .nil)))) (.cons (.tup (.cons (.cst (.int (3))) (.cons (.cst (.int (7))) (.cons (.cst (.int (7))) .nil)))) .nil))) .nil))) .nil))))))) (.cons (l_law_2) (.cons (.ret (.and (.cons (.cmp .Eq (.call ("filled_answer" : Str) (.cons (.var 7) (.cons (.var 4) (.cons (.tup (.cons (.cst (.int (3))) (.cons (.cst (.int (7))) .nil))) .nil)))) (.tup (.nil))) (.cons (.cmp .Eq (.call ("filled_answer" : Str) (.cons (.var 7) (.cons (.var 4) (.cons (.tup (.cons (.cst (.int (3))) (.cons (.cst (.int (8))) .nil))) .nil)))) (.tup (.cons (.tup (.cons (.cst (.int (8))) .nil)) .nil))) (.cons (.cmp .Is (.call ("is_in" : Str) (.cons (.var 7) (.cons (.var 4) (.cons (.tup (.cons (.neg (.cst (.int (1)))) .nil)) (.cons (.tup (.cons (.cst (.int (7))) (.cons (.cst (.int (9))) .nil))) .nil))))) (.cst (.bl true))) .nil))))) (.nil)))))))))))))))
theorem eq_rows (W : Wd) (a b : List Row) : dEq W (.lst (a.map tupD)) (.lst (b.map tupD)) = some (decide (a = b)) := by
  have := depths_rows a
  rw [eq_nb W (by exact nb_rows a) (by exact nb_rows b) (.inl (by simp only [D.depth]; omega))]
  exact congrArg some (sames_rows a b)
theorem Asked.ask {s : Sto} {n : Nat} {r : Row} (h : Asked s n r) : OkAsk s n r := ⟨h.len, fun a ha => (h.cell a ha).imp id SmallV.le⟩
theorem right (k : Nat) {s : Sto} (hs : OkSt s) {t : Tr} {n m d z : Nat} (ht : DrTr s t n m d z) (hz : z ≤ 20) (hd : d ≤ 4) {r : Row} (hr : OkAsk s n r) {W : Wd} (hW : Cup W) : ∃ W', callK prg (k + 14) "_law_right" [.ref 0, stD s, t.d, tupD r] W = .ok (.bl true) W' ∧ Cup W' := by
  obtain ⟨m0, ok, hm0⟩ := ht.ok
  have hd' := ht.deep
  have hz' := ht.size
  have b1 := (OkTr.bound hs ok).1
  have hrl := hr.len
  have e1 := answerof (k + 5) hs ok (by omega) (by omega) W
  have e2 := lans hs W ok (k + 10) (by omega)
  have e3 := eq_rows W (t.rows s) (t.rows s)
  obtain ⟨ρ', W2, e, ⟨a5, a6, a7, rfl⟩, c2⟩ := for_cup (asg := fun d ρ W => T.put W (.nm 5) d ρ) (body := runSs (callK prg (k + 13)) b__law_right_1) (fun ρ => ∃ a5 a6 a7, ρ = [some (.ref 0), some (stD s), some t.d, some (tupD r), some (.tup ((t.rows s).map tupD)), a5, a6, a7])
    (xs := [.int 0, .int 1]) (ρ := [some (.ref 0), some (stD s), some t.d, some (tupD r), some (.tup ((t.rows s).map tupD)), none, none, none]) (W := W) ⟨none, none, none, rfl⟩ hW (fun x hx ρ W hρ hW => by
      obtain ⟨a5, a6, a7, rfl⟩ := hρ
      obtain ⟨f, W1, e1, c1, hf, hv⟩ := lfilling (k + 10) hs hW
      have hF : OkFl s f := ⟨hf, hv⟩
      have h1 := filledans (k + 5) hs ok (by omega) (by omega) hF W1
      have h2 := lfilled (k + 10) hs f W1
      have h3 := lans (fillS_ok hs (gOf_in (unk s) f hv)) W1 (fill_tr (g := gOf (unk s) f) ok) (k + 10) (by omega)
      have h4 := isin (k + 4) hs ok (by omega) (by omega) hr hF W1
      have h5 := lin (k + 9) hs ok (by omega) (r := r) (by omega) hF W1
      have h6 := eq_rows W1 (t.rows (fillS (gOf (unk s) f) s)) (t.rows (fillS (gOf (unk s) f) s))
      refine ⟨[some (.ref 0), some (stD s), some t.d, some (tupD r), some (.tup ((t.rows s).map tupD)), some x, a6, a7], [some (.ref 0), some (stD s), some t.d, some (tupD r), some (.tup ((t.rows s).map tupD)), some x, some (.tup (f.map .int)), some (.bl (inB s t r (gOf (unk s) f)))], W1, rfl, ?_, ⟨_, _, _, rfl⟩, c1⟩
      generalize (t.rows (fillS (gOf (unk s) f) s)).map tupD = R1 at h1 h3 h6
      generalize stD (fillS (gOf (unk s) f) s) = sf at h2 h3
      generalize D.tup (f.map .int) = f2 at e1 h1 h2 h4 h5 ⊢
      generalize (t.rows s).map tupD = R0
      generalize inB s t r (gOf (unk s) f) = ib at h4 h5 ⊢
      generalize tupD r = rr at h4 h5 ⊢
      generalize stD s = sd at e1 h1 h2 h4 h5 ⊢
      simp [b__law_right_1, e1, h1, h2, h3, h4, h5, h6])
  have hF : runS (callK prg (k + 13)) l__law_right_2 [some (.ref 0), some (stD s), some t.d, some (tupD r), some (.tup ((t.rows s).map tupD)), none, none, none] W = .nx [some (.ref 0), some (stD s), some t.d, some (tupD r), some (.tup ((t.rows s).map tupD)), a5, a6, a7] W2 := e
  refine ⟨W2, ?_, c2⟩
  have l0 := hW.len
  have l2 := c2.len
  rw [c__law_right]
  unfold f__law_right
  generalize l__law_right_2 = y at hF ⊢
  generalize (t.rows s).map tupD = R0 at e1 e2 e3 hF
  generalize tupD r = rr at hF ⊢
  generalize stD s = sd at e1 e2 hF ⊢
  simp [e1, e2, e3, hF, l0, l2]
theorem turn (k : Nat) (s0 x a10 a12 a13 : Option D) {W : Wd} (hW : Cup W) : ∃ (b10 b12 b13 : Option D) (W' : Wd), runSs (callK prg (k + 14)) b_law_3 [s0, some (.ref 0), x, none, none, none, none, none, none, none, a10, none, a12, a13] W = .nx [s0, some (.ref 0), x, none, none, none, none, none, none, none, b10, none, b12, b13] W' ∧ Cup W' := by
  obtain ⟨u, W1, e1, c1, hu⟩ := pick (k + 12) hW [0, 2, 3] (by simp) (by simp)
  have hu6 : u ≤ 6 := by simp at hu; omega
  obtain ⟨s, t, r, n, W2, e2, c2, hc⟩ := lcase (k + 5) u 2 hu6 (by omega) c1
  obtain ⟨W3, e3, c3⟩ := right k (hc.ok hu6) hc.tr (by simp [dZ]) (by omega) hc.row.ask c2
  refine ⟨some t.d, some (stD s), some (tupD r), W3, ?_, c3⟩
  simp at e1 e2
  generalize tupD r = rr at e2 e3 ⊢
  generalize stD s = sd at e2 e3 ⊢
  simp [b_law_3, e1, e2, e3]
theorem rest (k : Nat) (s0 x a10 a12 a13 : Option D) (a b : Int) : runSs (callK prg (k + 40)) lwR [s0, some (.ref 0), x, none, none, none, none, none, none, none, a10, none, a12, a13] [[.int a, .int b]] = .rt (.bl true) [[.int a, .int b]] := by
  kernel_rfl
theorem law_f : f_law = ⟨1, 14, false, .cons (.asg (.nm 1) (.call ("_law_cup" : Str) (.cons (.var 0) .nil))) (.cons l_law_4 lwR)⟩ := rfl
theorem law_ok (ns : List Int) (hn : ns.length ≤ 63) : ∃ W, callK prg 60 "law" [.scr ns] [] = .ok (.bl true) W := by
  obtain ⟨W1, e1, c1⟩ := cup 58 ns hn
  obtain ⟨ρ', W2, l1, ⟨x, a10, a12, a13, rfl⟩, c2⟩ := for_cup (asg := fun d ρ W => T.put W (.nm 2) d ρ) (body := runSs (callK prg 59) b_law_3) (fun ρ => ∃ x a10 a12 a13, ρ = [some (.scr ns), some (.ref 0), x, none, none, none, none, none, none, none, a10, none, a12, a13])
    (xs := [.int 0, .int 1, .int 2, .int 3, .int 4]) (ρ := [some (.scr ns), some (.ref 0), none, none, none, none, none, none, none, none, none, none, none, none]) (W := W1) ⟨none, none, none, none, rfl⟩ c1 (fun y hy ρ W hρ hW => by
      obtain ⟨x, a10, a12, a13, rfl⟩ := hρ
      obtain ⟨b10, b12, b13, W', e, c⟩ := turn 45 (some (.scr ns)) (some y) a10 a12 a13 hW
      exact ⟨_, _, W', rfl, e, ⟨some y, b10, b12, b13, rfl⟩, c⟩)
  have hF : runS (callK prg 59) l_law_4 [some (.scr ns), some (.ref 0), none, none, none, none, none, none, none, none, none, none, none, none] W1 = .nx [some (.scr ns), some (.ref 0), x, none, none, none, none, none, none, none, a10, none, a12, a13] W2 := l1
  obtain ⟨a, b, rfl⟩ := c2
  have hR := rest 19 (some (.scr ns)) x a10 a12 a13 a b
  refine ⟨[], ?_⟩
  have hk : callK prg 60 "law" [.scr ns] [] = fnRun (callK prg 59) f_law [.scr ns] [] := c_law 59 _ _
  rw [hk, law_f]
  generalize l_law_4 = sf at hF ⊢
  generalize lwR = sr at hR ⊢
  obtain ⟨_, _, rfl⟩ := c1
  simp [e1, hF, hR]
end LW

set_option maxHeartbeats 0
namespace LW
open PySem PySem.Spec PyProof.Rows L2 PL
def loose : List PySem.Str := (["SureError", "InvalidStore", "InvalidTree", "InvalidRow", "InvalidFilling", "TooMany", "GREATEST", "LEAST", "COLUMNS_stores", "TABLES", "ROWS", "LETTERS", "is_whole", "is_tuple_of", "fits_value", "fits_row", "does_ascend", "fits_table", "fits_letter", "fits_store", "cells_in", "unknowns_in", "row_by", "worths_of", "filled_by", "fits_filling", "need_store", "need_filling", "KNOTS", "COLUMNS_trees"] : List PySem.Str) ++ (["TESTS", "PAIRS", "CROWD", "ONES", "TWOS", "fits_test", "are_columns", "columns_of_one", "are_pairs", "columns_of_two", "columns_by", "knots_in", "fits_tree", "need_tree", "MOST", "need_few", "ascending", "does_hold", "grouped", "joined", "divided", "crowded", "one_done", "two_done", "rows_by", "is_in_by", "need_row", "answer_of", "filled_answer", "is_in"] : List PySem.Str) ++ (["_law_cup", "_law_roll", "_law_some", "_law_unknowns", "_law_worths", "_law_put", "_law_filled", "_law_holds", "_law_select", "_law_join", "_law_divide", "_law_crowd", "_law_wide", "_law_answer", "_law_cell", "_law_table", "_law_store", "_law_test", "_law_fit", "_law_one", "_law_two", "_law_tree", "_law_asked", "_law_case", "_law_filling", "_law_in", "_law_example", "_law_right"] : List PySem.Str)
abbrev fa : List He.Fa := faOf (txts.map (·.nm)) G.frees G.gs
abbrev fn : List He.DefD := txts.map dOf
abbrev Rw : PySem.W.OpenRow := PySem.W.OpenLaw.row PySem.Challenge.rw_nearlysure_k09_whole_answers_of_trees
abbrev tp : List (PySem.Str × List He.Dv) := PL.tpsOf G.gs
abbrev hk : PySem.W.Hook := PL.hookX 4 fa fn tp
def ob (s : PySem.W.SharedT) : He.AlD × Bool := PL.obsXG 4 fa fn tp (HandSHeadRun.getT s)
theorem ob_eq (s : PySem.W.SharedT) : ob s = hk.obs s.abs := PL.obsXG_eq (HandSHeadRun.getT_eq s)
theorem run_eq (w : World) : HandSHeadRun.RunEq Rw (PySem.W.view Rw.prog [93]) hk ob 9000 loose w := by
  intro os
  kernel_rfl
end LW
open PySem PySem.W PySem.Calls PyProof.Rows
theorem PySem.Challenge.law_from (k : Nat) (hr : L2.Room k callerA) (H_ : ∀ ns : List Int, ns.length ≤ 63 → ∃ W, PL.callK LW.prg k ("law" : Str) [.scr ns] [] = .ok (.bl true) W) : PySem.Challenge.rw_nearlysure_k09_whole_answers_of_trees.Holds := by
  w_on; o_law
  refine HandSHeadRun.head_any (r := OpenLaw.row PySem.Challenge.rw_nearlysure_k09_whole_answers_of_trees) (q := view (OpenLaw.row PySem.Challenge.rw_nearlysure_k09_whole_answers_of_trees).prog [93]) (H := LW.hk) (ob := LW.ob) (M := 9000) (loose := LW.loose) (d := HandSHeadRun.topDef (OpenLaw.row PySem.Challenge.rw_nearlysure_k09_whole_answers_of_trees).prog 93) (kwd := []) LW.ob_eq
    (by kernel_rfl) (fun s => by kernel_rfl) LW.run_eq (by kernel_rfl) (by kernel_rfl) (by kernel_rfl) (by rfl) (by first | assumption | decide +kernel) (by decide +kernel) ⟨rfl, rfl, rfl, rfl, rfl, by decide +kernel⟩ ?hw ?hc
  case hw => w_witness2
  case hc =>
    refine L2.walk_ofE (l := PySem.Challenge.rw_nearlysure_k09_whole_answers_of_trees) (n := 63) (k := k) (x := "script") (CX := L2.CX0) rfl (by decide) (by kernel_rfl) hr ?F (fun _ _ _ _ z => z)
    intro w mg fa h Y G hmg0
    obtain ⟨K, KX, c, ct⟩ := Y
    have hmg : mg ("law" : PySem.Str) = some (.ref fa) := by
      have e : (HandSHeadRun.topDef (OpenLaw.row PySem.Challenge.rw_nearlysure_k09_whole_answers_of_trees).prog 93).name = ("law" : PySem.Str) := by kernel_rfl
      rw [← e]
      exact hmg0
    obtain ⟨fd, hb, hF⟩ := PL.law_facts (P := (PySem.Challenge.rw_nearlysure_k09_whole_answers_of_trees).prog) (w := w) (k := k) (tl := LW.t_law) KX G hmg c ct LW.chk_ok LW.gs_ok' LW.bind_ok (by simp [LW.txts]) rfl rfl
    exact ⟨K, fd, fun vs H Q _ => PL.spD ⟨K, mg, _, _⟩ (PL.callK LW.prg k "law") vs H Q fun _ _ _ => False, KX, hb, fun H a ns hl _ hS => by
      obtain ⟨W, e⟩ := H_ ns hl
      exact PL.law_sp hS e, hF⟩

theorem PySem.Challenge.cw_nearlysure_k09_whole_answers_of_trees_holds : PySem.Challenge.rw_nearlysure_k09_whole_answers_of_trees.Holds :=
  PySem.Challenge.law_from 60 ⟨rfl, by decide, by decide⟩ LW.law_ok

