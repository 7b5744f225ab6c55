import PyProof.Rows.All
import HandS.ForMost
import HandS.Deep
import HandS.Zip
import HandS.Flow
import HandS.TupAny
import HandS.TupMul
import HandS.IsInst
import HandS.Walk
import HandS.Conv
import HandS.WordsExc
import HandS.RaiseMore
import HandS.Style
import HandS.MapObj
import KE.KDictZip
import HandS.Comp
import HandS.TupSets
import KE.SortData
import HandS.Head0
import HandS.Head1
import HandS.Head2
import HandS.HeadEnd
import HandS.HeadHook1
import HandS.HeadHook2
import KE.KStateDown
import Lean
import PySem.Challenge.RW_nearlysure_k48_whole_guarded_tables_fill
set_option Elab.async false
set_option linter.all false
set_option maxRecDepth 100100
set_option maxHeartbeats 4100000
set_option autoImplicit false
/-! PL1: plain data D, how values of the layer stand for it, worlds of changing lists. -/
namespace PL
open PySem PySem.Spec PyProof.Rows L2

inductive D where
  | non | bl (b : Bool) | int (i : Int) | str (x : Str) | tup (xs : List D) | lst (xs : List D)
  | dct (kvs : List (Key × D)) | fn (x : Str) | ref (i : Nat) | scr (ns : List Int)

mutual
def D.py : D → Option PyData
  | .non => some .none
  | .bl b => some (.bool b)
  | .int i => some (.int i)
  | .str x => some (.str x)
  | .tup xs => (D.pys xs).map .tuple
  | .lst xs => (D.pys xs).map .list
  | _ => none
def D.pys : List D → Option (List PyData)
  | [] => some []
  | x :: xs => match D.py x with
    | some a => (D.pys xs).map (a :: ·)
    | none => none
end

/-- ch: the changing lists; op: lists under making -/
structure Ms where
  ch : List Addr
  op : List Addr
def Ms.has (m : Ms) (a : Addr) : Prop := a ∈ m.ch ∨ a ∈ m.op
/-- a list, a tuple that stays as it is: none of the changing lists m -/
def FzL (K : PySem.W.Frag) (m : Ms) (H : Hp) (a : Addr) (xs : List V) : Prop :=
  (¬ m.has a ∧ Rd H a (.lst xs)) ∨
    ∃ (o : Obj) (its : Array Value) (n : Nat), K.lookup a = some o ∧ o.cls = .type "list" ∧ o.dict = none ∧ o.data = .seq its n ∧ its.size ≤ sizeLine ∧ Vals xs its.toList
def FzT (K : PySem.W.Frag) (m : Ms) (H : Hp) (a : Addr) (xs : List V) : Prop :=
  (¬ m.has a ∧ Rd H a (.tup xs)) ∨
    ∃ (o : Obj) (its : Array Value) (n : Nat), K.lookup a = some o ∧ o.cls = .type "tuple" ∧ o.data = .seq its n ∧ its.size ≤ sizeLine ∧ Vals xs its.toList
theorem FzL.seq {K : PySem.W.Frag} {m : Ms} {H : Hp} {a : Addr} {xs : List V} (h : FzL K m H a xs) : SqL K H a xs := h.imp (·.2) id
theorem FzT.seq {K : PySem.W.Frag} {m : Ms} {H : Hp} {a : Addr} {xs : List V} (h : FzT K m H a xs) : SqT K H a xs := h.imp (·.2) id

/-- the module: its text's written part, what its names hold -/
structure Md where
  K : PySem.W.Frag
  mg : Str → Option Value

mutual
inductive Is (M : Md) (m : Ms) (H : Hp) : V → D → Prop
  | non : Is M m H .non .non
  | bl (b : Bool) : Is M m H (.bl b) (.bl b)
  | int (i : Int) : Is M m H (.int i) (.int i)
  | str (x : Str) (h : PyData.strOk x = true) : Is M m H (.str x) (.str x)
  | tup {a : Addr} {xs : List V} {ds : List D} : FzT M.K m H a xs → IsAll M m H xs ds → Is M m H (.ref a) (.tup ds)
  | lst {a : Addr} {xs : List V} {ds : List D} : ¬ m.has a → H a = some (.lst xs) → IsAll M m H xs ds → Is M m H (.ref a) (.lst ds)
  | dct {a : Addr} {kvs : List (Key × V)} {ds : List (Key × D)} : ¬ m.has a → H a = some (.dK kvs) → IsKvs M m H kvs ds → Is M m H (.ref a) (.dct ds)
  | fn {a : Addr} {x : Str} : M.mg x = some (.ref a) → Is M m H (.ref a) (.fn x)
  | ref {a : Addr} {i : Nat} : m.ch[i]? = some a → Is M m H (.ref a) (.ref i)
  | scr {a : Addr} {ns : List Int} : FzL M.K m H a (ns.map V.int) → Is M m H (.ref a) (.scr ns)
inductive IsAll (M : Md) (m : Ms) (H : Hp) : List V → List D → Prop
  | nil : IsAll M m H [] []
  | cons {v : V} {vs : List V} {d : D} {ds : List D} : Is M m H v d → IsAll M m H vs ds → IsAll M m H (v :: vs) (d :: ds)
inductive IsKvs (M : Md) (m : Ms) (H : Hp) : List (Key × V) → List (Key × D) → Prop
  | nil : IsKvs M m H [] []
  | cons {k : Key} {v : V} {vs : List (Key × V)} {d : D} {ds : List (Key × D)} : Is M m H v d → IsKvs M m H vs ds → IsKvs M m H ((k, v) :: vs) ((k, d) :: ds)
end

/-- from (m, H) to (m', H'): what was still stays -/
structure Kp (m : Ms) (H : Hp) (m' : Ms) (H' : Hp) : Prop where
  pre : ∃ r, m'.ch = m.ch ++ r
  keep : ∀ a o, ¬ m.has a → H a = some o → H' a = some o ∧ ¬ m'.has a
theorem Kp.refl {m : Ms} {H : Hp} : Kp m H m H := ⟨⟨[], by simp⟩, fun _ _ h e => ⟨e, h⟩⟩
theorem Kp.trans {m m1 m2 : Ms} {H H1 H2 : Hp} (a : Kp m H m1 H1) (b : Kp m1 H1 m2 H2) : Kp m H m2 H2 := by
  refine ⟨?_, fun c o h e => ?_⟩
  · obtain ⟨r, e1⟩ := a.pre
    obtain ⟨r', e2⟩ := b.pre
    exact ⟨r ++ r', by rw [e2, e1, List.append_assoc]⟩
  · obtain ⟨e1, n1⟩ := a.keep c o h e
    exact b.keep c o n1 e1
theorem Kp.get {m m' : Ms} {H H' : Hp} (s : Kp m H m' H') {i : Nat} {a : Addr} (h : m.ch[i]? = some a) : m'.ch[i]? = some a := by
  obtain ⟨r, e⟩ := s.pre
  rw [e, List.getElem?_append_left (List.getElem?_eq_some_iff.mp h).1]
  exact h
/-- .. and the lists under making -/
structure Step (m : Ms) (H : Hp) (m' : Ms) (H' : Hp) : Prop where
  kp : Kp m H m' H'
  op : m'.op = m.op
  opk : ∀ a ∈ m.op, ∀ o, H a = some o → H' a = some o
theorem Step.refl {m : Ms} {H : Hp} : Step m H m H := ⟨.refl, rfl, fun _ _ _ e => e⟩
theorem Step.trans {m m1 m2 : Ms} {H H1 H2 : Hp} (a : Step m H m1 H1) (b : Step m1 H1 m2 H2) : Step m H m2 H2 :=
  ⟨a.kp.trans b.kp, b.op.trans a.op, fun c hc o e => b.opk c (by rw [a.op]; exact hc) o (a.opk c hc o e)⟩
theorem Step.same {m : Ms} {H H' : Hp} (h : Same H H') : Step m H m H' := ⟨⟨⟨[], by simp⟩, fun a o n e => ⟨h a o e, n⟩⟩, rfl, fun a _ o e => h a o e⟩
theorem Step.upd {m : Ms} {H : Hp} {p : Addr} {o : HO} (h : H p = none) : Step m H m (upd H p o) := Step.same fun b u e => by rw [upd_ne (ne_of_none e h)]; exact e
section
variable {K : PySem.W.Frag} {M : Md} {m m' : Ms} {H H' : Hp}
theorem FzL.kp {a : Addr} {xs : List V} (h : FzL K m H a xs) (s : Kp m H m' H') : FzL K m' H' a xs := by
  rcases h with ⟨n, h | ⟨o, h⟩⟩ | h
  · obtain ⟨e, n'⟩ := s.keep a _ n h
    exact .inl ⟨n', .inl e⟩
  · obtain ⟨e, n'⟩ := s.keep a _ n h
    exact .inl ⟨n', .inr ⟨o, e⟩⟩
  · exact .inr h
theorem FzT.kp {a : Addr} {xs : List V} (h : FzT K m H a xs) (s : Kp m H m' H') : FzT K m' H' a xs := by
  rcases h with ⟨n, h | ⟨o, h⟩⟩ | h
  · obtain ⟨e, n'⟩ := s.keep a _ n h
    exact .inl ⟨n', .inl e⟩
  · obtain ⟨e, n'⟩ := s.keep a _ n h
    exact .inl ⟨n', .inr ⟨o, e⟩⟩
  · exact .inr h
mutual
theorem Is.kp' (s : Kp m H m' H') : ∀ {v : V} {d : D}, Is M m H v d → Is M m' H' v d
  | _, _, .non => .non
  | _, _, .bl b => .bl b
  | _, _, .int i => .int i
  | _, _, .str x h => .str x h
  | _, _, .tup h r => .tup (h.kp s) (IsAll.kp' s r)
  | _, _, .lst n e r => .lst (s.keep _ _ n e).2 (s.keep _ _ n e).1 (IsAll.kp' s r)
  | _, _, .dct n e r => .dct (s.keep _ _ n e).2 (s.keep _ _ n e).1 (IsKvs.kp' s r)
  | _, _, .fn h => .fn h
  | _, _, .ref h => .ref (s.get h)
  | _, _, .scr h => .scr (h.kp s)
theorem IsAll.kp' (s : Kp m H m' H') : ∀ {vs : List V} {ds : List D}, IsAll M m H vs ds → IsAll M m' H' vs ds
  | _, _, .nil => .nil
  | _, _, .cons a b => .cons (Is.kp' s a) (IsAll.kp' s b)
theorem IsKvs.kp' (s : Kp m H m' H') : ∀ {vs : List (Key × V)} {ds : List (Key × D)}, IsKvs M m H vs ds → IsKvs M m' H' vs ds
  | _, _, .nil => .nil
  | _, _, .cons a b => .cons (Is.kp' s a) (IsKvs.kp' s b)
end
theorem Is.kp {v : V} {d : D} (h : Is M m H v d) (s : Kp m H m' H') : Is M m' H' v d := Is.kp' s h
theorem IsAll.kp {vs : List V} {ds : List D} (h : IsAll M m H vs ds) (s : Kp m H m' H') : IsAll M m' H' vs ds := IsAll.kp' s h
theorem IsKvs.kp {vs : List (Key × V)} {ds : List (Key × D)} (h : IsKvs M m H vs ds) (s : Kp m H m' H') : IsKvs M m' H' vs ds := IsKvs.kp' s h
theorem Is.mono {v : V} {d : D} (h : Is M m H v d) (s : Step m H m' H') : Is M m' H' v d := h.kp s.kp
theorem IsAll.mono {vs : List V} {ds : List D} (h : IsAll M m H vs ds) (s : Step m H m' H') : IsAll M m' H' vs ds := h.kp s.kp
theorem IsKvs.mono {vs : List (Key × V)} {ds : List (Key × D)} (h : IsKvs M m H vs ds) (s : Step m H m' H') : IsKvs M m' H' vs ds := h.kp s.kp
theorem FzL.mono {a : Addr} {xs : List V} (h : FzL K m H a xs) (s : Step m H m' H') : FzL K m' H' a xs := h.kp s.kp
theorem FzT.mono {a : Addr} {xs : List V} (h : FzT K m H a xs) (s : Step m H m' H') : FzT K m' H' a xs := h.kp s.kp
theorem IsAll.length : ∀ {vs : List V} {ds : List D}, IsAll M m H vs ds → vs.length = ds.length
  | _, _, .nil => rfl
  | _, _, .cons _ b => by simp [IsAll.length b]
theorem IsAll.get : ∀ {vs : List V} {ds : List D} {i : Nat} {d : D}, IsAll M m H vs ds → ds[i]? = some d → ∃ v, vs[i]? = some v ∧ Is M m H v d
  | _, _, _, _, .nil, e => by simp at e
  | _, _, 0, _, .cons a b, e => by simp at e; subst e; exact ⟨_, rfl, a⟩
  | _, _, i + 1, d, .cons a b, e => by
    obtain ⟨v, h1, h2⟩ := IsAll.get (i := i) (d := d) b (by simpa using e)
    exact ⟨v, by simpa using h1, h2⟩
theorem IsAll.append : ∀ {vs ws : List V} {ds es : List D}, IsAll M m H vs ds → IsAll M m H ws es → IsAll M m H (vs ++ ws) (ds ++ es)
  | _, _, _, _, .nil, b => b
  | _, _, _, _, .cons a r, b => .cons a (IsAll.append r b)
theorem IsAll.take : ∀ {vs : List V} {ds : List D} (n : Nat), IsAll M m H vs ds → IsAll M m H (vs.take n) (ds.take n)
  | _, _, 0, _ => .nil
  | _, _, _ + 1, .nil => .nil
  | _, _, n + 1, .cons a r => .cons a (IsAll.take n r)
theorem IsAll.drop : ∀ {vs : List V} {ds : List D} (n : Nat), IsAll M m H vs ds → IsAll M m H (vs.drop n) (ds.drop n)
  | _, _, 0, r => r
  | _, _, _ + 1, .nil => .nil
  | _, _, n + 1, .cons a r => IsAll.drop n r
theorem IsAll.reverse {vs : List V} {ds : List D} (h : IsAll M m H vs ds) : IsAll M m H vs.reverse ds.reverse := by
  induction vs generalizing ds with
  | nil => cases h; exact .nil
  | cons v vs ih =>
    cases h with
    | cons a b => rw [List.reverse_cons, List.reverse_cons]; exact (ih b).append (.cons a .nil)
theorem IsAll.rep {vs : List V} {ds : List D} (h : IsAll M m H vs ds) : ∀ k : Nat, IsAll M m H (List.replicate k vs).flatten (List.replicate k ds).flatten
  | 0 => .nil
  | k + 1 => by rw [List.replicate_succ, List.replicate_succ, List.flatten_cons, List.flatten_cons]; exact h.append (IsAll.rep h k)
theorem IsAll.set : ∀ {vs : List V} {ds : List D} {v : V} {d : D} (i : Nat), IsAll M m H vs ds → Is M m H v d → IsAll M m H (vs.set i v) (ds.set i d)
  | _, _, _, _, _, .nil, _ => .nil
  | _, _, _, _, 0, .cons _ r, h => .cons h r
  | _, _, _, _, i + 1, .cons a r, h => .cons a (IsAll.set i r h)
theorem IsAll.ints : ∀ (ns : List Int), IsAll M m H (ns.map V.int) (ns.map D.int)
  | [] => .nil
  | n :: ns => .cons (.int n) (IsAll.ints ns)
theorem IsAll.int_inv : ∀ {ns : List Int} {vs : List V}, IsAll M m H vs (ns.map D.int) → vs = ns.map V.int
  | [], _, h => by cases h; rfl
  | n :: ns, _, h => by
    cases h with
    | cons a b => cases a; rw [IsAll.int_inv b]; rfl
theorem IsAll.bl_inv : ∀ {bs : List Bool} {vs : List V}, IsAll M m H vs (bs.map D.bl) → vs = bs.map V.bl
  | [], _, h => by cases h; rfl
  | n :: ns, _, h => by
    cases h with
    | cons a b => cases a; rw [IsAll.bl_inv b]; rfl

/-! ### data that == tells -/
mutual
theorem Is.dp : ∀ {v : V} {d : D} {p : PyData}, Is M m H v d → d.py = some p → Dp M.K H v p ∧ p.canLay0 = true
  | _, _, _, .non, e => by simp [D.py] at e; subst e; exact ⟨.non, rfl⟩
  | _, _, _, .bl b, e => by simp [D.py] at e; subst e; exact ⟨.bl b, rfl⟩
  | _, _, _, .int i, e => by simp [D.py] at e; subst e; exact ⟨.int i, rfl⟩
  | _, _, _, .str x h, e => by
    simp [D.py] at e; subst e
    exact ⟨.str x, by simpa [PyData.canLay0] using h⟩
  | _, _, _, .tup (ds := ds) h r, e => by
    simp only [D.py] at e
    cases q : D.pys ds with
    | none => rw [q] at e; simp at e
    | some ps =>
      rw [q] at e; simp at e; subst e
      obtain ⟨h1, h2⟩ := IsAll.dp r q
      exact ⟨.tup h.seq h1, by simpa [PyData.canLay0] using h2⟩
  | _, _, _, .lst (ds := ds) _ h r, e => by
    simp only [D.py] at e
    cases q : D.pys ds with
    | none => rw [q] at e; simp at e
    | some ps =>
      rw [q] at e; simp at e; subst e
      obtain ⟨h1, h2⟩ := IsAll.dp r q
      exact ⟨.lst (SqL.of h) h1, by simpa [PyData.canLay0] using h2⟩
  | _, _, _, .dct _ _ _, e => by simp [D.py] at e
  | _, _, _, .fn _, e => by simp [D.py] at e
  | _, _, _, .ref _, e => by simp [D.py] at e
  | _, _, _, .scr _, e => by simp [D.py] at e
theorem IsAll.dp : ∀ {vs : List V} {ds : List D} {ps : List PyData}, IsAll M m H vs ds → D.pys ds = some ps → DpAll M.K H vs ps ∧ PyData.canLayAll0 ps = true
  | _, _, _, .nil, e => by simp [D.pys] at e; subst e; exact ⟨.nil, rfl⟩
  | _, _, _, .cons (d := d) (ds := ds) a b, e => by
    simp only [D.pys] at e
    cases q : D.py d with
    | none => rw [q] at e; simp at e
    | some p =>
      rw [q] at e
      cases q2 : D.pys ds with
      | none => rw [q2] at e; simp at e
      | some ps =>
        rw [q2] at e; simp at e; subst e
        obtain ⟨h1, h2⟩ := Is.dp a q
        obtain ⟨h3, h4⟩ := IsAll.dp b q2
        exact ⟨.cons h1 h3, by simp [PyData.canLayAll0, h2, h4]⟩
end
end

/-! ### worlds: the changing lists -/
abbrev Wd := List (List D)
structure WOk (M : Md) (m : Ms) (W : Wd) (H : Hp) : Prop where
  len : m.ch.length = W.length
  nd : m.ch.Nodup
  at_ : ∀ (i : Nat) (xs : List D), W[i]? = some xs → ∃ a vs, m.ch[i]? = some a ∧ H a = some (.lst vs) ∧ IsAll M m H vs xs
  opn : ∀ a ∈ m.op, a ∉ m.ch ∧ ∃ o, H a = some o
/-- slots -/
structure EnvOk (M : Md) (m : Ms) (H : Hp) (σ : L2.St) (ρ : List (Option D)) : Prop where
  at_ : ∀ (i : Nat) (d : D), ρ[i]? = some (some d) → ∃ v, σ[i]? = some (some v) ∧ Is M m H v d
  len : ρ.length = σ.length
section
variable {M : Md} {m m' : Ms} {H H' : Hp} {σ : L2.St} {ρ : List (Option D)} {W : Wd}
theorem EnvOk.kp (h : EnvOk M m H σ ρ) (s : Kp m H m' H') : EnvOk M m' H' σ ρ := ⟨fun i d e => by
  obtain ⟨v, h1, h2⟩ := h.at_ i d e
  exact ⟨v, h1, h2.kp s⟩, h.len⟩
theorem EnvOk.mono (h : EnvOk M m H σ ρ) (s : Step m H m' H') : EnvOk M m' H' σ ρ := h.kp s.kp
theorem WOk.mono (h : WOk M m W H) (s : Same H H') : WOk M m W H' := ⟨h.len, h.nd, fun i xs e => by
  obtain ⟨a, vs, h1, h2, h3⟩ := h.at_ i xs e
  exact ⟨a, vs, h1, s _ _ h2, h3.mono (Step.same s)⟩, fun a ha => let ⟨n, o, e⟩ := h.opn a ha; ⟨n, o, s _ _ e⟩⟩
theorem same_upd {H : Hp} {p : Addr} {o : HO} (h : H p = none) : Same H (upd H p o) := fun b u e => by rw [upd_ne (ne_of_none e h)]; exact e
theorem EnvOk.set (h : EnvOk M m H σ ρ) {i : Nat} {v : V} {d : D} (r : Is M m H v d) : EnvOk M m H (σ.set i (some v)) (ρ.set i (some d)) := ⟨fun j e q => by
  by_cases hj : j = i
  · subst hj
    by_cases hl : j < ρ.length
    · rw [List.getElem?_set_self hl] at q
      cases q
      exact ⟨v, List.getElem?_set_self (by rw [← h.len]; exact hl), r⟩
    · rw [List.getElem?_eq_none (by simpa using hl)] at q
      cases q
  · rw [List.getElem?_set_ne (Ne.symm hj)] at q ⊢
    exact h.at_ j e q, by simp [h.len]⟩
theorem WOk.notIn (h : WOk M m W H) {p : Addr} (hp : H p = none) : ¬ m.has p := fun z => by
  rcases z with z | z
  · obtain ⟨i, hi⟩ := List.getElem?_of_mem z
    have hl : i < W.length := by rw [← h.len]; exact (List.getElem?_eq_some_iff.mp hi).1
    obtain ⟨a, vs, h1, h2, _⟩ := h.at_ i W[i] (List.getElem?_eq_getElem hl)
    rw [hi] at h1; cases h1
    rw [hp] at h2; cases h2
  · obtain ⟨_, o, e⟩ := h.opn p z
    rw [hp] at e; cases e
/-- a new list, a new tuple -/
theorem WOk.newL (h : WOk M m W H) {p : Addr} (hp : H p = none) {vs : List V} {ds : List D} (r : IsAll M m H vs ds) : Is M m (upd H p (.lst vs)) (.ref p) (.lst ds) :=
  .lst (h.notIn hp) upd_same (r.mono (Step.upd hp))
theorem WOk.newT (h : WOk M m W H) {p : Addr} (hp : H p = none) {vs : List V} {ds : List D} (r : IsAll M m H vs ds) : Is M m (upd H p (.tup vs)) (.ref p) (.tup ds) :=
  .tup (.inl ⟨h.notIn hp, .inl upd_same⟩) (r.mono (Step.upd hp))
end
end PL

/-! PL2: operations by data, and that the layer's operations keep them. -/
namespace PL
open PySem PySem.Spec PyProof.Rows L2

abbrev mdOf (X : Cx) : Md := ⟨X.K, X.mg⟩

/-! ### looks at data -/
def asL (W : Wd) : D → Option (List D)
  | .lst xs => some xs
  | .ref i => W[i]?
  | _ => none
def asQ (W : Wd) : D → Option (List D)
  | .tup xs => some xs
  | .lst xs => some xs
  | .ref i => W[i]?
  | _ => none
def pyW (W : Wd) : D → Option PyData
  | .ref i => match W[i]? with
    | some xs => (D.pys xs).map .list
    | none => none
  | d => d.py
section
variable {M : Md} {m : Ms} {H : Hp} {W : Wd} {v : V} {d : D}
theorem Is.asL (h : Is M m H v d) (hw : WOk M m W H) {ds : List D} (e : asL W d = some ds) : ∃ a xs, v = .ref a ∧ H a = some (.lst xs) ∧ IsAll M m H xs ds := by
  cases h with
  | lst _ h r => cases e; exact ⟨_, _, rfl, h, r⟩
  | ref h =>
    obtain ⟨a, vs, h1, h2, h3⟩ := hw.at_ _ ds e
    rw [h] at h1; cases h1
    exact ⟨_, _, rfl, h2, h3⟩
  | _ => cases e
theorem Is.asT {ds : List D} (h : Is M m H v (.tup ds)) : ∃ a xs, v = .ref a ∧ FzT M.K m H a xs ∧ IsAll M m H xs ds := by
  cases h with
  | tup h r => exact ⟨_, _, rfl, h, r⟩
theorem Is.asQ (h : Is M m H v d) (hw : WOk M m W H) {ds : List D} (e : asQ W d = some ds) : ∃ a xs, v = .ref a ∧ (SqL M.K H a xs ∨ SqT M.K H a xs) ∧ IsAll M m H xs ds := by
  cases h with
  | tup h r => cases e; exact ⟨_, _, rfl, .inr h.seq, r⟩
  | lst _ h r => cases e; exact ⟨_, _, rfl, .inl (SqL.of h), r⟩
  | ref h =>
    obtain ⟨a, vs, h1, h2, h3⟩ := hw.at_ _ ds e
    rw [h] at h1; cases h1
    exact ⟨_, _, rfl, .inl (SqL.of h2), h3⟩
  | _ => cases e
theorem Is.dpW (h : Is M m H v d) (hw : WOk M m W H) {p : PyData} (e : pyW W d = some p) : Dp M.K H v p ∧ p.canLay0 = true := by
  cases h with
  | ref h =>
    simp only [pyW] at e
    rename_i a i
    cases q : W[i]? with
    | none => rw [q] at e; cases e
    | some xs =>
      rw [q] at e
      obtain ⟨a', vs, h1, h2, h3⟩ := hw.at_ _ xs q
      rw [h] at h1; cases h1
      have e' : (D.pys xs).map PyData.list = some p := e
      cases q2 : D.pys xs with
      | none => rw [q2] at e'; cases e'
      | some ps =>
        rw [q2] at e'; cases e'
        obtain ⟨h4, h5⟩ := h3.dp q2
        exact ⟨.lst (SqL.of h2) h4, by simpa [PyData.canLay0] using h5⟩
  | non => exact Is.dp (m := m) .non e
  | bl b => exact Is.dp (m := m) (.bl b) e
  | int i => exact Is.dp (m := m) (.int i) e
  | str x h => exact Is.dp (m := m) (.str x h) e
  | tup h r => exact Is.dp (.tup h r) e
  | lst n h r => exact Is.dp (.lst n h r) e
  | dct a b c => exact Is.dp (.dct a b c) e
  | fn h => exact Is.dp (m := m) (.fn h) e
  | scr h => exact Is.dp (.scr h) e
theorem Is.cutT {n : Nat} {xs : List V} {ds : List D} (h : IsAll M m H xs ds) (lo hi : Option Int) : IsAll M m H (cutV xs lo hi) ((ds.drop (HT.sIx ds.length 0 lo)).take (HT.sIx ds.length ds.length hi - HT.sIx ds.length 0 lo)) := by
  unfold cutV
  rw [h.length]
  exact (h.drop _).take _
end

/-! ### operations of two values -/
def rD (M : Md) (g : Wd → D → D → Option D) : R2 := fun x y H Q => ∃ m W a b d, WOk M m W H ∧ Is M m H x a ∧ Is M m H y b ∧ g W a b = some d ∧ ∀ v H', Same H H' → Is M m H' v d → Q v H'

def dAdd (W : Wd) : D → D → Option D
  | .int i, .int j => some (.int (i + j))
  | .str x, .str y => if x.length + y.length ≤ 16777216 then some (.str (x ++ y)) else none
  | .tup xs, .tup ys => if xs.length + ys.length ≤ 16777216 then some (.tup (xs ++ ys)) else none
  | a, b => match asL W a, asL W b with
    | some xs, some ys => if xs.length + ys.length ≤ 16777216 then some (.lst (xs ++ ys)) else none
    | _, _ => none
def dSub (W : Wd) : D → D → Option D
  | .int i, .int j => some (.int (i - j))
  | _, _ => none
def dMul (W : Wd) : D → D → Option D
  | .int i, .int j => if i.natAbs < 2 ^ 64 ∨ j.natAbs < 2 ^ 64 then some (.int (i * j)) else none
  | .tup xs, .int k => if xs ≠ [] ∧ 2 ≤ k ∧ k ≤ 1000 ∧ xs.length ≤ 1000 then some (.tup (List.replicate k.toNat xs).flatten) else none
  | .lst xs, .int k => if k ≤ 16777216 ∧ -16777216 ≤ k ∧ xs.length * k.toNat ≤ 16777216 then some (.lst (List.replicate k.toNat xs).flatten) else none
  | _, _ => none
def dDiv (W : Wd) : D → D → Option D
  | .int i, .int j => if 0 < j ∧ j < 1073741824 then some (.int (i / j)) else none
  | _, _ => none
def dMod (W : Wd) : D → D → Option D
  | .int i, .int j => if 0 < j then some (.int (i % j)) else none
  | _, _ => none
def dPow (W : Wd) : D → D → Option D
  | .int i, .int j => if 0 ≤ j ∧ j ≤ 1000000 ∧ i.natAbs < 2 ^ 64 then some (.int (i ^ j.toNat)) else none
  | _, _ => none

theorem strOk_app {x y : Str} (h : PyData.strOk x = true) (h' : PyData.strOk y = true) : PyData.strOk (x ++ y) = true := by
  unfold PyData.strOk at *
  have e : (x ++ y).cps.toList = x.cps.toList ++ y.cps.toList := TL.tl_append x y
  rw [← Array.all_toList] at *
  rw [e, List.all_append, h, h']
  rfl
section
variable {X : Cx}
theorem opd_add : OpR X (binaryOp .Add) (rD (mdOf X) dAdd) := by
  intro pins s σ H x y v u Q I rx ry ⟨m, W, a, b, d, hw, ha, hb, hg, k⟩
  unfold dAdd at hg
  split at hg
  · cases ha; cases hb; cases hg
    exact op_add pins s σ H _ _ v u Q I rx ry ⟨_, _, rfl, rfl, k _ _ (Same.refl H) (.int _)⟩
  · split at hg
    · cases hg
      rename_i hl
      cases ha with
      | str _ h1 => cases hb with
        | str _ h2 => exact op_add_str pins s σ H _ _ v u Q I rx ry ⟨_, _, rfl, rfl, by rw [sizeLine_eq]; exact hl, k _ _ (Same.refl H) (.str _ (strOk_app h1 h2))⟩
    · cases hg
  · split at hg
    · cases hg
      rename_i xs ys hl
      obtain ⟨a1, vs, rfl, h1, r1⟩ := ha.asT
      obtain ⟨a2, ws, rfl, h2, r2⟩ := hb.asT
      have e1 := r1.length
      have e2 := r2.length
      refine op_catA pins s σ H _ _ v u Q I rx ry ⟨_, _, _, _, rfl, rfl, h1.seq, h2.seq, by rw [e1, e2, sizeLine_eq]; exact hl, fun z => ?_, fun _ z => ?_, fun _ _ p hp => ?_⟩
      · subst z
        cases r1
        exact k _ _ (Same.refl H) (.tup h2 r2)
      · subst z
        cases r2
        rw [List.append_nil] at k
        exact k _ _ (Same.refl H) (.tup h1 r1)
      · exact k _ _ (same_upd hp) (hw.newT hp (r1.append r2))
    · cases hg
  · split at hg
    · rename_i xs ys q1 q2
      split at hg
      · cases hg
        rename_i hl
        obtain ⟨a1, vs, rfl, h1, r1⟩ := ha.asL hw q1
        obtain ⟨a2, ws, rfl, h2, r2⟩ := hb.asL hw q2
        have e1 := r1.length
        have e2 := r2.length
        exact op_cat pins s σ H _ _ v u Q I rx ry ⟨_, _, _, _, rfl, rfl, h1, h2, by rw [e1, e2, sizeLine_eq]; exact hl, fun p hp => k _ _ (same_upd hp) (hw.newL hp (r1.append r2))⟩
      · cases hg
    · cases hg
theorem opd_sub : OpR X (binaryOp .Sub) (rD (mdOf X) dSub) := by
  intro pins s σ H x y v u Q I rx ry ⟨m, W, a, b, d, hw, ha, hb, hg, k⟩
  unfold dSub at hg
  split at hg
  · cases ha; cases hb; cases hg
    exact op_sub pins s σ H _ _ v u Q I rx ry ⟨_, _, rfl, rfl, k _ _ (Same.refl H) (.int _)⟩
  · cases hg
theorem abs_lt {i : Int} {n : Nat} (h : i.natAbs < n) : -(n : Int) < i ∧ i < n := by omega
theorem opd_mul : OpR X (binaryOp .Mult) (rD (mdOf X) dMul) := by
  intro pins s σ H x y v u Q I rx ry ⟨m, W, a, b, d, hw, ha, hb, hg, k⟩
  unfold dMul at hg
  split at hg
  · split at hg
    · rename_i i j hl
      cases ha; cases hb; cases hg
      refine op_mul pins s σ H _ _ v u Q I rx ry ⟨_, _, rfl, rfl, ?_, k _ _ (Same.refl H) (.int _)⟩
      rcases hl with hl | hl
      · exact .inl (abs_lt hl)
      · exact .inr (abs_lt hl)
    · cases hg
  · split at hg
    · rename_i xs j hl
      obtain ⟨a1, vs, rfl, h1, r1⟩ := ha.asT
      cases hb; cases hg
      have e1 := r1.length
      refine op_repT pins s σ H _ _ v u Q I rx ry ⟨_, _, _, rfl, rfl, h1.seq, fun z => ?_, hl.2.1, hl.2.2.1, by rw [e1]; exact hl.2.2.2, fun p hp => k _ _ (same_upd hp) (hw.newT hp (r1.rep _))⟩
      subst z
      cases r1
      exact hl.1 rfl
    · cases hg
  · split at hg
    · rename_i xs j hl
      cases ha with
      | lst hn h r1 =>
        cases hb; cases hg
        have e1 := r1.length
        exact op_rep pins s σ H _ _ v u Q I rx ry ⟨_, _, _, rfl, rfl, h, by have := hl.2.1; omega, by have := hl.1; omega, by rw [e1, sizeLine_eq]; exact hl.2.2, fun p hp => k _ _ (same_upd hp) (hw.newL hp (r1.rep _))⟩
    · cases hg
  · cases hg
end
end PL

/-! PL3: further operations: division, comparisons, membership. -/
namespace PL
open PySem PySem.Spec PyProof.Rows L2

def dEq (W : Wd) (a b : D) : Option Bool := match pyW W a, pyW W b with
  | some p, some q => if min p.depth q.depth ≤ 100 then some (PyData.eqv p q) else none
  | _, _ => none
def strIn (x y : Str) : Bool := !(Builtin.Str.occurrences y x 0 y.length 1).isEmpty
/-- a key's datum -/
def asKey : D → Option Key
  | .int i => some (.inl i)
  | .str x => some (.inr x)
  | _ => none
def keyGet (kvs : List (Key × D)) (k : Key) : Option D := (kvs.find? fun kv => decide (kv.1 = k)).map (·.2)
def keyPut (kvs : List (Key × D)) (k : Key) (v : D) : List (Key × D) :=
  if (kvs.any fun kv => decide (kv.1 = k)) = true then kvs.map (fun kv => if kv.1 = k then (kv.1, v) else kv) else kvs ++ [(k, v)]
def dIn (W : Wd) (a b : D) : Option Bool := match b with
  | .str y => match a with
    | .str x => some (strIn x y)
    | _ => none
  | b => match asQ W b with
    | some ds => match D.pys ds, pyW W a with
      | some ps, some p => if min (PyData.depthAll ps) p.depth ≤ 100 then some (ps.any fun y => PyData.eqv y p) else none
      | _, _ => none
    | none => none
def dLt (W : Wd) : D → D → Option Bool
  | .int i, .int j => some (decide (i < j))
  | .str x, .str y => some (decide (x.cps.toList < y.cps.toList))
  | _, _ => none
def dLe (W : Wd) : D → D → Option Bool
  | .int i, .int j => some (decide (i ≤ j))
  | _, _ => none
def dIs (W : Wd) : D → D → Option Bool
  | .non, .non => some true
  | .bl a, .bl b => some (decide (a = b))
  | _, .non => some false
  | _, _ => none
def oB (f : Wd → D → D → Option Bool) (W : Wd) (a b : D) : Option D := (f W a b).map .bl
def oNB (f : Wd → D → D → Option Bool) (W : Wd) (a b : D) : Option D := (f W a b).map fun c => .bl !c

section
variable {X : Cx}
theorem opd_div : OpR X (binaryOp .FloorDiv) (rD (mdOf X) dDiv) := by
  intro pins s σ H x y v u Q I rx ry ⟨m, W, a, b, d, hw, ha, hb, hg, k⟩
  unfold dDiv at hg
  split at hg
  · split at hg
    · rename_i hl
      cases ha; cases hb; cases hg
      exact op_fdiv pins s σ H _ _ v u Q I rx ry ⟨_, _, rfl, rfl, hl, k _ _ (Same.refl H) (.int _)⟩
    · cases hg
  · cases hg
theorem opd_mod : OpR X (binaryOp .Mod) (rD (mdOf X) dMod) := by
  intro pins s σ H x y v u Q I rx ry ⟨m, W, a, b, d, hw, ha, hb, hg, k⟩
  unfold dMod at hg
  split at hg
  · split at hg
    · rename_i hl
      cases ha; cases hb; cases hg
      exact op_mod pins s σ H _ _ v u Q I rx ry ⟨_, _, rfl, rfl, hl, k _ _ (Same.refl H) (.int _)⟩
    · cases hg
  · cases hg
theorem opd_pow : OpR X (binaryOp .Pow) (rD (mdOf X) dPow) := by
  intro pins s σ H x y v u Q I rx ry ⟨m, W, a, b, d, hw, ha, hb, hg, k⟩
  unfold dPow at hg
  split at hg
  · split at hg
    · rename_i hl
      cases ha; cases hb; cases hg
      exact op_pow pins s σ H _ _ v u Q I rx ry ⟨_, _, rfl, rfl, hl, k _ _ (Same.refl H) (.int _)⟩
    · cases hg
  · cases hg
theorem some_map {α β : Type} {o : Option α} {f : α → β} {d : β} (h : o.map f = some d) : ∃ c, o = some c ∧ d = f c := by
  cases o with
  | none => cases h
  | some c => exact ⟨c, rfl, (Option.some.inj h).symm⟩
theorem dEq_inv {W : Wd} {a b : D} {c : Bool} (h : dEq W a b = some c) : ∃ p q, pyW W a = some p ∧ pyW W b = some q ∧ min p.depth q.depth ≤ 100 ∧ c = PyData.eqv p q := by
  unfold dEq at h
  split at h
  · rename_i p q e1 e2
    split at h
    · rename_i hd
      exact ⟨p, q, e1, e2, hd, (Option.some.inj h).symm⟩
    · cases h
  · cases h
theorem opd_eq (hu : X.A.units + 200 < cLine) : OpR X (compareOp .Eq) (rD (mdOf X) (oB dEq)) := by
  intro pins s σ H x y v u Q I rx ry ⟨m, W, a, b, d, hw, ha, hb, hg, k⟩
  obtain ⟨c, hc, rfl⟩ := some_map hg
  obtain ⟨p, q, e1, e2, hd, rfl⟩ := dEq_inv hc
  obtain ⟨d1, c1⟩ := ha.dpW hw e1
  obtain ⟨d2, c2⟩ := hb.dpW hw e2
  obtain ⟨as, r1⟩ := Dp.reads I p x v d1 rx
  obtain ⟨bs, r2⟩ := Dp.reads I q y u d2 ry
  exact SeqAt.compareEq_reads r1 r2 c1 c2 (by omega) ⟨.bl _, H, I, rfl, k _ _ (Same.refl H) (.bl _)⟩
theorem opd_ne (hu : X.A.units + 200 < cLine) : OpR X (compareOp .NotEq) (rD (mdOf X) (oNB dEq)) := by
  intro pins s σ H x y v u Q I rx ry ⟨m, W, a, b, d, hw, ha, hb, hg, k⟩
  obtain ⟨c, hc, rfl⟩ := some_map hg
  obtain ⟨p, q, e1, e2, hd, rfl⟩ := dEq_inv hc
  obtain ⟨d1, c1⟩ := ha.dpW hw e1
  obtain ⟨d2, c2⟩ := hb.dpW hw e2
  obtain ⟨as, r1⟩ := Dp.reads I p x v d1 rx
  obtain ⟨bs, r2⟩ := Dp.reads I q y u d2 ry
  exact SeqAt.compareNe_reads r1 r2 c1 c2 (by omega) ⟨.bl _, H, I, rfl, k _ _ (Same.refl H) (.bl _)⟩
theorem opd_lt : OpR X (compareOp .Lt) (rD (mdOf X) (oB dLt)) := by
  intro pins s σ H x y v u Q I rx ry ⟨m, W, a, b, d, hw, ha, hb, hg, k⟩
  obtain ⟨c, hc, rfl⟩ := some_map hg
  unfold dLt at hc
  split at hc
  · cases ha; cases hb; cases hc
    exact op_lt pins s σ H _ _ v u Q I rx ry ⟨_, _, rfl, rfl, k _ _ (Same.refl H) (.bl _)⟩
  · cases ha with
    | str x h1 => cases hb with
      | str y h2 =>
        cases hc
        exact op_lt_str pins s σ H _ _ v u Q I rx ry ⟨_, _, rfl, rfl, k _ _ (Same.refl H) (.bl _)⟩
  · cases hc
theorem opd_gt : OpR X (compareOp .Gt) (rD (mdOf X) (oB fun W a b => match a, b with
    | .int i, .int j => some (decide (j < i))
    | _, _ => none)) := by
  intro pins s σ H x y v u Q I rx ry ⟨m, W, a, b, d, hw, ha, hb, hg, k⟩
  obtain ⟨c, hc, rfl⟩ := some_map hg
  simp only at hc
  split at hc
  · cases ha; cases hb; cases hc
    exact op_gt pins s σ H _ _ v u Q I rx ry ⟨_, _, rfl, rfl, k _ _ (Same.refl H) (.bl _)⟩
  · cases hc
theorem opd_le : OpR X (compareOp .LtE) (rD (mdOf X) (oB dLe)) := by
  intro pins s σ H x y v u Q I rx ry ⟨m, W, a, b, d, hw, ha, hb, hg, k⟩
  obtain ⟨c, hc, rfl⟩ := some_map hg
  unfold dLe at hc
  split at hc
  · cases ha; cases hb; cases hc
    exact op_le pins s σ H _ _ v u Q I rx ry ⟨_, _, rfl, rfl, k _ _ (Same.refl H) (.bl _)⟩
  · cases hc
theorem opd_ge : OpR X (compareOp .GtE) (rD (mdOf X) (oB fun W a b => match a, b with
    | .int i, .int j => some (decide (j ≤ i))
    | _, _ => none)) := by
  intro pins s σ H x y v u Q I rx ry ⟨m, W, a, b, d, hw, ha, hb, hg, k⟩
  obtain ⟨c, hc, rfl⟩ := some_map hg
  simp only at hc
  split at hc
  · cases ha; cases hb; cases hc
    exact op_ge pins s σ H _ _ v u Q I rx ry ⟨_, _, rfl, rfl, k _ _ (Same.refl H) (.bl _)⟩
  · cases hc
theorem non_of {M : Md} {m : Ms} {H : Hp} {v : V} {d : D} (h : Is M m H v d) : decide (v = .non) = (match d with | .non => true | _ => false) := by
  cases h <;> rfl
theorem opd_is : OpR X (compareOp .Is) (rD (mdOf X) (oB dIs)) := by
  intro pins s σ H x y v u Q I rx ry ⟨m, W, a, b, d, hw, ha, hb, hg, k⟩
  obtain ⟨c, hc, rfl⟩ := some_map hg
  have e := non_of ha
  unfold dIs at hc
  split at hc
  · cases hb; cases hc
    exact op_isN pins s σ H _ _ v u Q I rx ry ⟨rfl, by rw [e]; exact k _ _ (Same.refl H) (.bl _)⟩
  · cases ha; cases hb; cases hc
    exact op_isBl pins s σ H _ _ v u Q I rx ry ⟨_, _, rfl, rfl, k _ _ (Same.refl H) (.bl _)⟩
  · rename_i q
    cases hb; cases hc
    refine op_isN pins s σ H _ _ v u Q I rx ry ⟨rfl, ?_⟩
    have e2 : decide (x = V.non) = false := by
      rw [e]
      split
      · exact (q rfl).elim
      · rfl
    rw [e2]
    exact k _ _ (Same.refl H) (.bl _)
  · cases hc
theorem opd_isnot : OpR X (compareOp .IsNot) (rD (mdOf X) (oNB dIs)) := by
  intro pins s σ H x y v u Q I rx ry ⟨m, W, a, b, d, hw, ha, hb, hg, k⟩
  obtain ⟨c, hc, rfl⟩ := some_map hg
  have e := non_of ha
  unfold dIs at hc
  split at hc
  · cases hb; cases hc
    exact op_notN pins s σ H _ _ v u Q I rx ry ⟨rfl, by rw [e]; exact k _ _ (Same.refl H) (.bl _)⟩
  · cases ha; cases hb; cases hc
    exact op_notBl pins s σ H _ _ v u Q I rx ry ⟨_, _, rfl, rfl, k _ _ (Same.refl H) (.bl _)⟩
  · rename_i q
    cases hb; cases hc
    refine op_notN pins s σ H _ _ v u Q I rx ry ⟨rfl, ?_⟩
    have e2 : decide (x = V.non) = false := by
      rw [e]
      split
      · exact (q rfl).elim
      · rfl
    rw [e2]
    exact k _ _ (Same.refl H) (.bl _)
  · cases hc
theorem dIn_inv {W : Wd} {a b : D} {c : Bool} (h : dIn W a b = some c) : (∃ x y, a = .str x ∧ b = .str y ∧ c = strIn x y) ∨
    ∃ ds ps p, asQ W b = some ds ∧ D.pys ds = some ps ∧ pyW W a = some p ∧ min (PyData.depthAll ps) p.depth ≤ 100 ∧ c = ps.any fun y => PyData.eqv y p := by
  unfold dIn at h
  split at h
  · split at h
    · exact .inl ⟨_, _, rfl, rfl, (Option.some.inj h).symm⟩
    · cases h
  · split at h
    · rename_i ds e
      split at h
      · rename_i ps p e1 e2
        split at h
        · rename_i hd
          exact .inr ⟨ds, ps, p, e, e1, e2, hd, (Option.some.inj h).symm⟩
        · cases h
      · cases h
    · cases h
/-- a sequence that is read, as data -/
theorem Is.seqDp {M : Md} {m : Ms} {H : Hp} {W : Wd} {v : V} {d : D} (h : Is M m H v d) (hw : WOk M m W H) {ds : List D} {ps : List PyData} (e : PL.asQ W d = some ds) (e1 : D.pys ds = some ps) :
    (Dp M.K H v (.list ps) ∨ Dp M.K H v (.tuple ps)) ∧ PyData.canLayAll0 ps = true := by
  obtain ⟨a, xs, rfl, hs, r⟩ := h.asQ hw e
  obtain ⟨h4, h5⟩ := r.dp e1
  rcases hs with hs | hs
  · exact ⟨.inl (.lst hs h4), h5⟩
  · exact ⟨.inr (.tup hs h4), h5⟩
theorem opd_in (hu : X.A.units + 200 < cLine) : OpR X (compareOp .In) (rD (mdOf X) (oB dIn)) := by
  intro pins s σ H x y v u Q I rx ry ⟨m, W, a, b, d, hw, ha, hb, hg, k⟩
  obtain ⟨c, hc, rfl⟩ := some_map hg
  rcases dIn_inv hc with ⟨x1, y1, rfl, rfl, rfl⟩ | ⟨ds, ps, p, e, e1, e2, hd, rfl⟩
  · cases ha; cases hb
    exact op_in_str pins s σ H _ _ v u Q I rx ry ⟨_, _, rfl, rfl, k _ _ (Same.refl H) (.bl _)⟩
  · obtain ⟨d1, c1⟩ := ha.dpW hw e2
    obtain ⟨as, r1⟩ := Dp.reads I p x v d1 rx
    obtain ⟨d2, c2⟩ := hb.seqDp hw e e1
    rcases d2 with d2 | d2
    · obtain ⟨bs, r2⟩ := Dp.reads I _ y u d2 ry
      exact SeqAt.in_list_reads r2 r1 c2 c1 (by omega) ⟨.bl _, H, I, rfl, k _ _ (Same.refl H) (.bl _)⟩
    · obtain ⟨bs, r2⟩ := Dp.reads I _ y u d2 ry
      exact SeqAt.in_tuple_reads r2 r1 c2 c1 (by omega) ⟨.bl _, H, I, rfl, k _ _ (Same.refl H) (.bl _)⟩
theorem opd_notin (hu : X.A.units + 200 < cLine) : OpR X (compareOp .NotIn) (rD (mdOf X) (oNB dIn)) := by
  intro pins s σ H x y v u Q I rx ry ⟨m, W, a, b, d, hw, ha, hb, hg, k⟩
  obtain ⟨c, hc, rfl⟩ := some_map hg
  rcases dIn_inv hc with ⟨x1, y1, rfl, rfl, rfl⟩ | ⟨ds, ps, p, e, e1, e2, hd, rfl⟩
  · cases ha; cases hb
    exact op_notin_str pins s σ H _ _ v u Q I rx ry ⟨_, _, rfl, rfl, k _ _ (Same.refl H) (.bl _)⟩
  · obtain ⟨d1, c1⟩ := ha.dpW hw e2
    obtain ⟨as, r1⟩ := Dp.reads I p x v d1 rx
    obtain ⟨d2, c2⟩ := hb.seqDp hw e e1
    rcases d2 with d2 | d2
    · obtain ⟨bs, r2⟩ := Dp.reads I _ y u d2 ry
      exact SeqAt.notIn_list_reads r2 r1 c2 c1 (by omega) ⟨.bl _, H, I, rfl, k _ _ (Same.refl H) (.bl _)⟩
    · obtain ⟨bs, r2⟩ := Dp.reads I _ y u d2 ry
      exact SeqAt.notIn_tuple_reads r2 r1 c2 c1 (by omega) ⟨.bl _, H, I, rfl, k _ _ (Same.refl H) (.bl _)⟩

/-! ### operations of one value -/
def uD (M : Md) (g : Wd → D → Option D) : V → Hp → VK → Prop := fun x H Q => ∃ m W a d, WOk M m W H ∧ Is M m H x a ∧ g W a = some d ∧ ∀ v H', Same H H' → Is M m H' v d → Q v H'
def dNeg (W : Wd) : D → Option D
  | .int i => some (.int (-i))
  | _ => none
theorem und_neg : UnR X (unaryOp .USub) (uD (mdOf X) dNeg) := by
  intro pins s σ H x v Q I rx ⟨m, W, a, d, hw, ha, hg, k⟩
  unfold dNeg at hg
  split at hg
  · cases ha; cases hg
    exact un_neg pins s σ H _ v Q I rx ⟨_, rfl, k _ _ (Same.refl H) (.int _)⟩
  · cases hg
/-- a value's truth -/
def truth (W : Wd) : D → Option Bool
  | .non => some false
  | .bl b => some b
  | .int i => some (i != 0)
  | .str x => if x.length ≤ 16777216 then some ((x.length : Int) != 0) else none
  | .dct kvs => some (!kvs.isEmpty)
  | .fn _ => none
  | d => (asQ W d).map fun xs => !xs.isEmpty
theorem empty_len {α β : Type} {xs : List α} {ys : List β} (h : xs.length = ys.length) : (!xs.isEmpty) = !ys.isEmpty := by
  cases xs <;> cases ys <;> first | rfl | cases h
theorem IsKvs.length {M : Md} {m : Ms} {H : Hp} : ∀ {vs : List (Key × V)} {ds : List (Key × D)}, IsKvs M m H vs ds → vs.length = ds.length
  | _, _, .nil => rfl
  | _, _, .cons _ b => by simp [IsKvs.length b]
theorem Is.tru {M : Md} {m : Ms} {H : Hp} {W : Wd} {v : V} {d : D} (h : Is M m H v d) (hw : WOk M m W H) {c : Bool} (e : truth W d = some c) : TruV M.K v H c := by
  cases h with
  | non => cases e; rfl
  | bl b => cases e; rfl
  | int i => cases e; rfl
  | str x h1 =>
    have e' : (if x.length ≤ 16777216 then some ((x.length : Int) != 0) else none) = some c := e
    split at e'
    · rename_i hl
      cases e'
      exact ⟨by rw [sizeLine_eq]; exact hl, rfl⟩
    · cases e'
  | dct n e1 r =>
    cases e
    exact .inr (.inr ⟨_, e1, empty_len r.length.symm⟩)
  | tup h1 r =>
    cases e
    exact .inr (.inl ⟨_, h1.seq, empty_len r.length.symm⟩)
  | lst n h1 r =>
    cases e
    exact .inl ⟨_, SqL.of h1, empty_len r.length.symm⟩
  | ref h1 =>
    obtain ⟨ds, e1, rfl⟩ := some_map e
    obtain ⟨a', vs, h2, h3, h4⟩ := hw.at_ _ ds e1
    rw [h1] at h2; cases h2
    exact .inl ⟨_, SqL.of h3, empty_len h4.length.symm⟩
  | fn h => cases e
  | scr h => cases e
end
end PL

/-! PL4: built-in functions and types by data. -/
namespace PL
open PySem PySem.Spec PyProof.Rows L2

def cD (M : Md) (g : Wd → List D → Option D) : List V → Hp → VK → Prop := fun xs H Q => ∃ m W ds d, WOk M m W H ∧ IsAll M m H xs ds ∧ g W ds = some d ∧ ∀ v H', Same H H' → Is M m H' v d → Q v H'

def bls : List D → Option (List Bool)
  | [] => some []
  | .bl b :: r => (bls r).map (b :: ·)
  | _ => none
def nums : List D → Option (List Int)
  | [] => some []
  | .int i :: r => (nums r).map (i :: ·)
  | _ => none
def pairsK : List D → Option (List (Key × D))
  | [] => some []
  | .tup [a, b] :: r => match asKey a, pairsK r with
    | some k, some kvs => some ((k, b) :: kvs)
    | _, _ => none
  | _ => none
def keyMerge (kvs more : List (Key × D)) : List (Key × D) := more.foldl (fun acc kv => keyPut acc kv.1 kv.2) kvs

def dLen (W : Wd) : List D → Option D
  | [.str x] => if x.length ≤ 16777216 then some (.int x.length) else none
  | [d] => (asQ W d).map fun xs => .int xs.length
  | _ => none
def dAll (W : Wd) : List D → Option D
  | [d] => match asL W d with
    | some xs => (bls xs).map fun bs => .bl (bs.all id)
    | none => none
  | _ => none
def dAny (W : Wd) : List D → Option D
  | [d] => match asL W d with
    | some xs => (bls xs).map fun bs => .bl (bs.any id)
    | none => none
  | _ => none
def dSum (W : Wd) : List D → Option D
  | [d] => match asL W d with
    | some xs => (nums xs).map fun ns => .int ns.sum
    | none => none
  | _ => none
def dList (W : Wd) : List D → Option D
  | [.scr ns] => some (.lst (ns.map .int))
  | [d] => (asQ W d).map .lst
  | _ => none
def dTuple (W : Wd) : List D → Option D
  | [d] => (asQ W d).map .tup
  | _ => none
def dAbs (W : Wd) : List D → Option D
  | [.int i] => some (.int (if i < 0 then -i else i))
  | _ => none
def dInt (W : Wd) : List D → Option D
  | [.int i] => some (.int i)
  | [.bl b] => some (.int (if b then 1 else 0))
  | _ => none
def dRepr (W : Wd) : List D → Option D
  | [.bl b] => some (.str (if b then "True" else "False"))
  | _ => none
def dDict (W : Wd) : List D → Option D
  | [d] => match asL W d with
    | some xs => (pairsK xs).map fun kvs => .dct (keyMerge [] kvs)
    | none => none
  | _ => none

section
variable {M : Md} {m : Ms} {H : Hp}
theorem IsAll.bls : ∀ {ds : List D} {bs : List Bool} {vs : List V}, IsAll M m H vs ds → bls ds = some bs → vs = bs.map V.bl
  | [], _, _, h, e => by cases h; cases e; rfl
  | d :: ds, bs, _, h, e => by
    cases h with
    | cons a b =>
      cases d with
      | bl c =>
        obtain ⟨r, e1, rfl⟩ := some_map (show (PL.bls ds).map (c :: ·) = some bs from e)
        cases a
        rw [IsAll.bls b e1]
        rfl
      | _ => cases e
theorem IsAll.intsOf : ∀ {ds : List D} {bs : List Int} {vs : List V}, IsAll M m H vs ds → nums ds = some bs → vs = bs.map V.int
  | [], _, _, h, e => by cases h; cases e; rfl
  | d :: ds, bs, _, h, e => by
    cases h with
    | cons a b =>
      cases d with
      | int c =>
        obtain ⟨r, e1, rfl⟩ := some_map (show (PL.nums ds).map (c :: ·) = some bs from e)
        cases a
        rw [IsAll.intsOf b e1]
        rfl
      | _ => cases e
theorem Is.key {v : V} {d : D} {k : Key} (h : Is M m H v d) (e : asKey d = some k) : v = kV k := by
  cases h <;> first | cases e; rfl | cases e
theorem Is.unkey {k : Key} {v : V} {d : D} (h : Is M m H v d) (e : asKey d = some k) : v = kV k := h.key e
theorem IsAll.pairsK : ∀ {ds : List D} {kvs : List (Key × D)} {vs : List V}, IsAll M m H vs ds → pairsK ds = some kvs →
    ∃ (ps : List Addr) (ks : List (Key × V)), vs = ps.map V.ref ∧ Paired (fun p kv => SqT M.K H p [kV kv.1, kv.2]) ps ks ∧ IsKvs M m H ks kvs
  | [], _, _, h, e => by cases h; cases e; exact ⟨[], [], rfl, .nil, .nil⟩
  | d :: ds, kvs, _, h, e => by
    cases h with
    | cons a b =>
      unfold PL.pairsK at e
      split at e
      · rename_i q; cases q
      · rename_i q
        cases q
        split at e
        · rename_i k kr e1 e2
          cases e
          obtain ⟨ps, ks, rfl, hp, hk⟩ := IsAll.pairsK b e2
          obtain ⟨p, xs, rfl, ht, r⟩ := a.asT
          cases r with
          | cons r1 r2 => cases r2 with
            | cons r3 r4 =>
              cases r4
              rw [r1.key e1] at ht
              exact ⟨p :: ps, (k, _) :: ks, rfl, .cons ht.seq hp, .cons r3 hk⟩
        · cases e
      · cases e
theorem IsKvs.any {k : Key} : ∀ {vs : List (Key × V)} {ds : List (Key × D)}, IsKvs M m H vs ds → (vs.any fun kv => decide (kv.1 = k)) = ds.any fun kv => decide (kv.1 = k)
  | _, _, .nil => rfl
  | _, _, .cons _ b => by simp only [List.any_cons, IsKvs.any b]
theorem IsKvs.repl {k : Key} {v : V} {d : D} (h : Is M m H v d) : ∀ {vs : List (Key × V)} {ds : List (Key × D)}, IsKvs M m H vs ds → IsKvs M m H (vs.map fun kv => if kv.1 = k then (kv.1, v) else kv) (ds.map fun kv => if kv.1 = k then (kv.1, d) else kv)
  | _, _, .nil => .nil
  | _, _, .cons (k := k') a b => by
    simp only [List.map_cons]
    by_cases e : k' = k
    · simp only [if_pos e]
      exact .cons h (IsKvs.repl h b)
    · simp only [if_neg e]
      exact .cons a (IsKvs.repl h b)
theorem IsKvs.app {k : Key} {v : V} {d : D} (h : Is M m H v d) : ∀ {vs : List (Key × V)} {ds : List (Key × D)}, IsKvs M m H vs ds → IsKvs M m H (vs ++ [(k, v)]) (ds ++ [(k, d)])
  | _, _, .nil => .cons h .nil
  | _, _, .cons a b => .cons a (IsKvs.app h b)
theorem IsKvs.put {k : Key} {v : V} {d : D} (h : Is M m H v d) {vs : List (Key × V)} {ds : List (Key × D)} (r : IsKvs M m H vs ds) : IsKvs M m H (putK vs k v) (keyPut ds k d) := by
  unfold putK keyPut
  rw [r.any]
  split
  · exact r.repl h
  · exact r.app h
theorem IsKvs.merge : ∀ {more : List (Key × V)} {moreD : List (Key × D)} {vs : List (Key × V)} {ds : List (Key × D)}, IsKvs M m H more moreD → IsKvs M m H vs ds → IsKvs M m H (mergeK vs more) (keyMerge ds moreD)
  | _, _, _, _, .nil, r => r
  | _, _, _, _, .cons (k := k) a b, r => by
    have h := IsKvs.merge b (r.put (k := k) a)
    exact h
theorem IsKvs.get {k : Key} : ∀ {vs : List (Key × V)} {ds : List (Key × D)}, IsKvs M m H vs ds → (∃ v d, valV vs k = some v ∧ keyGet ds k = some d ∧ Is M m H v d) ∨ (valV vs k = none ∧ keyGet ds k = none)
  | _, _, .nil => .inr ⟨rfl, rfl⟩
  | _, _, .cons (k := k') a b => by
    by_cases e : k' = k
    · left
      refine ⟨_, _, ?_, ?_, a⟩
      · unfold valV; simp [List.find?_cons, e]
      · unfold keyGet; simp [List.find?_cons, e]
    · have h1 : ∀ {α : Type} (x : α) (l : List (Key × α)), List.find? (fun kv => decide (kv.1 = k)) ((k', x) :: l) = List.find? (fun kv => decide (kv.1 = k)) l := fun x l => by simp [List.find?_cons, e]
      unfold valV keyGet
      rw [h1, h1]
      exact IsKvs.get (k := k) b
end

section
variable {X : Cx}
theorem isAll1 {M : Md} {m : Ms} {H : Hp} {xs : List V} {d : D} (h : IsAll M m H xs [d]) : ∃ v, xs = [v] ∧ Is M m H v d := by
  cases h with
  | cons a b => cases b; exact ⟨_, rfl, a⟩
theorem cd_len : CallR X (.builtin "len") (cD (mdOf X) dLen) := by
  intro pins s σ H xs us Q I r ⟨m, W, ds, d, hw, ha, hg, k⟩
  unfold dLen at hg
  split at hg
  · split at hg
    · rename_i hl
      cases hg
      obtain ⟨v, rfl, h⟩ := isAll1 ha
      cases h
      exact call_len pins s σ H _ us Q I r ⟨_, _, rfl, ⟨by rw [sizeLine_eq]; exact hl, rfl⟩, k _ _ (Same.refl H) (.int _)⟩
    · cases hg
  · obtain ⟨ds, e, rfl⟩ := some_map hg
    obtain ⟨v, rfl, h⟩ := isAll1 ha
    obtain ⟨a, ys, rfl, hs, r1⟩ := h.asQ hw e
    refine call_len pins s σ H _ us Q I r ⟨_, ys.length, rfl, hs.imp (fun z => ⟨_, z, rfl⟩) fun z => ⟨_, z, rfl⟩, ?_⟩
    rw [r1.length]
    exact k _ _ (Same.refl H) (.int _)
  · cases hg
theorem cd_all (hc : X.calm = true) : CallR X (.builtin "all") (cD (mdOf X) dAll) := by
  intro pins s σ H xs us Q I r ⟨m, W, ds, d, hw, ha, hg, k⟩
  unfold dAll at hg
  split at hg
  · split at hg
    · rename_i ys e
      obtain ⟨bs, e1, rfl⟩ := some_map hg
      obtain ⟨v, rfl, h⟩ := isAll1 ha
      obtain ⟨a, vs, rfl, hs, r1⟩ := h.asL hw e
      rw [r1.bls e1] at hs
      exact cr_all hc pins s σ H _ us Q I r ⟨_, bs, rfl, SqL.of hs, k _ _ (Same.refl H) (.bl _)⟩
    · cases hg
  · cases hg
theorem cd_any (hc : X.calm = true) : CallR X (.builtin "any") (cD (mdOf X) dAny) := by
  intro pins s σ H xs us Q I r ⟨m, W, ds, d, hw, ha, hg, k⟩
  unfold dAny at hg
  split at hg
  · split at hg
    · rename_i ys e
      obtain ⟨bs, e1, rfl⟩ := some_map hg
      obtain ⟨v, rfl, h⟩ := isAll1 ha
      obtain ⟨a, vs, rfl, hs, r1⟩ := h.asL hw e
      rw [r1.bls e1] at hs
      exact cr_any hc pins s σ H _ us Q I r ⟨_, bs, rfl, SqL.of hs, k _ _ (Same.refl H) (.bl _)⟩
    · cases hg
  · cases hg
theorem cd_sum (hc : X.calm = true) : CallR X (.builtin "sum") (cD (mdOf X) dSum) := by
  intro pins s σ H xs us Q I r ⟨m, W, ds, d, hw, ha, hg, k⟩
  unfold dSum at hg
  split at hg
  · split at hg
    · rename_i ys e
      obtain ⟨bs, e1, rfl⟩ := some_map hg
      obtain ⟨v, rfl, h⟩ := isAll1 ha
      obtain ⟨a, vs, rfl, hs, r1⟩ := h.asL hw e
      rw [r1.intsOf e1] at hs
      exact cr_sum hc pins s σ H _ us Q I r ⟨_, bs, rfl, SqL.of hs, k _ _ (Same.refl H) (.int _)⟩
    · cases hg
  · cases hg
theorem cd_list : CallR X (.type "list") (cD (mdOf X) dList) := by
  intro pins s σ H xs us Q I r ⟨m, W, ds, d, hw, ha, hg, k⟩
  unfold dList at hg
  split at hg
  · cases hg
    obtain ⟨v, rfl, h⟩ := isAll1 ha
    cases h with
    | scr h => exact call_list_of pins s σ H _ us Q I r ⟨_, _, rfl, .inl h.seq, fun l hl => k _ _ (same_upd hl) (hw.newL hl (IsAll.ints _))⟩
  · obtain ⟨ds, e, rfl⟩ := some_map hg
    obtain ⟨v, rfl, h⟩ := isAll1 ha
    obtain ⟨a, ys, rfl, hs, r1⟩ := h.asQ hw e
    exact call_list_of pins s σ H _ us Q I r ⟨_, _, rfl, hs, fun l hl => k _ _ (same_upd hl) (hw.newL hl r1)⟩
  · cases hg
theorem cd_tuple : CallR X (.type "tuple") (cD (mdOf X) dTuple) := by
  intro pins s σ H xs us Q I r ⟨m, W, ds, d, hw, ha, hg, k⟩
  unfold dTuple at hg
  split at hg
  · obtain ⟨ds, e, rfl⟩ := some_map hg
    obtain ⟨v, rfl, h⟩ := isAll1 ha
    cases h with
    | tup h1 r1 =>
      cases e
      exact call_tuple_of pins s σ H _ us Q I r ⟨_, _, rfl, .inr ⟨h1.seq, k _ _ (Same.refl H) (.tup h1 r1)⟩⟩
    | lst n h1 r1 =>
      cases e
      exact call_tuple_of pins s σ H _ us Q I r ⟨_, _, rfl, .inl ⟨SqL.of h1, fun l hl => k _ _ (same_upd hl) (hw.newT hl r1)⟩⟩
    | ref h1 =>
      obtain ⟨a', vs, h2, h3, h4⟩ := hw.at_ _ ds e
      rw [h1] at h2; cases h2
      exact call_tuple_of pins s σ H _ us Q I r ⟨_, _, rfl, .inl ⟨SqL.of h3, fun l hl => k _ _ (same_upd hl) (hw.newT hl h4)⟩⟩
    | _ => cases e
  · cases hg
theorem cd_abs : CallR X (.builtin "abs") (cD (mdOf X) dAbs) := by
  intro pins s σ H xs us Q I r ⟨m, W, ds, d, hw, ha, hg, k⟩
  unfold dAbs at hg
  split at hg
  · cases hg
    obtain ⟨v, rfl, h⟩ := isAll1 ha
    cases h
    exact call_abs pins s σ H _ us Q I r ⟨_, rfl, k _ _ (Same.refl H) (.int _)⟩
  · cases hg
theorem cd_int : CallR X (.type "int") (cD (mdOf X) dInt) := by
  intro pins s σ H xs us Q I r ⟨m, W, ds, d, hw, ha, hg, k⟩
  unfold dInt at hg
  split at hg
  · cases hg
    obtain ⟨v, rfl, h⟩ := isAll1 ha
    cases h
    exact call_int1 pins s σ H _ us Q I r (.inl ⟨_, rfl, k _ _ (Same.refl H) (.int _)⟩)
  · cases hg
    obtain ⟨v, rfl, h⟩ := isAll1 ha
    cases h
    exact call_int1 pins s σ H _ us Q I r (.inr ⟨_, rfl, k _ _ (Same.refl H) (.int _)⟩)
  · cases hg
theorem cd_repr : CallR X (.builtin "repr") (cD (mdOf X) dRepr) := by
  intro pins s σ H xs us Q I r ⟨m, W, ds, d, hw, ha, hg, k⟩
  unfold dRepr at hg
  split at hg
  · rename_i b
    cases hg
    obtain ⟨v, rfl, h⟩ := isAll1 ha
    cases h
    obtain ⟨u, rfl, ru⟩ := vals1 r
    cases ru
    have ok : PyData.strOk (if b then ("True" : Str) else ("False" : Str)) = true := by cases b <;> decide +kernel
    exact PySem.P.repr_of_bool ⟨.str _, H, I.tok _, ⟨_, rfl⟩, k _ _ (Same.refl H) (.str _ ok)⟩
  · cases hg
theorem cd_dict (hc : X.calm = true) : CallR X (.type "dict") (cD (mdOf X) dDict) := by
  intro pins s σ H xs us Q I r ⟨m, W, ds, d, hw, ha, hg, k⟩
  unfold dDict at hg
  split at hg
  · split at hg
    · rename_i ys e
      obtain ⟨kvs, e1, rfl⟩ := some_map hg
      obtain ⟨v, rfl, h⟩ := isAll1 ha
      obtain ⟨a, vs, rfl, hs, r1⟩ := h.asL hw e
      obtain ⟨ps, ks, rfl, hp, hk⟩ := r1.pairsK e1
      exact call_dictP hc pins s σ H _ us Q I r ⟨_, ps, ks, rfl, SqL.of hs, hp, fun p hq => k _ _ (same_upd hq) (.dct (hw.notIn hq) upd_same ((hk.merge .nil).mono (Step.upd hq)))⟩
    · cases hg
  · cases hg

/-! ### isinstance -/
def tyName (W : Wd) : D → Option String
  | .non => some "NoneType"
  | .bl _ => some "bool"
  | .int _ => some "int"
  | .str _ => some "str"
  | .tup _ => some "tuple"
  | .lst _ => some "list"
  | .dct _ => some "dict"
  | .ref _ => some "list"
  | _ => none
/-- the classes asked for: int, bool, str, tuple, list, dict -/
def isiB (a T : String) : Bool := a == T || (a == "bool" && T == "int")
theorem Is.tyx {M : Md} {m : Ms} {H : Hp} {W : Wd} {v : V} {d : D} (h : Is M m H v d) (hw : WOk M m W H) {T : String} (e : tyName W d = some T) : TyX M.K H v (.type T) := by
  cases h with
  | non => cases e; exact .base .non
  | bl b => cases e; exact .base (.bl b)
  | int i => cases e; exact .base (.int i)
  | str x _ => cases e; exact .base (.str x)
  | tup h1 _ =>
    cases e
    rcases h1 with ⟨_, h1 | ⟨o, h1⟩⟩ | ⟨o, its, n, h1, h2, _⟩
    · exact .base (.tup h1)
    · exact .fTuple h1
    · exact .kTuple h1 h2
  | lst _ h1 _ => cases e; exact .base (.lst h1)
  | dct _ h1 _ => cases e; exact .base (.dK h1)
  | ref h1 =>
    cases e
    rename_i a i
    have hl : i < W.length := by rw [← hw.len]; exact (List.getElem?_eq_some_iff.mp h1).1
    obtain ⟨a', vs, h2, h3, _⟩ := hw.at_ i _ (List.getElem?_eq_getElem hl)
    rw [h1] at h2; cases h2
    exact .base (.lst h3)
  | fn _ => cases e
  | scr _ => cases e
def isiTs : List String := ["int", "bool", "str", "tuple", "list", "dict"]
theorem kit_all : ∀ a ∈ ["NoneType", "bool", "int", "str", "tuple", "list", "dict"], ∀ T ∈ isiTs, kitB a T = some (isiB a T) := by decide +kernel
theorem tyName_mem {W : Wd} {d : D} {a : String} (e : tyName W d = some a) : a ∈ ["NoneType", "bool", "int", "str", "tuple", "list", "dict"] := by
  cases d <;> first | (cases e; decide) | cases e
def rIsiD (M : Md) : List V → Hp → VK → Prop := fun xs H Q => ∃ m W v d a T, xs = [v, .ty T] ∧ WOk M m W H ∧ Is M m H v d ∧ tyName W d = some a ∧ T ∈ isiTs ∧ Q (.bl (isiB a T)) H
theorem cd_isi : CallR X (.builtin "isinstance") (rIsiD (mdOf X)) := by
  intro pins s σ H xs us Q I r ⟨m, W, v, d, a, T, e, hw, h, ea, hT, q⟩
  subst e
  exact call_isi pins s σ H _ us Q I r ⟨v, .ty T, _, _, _, rfl, .ty T, h.tyx hw ea, kit_ty (kit_all a (tyName_mem ea) T hT), q⟩
end
end PL

/-! PL5: the small language: codes, and what they give. -/
namespace PL
open PySem PySem.Spec PyProof.Rows L2

/-- an own error: its class's name, its field -/
structure Ex where
  cls : Str
  fld : Option (Str × D)
inductive R (α : Type) where
  | ok (a : α) (W : Wd)
  | err (e : Ex) (W : Wd)
  | bad
abbrev EnvD := List (Option D)
def R.bnd {α β : Type} : R α → (α → Wd → R β) → R β
  | .ok a W, f => f a W
  | .err e W, _ => .err e W
  | .bad, _ => .bad
/-- where nothing may be raised -/
def R.bndX {α β : Type} : R α → (α → Wd → R β) → R β
  | .ok a W, f => f a W
  | _, _ => .bad
def ofO {α : Type} (o : Option α) (W : Wd) : R α := match o with
  | some a => .ok a W
  | none => .bad

inductive T where
  | nm (i : Nat)
  | tp (ts : List T)
mutual
inductive C where
  | var (i : Nat)
  | cst (d : D)
  | glo (x : Str) (d : D)
  | tup (es : Cs)
  | lst (es : Cs)
  | bin (o : Operator) (a b : C)
  | neg (a : C)
  | not (a : C)
  | and (es : Cs)
  | or (es : Cs)
  | cmp (o : CmpOp) (a b : C)
  | cmp2 (o p : CmpOp) (a b c : C)
  | ite (t a b : C)
  | call (f : Str) (es : Cs)
  | bi (f : Str) (es : Cs)
  | isi (a : C) (T : String)
  | get (o k d : C)
  | ix (a i : C)
  | dx (a i : C)
  | sl (a : C) (lo hi : Co)
  | lc (own : List (Str × Nat)) (t : T) (w : I) (ifs : Cs) (e : C)
  | lzip (a b : C)
  | new (es : Cs)
  | sset (a : C)
inductive Cs where
  | nil
  | cons (c : C) (cs : Cs)
inductive Co where
  | no
  | yes (c : C)
inductive I where
  | seq (c : C)
  | rng1 (c : C)
  | rng2 (a b : C)
  | enum (c : C)
  | zip (a b : C)
end
mutual
inductive S where
  | asg (t : T) (c : C)
  | put (a i v : C)
  | app (i : Nat) (c : C)
  | ex (c : C)
  | ret (c : C)
  | ret0
  | ife (c : C) (a b : Ss)
  | for_ (t : T) (w : I) (b : Ss)
  | whl (c : C) (b : Ss)
  | pass
  | no
inductive Ss where
  | nil
  | cons (s : S) (r : Ss)
end

/-! ### targets -/
mutual
def T.put (W : Wd) : T → D → EnvD → Option EnvD
  | .nm i, d, ρ => if i < ρ.length then some (ρ.set i (some d)) else none
  | .tp ts, d, ρ => match d with
    | .tup xs => if xs.length = ts.length then T.puts W ts xs ρ else none
    | _ => none
def T.puts (W : Wd) : List T → List D → EnvD → Option EnvD
  | t :: ts, d :: ds, ρ => match T.put W t d ρ with
    | some ρ' => T.puts W ts ds ρ'
    | none => none
  | _, _, ρ => some ρ
end
/-- own names forgotten -/
def wipeD (ρ : EnvD) : List Nat → EnvD
  | [] => ρ
  | v :: vs => (wipeD ρ vs).set v none

/-! ### operators by their signs -/
def dBin : Operator → Wd → D → D → Option D
  | .Add => dAdd
  | .Sub => dSub
  | .Mult => dMul
  | .FloorDiv => dDiv
  | .Mod => dMod
  | .Pow => dPow
  | _ => fun _ _ _ => none
def dGt (W : Wd) : D → D → Option Bool
  | .int i, .int j => some (decide (j < i))
  | _, _ => none
def dGe (W : Wd) : D → D → Option Bool
  | .int i, .int j => some (decide (j ≤ i))
  | _, _ => none
def dCmp : CmpOp → Wd → D → D → Option D
  | .Eq => oB dEq
  | .NotEq => oNB dEq
  | .Lt => oB dLt
  | .LtE => oB dLe
  | .Gt => oB dGt
  | .GtE => oB dGe
  | .Is => oB dIs
  | .IsNot => oNB dIs
  | .In => oB dIn
  | .NotIn => oNB dIn
def biOf (f : Str) : Option (Wd → List D → Option D) :=
  if f = "len" then some dLen else if f = "all" then some dAll else if f = "any" then some dAny else if f = "sum" then some dSum
  else if f = "list" then some dList else if f = "tuple" then some dTuple else if f = "abs" then some dAbs else if f = "int" then some dInt
  else if f = "repr" then some dRepr else if f = "dict" then some dDict else none
def dIx (W : Wd) (a i : D) : Option D := match i with
  | .int j => match a with
    | .str x => if x.length ≤ 16777216 then (atI x.cps.toList j).map fun c => .str ⟨#[c]⟩ else none
    | a => (asQ W a).bind fun xs => atI xs j
  | _ => none
/-- d[k], the key there -/
def dDx (a i : D) : Option D := match a with
  | .dct kvs => (asKey i).bind fun k => keyGet kvs k
  | _ => none
def cutD {α : Type} (xs : List α) (lo hi : Option Int) : List α := (xs.drop (HT.sIx xs.length 0 lo)).take (HT.sIx xs.length xs.length hi - HT.sIx xs.length 0 lo)
def dSl (W : Wd) (a : D) (lo hi : Option Int) : Option D := match a with
  | .str x => if x.length ≤ 16777216 then some (.str ⟨(cutD x.cps.toList lo hi).toArray⟩) else none
  | .tup xs => some (.tup (cutD xs lo hi))
  | a => (asL W a).map fun xs => .lst (cutD xs lo hi)
def dGet (kvs : List (Key × D)) (k d : D) : Option D := (asKey k).map fun k => (keyGet kvs k).getD d
def dRange (lo hi : Int) : Option (List D) := if -(2 ^ 62) ≤ lo ∧ lo < 2 ^ 62 ∧ -(2 ^ 62) ≤ hi ∧ hi < 2 ^ 62 then some ((List.range (hi - lo).toNat).map fun (i : Nat) => D.int (lo + (i : Int))) else none
def pairD (a b : D) : D := .tup [a, b]
def dEnum (W : Wd) (a : D) : Option (List D) := (asL W a).map fun xs => (List.range xs.length).zipWith (fun i x => pairD (.int (i : Nat)) x) xs
def dZip (W : Wd) : D → D → Option (List D)
  | .tup xs, .tup ys => some (xs.zipWith pairD ys)
  | a, b => match asL W a, asL W b with
    | some xs, some ys => some (xs.zipWith pairD ys)
    | _, _ => none

/-- the rows, ascending, each once -/
def insL (x : List Int) : List (List Int) → List (List Int)
  | [] => [x]
  | y :: ys => if x = y then y :: ys else if x < y then x :: y :: ys else y :: insL x ys
def sortL : List (List Int) → List (List Int)
  | [] => []
  | x :: xs => insL x (sortL xs)
def tupsI : List D → Option (List (List Int))
  | [] => some []
  | .tup xs :: r => match nums xs, tupsI r with
    | some k, some ks => some (k :: ks)
    | _, _ => none
  | _ => none
def tupD (k : List Int) : D := .tup (k.map .int)
/-- sorted(set(a list of rows)) -/
def dSset : D → Option D
  | .lst ds => match tupsI ds with
    | some ks => if ks.length < 64 ∧ ((ks.all fun k => !k.isEmpty) = true ∨ (ks.all fun k => k.isEmpty) = true) then some (.lst ((sortL ks).map tupD)) else none
    | none => none
  | _ => none

/-! ### loops -/
def lcLoop (asg : D → Wd → Option EnvD) (tst : EnvD → Wd → R Bool) (elt : EnvD → Wd → R D) : List D → Wd → R (List D)
  | [], W => .ok [] W
  | d :: ds, W => match asg d W with
    | none => .bad
    | some ρ => (tst ρ W).bndX fun b W1 => if b = true then (elt ρ W1).bndX fun y W2 => (lcLoop asg tst elt ds W2).bndX fun ys W3 => .ok (y :: ys) W3 else lcLoop asg tst elt ds W1
inductive SR where
  | nx (ρ : EnvD) (W : Wd)
  | rt (d : D) (W : Wd)
  | err (e : Ex) (W : Wd)
  | bad
def SR.thn : SR → (EnvD → Wd → SR) → SR
  | .nx ρ W, f => f ρ W
  | r, _ => r
def R.thnS {α : Type} : R α → (α → Wd → SR) → SR
  | .ok a W, f => f a W
  | .err e W, _ => .err e W
  | .bad, _ => .bad
def forLoop (asg : D → EnvD → Wd → Option EnvD) (body : EnvD → Wd → SR) : List D → EnvD → Wd → SR
  | [], ρ, W => .nx ρ W
  | d :: ds, ρ, W => match asg d ρ W with
    | none => .bad
    | some ρ1 => (body ρ1 W).thn fun ρ2 W2 => forLoop asg body ds ρ2 W2
def whlLoop (c : EnvD → Wd → R Bool) (body : EnvD → Wd → SR) : Nat → EnvD → Wd → SR
  | 0, _, _ => .bad
  | n + 1, ρ, W => (c ρ W).thnS fun b W1 => if b = true then (body ρ W1).thn fun ρ2 W2 => whlLoop c body n ρ2 W2 else .nx ρ W1

/-! ### what codes give; Δ: what the defs give -/
abbrev Tab := Str → List D → Wd → R D
def truR (r : R D) : R Bool := r.bnd fun d W => ofO (truth W d) W
section
variable (Δ : Tab)
mutual
def run : C → EnvD → Wd → R D
  | .var i, ρ, W => match ρ[i]? with
    | some (some d) => .ok d W
    | _ => .bad
  | .cst d, _, W => .ok d W
  | .glo _ d, _, W => .ok d W
  | .tup es, ρ, W => (runs es ρ W).bnd fun ds W => if ds.length ≤ 16777216 then .ok (.tup ds) W else .bad
  | .lst es, ρ, W => (runs es ρ W).bnd fun ds W => if ds.length ≤ 16777216 then .ok (.lst ds) W else .bad
  | .bin o a b, ρ, W => (run a ρ W).bnd fun x W => (run b ρ W).bnd fun y W => ofO (dBin o W x y) W
  | .neg a, ρ, W => (run a ρ W).bnd fun x W => ofO (dNeg W x) W
  | .not a, ρ, W => (run a ρ W).bnd fun x W => (ofO (truth W x) W).bnd fun b W => .ok (.bl !b) W
  | .and es, ρ, W => runAnd es ρ W
  | .or es, ρ, W => runOr es ρ W
  | .cmp o a b, ρ, W => (run a ρ W).bnd fun x W => (run b ρ W).bnd fun y W => ofO (dCmp o W x y) W
  | .cmp2 o p a b c, ρ, W => (run a ρ W).bnd fun x W => (run b ρ W).bnd fun y W => (ofO (dCmp o W x y) W).bnd fun z W => match z with
    | .bl true => (run c ρ W).bnd fun w W => ofO (dCmp p W y w) W
    | .bl false => .ok (.bl false) W
    | _ => .bad
  | .ite t a b, ρ, W => (truR (run t ρ W)).bnd fun k W => if k = true then run a ρ W else run b ρ W
  | .call f es, ρ, W => (runs es ρ W).bnd fun ds W => Δ f ds W
  | .bi f es, ρ, W => (runs es ρ W).bnd fun ds W => match biOf f with
    | some g => ofO (g W ds) W
    | none => .bad
  | .isi a T, ρ, W => (run a ρ W).bnd fun x W => match tyName W x with
    | some A => .ok (.bl (isiB A T)) W
    | none => .bad
  | .get o k d, ρ, W => (run o ρ W).bnd fun x W => match x with
    | .dct kvs => (run k ρ W).bnd fun y W => (run d ρ W).bnd fun z W => ofO (dGet kvs y z) W
    | _ => .bad
  | .ix a i, ρ, W => (run a ρ W).bnd fun x W => (run i ρ W).bnd fun y W => ofO (dIx W x y) W
  | .dx a i, ρ, W => (run a ρ W).bnd fun x W => (run i ρ W).bnd fun y W => ofO (dDx x y) W
  | .sl a lo hi, ρ, W => (run a ρ W).bnd fun x W => (runo lo ρ W).bnd fun l W => (runo hi ρ W).bnd fun h W => ofO (dSl W x l h) W
  | .lc own t w ifs e, ρ, W => (runI w ρ W).bnd fun ds W => (lcLoop (fun d W => t.put W d (wipeD ρ (own.map (·.2)))) (runT ifs) (run e) ds W).bndX fun ys W => if ys.length ≤ 16777216 then .ok (.lst ys) W else .bad
  | .lzip a b, ρ, W => (run a ρ W).bnd fun x W => (run b ρ W).bnd fun y W => (ofO (dZip W x y) W).bnd fun ds W => if ds.length ≤ 16777216 then .ok (.lst ds) W else .bad
  | .sset a, ρ, W => (run a ρ W).bnd fun x W => ofO (dSset x) W
  | .new es, ρ, W => (runs es ρ W).bnd fun ds W => if ds.length ≤ 16777216 then .ok (.ref W.length) (W ++ [ds]) else .bad
def runs : Cs → EnvD → Wd → R (List D)
  | .nil, _, W => .ok [] W
  | .cons c cs, ρ, W => (run c ρ W).bnd fun x W => (runs cs ρ W).bnd fun xs W => .ok (x :: xs) W
def runAnd : Cs → EnvD → Wd → R D
  | .nil, _, _ => .bad
  | .cons a .nil, ρ, W => run a ρ W
  | .cons a (.cons b cs), ρ, W => (run a ρ W).bnd fun x W => (ofO (truth W x) W).bnd fun t W => if t = true then runAnd (.cons b cs) ρ W else .ok x W
def runOr : Cs → EnvD → Wd → R D
  | .nil, _, _ => .bad
  | .cons a .nil, ρ, W => run a ρ W
  | .cons a (.cons b cs), ρ, W => (run a ρ W).bnd fun x W => (ofO (truth W x) W).bnd fun t W => if t = true then .ok x W else runOr (.cons b cs) ρ W
/-- tests, all of them -/
def runT : Cs → EnvD → Wd → R Bool
  | .nil, _, W => .ok true W
  | .cons c .nil, ρ, W => truR (run c ρ W)
  | .cons _ (.cons _ _), _, _ => .bad
def runo : Co → EnvD → Wd → R (Option Int)
  | .no, _, W => .ok none W
  | .yes c, ρ, W => (run c ρ W).bnd fun x W => match x with
    | .int i => .ok (some i) W
    | _ => .bad
def runI : I → EnvD → Wd → R (List D)
  | .seq c, ρ, W => (run c ρ W).bnd fun x W => match x with
    | .lst xs => .ok xs W
    | .tup xs => .ok xs W
    | _ => .bad
  | .rng1 c, ρ, W => (run c ρ W).bnd fun x W => match x with
    | .int j => ofO (dRange 0 j) W
    | _ => .bad
  | .rng2 a b, ρ, W => (run a ρ W).bnd fun x W => (run b ρ W).bnd fun y W => match x, y with
    | .int i, .int j => ofO (dRange i j) W
    | _, _ => .bad
  | .enum c, ρ, W => (run c ρ W).bnd fun x W => match x with
    | .lst _ => ofO (dEnum W x) W
    | _ => .bad
  | .zip a b, ρ, W => (run a ρ W).bnd fun x W => (run b ρ W).bnd fun y W => match x, y with
    | .lst _, .lst _ => ofO (dZip W x y) W
    | .tup _, .tup _ => ofO (dZip W x y) W
    | _, _ => .bad
end
mutual
def runS : S → EnvD → Wd → SR
  | .asg t c, ρ, W => (run Δ c ρ W).thnS fun d W => match t.put W d ρ with
    | some ρ' => .nx ρ' W
    | none => .bad
  | .put a i v, ρ, W => (run Δ v ρ W).thnS fun z W => (run Δ a ρ W).thnS fun x W => (run Δ i ρ W).thnS fun y W => match x, y with
    | .ref r, .int j => match W[r]? with
      | some xs => match ixN xs.length j with
        | some n => .nx ρ (W.set r (xs.set n z))
        | none => .bad
      | none => .bad
    | _, _ => .bad
  | .app i c, ρ, W => match ρ[i]? with
    | some (some (.ref r)) => (run Δ c ρ W).thnS fun z W => match W[r]? with
      | some xs => if xs.length < 16777216 then .nx ρ (W.set r (xs ++ [z])) else .bad
      | none => .bad
    | _ => .bad
  | .ex c, ρ, W => (run Δ c ρ W).thnS fun _ W => .nx ρ W
  | .ret c, ρ, W => (run Δ c ρ W).thnS fun d W => .rt d W
  | .ret0, _, W => .rt .non W
  | .ife c a b, ρ, W => (truR (run Δ c ρ W)).thnS fun k W => if k = true then runSs a ρ W else runSs b ρ W
  | .for_ t w b, ρ, W => (runI Δ w ρ W).thnS fun ds W => forLoop (fun d ρ W => t.put W d ρ) (runSs b) ds ρ W
  | .whl c b, ρ, W => whlLoop (fun ρ W => truR (run Δ c ρ W)) (runSs b) 1000000000 ρ W
  | .pass, ρ, W => .nx ρ W
  | .no, _, _ => .bad
def runSs : Ss → EnvD → Wd → SR
  | .nil, ρ, W => .nx ρ W
  | .cons s r, ρ, W => (runS s ρ W).thn fun ρ W => runSs r ρ W
end
end

/-! ### a program -/
structure Fn where
  many : Nat
  slots : Nat
  maker : Bool
  body : Ss
mutual
def D.low (n : Nat) : D → Bool
  | .ref i => decide (i < n)
  | .tup xs => D.lows n xs
  | .lst xs => D.lows n xs
  | .dct kvs => D.lowK n kvs
  | _ => true
def D.lows (n : Nat) : List D → Bool
  | [] => true
  | x :: xs => D.low n x && D.lows n xs
def D.lowK (n : Nat) : List (Key × D) → Bool
  | [] => true
  | (_, x) :: xs => D.low n x && D.lowK n xs
end
/-- the changing lists made within go; the value given back is a list of its own then -/
def leave (n : Nat) (d : D) (W : Wd) : R D :=
  if W.length ≤ n then .ok d W else if ((W.take n).all (D.lows n)) = true then match d with
  | .ref i => if i < n then .ok (.ref i) (W.take n) else match W[i]? with
    | some xs => if D.lows n xs = true then .ok (.lst xs) (W.take n) else .bad
    | none => .bad
  | d => if D.low n d = true then .ok d (W.take n) else .bad
  else .bad
def fnRun (Δ : Tab) (f : Fn) (ds : List D) (W : Wd) : R D :=
  if ds.length = f.many then match runSs Δ f.body (ds.map some ++ List.replicate (f.slots - f.many) none) W with
    | .nx _ W' => if f.maker = true then .bad else leave W.length .non W'
    | .rt d W' => if f.maker = true then .ok d W' else leave W.length d W'
    | .err e W' => if W'.length ≤ W.length then .err e W' else .bad
    | .bad => .bad
  else .bad
abbrev Prog := List (Str × Fn)
def callK (P : Prog) : Nat → Tab
  | 0, _, _, _ => .bad
  | k + 1, f, ds, W => match P.lookup f with
    | some fn => fnRun (callK P k) fn ds W
    | none => .bad
end PL

/-! PL6: readings by data. -/
namespace PL
open PySem PySem.Spec PyProof.Rows L2

/-! ### items and slices by data -/
theorem atI_all {M : Md} {m : Ms} {H : Hp} {vs : List V} {ds : List D} {i : Int} {d : D} (h : IsAll M m H vs ds) (e : atI ds i = some d) : ∃ v, atI vs i = some v ∧ Is M m H v d := by
  unfold atI at e ⊢
  rw [h.length]
  cases q : ixN ds.length i with
  | none => rw [q] at e; cases e
  | some j =>
    rw [q] at e
    exact h.get e
theorem strOk_one {x : Str} (h : PyData.strOk x = true) {c : Nat} (hc : c ∈ x.cps.toList) : PyData.strOk ⟨#[c]⟩ = true := by
  unfold PyData.strOk at *
  rw [← Array.all_toList] at *
  have := List.all_eq_true.mp h c hc
  simpa using this
theorem atI_mem {α : Type} {xs : List α} {i : Int} {c : α} (h : atI xs i = some c) : c ∈ xs := by
  unfold atI at h
  cases q : ixN xs.length i with
  | none => rw [q] at h; cases h
  | some j => rw [q] at h; exact List.mem_of_getElem? h
theorem strOk_cut {x : Str} (h : PyData.strOk x = true) (lo hi : Option Int) : PyData.strOk ⟨(cutD x.cps.toList lo hi).toArray⟩ = true := by
  unfold PyData.strOk at *
  rw [← Array.all_toList] at *
  refine List.all_eq_true.mpr fun c hc => List.all_eq_true.mp h c ?_
  unfold cutD at hc
  exact List.mem_of_mem_drop (List.mem_of_mem_take hc)
section
variable {X : Cx}
/-- x[i] -/
def rIxD (M : Md) : R2 := fun x y H Q => ∃ m W a b d, WOk M m W H ∧ Is M m H x a ∧ Is M m H y b ∧ dIx W a b = some d ∧ ∀ v, Is M m H v d → Q v H
theorem ixd : IxR X (rIxD (mdOf X)) := by
  intro value slice pins s σ H x y v u Q I rx ry ⟨m, W, a, b, d, hw, ha, hb, hg, k⟩ hs
  unfold dIx at hg
  split at hg
  · cases hb
    split at hg
    · split at hg
      · rename_i hl
        obtain ⟨c, e, rfl⟩ := some_map hg
        cases ha with
        | str z h1 => exact ix_seq value slice pins s σ H _ _ v u Q I rx ry (.inr (.inr ⟨_, _, c, rfl, rfl, by rw [sizeLine_eq]; exact hl, e, k _ (.str _ (strOk_one h1 (atI_mem e)))⟩)) hs
      · cases hg
    · obtain ⟨xs, e1, e2⟩ := Option.bind_eq_some_iff.mp hg
      obtain ⟨p, ys, rfl, hq, r⟩ := ha.asQ hw e1
      obtain ⟨w, e3, h3⟩ := atI_all r e2
      rcases hq with hq | hq
      · exact ix_seq value slice pins s σ H _ _ v u Q I rx ry (.inl ⟨_, _, _, _, rfl, rfl, hq, e3, k _ h3⟩) hs
      · exact ix_seq value slice pins s σ H _ _ v u Q I rx ry (.inr (.inl ⟨_, _, _, _, rfl, rfl, hq, e3, k _ h3⟩)) hs
  · cases hg
def rSlD (M : Md) : V → Option Int → Option Int → Hp → VK → Prop := fun x lo hi H Q => ∃ m W a d, WOk M m W H ∧ Is M m H x a ∧ dSl W a lo hi = some d ∧ ∀ v H', Same H H' → Is M m H' v d → Q v H'
theorem cutS_eq (z : Str) (lo hi : Option Int) : cutS z lo hi = ⟨(cutD z.cps.toList lo hi).toArray⟩ := by
  have e : z.length = z.cps.toList.length := TL.len_tl z
  unfold cutS cutD
  rw [e]
theorem IsAll.cut {M : Md} {m : Ms} {H : Hp} {vs : List V} {ds : List D} (h : IsAll M m H vs ds) (lo hi : Option Int) : IsAll M m H (cutV vs lo hi) (cutD ds lo hi) := by
  unfold cutV cutD
  rw [h.length]
  exact (h.drop _).take _
theorem cut_whole {α : Type} {xs : List α} {lo hi : Option Int} (h : HT.sIx xs.length 0 lo = 0 ∧ HT.sIx xs.length xs.length hi = xs.length) : cutD xs lo hi = xs := by
  unfold cutD
  rw [h.1, h.2]
  simp
theorem sld : SlR X (rSlD (mdOf X)) := by
  intro pins s σ H x v vl vu lo hi sl Q I rx hs pl pu ⟨m, W, a, d, hw, ha, hg, k⟩
  unfold dSl at hg
  split at hg
  · split at hg
    · rename_i z hl
      cases hg
      cases ha with
      | str z h1 => exact sl_str pins s σ H _ v vl vu lo hi sl Q I rx hs pl pu ⟨_, rfl, by rw [sizeLine_eq]; exact hl, by rw [cutS_eq]; exact k _ _ (Same.refl H) (.str _ (strOk_cut h1 lo hi))⟩
    · cases hg
  · cases hg
    obtain ⟨p, ys, rfl, hq, r⟩ := ha.asT
    refine sl_tupA pins s σ H _ v vl vu lo hi sl Q I rx hs pl pu ⟨p, ys, rfl, hq.seq, fun z => ?_, fun _ q hp => k _ _ (same_upd hp) (hw.newT hp (r.cut lo hi))⟩
    rw [r.length] at z
    rw [cut_whole z] at k
    exact k _ _ (Same.refl H) (.tup hq r)
  · obtain ⟨xs, e, rfl⟩ := some_map hg
    obtain ⟨p, ys, rfl, hq, r⟩ := ha.asL hw e
    exact sl_list pins s σ H _ v vl vu lo hi sl Q I rx hs pl pu ⟨p, ys, rfl, SqL.of hq, fun q hp => k _ _ (same_upd hp) (hw.newL hp (r.cut lo hi))⟩
end

/-! ### what is wanted behind a result -/
/-- the own error that lies in the air -/
def ExIs (M : Md) (m : Ms) (H : Hp) (cls : Value) (dx : Option Addr) (e : Ex) : Prop :=
  ∃ a, M.mg e.cls = some (.ref a) ∧ cls = .ref a ∧ match e.fld with
    | none => dx = none
    | some (f, d) => ∃ p v, dx = some p ∧ H p = some (.xd [(f, v)]) ∧ Is M m H v d
def aft {α : Type} (M : Md) (Wx : WX) (m : Ms) (H : Hp) (r : R α) (k : α → Ms → Wd → Hp → Prop) : Prop := match r with
  | .ok a W' => ∀ m' H', Step m H m' H' → WOk M m' W' H' → k a m' W' H'
  | .err e W' => ∀ cls dx σ' m' H', Step m H m' H' → WOk M m' W' H' → ExIs M m' H' cls dx e → Wx cls dx σ' H'
  | .bad => False
section
variable {α β : Type} {M : Md} {Wx : WX} {m m1 : Ms} {W : Wd} {H H1 : Hp}
theorem aft.step {r : R α} {k : α → Ms → Wd → Hp → Prop} (h : aft M Wx m H r k) (s : Step m H m1 H1) : aft M Wx m1 H1 r k := by
  cases r with
  | ok a W' => exact fun m' H' s' hw => h m' H' (s.trans s') hw
  | err e W' => exact fun c d σ' m' H' s' hw => h c d σ' m' H' (s.trans s') hw
  | bad => exact h
theorem aft.imp {r : R α} {k k' : α → Ms → Wd → Hp → Prop} (h : aft M Wx m H r k) (f : ∀ a m' W' H', Step m H m' H' → WOk M m' W' H' → k a m' W' H' → k' a m' W' H') : aft M Wx m H r k' := by
  cases r with
  | ok a W' => exact fun m' H' s hw => f a m' W' H' s hw (h m' H' s hw)
  | err e W' => exact h
  | bad => exact h
theorem aft.bnd {r : R α} {f : α → Wd → R β} {k : β → Ms → Wd → Hp → Prop} (h : aft M Wx m H (r.bnd f) k) : aft M Wx m H r fun a m' W' H' => aft M Wx m' H' (f a W') k := by
  cases r with
  | ok a W' => exact fun m' H' s _ => aft.step (show aft M Wx m H (f a W') k from h) s
  | err e W' => exact h
  | bad => exact h
theorem aft.bndX {r : R α} {f : α → Wd → R β} {k : β → Ms → Wd → Hp → Prop} (h : aft M Wx m H (r.bndX f) k) : aft M (fun _ _ _ _ => False) m H r fun a m' W' H' => aft M Wx m' H' (f a W') k := by
  cases r with
  | ok a W' => exact fun m' H' s _ => aft.step (show aft M Wx m H (f a W') k from h) s
  | err e W' => exact h.elim
  | bad => exact h
theorem aft.ofO {o : Option α} {k : α → Ms → Wd → Hp → Prop} (h : aft M Wx m H (PL.ofO o W) k) (hw : WOk M m W H) : ∃ a, o = some a ∧ ∀ H', Same H H' → k a m W H' := by
  cases o with
  | none => exact h.elim
  | some a => exact ⟨a, rfl, fun H' s => h m H' (Step.same s) (hw.mono s)⟩
theorem aft.okI {a : α} {k : α → Ms → Wd → Hp → Prop} (h : aft M Wx m H (.ok a W) k) (hw : WOk M m W H) : k a m W H := h m H Step.refl hw
theorem aft.okS {a : α} {k : α → Ms → Wd → Hp → Prop} (h : aft M Wx m H (.ok a W) k) (hw : WOk M m W H) {H' : Hp} (s : Same H H') : k a m W H' := h m H' (Step.same s) (hw.mono s)
theorem aft.ite {c : Prop} [Decidable c] {r : R α} {k : α → Ms → Wd → Hp → Prop} (h : aft M Wx m H (if c then r else .bad) k) : c ∧ aft M Wx m H r k := by
  split at h
  · exact ⟨by assumption, h⟩
  · exact h.elim
end

/-! ### readings -/
def tE (M : Md) (Wx : WX) (f : EnvD → Wd → R D) : TE := fun σ H Q => ∃ ρ m W, EnvOk M m H σ ρ ∧ WOk M m W H ∧ aft M Wx m H (f ρ W) fun d m' _ H' => ∀ v, Is M m' H' v d → Q v H'
def tB (M : Md) (Wx : WX) (f : EnvD → Wd → R Bool) : TT := fun σ H Q => ∃ ρ m W, EnvOk M m H σ ρ ∧ WOk M m W H ∧ aft M Wx m H (f ρ W) fun b _ _ H' => Q b H'
def tAs (M : Md) (Wx : WX) (f : EnvD → Wd → R (List D)) : TA := fun σ H Q => ∃ ρ m W, EnvOk M m H σ ρ ∧ WOk M m W H ∧ aft M Wx m H (f ρ W) fun ds m' _ H' => ∀ vs, IsAll M m' H' vs ds → Q vs H'
def tO (M : Md) (Wx : WX) (f : EnvD → Wd → R (Option Int)) : TO := fun σ H Q => ∃ ρ m W, EnvOk M m H σ ρ ∧ WOk M m W H ∧ aft M Wx m H (f ρ W) fun o _ _ H' => Q o H'
/-- the promise of a def, by data -/
def spD (M : Md) (g : List D → Wd → R D) : Sp := fun vs H Q E => ∃ m W ds, WOk M m W H ∧ IsAll M m H vs ds ∧ aft M (fun c d _ H' => E c d H') m H (g ds W) fun d m' _ H' => ∀ v, Is M m' H' v d → Q v H'
section
variable {X : Cx} {e : Expr} {es : List Expr}
theorem _root_.L2.PE.imp {t t' : TE} (h : PE X e t) (f : ∀ σ H Q, t' σ H Q → t σ H Q) : PE X e t' := ⟨fun pins s σ H Q I q => h.run pins s σ H Q I (f σ H Q q)⟩
theorem _root_.L2.PT.imp {t t' : TT} (h : PT X e t) (f : ∀ σ H Q, t' σ H Q → t σ H Q) : PT X e t' := ⟨fun pins s σ H Q I q => h.run pins s σ H Q I (f σ H Q q)⟩
theorem _root_.L2.PW.imp {t t' : TT} (h : PW X e t) (f : ∀ σ H Q, t' σ H Q → t σ H Q) : PW X e t' := ⟨fun wh pins s σ H Q I q => h.run wh pins s σ H Q I (f σ H Q q)⟩
theorem _root_.L2.PA.imp {t t' : TA} (h : PA X es t) (f : ∀ σ H Q, t' σ H Q → t σ H Q) : PA X es t' := ⟨fun pos pins s σ H Q I q => h.run pos pins s σ H Q I (f σ H Q q)⟩
theorem _root_.L2.PO.imp {o : Option Expr} {t t' : TO} (h : PO X o t) (f : ∀ σ H Q, t' σ H Q → t σ H Q) : PO X o t' := ⟨fun pins s σ H Q I q => h.run pins s σ H Q I (f σ H Q q)⟩
end
end PL

/-! PLZ: list(zip(a, b)): the tuples given out stay. -/
namespace ZL
open PySem
section
variable {prog : Program} {w : World}
/-- an iterator at i over the items at l -/
structure Drw (prog : Program) (w : World) (i l : Addr) (items : Array Value) (It : Nat → Heap → Prop) (Sq : Heap → Prop) : Prop where
  item : ∀ (A : Around) (E : Value → Shared → Prop) (s : Shared) (k : Nat) (x : Value) (Q : Value → Shared → Prop), It k s.heap → Sq s.heap → items[k]? = some x →
    (∀ h', It (k + 1) h' → Heap.SameBut i s.heap h' → Q x { s with heap := h' }) → wpAny (model prog w) A (Builtin.SmallTypes.nextOf (.ref i)) Q E s
  stop : ∀ (A : Around) (E : Value → Shared → Prop) (s : Shared) (k : Nat) (Q : Value → Shared → Prop), A.handled = none → It k s.heap → Sq s.heap → items[k]? = none →
    (∀ h' e, Heap.ExtBut i s.heap h' → (∃ o, h'.get? e = some o ∧ o.cls = .type "StopIteration") → E (.ref e) { s with heap := h' }) → wpAny (model prog w) A (Builtin.SmallTypes.nextOf (.ref i)) Q E s
  itF : ∀ (k : Nat) (h h' : Heap), It k h → (∀ o, h.get? i = some o → h'.get? i = some o) → It k h'
  sqF : ∀ (h h' : Heap), Sq h → (∀ o, h.get? l = some o → h'.get? l = some o) → Sq h'
theorem drwL (i l : Addr) (items : Array Value) : Drw prog w i l items (fun k h => h.IsListIter i l k) (fun h => h.IsList l items) :=
  ⟨fun A E s k x Q h1 h2 h3 hq => wpAny_nextOf_list_item h1 h2 h3 hq, fun A E s k Q hh h1 h2 h3 hq => wpAny_nextOf_list_end hh h1 h2 h3 hq,
    fun k h h' h1 f => h1.at f, fun h h' h1 f => h1.at f⟩
theorem drwT (i l : Addr) (items : Array Value) : Drw prog w i l items (fun k h => h.IsTupleIter i l k) (fun h => h.IsTuple l items) :=
  ⟨fun A E s k x Q h1 h2 h3 hq => RZ.nextOf_tuple_item h1 h2 h3 hq, fun A E s k Q hh h1 h2 h3 hq => RZ.nextOf_tuple_end hh h1 h2 h3 hq,
    fun k h h' h1 f => h1.at f, fun h h' h1 f => h1.at f⟩
variable {A : Around} {E : Value → Shared → Prop} {s : Shared} {z TI TO T i1 i2 l1 l2 : Addr} {f : Bool} {oT : Obj} {k : Nat} {xs ys : Array Value} {x y : Value} {I1 I2 : Nat → Heap → Prop} {S1 S2 : Heap → Prop}
theorem held_item {Q : Value → Shared → Prop} (D : ZipApart z TI TO i1 i2 l1 l2) (d1 : Drw prog w i1 l1 xs I1 S1) (d2 : Drw prog w i2 l2 ys I2 S2)
    (hz : IsZipHeld s.heap z TI TO T f) (hT : s.heap.get? T = some oT) (hTI : IsPair s.heap TI (.ref i1) (.ref i2))
    (h1 : I1 k s.heap) (h2 : I2 k s.heap) (q1 : S1 s.heap) (q2 : S2 s.heap) (hx : xs[k]? = some x) (hy : ys[k]? = some y)
    (hQ : ∀ h', IsZipHeld h' z TI TO T true → I1 (k + 1) h' → I2 (k + 1) h' → IsPair h' s.heap.objs.size x y → h'.objs.size = s.heap.objs.size + 1 →
      (∀ c o, c ≠ z → c ≠ i1 → c ≠ i2 → s.heap.get? c = some o → h'.get? c = some o) → Q (.ref s.heap.objs.size) { s with heap := h' }) :
    wpAny (model prog w) A (Builtin.«zip.__next__» ⟨[.ref z], []⟩) (fun fin s' => ∃ v, fin = .done (.ret v) ∧ Q v s') E s := by
  show wpAny _ _ (field (.ref z) 2 >>= _) _ _ _
  refine wpAny_bind (wpAny_field hz rfl (x := .bool false) rfl ?_)
  show wpAny _ _ (field (.ref z) 3 >>= _) _ _ _
  refine wpAny_bind (wpAny_field hz rfl (x := .ref TI) rfl ?_)
  refine wpAny_bind (wpAny_seqItems hTI rfl ?_)
  show wpAny _ _ (Builtin.SmallTypes.ownedTupleIsFree (.ref z) >>= _) _ _ _
  refine wpAny_bind (wpAny_tupleHeld_zip hz hT fun ha hza sa => ?_)
  simp only [Bool.false_eq_true, if_false]
  refine wpAny_bind ?_
  rw [← Array.forIn_toList]
  simp only [List.forIn_cons, List.forIn_nil]
  refine wpAny_bind (wpAny_bind (wpAny_holding ?_))
  show wpAny _ _ (Builtin.SmallTypes.nextOf (.ref i1) >>= _) _ _ _
  have ea := sa.extBut
  refine wpAny_bind (d1.item A E { s with heap := ha } k x _ (d1.itF _ _ _ h1 fun o e => ea _ _ D.i1z e) (d1.sqF _ _ q1 fun o e => ea _ _ D.l1z e) hx fun hb h1b sb => wpAny_pure ?_)
  have eb := sb.extBut
  refine wpAny_pure ?_
  refine wpAny_bind (wpAny_bind (wpAny_holding ?_))
  show wpAny _ _ (Builtin.SmallTypes.nextOf (.ref i2) >>= _) _ _ _
  refine wpAny_bind (d2.item A E { s with heap := hb } k y _ (d2.itF _ _ _ h2 fun o e => eb _ _ D.i12.symm (ea _ _ D.i2z e)) (d2.sqF _ _ q2 fun o e => eb _ _ D.l2i1 (ea _ _ D.l2z e)) hy fun hc h2c sc => wpAny_pure ?_)
  have ec := sc.extBut
  refine wpAny_pure (wpAny_pure ?_)
  show wpAny _ _ (newTuple [x, y] >>= _) _ _ _
  refine wpAny_bind (wpAny_newTuple ?_)
  have hsz : hc.objs.size = s.heap.objs.size := by rw [sc.1, sb.1, sa.1]
  have hzc : IsZipHeld hc z TI TO T true := ec _ _ D.i2z.symm (eb _ _ D.i1z.symm hza)
  have hk : ∀ c o, c ≠ z → c ≠ i1 → c ≠ i2 → s.heap.get? c = some o → hc.get? c = some o := fun c o c1 c2 c3 e => ec _ _ c3 (eb _ _ c2 (ea _ _ c1 e))
  have h1c : I1 (k + 1) hc := d1.itF _ _ _ h1b fun o e => ec _ _ D.i12 e
  refine wpAny_pure ⟨_, rfl, ?_⟩
  show Q (.ref hc.objs.size) _
  have hp : IsPair (hc.push { cls := .type "tuple", data := .seq #[x, y] }) hc.objs.size x y := Heap.get?_push_size _ rfl
  have hz4 : (hc.push { cls := .type "tuple", data := .seq #[x, y] }).objs.size = hc.objs.size + 1 := Heap.size_push ..
  rw [hsz] at hp hz4 ⊢
  exact hQ _ (Heap.get?_push_of_some _ hzc) (d1.itF _ _ _ h1c fun o e => Heap.get?_push_of_some _ e) (d2.itF _ _ _ h2c fun o e => Heap.get?_push_of_some _ e) hp hz4 fun c o c1 c2 c3 e => Heap.get?_push_of_some _ (hk c o c1 c2 c3 e)
theorem held_end {Q : Fin → Shared → Prop} (hh : A.handled = none) (D : ZipApart z TI TO i1 i2 l1 l2) (d1 : Drw prog w i1 l1 xs I1 S1) (d2 : Drw prog w i2 l2 ys I2 S2)
    (hz : IsZipHeld s.heap z TI TO T f) (hT : s.heap.get? T = some oT) (hTI : IsPair s.heap TI (.ref i1) (.ref i2))
    (h1 : I1 k s.heap) (h2 : I2 k s.heap) (q1 : S1 s.heap) (q2 : S2 s.heap) (hend : xs[k]? = none ∨ ys[k]? = none)
    (hE : ∀ h' e, (∀ c o, c ≠ z → c ≠ i1 → c ≠ i2 → s.heap.get? c = some o → h'.get? c = some o) → (∃ o, h'.get? e = some o ∧ o.cls = .type "StopIteration") → E (.ref e) { s with heap := h' }) :
    wpAny (model prog w) A (Builtin.«zip.__next__» ⟨[.ref z], []⟩) Q E s := by
  show wpAny _ _ (field (.ref z) 2 >>= _) _ _ _
  refine wpAny_bind (wpAny_field hz rfl (x := .bool false) rfl ?_)
  show wpAny _ _ (field (.ref z) 3 >>= _) _ _ _
  refine wpAny_bind (wpAny_field hz rfl (x := .ref TI) rfl ?_)
  refine wpAny_bind (wpAny_seqItems hTI rfl ?_)
  show wpAny _ _ (Builtin.SmallTypes.ownedTupleIsFree (.ref z) >>= _) _ _ _
  refine wpAny_bind (wpAny_tupleHeld_zip hz hT fun ha hza sa => ?_)
  simp only [Bool.false_eq_true, if_false]
  refine wpAny_bind ?_
  rw [← Array.forIn_toList]
  simp only [List.forIn_cons, List.forIn_nil]
  refine wpAny_bind (wpAny_bind (wpAny_holding ?_))
  show wpAny _ _ (Builtin.SmallTypes.nextOf (.ref i1) >>= _) _ _ _
  have ea := sa.extBut
  have h1a : I1 k ha := d1.itF _ _ _ h1 fun o e => ea _ _ D.i1z e
  have q1a : S1 ha := d1.sqF _ _ q1 fun o e => ea _ _ D.l1z e
  cases hx : xs[k]? with
  | none => exact wpAny_bind (d1.stop A E { s with heap := ha } k _ hh h1a q1a hx fun hb e sb he => hE hb e (fun c o c1 c2 _ x => sb _ _ c2 (ea _ _ c1 x)) he)
  | some x =>
    have hy : ys[k]? = none := by rcases hend with h | h; rw [hx] at h; cases h; exact h
    refine wpAny_bind (d1.item A E { s with heap := ha } k x _ h1a q1a hx fun hb h1b sb => wpAny_pure ?_)
    have eb := sb.extBut
    refine wpAny_pure ?_
    refine wpAny_bind (wpAny_bind (wpAny_holding ?_))
    show wpAny _ _ (Builtin.SmallTypes.nextOf (.ref i2) >>= _) _ _ _
    exact wpAny_bind (d2.stop A E { s with heap := hb } k _ hh (d2.itF _ _ _ h2 fun o e => eb _ _ D.i12.symm (ea _ _ D.i2z e)) (d2.sqF _ _ q2 fun o e => eb _ _ D.l2i1 (ea _ _ D.l2z e)) hy fun hc e sc he =>
      hE hc e (fun c o c1 c2 c3 x => sc _ _ c3 (eb _ _ c2 (ea _ _ c1 x))) he)
theorem pyNext_held {Q : Option Value → Shared → Prop} (D : ZipApart z TI TO i1 i2 l1 l2) (d1 : Drw prog w i1 l1 xs I1 S1) (d2 : Drw prog w i2 l2 ys I2 S2)
    (hz : IsZipHeld s.heap z TI TO T f) (hT : s.heap.get? T = some oT) (hTI : IsPair s.heap TI (.ref i1) (.ref i2))
    (h1 : I1 k s.heap) (h2 : I2 k s.heap) (q1 : S1 s.heap) (q2 : S2 s.heap) (hx : xs[k]? = some x) (hy : ys[k]? = some y)
    (hQ : ∀ h', IsZipHeld h' z TI TO T true → I1 (k + 1) h' → I2 (k + 1) h' → IsPair h' s.heap.objs.size x y → h'.objs.size = s.heap.objs.size + 1 →
      (∀ c o, c ≠ z → c ≠ i1 → c ≠ i2 → s.heap.get? c = some o → h'.get? c = some o) → Q (some (.ref s.heap.objs.size)) { s with heap := h' }) :
    wpAny (model prog w) A (pyNext (.ref z)) Q E s := by
  have hTy : s.TypeIs (.ref z) "zip" := ⟨_, hz, rfl⟩
  unfold pyNext
  exact wpAny_bind (wpAny_attempt (wpAny_callSpecial?_slot (name := Str.ofString "__next__") hTy F.slot_zip_next
    (wpAny_call_entry F.slot_zip_next hTy F.entry_zip_next
      (held_item D d1 d2 hz hT hTI h1 h2 q1 q2 hx hy fun h' a1 a3 a4 a5 a6 a7 => wpAny_pure (hQ h' a1 a3 a4 a5 a6 a7)) (F.args_zip_next_1 _))))
theorem pyNext_held_end {Q : Option Value → Shared → Prop} (hh : A.handled = none) (D : ZipApart z TI TO i1 i2 l1 l2) (d1 : Drw prog w i1 l1 xs I1 S1) (d2 : Drw prog w i2 l2 ys I2 S2)
    (hz : IsZipHeld s.heap z TI TO T f) (hT : s.heap.get? T = some oT) (hTI : IsPair s.heap TI (.ref i1) (.ref i2))
    (h1 : I1 k s.heap) (h2 : I2 k s.heap) (q1 : S1 s.heap) (q2 : S2 s.heap) (hend : xs[k]? = none ∨ ys[k]? = none)
    (hQ : ∀ h', (∀ c o, c ≠ z → c ≠ i1 → c ≠ i2 → s.heap.get? c = some o → h'.get? c = some o) → Q none { s with heap := h' }) : wpAny (model prog w) A (pyNext (.ref z)) Q E s := by
  have hTy : s.TypeIs (.ref z) "zip" := ⟨_, hz, rfl⟩
  unfold pyNext
  refine wpAny_bind (wpAny_attempt (wpAny_callSpecial?_slot (name := Str.ofString "__next__") hTy F.slot_zip_next
    (wpAny_call_entry F.slot_zip_next hTy F.entry_zip_next (held_end hh D d1 d2 hz hT hTI h1 h2 q1 q2 hend fun h' e hk he => ?_) (F.args_zip_next_1 _))))
  obtain ⟨o, ho, hc⟩ := he
  refine wpAny_bind (wpAny_isInstance (T := "StopIteration") (b := true) ⟨o, ho, hc⟩ isSubtype_stop ?_)
  exact wpAny_pure (hQ h' hk)

/-- all that is known of a zip -/
structure Zs (prog : Program) (w : World) (z TI TO i1 i2 l1 l2 : Addr) (xs ys : Array Value) (I1 I2 : Nat → Heap → Prop) (S1 S2 : Heap → Prop) : Prop where
  D : ZipApart z TI TO i1 i2 l1 l2
  d1 : Drw prog w i1 l1 xs I1 S1
  d2 : Drw prog w i2 l2 ys I2 S2
  first : ∀ (A : Around) (E : Value → Shared → Prop) (s : Shared) (x y a b : Value) (Q : Option Value → Shared → Prop), IsZip s.heap z TI TO .none → IsPair s.heap TI (.ref i1) (.ref i2) → IsPair s.heap TO a b →
    I1 0 s.heap → I2 0 s.heap → S1 s.heap → S2 s.heap → xs[0]? = some x → ys[0]? = some y →
    (∀ h', IsZip h' z TI TO (rawInt s.heap.objs.size) → IsPair h' TO x y → I1 1 h' → I2 1 h' → IsPair h' s.heap.objs.size x y → h'.objs.size = s.heap.objs.size + 1 →
      (∀ c o, c ≠ z → c ≠ TO → c ≠ i1 → c ≠ i2 → s.heap.get? c = some o → h'.get? c = some o) → Q (some (.ref s.heap.objs.size)) { s with heap := h' }) → wpAny (model prog w) A (pyNext (.ref z)) Q E s
  none_ : ∀ (A : Around) (E : Value → Shared → Prop) (s : Shared) (a b : Value) (Q : Option Value → Shared → Prop), A.handled = none → IsZip s.heap z TI TO .none → IsPair s.heap TI (.ref i1) (.ref i2) → IsPair s.heap TO a b →
    I1 0 s.heap → I2 0 s.heap → S1 s.heap → S2 s.heap → xs[0]? = none ∨ ys[0]? = none →
    (∀ h', (∀ c o, c ≠ z → c ≠ TO → c ≠ i1 → c ≠ i2 → s.heap.get? c = some o → h'.get? c = some o) → Q none { s with heap := h' }) → wpAny (model prog w) A (pyNext (.ref z)) Q E s
variable {z TI TO i1 i2 l1 l2 : Addr} {xs ys : Array Value} {I1 I2 : Nat → Heap → Prop} {S1 S2 : Heap → Prop}
theorem zsL (D : ZipApart z TI TO i1 i2 l1 l2) (xs ys : Array Value) : Zs prog w z TI TO i1 i2 l1 l2 xs ys (fun k h => h.IsListIter i1 l1 k) (fun k h => h.IsListIter i2 l2 k) (fun h => h.IsList l1 xs) (fun h => h.IsList l2 ys) :=
  ⟨D, drwL _ _ _, drwL _ _ _, fun A E s x y a b Q hz hTI hTO h1 h2 q1 q2 hx hy hq => wpAny_pyNext_zip_item D hz hTI hTO h1 h2 q1 q2 hx hy hq,
    fun A E s a b Q hh hz hTI hTO h1 h2 q1 q2 he hq => wpAny_pyNext_zip_end hh D hz hTI hTO h1 h2 q1 q2 he hq⟩
theorem zsT (D : ZipApart z TI TO i1 i2 l1 l2) (xs ys : Array Value) : Zs prog w z TI TO i1 i2 l1 l2 xs ys (fun k h => h.IsTupleIter i1 l1 k) (fun k h => h.IsTupleIter i2 l2 k) (fun h => h.IsTuple l1 xs) (fun h => h.IsTuple l2 ys) :=
  ⟨D, drwT _ _ _, drwT _ _ _, fun A E s x y a b Q hz hTI hTO h1 h2 q1 q2 hx hy hq => RZ.pyNext_zipT_item D hz hTI hTO h1 h2 q1 q2 hx hy hq,
    fun A E s a b Q hh hz hTI hTO h1 h2 q1 q2 he hq => RZ.pyNext_zipT_end hh D hz hTI hTO h1 h2 q1 q2 he hq⟩
/-- the pairs taken so far -/
def Took (b0 : Addr) (xs ys : Array Value) (acc : Array Value) (i : Nat) (h : Heap) : Prop :=
  acc.size = i ∧ ∀ j, j < i → ∃ T x y, acc[j]? = some (.ref T) ∧ b0 ≤ T ∧ xs[j]? = some x ∧ ys[j]? = some y ∧ IsPair h T x y
theorem Took.push {b0 : Addr} {acc : Array Value} {i : Nat} {h h' : Heap} {T : Addr} {x y : Value} (t : Took b0 xs ys acc i h) (k : ∀ c o, b0 ≤ c → h.get? c = some o → h'.get? c = some o)
    (hT : b0 ≤ T) (hx : xs[i]? = some x) (hy : ys[i]? = some y) (p : IsPair h' T x y) : Took b0 xs ys (acc.push (.ref T)) (i + 1) h' := by
  refine ⟨by rw [Array.size_push, t.1], fun j hj => ?_⟩
  by_cases e : j = i
  · subst e
    exact ⟨T, x, y, by rw [← t.1]; simp, hT, hx, hy, p⟩
  · obtain ⟨T', x', y', a1, a2, a3, a4, a5⟩ := t.2 j (by omega)
    have hlt : j < acc.size := by rw [t.1]; omega
    exact ⟨T', x', y', by rw [Array.getElem?_push_lt hlt]; rw [Array.getElem?_eq_getElem hlt] at a1; exact a1, a2, a3, a4, k _ _ a2 a5⟩
theorem Took.keep {b0 : Addr} {acc : Array Value} {i : Nat} {h h' : Heap} (t : Took b0 xs ys acc i h) (k : ∀ c o, b0 ≤ c → h.get? c = some o → h'.get? c = some o) : Took b0 xs ys acc i h' := by
  refine ⟨t.1, fun j hj => ?_⟩
  obtain ⟨T', x', y', a1, a2, a3, a4, a5⟩ := t.2 j hj
  exact ⟨T', x', y', a1, a2, a3, a4, k _ _ a2 a5⟩
variable {A : Around} {R : Result → Shared → Prop} {S b0 : Addr} {res : Value}
/-- behind the first item -/
theorem loop_held (hh : A.handled = none) (Z : Zs prog w z TI TO i1 i2 l1 l2 xs ys I1 I2 S1 S2) (b : z < b0 ∧ TI < b0 ∧ i1 < b0 ∧ i2 < b0 ∧ S < b0) (hS : S ≠ z ∧ S ≠ TI ∧ S ≠ i1 ∧ S ≠ i2 ∧ S ≠ l1 ∧ S ≠ l2) (hn : min xs.size ys.size ≤ sizeLine) :
    ∀ (k i : Nat) (s : Shared) (acc : Array Value) (c : Nat) (T : Addr) (f : Bool) (oT : Obj), min xs.size ys.size - i = k → i ≤ min xs.size ys.size → b0 ≤ s.heap.objs.size → IsZipHeld s.heap z TI TO T f → s.heap.get? T = some oT →
    T ≠ S → b0 ≤ T → IsPair s.heap TI (.ref i1) (.ref i2) → I1 i s.heap → I2 i s.heap → S1 s.heap → S2 s.heap → Took b0 xs ys acc i s.heap →
    s.heap.get? S = some { cls := .type "list", dict := none, data := .seq acc c, slots := #[] } →
    (∀ h' acc' c', (∀ c o, c ≠ z → c ≠ i1 → c ≠ i2 → c ≠ S → s.heap.get? c = some o → h'.get? c = some o) → Took b0 xs ys acc' (min xs.size ys.size) h' → h'.get? S = some { cls := .type "list", dict := none, data := .seq acc' c', slots := #[] } → R (.ok (.ret res)) { s with heap := h' }) →
    codeAny (model prog w) A (.builtin "list.extend.loop" ⟨[.ref S, .ref z, res], []⟩) R s := by
  obtain ⟨bz, bTI, b1, b2, bS⟩ := b
  obtain ⟨Sz, STI, S_1, S_2, Sl1, Sl2⟩ := hS
  have low : ∀ {c x : Addr}, b0 ≤ c → x < b0 → c ≠ x := fun {c x} h h' e => by
    have h1 : b0 ≤ c := h
    have h2 : x < b0 := h'
    rw [e] at h1
    exact absurd (Nat.lt_of_lt_of_le h2 h1) (Nat.lt_irrefl _)
  intro k
  induction k with
  | zero =>
    intro i s acc c T f oT hk hi hb hz hT hTS hTb hTI h1 h2 q1 q2 t hS hR
    refine codeAny_builtin F.entry_extend_loop ?_
    rw [Around.under_plainId F.plain_extend_loop _]
    show wpAny _ A.in1 (pyNext (.ref z) >>= _) _ _ s
    have hend : xs[i]? = none ∨ ys[i]? = none := by
      by_cases q : xs.size ≤ i
      · exact .inl (by simp [q])
      · exact .inr (by simp; omega)
    have e : i = min xs.size ys.size := by omega
    refine wpAny_bind (pyNext_held_end (by exact hh) Z.D Z.d1 Z.d2 hz hT hTI h1 h2 q1 q2 hend fun h' hk' => ?_)
    refine wpAny_pure (hR h' acc c (fun c o c1 c2 c3 _ e => hk' c o c1 c2 c3 e) ?_ (hk' _ _ Sz S_1 S_2 hS))
    rw [← e]
    exact t.keep fun c o hc e => hk' c o (low hc bz) (low hc b1) (low hc b2) e
  | succ k ih =>
    intro i s acc c T f oT hk hi hb hz hT hTS hTb hTI h1 h2 q1 q2 t hS hR
    have hlt : i < min xs.size ys.size := by omega
    have hx : xs[i]? = some xs[i] := Array.getElem?_eq_getElem (by omega)
    have hy : ys[i]? = some ys[i] := Array.getElem?_eq_getElem (by omega)
    refine codeAny_builtin F.entry_extend_loop ?_
    rw [Around.under_plainId F.plain_extend_loop _]
    show wpAny _ A.in1 (pyNext (.ref z) >>= _) _ _ s
    refine wpAny_bind (pyNext_held Z.D Z.d1 Z.d2 hz hT hTI h1 h2 q1 q2 hx hy fun h' a1 a2 a3 a4 a5 a6 => ?_)
    have hS' := a6 _ _ Sz S_1 S_2 hS
    have ez : ∀ cc o, cc ≠ S → h'.get? cc = some o → (h'.update S (Obj.mapSeq (·.push (Value.ref s.heap.objs.size)))).get? cc = some o := fun cc o hc e => (Heap.get?_update_other _ _ (Ne.symm hc)).trans e
    have szS : s.heap.objs.size ≠ S := Nat.ne_of_gt (Heap.lt_size hS)
    show wpAny _ A.in1 (updateSeq S (·.push (.ref s.heap.objs.size)) >>= _) _ _ _
    refine wpAny_bind ?_
    refine wpAny_updateSeq hS' rfl (wpAny_pure ⟨plainId_quiet F.plain_extend_loop _, ih (i + 1) _ (acc.push (.ref s.heap.objs.size)) _ T true oT (by omega) hlt ?_ (ez _ _ (Ne.symm Sz) a1) (ez _ _ hTS (a6 _ _ (low hTb bz) (low hTb b1) (low hTb b2) hT)) hTS hTb
      (ez _ _ (Ne.symm STI) (a6 _ _ Z.D.TIz Z.D.TIi1 Z.D.TIi2 hTI)) (Z.d1.itF _ _ _ a2 fun o e => ez _ _ (Ne.symm S_1) e) (Z.d2.itF _ _ _ a3 fun o e => ez _ _ (Ne.symm S_2) e)
      (Z.d1.sqF _ _ q1 fun o e => ez _ _ (Ne.symm Sl1) (a6 _ _ Z.D.l1z Z.D.l1i1 Z.D.l1i2 e)) (Z.d2.sqF _ _ q2 fun o e => ez _ _ (Ne.symm Sl2) (a6 _ _ Z.D.l2z Z.D.l2i1 Z.D.l2i2 e))
      (t.push (fun cc o hc e => ez _ _ (low hc bS) (a6 _ _ (low hc bz) (low hc b1) (low hc b2) e)) hb hx hy (ez _ _ szS a4)) (Heap.get?_update_self _ hS' rfl) fun h'' acc' c' kp t' hS'' => ?_⟩)
      (by rw [t.1]; omega) (by show (acc.push _).size ≤ sizeLine + 1; rw [Array.size_push, t.1]; omega)
    · show b0 ≤ (h'.update S _).objs.size
      rw [Heap.size_update, a5]
      exact Nat.le_succ_of_le hb
    · exact hR h'' acc' c' (fun c o c1 c2 c3 c4 e => kp c o c1 c2 c3 c4 (ez _ _ c4 (a6 _ _ c1 c2 c3 e))) t' hS''
theorem loop_all (hh : A.handled = none) (Z : Zs prog w z TI TO i1 i2 l1 l2 xs ys I1 I2 S1 S2) {s : Shared} {c : Nat} {a b : Value} (bnd : z < s.heap.objs.size ∧ TI < s.heap.objs.size ∧ i1 < s.heap.objs.size ∧ i2 < s.heap.objs.size ∧ S < s.heap.objs.size)
    (hS : S ≠ z ∧ S ≠ TI ∧ S ≠ TO ∧ S ≠ i1 ∧ S ≠ i2 ∧ S ≠ l1 ∧ S ≠ l2) (hn : min xs.size ys.size ≤ sizeLine)
    (hz : IsZip s.heap z TI TO .none) (hTI : IsPair s.heap TI (.ref i1) (.ref i2)) (hTO : IsPair s.heap TO a b) (h1 : I1 0 s.heap) (h2 : I2 0 s.heap) (q1 : S1 s.heap) (q2 : S2 s.heap)
    (hSo : s.heap.get? S = some { cls := .type "list", dict := none, data := .seq #[] c, slots := #[] })
    (hR : ∀ h' acc' c', (∀ c o, c ≠ z → c ≠ TO → c ≠ i1 → c ≠ i2 → c ≠ S → s.heap.get? c = some o → h'.get? c = some o) → Took s.heap.objs.size xs ys acc' (min xs.size ys.size) h' →
      h'.get? S = some { cls := .type "list", dict := none, data := .seq acc' c', slots := #[] } → R (.ok (.ret res)) { s with heap := h' }) :
    codeAny (model prog w) A (.builtin "list.extend.loop" ⟨[.ref S, .ref z, res], []⟩) R s := by
  obtain ⟨bz, bTI, b1, b2, bS⟩ := bnd
  obtain ⟨Sz, STI, STO, S_1, S_2, Sl1, Sl2⟩ := hS
  refine codeAny_builtin F.entry_extend_loop ?_
  rw [Around.under_plainId F.plain_extend_loop _]
  show wpAny _ A.in1 (pyNext (.ref z) >>= _) _ _ s
  by_cases h0 : 0 < min xs.size ys.size
  · have hx : xs[0]? = some xs[0] := Array.getElem?_eq_getElem (by omega)
    have hy : ys[0]? = some ys[0] := Array.getElem?_eq_getElem (by omega)
    refine wpAny_bind (Z.first A.in1 _ s _ _ _ _ _ hz hTI hTO h1 h2 q1 q2 hx hy fun h' a1 a2 a3 a4 a5 a6 a7 => ?_)
    have hS' := a7 _ _ Sz STO S_1 S_2 hSo
    have ez : ∀ cc o, cc ≠ S → h'.get? cc = some o → (h'.update S (Obj.mapSeq (·.push (Value.ref s.heap.objs.size)))).get? cc = some o := fun cc o hc e => (Heap.get?_update_other _ _ (Ne.symm hc)).trans e
    have szS : s.heap.objs.size ≠ S := Nat.ne_of_gt bS
    have D := Z.D
    show wpAny _ A.in1 (updateSeq S (·.push (.ref s.heap.objs.size)) >>= _) _ _ _
    refine wpAny_bind ?_
    refine wpAny_updateSeq hS' rfl (wpAny_pure ⟨plainId_quiet F.plain_extend_loop _, loop_held hh Z ⟨bz, bTI, b1, b2, bS⟩ ⟨Sz, STI, S_1, S_2, Sl1, Sl2⟩ hn (min xs.size ys.size - 1) 1 _ ((#[] : Array Value).push (.ref s.heap.objs.size)) _ s.heap.objs.size false { cls := .type "tuple", data := .seq #[xs[0], ys[0]] } (by omega) (by omega) ?_
      (ez _ _ (Ne.symm Sz) a1) (ez _ _ szS a5) szS (Nat.le_refl _) (ez _ _ (Ne.symm STI) (a7 _ _ D.TIz D.TITO D.TIi1 D.TIi2 hTI)) (Z.d1.itF _ _ _ a3 fun o e => ez _ _ (Ne.symm S_1) e) (Z.d2.itF _ _ _ a4 fun o e => ez _ _ (Ne.symm S_2) e)
      (Z.d1.sqF _ _ q1 fun o e => ez _ _ (Ne.symm Sl1) (a7 _ _ D.l1z D.l1TO D.l1i1 D.l1i2 e)) (Z.d2.sqF _ _ q2 fun o e => ez _ _ (Ne.symm Sl2) (a7 _ _ D.l2z D.l2TO D.l2i1 D.l2i2 e)) ?_ (Heap.get?_update_self _ hS' rfl) fun h'' acc' c' kp t' hS'' => ?_⟩)
      (by rw [sizeLine_eq]; exact Nat.zero_le _) (by rw [sizeLine_eq]; exact (by decide : 1 ≤ 16777217))
    · show s.heap.objs.size ≤ (h'.update S _).objs.size
      rw [Heap.size_update, a6]
      exact Nat.le_succ _
    · exact Took.push (h := h') (acc := #[]) (i := 0) ⟨rfl, fun j hj => absurd hj (Nat.not_lt_zero _)⟩ (fun cc o hc e => ez _ _ (fun q => by rw [q] at hc; exact absurd (Nat.lt_of_lt_of_le bS hc) (Nat.lt_irrefl _)) e) (Nat.le_refl _) hx hy (ez _ _ szS a5)
    · exact hR h'' acc' c' (fun c o c1 c2 c3 c4 c5 e => kp c o c1 c3 c4 c5 (ez _ _ c5 (a7 _ _ c1 c2 c3 c4 e))) t' hS''
  · have hend : xs[0]? = none ∨ ys[0]? = none := by
      by_cases q : xs.size ≤ 0
      · exact .inl (Array.getElem?_eq_none q)
      · exact .inr (Array.getElem?_eq_none (by omega))
    have e0 : min xs.size ys.size = 0 := by omega
    refine wpAny_bind (Z.none_ A.in1 _ s _ _ _ (by exact hh) hz hTI hTO h1 h2 q1 q2 hend fun h' hk => ?_)
    refine wpAny_pure (hR h' #[] c (fun c o c1 c2 c3 c4 _ e => hk c o c1 c2 c3 c4 e) ?_ (hk _ _ Sz STO S_1 S_2 hSo))
    rw [e0]
    exact ⟨rfl, fun j hj => absurd hj (Nat.not_lt_zero _)⟩
theorem nolen_zip : typeLookup (.type "zip") "__len__" = pure none := am_miss_of_fast (by decide +kernel)
theorem nohint_zip : typeLookup (.type "zip") "__length_hint__" = pure none := am_miss_of_fast (by decide +kernel)

/-- what a zip needs of the heap -/
structure Lay (h : Heap) (z TI TO i1 i2 : Addr) (I1 I2 : Nat → Heap → Prop) (S1 S2 : Heap → Prop) (a b : Value) : Prop where
  hz : IsZip h z TI TO .none
  hTI : IsPair h TI (.ref i1) (.ref i2)
  hTO : IsPair h TO a b
  h1 : I1 0 h
  h2 : I2 0 h
  q1 : S1 h
  q2 : S2 h
theorem Lay.keep {h h' : Heap} {a b : Value} (Z : Zs prog w z TI TO i1 i2 l1 l2 xs ys I1 I2 S1 S2) (L : Lay h z TI TO i1 i2 I1 I2 S1 S2 a b) (k : ∀ c o, h.get? c = some o → c ∈ [z, TI, TO, i1, i2, l1, l2] → h'.get? c = some o) : Lay h' z TI TO i1 i2 I1 I2 S1 S2 a b :=
  ⟨k _ _ L.hz (by simp), k _ _ L.hTI (by simp), k _ _ L.hTO (by simp), Z.d1.itF _ _ _ L.h1 fun o e => k _ _ e (by simp), Z.d2.itF _ _ _ L.h2 fun o e => k _ _ e (by simp),
    Z.d1.sqF _ _ L.q1 fun o e => k _ _ e (by simp), Z.d2.sqF _ _ L.q2 fun o e => k _ _ e (by simp)⟩
theorem zl_extend (hh : A.handled = none) (Z : Zs prog w z TI TO i1 i2 l1 l2 xs ys I1 I2 S1 S2) {s : Shared} {a b : Value} {c₀ : Nat} (L : Lay s.heap z TI TO i1 i2 I1 I2 S1 S2 a b)
    (bnd : z < s.heap.objs.size ∧ TI < s.heap.objs.size ∧ i1 < s.heap.objs.size ∧ i2 < s.heap.objs.size) (hS : S ∉ [z, TI, TO, i1, i2, l1, l2]) (hn : min xs.size ys.size ≤ sizeLine)
    (hSo : s.heap.get? S = some { cls := .type "list", data := .seq #[] c₀ })
    (hR : ∀ h' acc' c', (∀ c o, c ≠ z → c ≠ TO → c ≠ i1 → c ≠ i2 → c ≠ S → s.heap.get? c = some o → h'.get? c = some o) → Took s.heap.objs.size xs ys acc' (min xs.size ys.size) h' →
      h'.get? S = some { cls := .type "list", dict := none, data := .seq acc' c', slots := #[] } → R (.ok (.ret res)) { s with heap := h' }) :
    wpAny (model prog w) A.in1 (Builtin.List.listExtendWith (.ref S) (.ref z) res)
      (fun fin s' => match fin with | .done f => R (.ok f) s' | .again c' => c'.quiet = true ∧ codeAny (model prog w) A c' R s') (fun e s' => R (.error e) s') s := by
  have ne : ∀ c, c ∈ [z, TI, TO, i1, i2, l1, l2] → S ≠ c := fun c hc e => hS (e ▸ hc)
  have hTy : ∀ t : Shared, t.heap.get? z = s.heap.get? z → t.TypeIs (.ref z) "zip" := fun t e => ⟨_, e.trans L.hz, rfl⟩
  have key : ∀ (h : Heap) (c₁ : Nat), h.objs.size = s.heap.objs.size → (∀ b o, b ≠ S → s.heap.get? b = some o → h.get? b = some o) →
      h.get? S = some { cls := .type "list", data := .seq #[] c₁ } → codeAny (model prog w) A (.builtin "list.extend.loop" ⟨[.ref S, .ref z, res], []⟩) R { s with heap := h } := by
    intro h c₁ hsz hk hS₁
    have L' : Lay h z TI TO i1 i2 I1 I2 S1 S2 a b := L.keep Z fun c o e hc => hk c o (Ne.symm (ne c hc)) e
    refine loop_all (s := { s with heap := h }) hh Z ⟨?_, ?_, ?_, ?_, ?_⟩ ⟨ne _ (by simp), ne _ (by simp), ne _ (by simp), ne _ (by simp), ne _ (by simp), ne _ (by simp), ne _ (by simp)⟩ hn L'.hz L'.hTI L'.hTO L'.h1 L'.h2 L'.q1 L'.q2 hS₁ fun h' acc' c' k t e => ?_
    · show z < h.objs.size; rw [hsz]; exact bnd.1
    · show TI < h.objs.size; rw [hsz]; exact bnd.2.1
    · show i1 < h.objs.size; rw [hsz]; exact bnd.2.2.1
    · show i2 < h.objs.size; rw [hsz]; exact bnd.2.2.2
    · exact Heap.lt_size hS₁
    · refine hR h' acc' c' (fun c o e1 e2 e3 e4 e5 q => k c o e1 e2 e3 e4 e5 (hk c o e5 q)) ?_ e
      have t' : Took h.objs.size xs ys acc' (min xs.size ys.size) h' := t
      rw [hsz] at t'
      exact t'
  unfold Builtin.List.listExtendWith
  refine wpAny_bind (wpAny_typeOf (T := "zip") (hTy s rfl) ?_)
  have h1 : Builtin.List.listSameRef (.ref S) (.ref z) = false := by simp [Builtin.List.listSameRef, ne z (by simp)]
  have h2 : (Value.type "zip" == Value.type "list") = false := by decide
  have h3 : (Value.type "zip" == Value.type "tuple") = false := by decide
  simp only [h1, h2, h3, Bool.or_false, Bool.false_eq_true, if_false]
  refine wpAny_bind (wpAny_pyIter_zip L.hz ?_)
  refine wpAny_bind (wpAny_holding ?_)
  unfold Builtin.List.listLengthHint
  refine wpAny_bind (wpAny_specialOf (hTy s rfl) nolen_zip ?_)
  show wpAny _ A.in1 (specialOf (Value.ref z) (Str.ofString "__length_hint__") >>= _) _ _ _
  refine wpAny_bind (wpAny_specialOf (hTy s rfl) nohint_zip ?_)
  refine wpAny_pure ?_
  show wpAny _ A.in1 (rule "list.extend.makes-room" >>= fun _ => Builtin.List.listTouch (.ref S) >>= fun _ => again (.builtin "list.extend.loop" ⟨[.ref S, .ref z, res], []⟩)) _ _ _
  refine wpAny_bind (wpAny_rule ?_)
  refine wpAny_bind ?_
  show wpAny _ _ (updateSeq S (·.push .none) >>= fun _ => updateSeq S (·.pop)) _ _ _
  refine wpAny_bind (wpAny_updateSeq hSo rfl ?_)
  have hS₂ := Heap.get?_update_self (Obj.mapSeq (·.push Value.none)) hSo rfl
  refine wpAny_updateSeq hS₂ rfl ?_
  have hS₃ := Heap.get?_update_self (Obj.mapSeq (·.pop)) hS₂ rfl
  exact wpAny_pure ⟨plainId_quiet PySem.F.plain_extend_loop _, key _ _ (by rw [Heap.size_update, Heap.size_update]) (fun b o hb e => (Heap.get?_update_other _ _ (Ne.symm hb)).trans ((Heap.get?_update_other _ _ (Ne.symm hb)).trans e)) hS₃⟩
theorem zl_call {Q : Value → Shared → Prop} (hh : A.handled = none) (Z : Zs prog w z TI TO i1 i2 l1 l2 xs ys I1 I2 S1 S2) {s : Shared} {a b : Value} (L : Lay s.heap z TI TO i1 i2 I1 I2 S1 S2 a b)
    (bnd : ∀ c ∈ [z, TI, TO, i1, i2, l1, l2], c < s.heap.objs.size) (hn : min xs.size ys.size ≤ sizeLine)
    (hQ : ∀ h' acc' c', (∀ c o, c ≠ z → c ≠ TO → c ≠ i1 → c ≠ i2 → s.heap.get? c = some o → h'.get? c = some o) → Took (s.heap.objs.size + 1) xs ys acc' (min xs.size ys.size) h' →
      h'.get? s.heap.objs.size = some { cls := .type "list", dict := none, data := .seq acc' c', slots := #[] } → Q (.ref s.heap.objs.size) { s with heap := h' }) :
    wpAny (model prog w) A (call (.type "list") [.ref z]) Q E s := by
  refine callType_codes (Q₁ := fun obj s₁ => obj = .ref s.heap.objs.size ∧ s₁ = { s with heap := s.heap.push { cls := .type "list", data := .seq #[] } }) PySem.F.called_list (PySem.F.typeCall_list_1 _) PySem.F.entry_list_init
    (code_list_new _ ⟨rfl, rfl⟩) fun obj s₁ h₁ => ?_
  obtain ⟨rfl, rfl⟩ := h₁
  have hS : (s.heap.push { cls := .type "list", data := .seq #[] }).get? s.heap.objs.size = some { cls := .type "list", data := .seq #[] } := Heap.get?_push_size _ rfl
  have hSn : s.heap.objs.size ∉ [z, TI, TO, i1, i2, l1, l2] := fun hc => Nat.lt_irrefl _ (bnd _ hc)
  refine ⟨⟨_, hS, rfl⟩, PySem.F.args_list_init_2 _ _, ?_⟩
  show wpAny _ _ (do let old ← Builtin.List.listItems (.ref s.heap.objs.size); Builtin.List.listUpdate (.ref s.heap.objs.size) (fun _ => #[]); letGo old.toList.reverse; Builtin.List.listExtendWith (.ref s.heap.objs.size) (.ref z) .none) _ _ _
  refine wpAny_bind ?_
  unfold Builtin.List.listItems
  refine wpAny_bind (wpAny_seqItems hS rfl (wpAny_pure ?_))
  show wpAny _ _ (updateSeq s.heap.objs.size (fun _ => #[]) >>= fun _ => letGo (#[] : Array Value).toList.reverse >>= fun _ => Builtin.List.listExtendWith (.ref s.heap.objs.size) (.ref z) .none) _ _ _
  refine wpAny_bind (wpAny_updateSeq hS rfl ?_)
  have hS₂ := Heap.get?_update_self (Obj.mapSeq (fun _ => (#[] : Array Value))) hS rfl
  have oth : ∀ b o, s.heap.get? b = some o → ((s.heap.push { cls := .type "list", data := .seq #[] }).update s.heap.objs.size (Obj.mapSeq (fun _ => (#[] : Array Value)))).get? b = some o :=
    fun b o e => (Heap.get?_update_other _ _ (Nat.ne_of_gt (Heap.lt_size e))).trans (Heap.get?_push_of_some _ e)
  have sz : ((s.heap.push { cls := .type "list", data := .seq #[] }).update s.heap.objs.size (Obj.mapSeq (fun _ => (#[] : Array Value)))).objs.size = s.heap.objs.size + 1 := by rw [Heap.size_update]; exact Heap.size_push ..
  refine wpAny_bind (wpAny_letGo ?_)
  refine zl_extend (A := A.in1) (s := { s with heap := _ }) (by exact hh) Z (L.keep Z fun c o e _ => oth c o e) ⟨?_, ?_, ?_, ?_⟩ hSn hn hS₂ fun h' acc' c' hk t hS' => ?_
  · show z < Array.size _; rw [sz]; exact Nat.lt_succ_of_lt (bnd _ (by simp))
  · show TI < Array.size _; rw [sz]; exact Nat.lt_succ_of_lt (bnd _ (by simp))
  · show i1 < Array.size _; rw [sz]; exact Nat.lt_succ_of_lt (bnd _ (by simp))
  · show i2 < Array.size _; rw [sz]; exact Nat.lt_succ_of_lt (bnd _ (by simp))
  · refine ⟨rfl, hQ h' acc' c' (fun c o e1 e2 e3 e4 e => hk c o e1 e2 e3 e4 (Nat.ne_of_lt (Heap.lt_size e)) (oth c o e)) ?_ hS'⟩
    have t' := t
    rw [show ({ s with heap := (s.heap.push { cls := .type "list", data := .seq #[] }).update s.heap.objs.size (Obj.mapSeq (fun _ => (#[] : Array Value))) } : Shared).heap.objs.size = s.heap.objs.size + 1 from sz] at t'
    exact t'
end
end ZL

/-! PLY: list(zip(a, b)) in the layer. -/
namespace ZL
open PySem PySem.Spec PyProof.Rows L2

/-- behind list(zip(..)): the list, its pairs, all new -/
def Zipped (H H2 : Hp) (S : Addr) (ps : List Addr) (xs ys : List V) : Prop :=
  Same H H2 ∧ H S = none ∧ H2 S = some (.lst (ps.map V.ref)) ∧ ps.length = min xs.length ys.length ∧
    ∀ (j : Nat) (T : Addr) (x y : V), ps[j]? = some T → xs[j]? = some x → ys[j]? = some y → H T = none ∧ H2 T = some (.tup [x, y])
def tZL (K : PySem.W.Frag) (ta : TA) : TE := fun σ H Q => ta σ H fun vs H1 => ∃ a b xs ys, vs = [V.ref a, V.ref b] ∧ ((SqL K H1 a xs ∧ SqL K H1 b ys) ∨ (SqT K H1 a xs ∧ SqT K H1 b ys)) ∧ min xs.length ys.length ≤ sizeLine ∧
  ∀ S ps H2, Zipped H1 H2 S ps xs ys → Q (.ref S) H2
section
variable {X : Cx} {pins : List (Addr × Obj)} {σ : L2.St} {H : Hp} {s : Shared}
open Classical in
/-- what is tracked behind -/
noncomputable def newH (H : Hp) (h' : Heap) (n S : Addr) (refs : List V) (Ts : List Value) : Hp := fun b =>
  if b = S then some (.lst refs) else if p : n ≤ b ∧ Value.ref b ∈ Ts ∧ ∃ p : V × V, ∃ u w, IsPair h' b u w ∧ RelV p.1 u ∧ RelV p.2 w then some (.tup [(Classical.choose p.2.2).1, (Classical.choose p.2.2).2]) else H b
theorem newH_S {H : Hp} {h' : Heap} {n S : Addr} {refs : List V} {Ts : List Value} : newH H h' n S refs Ts S = some (.lst refs) := by unfold newH; rw [if_pos rfl]
theorem newH_T {H : Hp} {h' : Heap} {n S T : Addr} {refs : List V} {Ts : List Value} {x y : V} {u w : Value} (hS : T ≠ S) (hn : n ≤ T) (ht : Value.ref T ∈ Ts) (p : IsPair h' T u w) (rx : RelV x u) (ry : RelV y w) :
    newH H h' n S refs Ts T = some (.tup [x, y]) := by
  unfold newH
  have q : n ≤ T ∧ Value.ref T ∈ Ts ∧ ∃ p : V × V, ∃ u w, IsPair h' T u w ∧ RelV p.1 u ∧ RelV p.2 w := ⟨hn, ht, (x, y), u, w, p, rx, ry⟩
  rw [if_neg hS, dif_pos q]
  obtain ⟨u', w', p', r1, r2⟩ := Classical.choose_spec q.2.2
  unfold IsPair at p p'
  rw [p] at p'
  injection p' with p'
  have e : (#[u, w] : Array Value) = #[u', w'] := by
    have := congrArg Obj.data p'
    injection this
  have el : [u, w] = [u', w'] := congrArg Array.toList e
  injection el with e1 el
  injection el with e2 _
  subst e1; subst e2
  rw [RelV.inj r1 rx, RelV.inj r2 ry]
theorem newH_old {H : Hp} {h' : Heap} {n S b : Addr} {refs : List V} {Ts : List Value} (hS : b ≠ S) (hn : ¬ n ≤ b) : newH H h' n S refs Ts b = H b := by
  unfold newH
  rw [if_neg hS, dif_neg fun q => hn q.1]
theorem Inv.zipped {h' : Heap} {S : Addr} {acc : Array Value} {c : Nat} {xs ys : List V} {us ws : List Value} (I : Inv X pins σ H s) (k : ∀ c o, s.heap.get? c = some o → h'.get? c = some o)
    (hS : s.heap.objs.size ≤ S) (rx : Vals xs us) (ry : Vals ys ws) (t : Took (S + 1) us.toArray ws.toArray acc (min us.length ws.length) h') (hn : min xs.length ys.length ≤ sizeLine)
    (hSo : h'.get? S = some { cls := .type "list", dict := none, data := .seq acc c, slots := #[] }) :
    ∃ ps H2, Inv X pins σ H2 { s with heap := h' } ∧ Zipped H H2 S ps xs ys := by
  have ex := rx.length
  have ey := ry.length
  have hps : ∃ ps : List Addr, acc.toList = ps.map Value.ref := by
    have : ∀ v ∈ acc.toList, ∃ T, v = Value.ref T := fun v hv => by
      obtain ⟨j, hj⟩ := List.getElem?_of_mem hv
      have hl : j < min us.length ws.length := by
        rw [← t.1, ← Array.length_toList]
        exact (List.getElem?_eq_some_iff.mp hj).1
      obtain ⟨T, x, y, a1, _⟩ := t.2 j hl
      rw [Array.getElem?_toList] at hj
      rw [a1] at hj
      exact ⟨T, (Option.some.inj hj).symm⟩
    generalize acc.toList = l at this
    induction l with
    | nil => exact ⟨[], rfl⟩
    | cons v l ih =>
      obtain ⟨T, rfl⟩ := this v (by simp)
      obtain ⟨ps, rfl⟩ := ih fun v hv => this v (List.mem_cons_of_mem _ hv)
      exact ⟨T :: ps, rfl⟩
  obtain ⟨ps, hps⟩ := hps
  have hlen : ps.length = min xs.length ys.length := by
    have := congrArg List.length hps
    rw [Array.length_toList, List.length_map, t.1] at this
    omega
  have hat : ∀ (j : Nat) (T : Addr) (x y : V), ps[j]? = some T → xs[j]? = some x → ys[j]? = some y → S + 1 ≤ T ∧ Value.ref T ∈ acc.toList ∧ ∃ u w, IsPair h' T u w ∧ RelV x u ∧ RelV y w := by
    intro j T x y e1 e2 e3
    have hj : j < min us.length ws.length := by
      have h1 := (List.getElem?_eq_some_iff.mp e1).1
      omega
    obtain ⟨T', u, w, a1, a2, a3, a4, a5⟩ := t.2 j hj
    have e4 : acc.toList[j]? = some (Value.ref T) := by rw [hps, List.getElem?_map, e1]; rfl
    rw [Array.getElem?_toList, a1] at e4
    have e5 : T' = T := by injection e4 with e4; injection e4
    subst e5
    obtain ⟨u', e6, r1⟩ := rx.get e2
    obtain ⟨w', e7, r2⟩ := ry.get e3
    rw [List.getElem?_toArray] at a3 a4
    rw [a3] at e6; cases e6
    rw [a4] at e7; cases e7
    exact ⟨a2, by rw [hps]; exact List.mem_map.mpr ⟨T', List.mem_of_getElem? e1, rfl⟩, u, w, a5, r1, r2⟩
  have lt1 : ∀ {b o}, s.heap.get? b = some o → b < s.heap.objs.size := fun e => Heap.lt_size e
  have old : ∀ b o, H b = some o → newH H h' s.heap.objs.size S (ps.map V.ref) acc.toList b = some o := fun b o e => by
    have hb : b < s.heap.objs.size := I.hok.lt e
    rw [newH_old (fun q => by rw [q] at hb; exact absurd (Nat.lt_of_lt_of_le hb hS) (Nat.lt_irrefl _)) (Nat.not_le.mpr hb)]
    exact e
  have nw : ∀ b o, newH H h' s.heap.objs.size S (ps.map V.ref) acc.toList b = some o → H b = some o ∨ (b = S ∧ o = .lst (ps.map V.ref)) ∨ ∃ x y u w, o = .tup [x, y] ∧ IsPair h' b u w ∧ RelV x u ∧ RelV y w := fun b o e => by
    unfold newH at e
    split at e
    · rename_i q
      cases e
      exact .inr (.inl ⟨q, rfl⟩)
    · split at e
      · rename_i q
        cases e
        obtain ⟨u, w, r0, r1, r2⟩ := Classical.choose_spec q.2.2
        exact .inr (.inr ⟨_, _, u, w, rfl, r0, r1, r2⟩)
      · exact .inl e
  refine ⟨ps, newH H h' s.heap.objs.size S (ps.map V.ref) acc.toList, ?_, fun b o e => old b o e, I.hok.fresh hS, newH_S, hlen, fun j T x y e1 e2 e3 => ?_⟩
  · refine I.un (t' := s.toks) ⟨fun b o e _ _ _ => k b o e, fun b o e _ _ _ => ⟨o.slots, k b o e⟩, fun b o e n _ => ?_, fun b o e _ => ⟨o, k b o e⟩, fun b xs e => old _ _ e, fun b o u e => old _ _ e, fun b p e => ⟨#[], by rw [old _ _ e]; simp⟩⟩ ?_
    · have hb := lt1 e
      rw [newH_old (fun q => by rw [q] at hb; exact absurd (Nat.lt_of_lt_of_le hb hS) (Nat.lt_irrefl _)) (Nat.not_le.mpr hb)]
      exact n
    · intro b o e
      rcases nw b o e with q | ⟨rfl, rfl⟩ | ⟨x, y, u, w, rfl, p, r1, r2⟩
      · exact (I.hok b o q).stay (fun b u _ q => k b u q) (fun _ q => old _ _ q) fun _ _ q => old _ _ q
      · refine ⟨by rw [List.length_map, hlen]; exact hn, acc.toList, c, ?_, by simpa using hSo⟩
        rw [hps]
        clear hps hlen hat old nw e
        induction ps with
        | nil => exact .nil
        | cons T r ih => exact .cons rfl ih
      · exact ⟨by rw [sizeLine_eq]; exact (by decide : 2 ≤ 16777216), [u, w], .cons r1 (.cons r2 .nil), _, p, rfl, _, rfl⟩
  · obtain ⟨a1, a2, u, w, p, r1, r2⟩ := hat j T x y e1 e2 e3
    have hST : s.heap.objs.size ≤ T := Nat.le_trans hS (Nat.le_of_succ_le a1)
    exact ⟨I.hok.fresh hST, newH_T (Nat.ne_of_gt a1) hST a2 p r1 r2⟩
theorem pe_lzip {e e2 : Expr} {ta : TA} {p pos p2 pos2 : Pos} (hc : X.calm = true) (hg : Gl X "zip") (hm : X.mg "zip" = none) (hg2 : Gl X "list") (hm2 : X.mg "list" = none) (ha : PA X [e, e2] ta)
    (hs : starEach [e, e2] X.env = (false, eval e X.env) :: starEach [e2] X.env := by rfl) (hpl : (backTo pos (starEach [e2] X.env)).any (·.1) = false := by rfl)
    (hs2 : starEach [.Call (.Name "zip" p) [e, e2] [] pos] X.env = (false, eval (.Call (.Name "zip" p) [e, e2] [] pos) X.env) :: starEach [] X.env := by rfl) (hpl2 : (backTo pos2 (starEach [] X.env)).any (·.1) = false := by rfl) :
    PE X (.Call (.Name "list" p2) [.Call (.Name "zip" p) [e, e2] [] pos] [] pos2) (tZL X.K ta) := by
  refine ⟨fun pins s σ H Q I h => ?_⟩
  refine Call_ (ld_blt I hg2 hm2 PyProof.Rows.boot_list (PyProof.Rows.callWith_type1 ?_ hs2 hpl2))
  rw [hs2]
  show wpAny _ _ (spliced ((false, eval _ X.env) :: backTo pos2 (starEach [] X.env))) _ _ s
  refine Calls.spliced_cons ?_
  refine Call_ (ld_blt I hg hm PyProof.Rows.boot_zip (PyProof.Rows.callWith_type1 (thn (ha.run pos pins s σ H _ I h) fun us s1 ⟨vs, H1, I1, r1, q1⟩ => ?_) hs hpl))
  obtain ⟨a, b, xs, ys, ex, hq, hn, q⟩ := q1
  subst ex
  cases r1 with
  | cons r rr =>
    cases rr with
    | cons r' rr =>
      cases rr
      cases r
      cases r'
      have fin : ∀ {us ws : List Value} {I1' I2' : Nat → Heap → Prop} {S1' S2' : Heap → Prop} {h' : Heap}, Vals xs us → Vals ys ws → a < s1.heap.objs.size → b < s1.heap.objs.size →
          Zs X.prog X.w (s1.heap.objs.size + 4) (s1.heap.objs.size + 2) (s1.heap.objs.size + 3) s1.heap.objs.size (s1.heap.objs.size + 1) a b us.toArray ws.toArray I1' I2' S1' S2' →
          Lay h' (s1.heap.objs.size + 4) (s1.heap.objs.size + 2) (s1.heap.objs.size + 3) s1.heap.objs.size (s1.heap.objs.size + 1) I1' I2' S1' S2' .none .none → h'.objs.size = s1.heap.objs.size + 5 →
          (∀ c o, s1.heap.get? c = some o → h'.get? c = some o) →
          wpAny (model X.prog X.w) X.A (spliced (backTo pos2 (starEach [] X.env))) (fun vs s2 => wpAny (model X.prog X.w) X.A (call (.type "list") (.ref (s1.heap.objs.size + 4) :: vs)) (EP X pins σ Q) X.xe s2) X.xe { s1 with heap := h' } := by
        intro us ws I1' I2' S1' S2' h' ru rw' hla hlb Z L hsz hk
        refine Calls.spliced_nil ?_
        have lu := ru.length
        have lw := rw'.length
        have e1 : us.toArray.size = us.length := by simp
        have e2 : ws.toArray.size = ws.length := by simp
        have hla' : a < s1.heap.objs.size + 5 := Nat.lt_of_lt_of_le hla (Nat.le_add_right _ _)
        have hlb' : b < s1.heap.objs.size + 5 := Nat.lt_of_lt_of_le hlb (Nat.le_add_right _ _)
        refine zl_call (s := { s1 with heap := h' }) (I1.ok.hd hc) Z L (fun c hcm => ?_) (by rw [e1, e2]; omega) fun h'' acc' c' k t hS => ?_
        · show c < h'.objs.size
          rw [hsz]
          have h5 : ∀ i, i < 5 → s1.heap.objs.size + i < s1.heap.objs.size + 5 := fun i hi => Nat.add_lt_add_left hi _
          simp only [List.mem_cons, List.not_mem_nil, or_false] at hcm
          rcases hcm with q | q | q | q | q | q | q
          · rw [q]; exact h5 4 (by decide)
          · rw [q]; exact h5 2 (by decide)
          · rw [q]; exact h5 3 (by decide)
          · rw [q]; exact h5 0 (by decide)
          · rw [q]; exact h5 1 (by decide)
          · rw [q]; exact hla'
          · rw [q]; exact hlb'
        · have hsz' : ({ s1 with heap := h' } : Shared).heap.objs.size = s1.heap.objs.size + 5 := hsz
          rw [hsz'] at t hS
          rw [hsz']
          have ne : ∀ i c o, s1.heap.get? c = some o → c ≠ s1.heap.objs.size + i := fun i c o e => Nat.ne_of_lt (Nat.lt_of_lt_of_le (Heap.lt_size e) (Nat.le_add_right _ _))
          rw [e1, e2] at t
          obtain ⟨ps, H2, I2, z⟩ := ZL.Inv.zipped I1 (fun c o e => k c o (ne 4 c o e) (ne 3 c o e) (ne 0 c o e) (ne 1 c o e) (hk c o e)) (Nat.le_add_right _ 5) ru rw' t hn hS
          exact ⟨.ref _, H2, I2, rfl, q _ ps H2 z⟩
      rcases hq with ⟨hqx, hqy⟩ | ⟨hqx, hqy⟩
      · obtain ⟨its, rv, p1, _⟩ := I1.list hqx
        obtain ⟨its2, rv2, p2, _⟩ := I1.list hqy
        refine call_zip_2 p1.isList p2.isList fun h' hz hTI hTO h1 h2 hsz hk => ?_
        exact fin rv rv2 p1.lt p2.lt (zsL (PySem.W.ktu_apart s1.heap.objs.size a b p1.lt p2.lt) _ _) ⟨hz, hTI, hTO, h1, h2, (p1.isList).at fun o e => hk _ o e, (p2.isList).at fun o e => hk _ o e⟩ hsz hk
      · obtain ⟨its, rv, p1, _⟩ := I1.tuple hqx
        obtain ⟨its2, rv2, p2, _⟩ := I1.tuple hqy
        obtain ⟨o1, ho1, _⟩ := id p1
        obtain ⟨o2, ho2, _⟩ := id p2
        have p1' : s1.heap.IsTuple a its.toArray := p1
        have p2' : s1.heap.IsTuple b its2.toArray := p2
        refine RZ.call_zipT p1' p2' fun h' hz hTI hTO h1 h2 hsz hk => ?_
        exact fin rv rv2 (Heap.lt_size ho1) (Heap.lt_size ho2) (zsT (PySem.W.ktu_apart s1.heap.objs.size a b (Heap.lt_size ho1) (Heap.lt_size ho2)) _ _) ⟨hz, hTI, hTO, h1, h2, p1'.at fun o e => hk _ o e, p2'.at fun o e => hk _ o e⟩ hsz hk
end
end ZL

/-! PL7: rules for expressions, by data. -/
namespace PL
open PySem PySem.Spec PyProof.Rows L2

/-- exceptions that leave here are taken -/
abbrev WE (Wx : WX) : XK := fun c d H => ∀ σ, Wx c d σ H
section
variable {X : Cx} {Wx : WX} {e a b c : Expr} {es : List Expr} {pos : Pos} {fa fb fc : EnvD → Wd → R D}
theorem e_var {i : Nat} {x : Str} (hN : X.N[i]? = some x) (hv : Vis X.env.scope x) (hd : (x == ("__debug__" : Str)) = false) (hcd : (x == ("__classdict__" : Str)) = false) :
    PE X (.Name x pos) (tE (mdOf X) Wx fun ρ W => match ρ[i]? with | some (some d) => .ok d W | _ => .bad) := by
  refine (pe_var hN hv hd hcd).imp fun σ H Q ⟨ρ, m, W, he, hw, h⟩ => ?_
  dsimp only at h
  split at h
  · rename_i d e
    obtain ⟨v, h1, h2⟩ := he.at_ i d e
    exact ⟨v, h1, h.okI hw v h2⟩
  · exact h.elim
theorem e_cst {v : V} {d : D} (h : PE X e (tC v)) (hd : ∀ m H, Is (mdOf X) m H v d) : PE X e (tE (mdOf X) Wx fun _ W => .ok d W) :=
  h.imp fun σ H Q ⟨ρ, m, W, he, hw, h⟩ => h.okI hw v (hd m H)
theorem e_bin {op : Operator} {g : Wd → D → D → Option D} (ho : OpR X (binaryOp op) (rD (mdOf X) g)) (ha : PE X a (tE (mdOf X) Wx fa)) (hb : PE X b (tE (mdOf X) Wx fb)) :
    PE X (.BinOp a op b pos) (tE (mdOf X) Wx fun ρ W => (fa ρ W).bnd fun x W => (fb ρ W).bnd fun y W => ofO (g W x y) W) :=
  (pe_op ho ha hb).imp fun σ H Q ⟨ρ, m, W, he, hw, h⟩ => ⟨ρ, m, W, he, hw, h.bnd.imp fun x m1 W1 H1 s1 hw1 h1 v hv => ⟨ρ, m1, W1, he.mono s1, hw1, h1.bnd.imp fun y m2 W2 H2 s2 hw2 h2 u hu => by
    obtain ⟨d, e, k⟩ := h2.ofO hw2
    exact ⟨m2, W2, x, y, d, hw2, hv.mono s2, hu, e, fun v' H' s' is => k H' s' v' is⟩⟩⟩
theorem e_cmp {op : CmpOp} {g : Wd → D → D → Option D} (ho : OpR X (compareOp op) (rD (mdOf X) g)) (ha : PE X a (tE (mdOf X) Wx fa)) (hb : PE X b (tE (mdOf X) Wx fb)) (hm : behindInMarks op b = false) :
    PE X (.Compare a [op] [b] pos) (tE (mdOf X) Wx fun ρ W => (fa ρ W).bnd fun x W => (fb ρ W).bnd fun y W => ofO (g W x y) W) :=
  (pe_cmpR ho ha hb hm).imp fun σ H Q ⟨ρ, m, W, he, hw, h⟩ => ⟨ρ, m, W, he, hw, h.bnd.imp fun x m1 W1 H1 s1 hw1 h1 v hv => ⟨ρ, m1, W1, he.mono s1, hw1, h1.bnd.imp fun y m2 W2 H2 s2 hw2 h2 u hu => by
    obtain ⟨d, e, k⟩ := h2.ofO hw2
    exact ⟨m2, W2, x, y, d, hw2, hv.mono s2, hu, e, fun v' H' s' is => k H' s' v' is⟩⟩⟩
/-- what comparisons give is a bool -/
def Bo (g : Wd → D → D → Option D) : Prop := ∀ W x y d, g W x y = some d → ∃ k, d = .bl k
theorem is_bl {M : Md} {m : Ms} {H : Hp} {v : V} {k : Bool} (h : Is M m H v (.bl k)) : v = .bl k := by cases h; rfl
theorem t_cmp {op : CmpOp} {g : Wd → D → D → Option D} (bo : Bo g) (ho : OpR X (compareOp op) (rD (mdOf X) g)) (ha : PE X a (tE (mdOf X) Wx fa)) (hb : PE X b (tE (mdOf X) Wx fb)) (hm : behindInMarks op b = false) :
    PT X (.Compare a [op] [b] pos) (tB (mdOf X) Wx fun ρ W => truR ((fa ρ W).bnd fun x W => (fb ρ W).bnd fun y W => ofO (g W x y) W)) :=
  (pt_cmpR ho ha hb hm).imp fun σ H Q ⟨ρ, m, W, he, hw, h⟩ => by
    refine ⟨ρ, m, W, he, hw, h.bnd.bnd.imp fun x m1 W1 H1 s1 hw1 h1 v hv => ⟨ρ, m1, W1, he.mono s1, hw1, h1.bnd.imp fun y m2 W2 H2 s2 hw2 h2 u hu => ?_⟩⟩
    obtain ⟨d, e, k⟩ := h2.ofO hw2
    obtain ⟨q, rfl⟩ := bo _ _ _ _ e
    refine ⟨m2, W2, x, y, _, hw2, hv.mono s2, hu, e, fun v' H' s' is => ⟨q, is_bl is, ?_⟩⟩
    exact (k H' s').okI (hw2.mono s')
theorem e_chain {op op' : CmpOp} {g g' : Wd → D → D → Option D} (bo : Bo g) (ho : OpR X (compareOp op) (rD (mdOf X) g)) (ho' : OpR X (compareOp op') (rD (mdOf X) g')) (ha : PE X a (tE (mdOf X) Wx fa)) (hb : PE X b (tE (mdOf X) Wx fb)) (hc : PE X c (tE (mdOf X) Wx fc))
    (hm : lastMarks [op, op'] [b, c] = false) :
    PE X (.Compare a [op, op'] [b, c] pos) (tE (mdOf X) Wx fun ρ W => (fa ρ W).bnd fun x W => (fb ρ W).bnd fun y W => (ofO (g W x y) W).bnd fun z W => match z with
      | .bl true => (fc ρ W).bnd fun w W => ofO (g' W y w) W
      | .bl false => .ok (.bl false) W
      | _ => .bad) :=
  (pe_chain ho ho' ha hb hc hm).imp fun σ H Q ⟨ρ, m, W, he, hw, h⟩ => by
    refine ⟨ρ, m, W, he, hw, h.bnd.imp fun x m1 W1 H1 s1 hw1 h1 v hv => ⟨ρ, m1, W1, he.mono s1, hw1, h1.bnd.imp fun y m2 W2 H2 s2 hw2 h2 u hu => ?_⟩⟩
    obtain ⟨d, e, k⟩ := h2.bnd.ofO hw2
    obtain ⟨q, rfl⟩ := bo _ _ _ _ e
    refine ⟨m2, W2, x, y, _, hw2, hv.mono s2, hu, e, fun v' H' s' is => ⟨q, is_bl is, ?_⟩⟩
    have k' := k H' s'
    cases q with
    | true =>
      refine ⟨ρ, m2, W2, (he.mono s1).mono (s2.trans (.same s')), hw2.mono s', k'.bnd.imp fun z m3 W3 H3 s3 hw3 h3 w hz => ?_⟩
      obtain ⟨d, e, k⟩ := h3.ofO hw3
      exact ⟨m3, W3, y, z, d, hw3, (hu.mono (.same s')).mono s3, hz, e, fun v' H' s' is => k H' s' v' is⟩
    | false => exact k'.okI (hw2.mono s') _ (.bl _)
theorem t_chain {op op' : CmpOp} {g g' : Wd → D → D → Option D} (bo : Bo g) (bo' : Bo g') (ho : OpR X (compareOp op) (rD (mdOf X) g)) (ho' : OpR X (compareOp op') (rD (mdOf X) g')) (ha : PE X a (tE (mdOf X) Wx fa)) (hb : PE X b (tE (mdOf X) Wx fb)) (hc : PE X c (tE (mdOf X) Wx fc))
    (hm : lastMarks [op, op'] [b, c] = false) :
    PT X (.Compare a [op, op'] [b, c] pos) (tB (mdOf X) Wx fun ρ W => truR ((fa ρ W).bnd fun x W => (fb ρ W).bnd fun y W => (ofO (g W x y) W).bnd fun z W => match z with
      | .bl true => (fc ρ W).bnd fun w W => ofO (g' W y w) W
      | .bl false => .ok (.bl false) W
      | _ => .bad)) :=
  (pt_chain ho ho' ha hb hc hm).imp fun σ H Q ⟨ρ, m, W, he, hw, h⟩ => by
    refine ⟨ρ, m, W, he, hw, h.bnd.bnd.imp fun x m1 W1 H1 s1 hw1 h1 v hv => ⟨ρ, m1, W1, he.mono s1, hw1, h1.bnd.imp fun y m2 W2 H2 s2 hw2 h2 u hu => ?_⟩⟩
    obtain ⟨d, e, k⟩ := h2.bnd.ofO hw2
    obtain ⟨q, rfl⟩ := bo _ _ _ _ e
    refine ⟨m2, W2, x, y, _, hw2, hv.mono s2, hu, e, fun v' H' s' is => ⟨q, is_bl is, ?_⟩⟩
    have k' := k H' s'
    cases q with
    | true =>
      refine ⟨ρ, m2, W2, (he.mono s1).mono (s2.trans (.same s')), hw2.mono s', k'.bnd.imp fun z m3 W3 H3 s3 hw3 h3 w hz => ?_⟩
      obtain ⟨d, e, k⟩ := h3.ofO hw3
      obtain ⟨q', rfl⟩ := bo' _ _ _ _ e
      refine ⟨m3, W3, y, z, _, hw3, (hu.mono (.same s')).mono s3, hz, e, fun v' H' s' is => ⟨q', is_bl is, ?_⟩⟩
      exact (k H' s').okI (hw3.mono s')
    | false => exact ⟨false, rfl, (k'.okI (hw2.mono s')).okI (hw2.mono s')⟩
theorem e_neg (ha : PE X a (tE (mdOf X) Wx fa)) : PE X (.UnaryOp .USub a pos) (tE (mdOf X) Wx fun ρ W => (fa ρ W).bnd fun x W => ofO (dNeg W x) W) :=
  (pe_un und_neg ha).imp fun σ H Q ⟨ρ, m, W, he, hw, h⟩ => ⟨ρ, m, W, he, hw, h.bnd.imp fun x m1 W1 H1 s1 hw1 h1 v hv => by
    obtain ⟨d, e, k⟩ := h1.ofO hw1
    exact ⟨m1, W1, x, d, hw1, hv, e, fun v' H' s' is => k H' s' v' is⟩⟩
theorem e_not (ha : PE X a (tE (mdOf X) Wx fa)) : PE X (.UnaryOp .Not a pos) (tE (mdOf X) Wx fun ρ W => (fa ρ W).bnd fun x W => (ofO (truth W x) W).bnd fun b W => .ok (.bl !b) W) :=
  (pe_notT ha).imp fun σ H Q ⟨ρ, m, W, he, hw, h⟩ => ⟨ρ, m, W, he, hw, h.bnd.imp fun x m1 W1 H1 s1 hw1 h1 v hv => by
    obtain ⟨d, e, k⟩ := h1.bnd.ofO hw1
    exact ⟨d, hv.tru hw1 e, (k H1 (Same.refl _)).okI hw1 _ (.bl _)⟩⟩
theorem t_not {fb : EnvD → Wd → R Bool} (ha : PT X a (tB (mdOf X) Wx fb)) : PT X (.UnaryOp .Not a pos) (tB (mdOf X) Wx fun ρ W => (fb ρ W).bnd fun b W => .ok (!b) W) :=
  (pt_not ha).imp fun σ H Q ⟨ρ, m, W, he, hw, h⟩ => ⟨ρ, m, W, he, hw, h.bnd.imp fun x m1 W1 H1 s1 hw1 h1 => h1.okI hw1⟩
theorem e_and {rest : List Expr} (ha : PE X a (tE (mdOf X) Wx fa)) (hb : PE X (.BoolOp .And (b :: rest) pos) (tE (mdOf X) Wx fb)) :
    PE X (.BoolOp .And (a :: b :: rest) pos) (tE (mdOf X) Wx fun ρ W => (fa ρ W).bnd fun x W => (ofO (truth W x) W).bnd fun t W => if t = true then fb ρ W else .ok x W) :=
  (pe_andT ha hb).imp fun σ H Q ⟨ρ, m, W, he, hw, h⟩ => ⟨ρ, m, W, he, hw, h.bnd.imp fun x m1 W1 H1 s1 hw1 h1 v hv => by
    obtain ⟨d, e, k⟩ := h1.bnd.ofO hw1
    refine ⟨d, hv.tru hw1 e, ?_⟩
    have k' := k H1 (Same.refl _)
    cases d with
    | true => exact ⟨ρ, m1, W1, he.mono s1, hw1, k'⟩
    | false => exact k'.okI hw1 v hv⟩
theorem e_or {rest : List Expr} (ha : PE X a (tE (mdOf X) Wx fa)) (hb : PE X (.BoolOp .Or (b :: rest) pos) (tE (mdOf X) Wx fb)) :
    PE X (.BoolOp .Or (a :: b :: rest) pos) (tE (mdOf X) Wx fun ρ W => (fa ρ W).bnd fun x W => (ofO (truth W x) W).bnd fun t W => if t = true then .ok x W else fb ρ W) :=
  (pe_orT ha hb).imp fun σ H Q ⟨ρ, m, W, he, hw, h⟩ => ⟨ρ, m, W, he, hw, h.bnd.imp fun x m1 W1 H1 s1 hw1 h1 v hv => by
    obtain ⟨d, e, k⟩ := h1.bnd.ofO hw1
    refine ⟨d, hv.tru hw1 e, ?_⟩
    have k' := k H1 (Same.refl _)
    cases d with
    | true => exact k'.okI hw1 v hv
    | false => exact ⟨ρ, m1, W1, he.mono s1, hw1, k'⟩⟩
theorem w_and {rest : List Expr} {fa fb : EnvD → Wd → R Bool} (ha : PT X a (tB (mdOf X) Wx fa)) (hb : PW X (.BoolOp .And (b :: rest) pos) (tB (mdOf X) Wx fb)) :
    PW X (.BoolOp .And (a :: b :: rest) pos) (tB (mdOf X) Wx fun ρ W => (fa ρ W).bnd fun t W => if t = true then fb ρ W else .ok false W) :=
  (pw_and ha hb).imp fun σ H Q ⟨ρ, m, W, he, hw, h⟩ => ⟨ρ, m, W, he, hw, h.bnd.imp fun x m1 W1 H1 s1 hw1 h1 => by
    cases x with
    | true => exact ⟨ρ, m1, W1, he.mono s1, hw1, h1⟩
    | false => exact h1.okI hw1⟩
theorem w_or {rest : List Expr} {fa fb : EnvD → Wd → R Bool} (ha : PT X a (tB (mdOf X) Wx fa)) (hb : PW X (.BoolOp .Or (b :: rest) pos) (tB (mdOf X) Wx fb)) :
    PW X (.BoolOp .Or (a :: b :: rest) pos) (tB (mdOf X) Wx fun ρ W => (fa ρ W).bnd fun t W => if t = true then .ok true W else fb ρ W) :=
  (pw_or ha hb).imp fun σ H Q ⟨ρ, m, W, he, hw, h⟩ => ⟨ρ, m, W, he, hw, h.bnd.imp fun x m1 W1 H1 s1 hw1 h1 => by
    cases x with
    | true => exact h1.okI hw1
    | false => exact ⟨ρ, m1, W1, he.mono s1, hw1, h1⟩⟩
theorem t_truth (ha : PE X a (tE (mdOf X) Wx fa)) (hp : ∀ whole, isTrue a X.env whole = (do let v ← whole; standAt a.pos; holding [v] (truthy v))) : PT X a (tB (mdOf X) Wx fun ρ W => truR (fa ρ W)) :=
  (pt_truth ha hp).imp fun σ H Q ⟨ρ, m, W, he, hw, h⟩ => ⟨ρ, m, W, he, hw, h.bnd.imp fun x m1 W1 H1 s1 hw1 h1 v hv => by
    obtain ⟨d, e, k⟩ := h1.ofO hw1
    exact ⟨d, hv.tru hw1 e, k H1 (Same.refl _)⟩⟩
theorem e_ite {ft : EnvD → Wd → R Bool} (ht : PT X c (tB (mdOf X) Wx ft)) (ha : PE X a (tE (mdOf X) Wx fa)) (hb : PE X b (tE (mdOf X) Wx fb)) :
    PE X (.IfExp c a b pos) (tE (mdOf X) Wx fun ρ W => (ft ρ W).bnd fun k W => if k = true then fa ρ W else fb ρ W) :=
  (pe_ifExp ht ha hb).imp fun σ H Q ⟨ρ, m, W, he, hw, h⟩ => ⟨ρ, m, W, he, hw, h.bnd.imp fun x m1 W1 H1 s1 hw1 h1 => by
    cases x with
    | true => exact ⟨ρ, m1, W1, he.mono s1, hw1, h1⟩
    | false => exact ⟨ρ, m1, W1, he.mono s1, hw1, h1⟩⟩
/-! ### argument lists -/
theorem a_nil : PA X [] (tAs (mdOf X) Wx fun _ W => .ok [] W) := pa_nil.imp fun σ H Q ⟨ρ, m, W, he, hw, h⟩ => h.okI hw _ .nil
theorem a_cons {fs : EnvD → Wd → R (List D)} (ha : PE X e (tE (mdOf X) Wx fa)) (hr : PA X es (tAs (mdOf X) Wx fs)) (hs : starEach (e :: es) X.env = (false, eval e X.env) :: starEach es X.env) :
    PA X (e :: es) (tAs (mdOf X) Wx fun ρ W => (fa ρ W).bnd fun x W => (fs ρ W).bnd fun xs W => .ok (x :: xs) W) :=
  (pa_cons ha hr hs).imp fun σ H Q ⟨ρ, m, W, he, hw, h⟩ => ⟨ρ, m, W, he, hw, h.bnd.imp fun x m1 W1 H1 s1 hw1 h1 v hv => ⟨ρ, m1, W1, he.mono s1, hw1, h1.bnd.imp fun xs m2 W2 H2 s2 hw2 h2 vs hvs =>
    h2.okI hw2 _ (.cons (hv.mono s2) hvs)⟩⟩
variable {fs : EnvD → Wd → R (List D)}
theorem e_tup {k : Nat} (h : PA X es (tAs (mdOf X) Wx fs)) : PE X (.Tuple es k pos) (tE (mdOf X) Wx fun ρ W => (fs ρ W).bnd fun ds W => if ds.length ≤ 16777216 then .ok (.tup ds) W else .bad) :=
  (pe_tup h).imp fun σ H Q ⟨ρ, m, W, he, hw, h⟩ => ⟨ρ, m, W, he, hw, h.bnd.imp fun xs m1 W1 H1 s1 hw1 h1 vs hvs => by
    obtain ⟨hl, h1⟩ := h1.ite
    exact ⟨by rw [hvs.length, sizeLine_eq]; exact hl, fun p hp => h1.okS hw1 (same_upd hp) _ (hw1.newT hp hvs)⟩⟩
theorem e_lst (h : PA X es (tAs (mdOf X) Wx fs)) : PE X (.List es pos) (tE (mdOf X) Wx fun ρ W => (fs ρ W).bnd fun ds W => if ds.length ≤ 16777216 then .ok (.lst ds) W else .bad) :=
  (pe_lst h).imp fun σ H Q ⟨ρ, m, W, he, hw, h⟩ => ⟨ρ, m, W, he, hw, h.bnd.imp fun xs m1 W1 H1 s1 hw1 h1 vs hvs => by
    obtain ⟨hl, h1⟩ := h1.ite
    exact ⟨by rw [hvs.length, sizeLine_eq]; exact hl, fun p hp => h1.okS hw1 (same_upd hp) _ (hw1.newL hp hvs)⟩⟩
/-- a list that will change -/
theorem WOk.push {M : Md} {m : Ms} {W : Wd} {H : Hp} {p : Addr} {vs : List V} {ds : List D} (h : WOk M m W H) (hp : H p = none) (r : IsAll M m H vs ds) :
    Step m H ⟨m.ch ++ [p], m.op⟩ (upd H p (.lst vs)) ∧ WOk M ⟨m.ch ++ [p], m.op⟩ (W ++ [ds]) (upd H p (.lst vs)) ∧ Is M ⟨m.ch ++ [p], m.op⟩ (upd H p (.lst vs)) (.ref p) (.ref W.length) := by
  have ne : ∀ a o, H a = some o → a ≠ p := fun a o e q => by rw [q, hp] at e; cases e
  have st : Step m H ⟨m.ch ++ [p], m.op⟩ (upd H p (.lst vs)) := by
    refine ⟨⟨⟨[p], rfl⟩, fun a o n e => ⟨by rw [upd_ne (ne a o e)]; exact e, ?_⟩⟩, rfl, fun a _ o e => by rw [upd_ne (ne a o e)]; exact e⟩
    rintro (z | z)
    · rcases List.mem_append.mp z with z | z
      · exact n (.inl z)
      · exact ne a o e (List.mem_singleton.mp z)
    · exact n (.inr z)
  have at' : (m.ch ++ [p])[W.length]? = some p := by rw [← h.len]; simp
  refine ⟨st, ⟨by simp [h.len], ?_, fun i xs e => ?_, fun a ha => ?_⟩, .ref at'⟩
  · rw [List.nodup_append]
    exact ⟨h.nd, by simp, fun a ha b hb => by rw [List.mem_singleton.mp hb]; exact fun q => h.notIn hp (.inl (q ▸ ha))⟩
  · by_cases hi : i < W.length
    · rw [List.getElem?_append_left hi] at e
      obtain ⟨a, us, e1, e2, e3⟩ := h.at_ i xs e
      exact ⟨a, us, by show (m.ch ++ [p])[i]? = some a; rw [List.getElem?_append_left (by rw [h.len]; exact hi)]; exact e1, by rw [upd_ne (ne a _ e2)]; exact e2, e3.mono st⟩
    · have hi' : i = W.length := by
        have := (List.getElem?_eq_some_iff.mp e).1
        simp at this; omega
      subst hi'
      rw [List.getElem?_append_right (Nat.le_refl _)] at e
      simp at e
      subst e
      exact ⟨p, vs, at', upd_same, r.mono st⟩
  · obtain ⟨n, o, e⟩ := h.opn a ha
    refine ⟨fun z => ?_, o, by rw [upd_ne (ne a o e)]; exact e⟩
    rcases List.mem_append.mp z with z | z
    · exact n z
    · exact ne a o e (List.mem_singleton.mp z)
theorem e_new (h : PA X es (tAs (mdOf X) Wx fs)) : PE X (.List es pos) (tE (mdOf X) Wx fun ρ W => (fs ρ W).bnd fun ds W => if ds.length ≤ 16777216 then .ok (.ref W.length) (W ++ [ds]) else .bad) :=
  (pe_lst h).imp fun σ H Q ⟨ρ, m, W, he, hw, h⟩ => ⟨ρ, m, W, he, hw, h.bnd.imp fun xs m1 W1 H1 s1 hw1 h1 vs hvs => by
    obtain ⟨hl, h1⟩ := h1.ite
    refine ⟨by rw [hvs.length, sizeLine_eq]; exact hl, fun p hp => ?_⟩
    obtain ⟨a1, a2, a3⟩ := hw1.push hp hvs
    exact h1 _ _ a1 a2 _ a3⟩
/-! ### calls -/
theorem aft_we {α : Type} {M : Md} {m : Ms} {H : Hp} {r : R α} {k : α → Ms → Wd → Hp → Prop} (h : aft M Wx m H r k) : aft M (fun c d _ H' => WE Wx c d H') m H r k := by
  cases r with
  | ok a W => exact h
  | err e W => exact fun c d _ m' H' s hw x σ => h c d σ m' H' s hw x
  | bad => exact h
theorem e_call {k : Nat} {f : Addr} {fd : FuncData} {ps : List Str} {g : List D → Wd → R D} {x : Str} {p : Pos} (F : FnOk X.prog X.w X.K X.mg X.base (L2.CX X.prog X.w) k f fd ps (spD (mdOf X) g)) (hr : Room k X.A) (hg : Gl X x) (hm : X.mg x = some (.ref f)) (hk : PySem.W.keepIn X.K (.ref f) = true)
    (hb : Binds X.K fd ps []) (tk : Takes X Wx) (ha : PA X (e :: es) (tAs (mdOf X) Wx fs)) (hdb : (x == ("__debug__" : Str)) = false) (he : starEach (e :: es) X.env = (false, eval e X.env) :: starEach es X.env) (hpl : (backTo pos (starEach es X.env)).any (·.1) = false) :
    PE X (.Call (.Name x p) (e :: es) [] pos) (tE (mdOf X) Wx fun ρ W => (fs ρ W).bnd fun ds W => g ds W) :=
  (pe_call (E := WE Wx) F hr hg hm hk hb .nil (passes_call tk fun c d σ H h => h σ) ha hdb he hpl).imp fun σ H Q ⟨ρ, m, W, he, hw, h⟩ => ⟨ρ, m, W, he, hw, h.bnd.imp fun xs m1 W1 H1 s1 hw1 h1 vs hvs => by
    show spD (mdOf X) g (vs ++ []) H1 Q (WE Wx)
    rw [List.append_nil]
    exact ⟨m1, W1, xs, hw1, hvs, aft_we h1⟩⟩
theorem e_call0 {k : Nat} {f : Addr} {fd : FuncData} {ps : List Str} {g : List D → Wd → R D} {x : Str} {p : Pos} (F : FnOk X.prog X.w X.K X.mg X.base (L2.CX X.prog X.w) k f fd ps (spD (mdOf X) g)) (hr : Room k X.A) (hg : Gl X x) (hm : X.mg x = some (.ref f)) (hk : PySem.W.keepIn X.K (.ref f) = true)
    (hb : Binds X.K fd ps []) (tk : Takes X Wx) (hdb : (x == ("__debug__" : Str)) = false) :
    PE X (.Call (.Name x p) [] [] pos) (tE (mdOf X) Wx fun ρ W => g [] W) :=
  (pe_call0 (E := WE Wx) F hr hg hm hk hb .nil (passes_call tk fun c d σ H h => h σ) hdb).imp fun σ H Q ⟨ρ, m, W, he, hw, h⟩ => ⟨m, W, [], hw, .nil, aft_we h⟩
theorem e_callB {id : String} {g : Wd → List D → Option D} {x : Str} {p : Pos} (hc : CallR X (.builtin id) (cD (mdOf X) g)) (hg : Gl X x) (hm : X.mg x = none) (hv : bootBuiltins x = some (.builtin id)) (ha : PA X (e :: es) (tAs (mdOf X) Wx fs)) (hn : x ≠ "__name__") (hdb : (x == ("__debug__" : Str)) = false)
    (he : starEach (e :: es) X.env = (false, eval e X.env) :: starEach es X.env) (hpl : (backTo pos (starEach es X.env)).any (·.1) = false) :
    PE X (.Call (.Name x p) (e :: es) [] pos) (tE (mdOf X) Wx fun ρ W => (fs ρ W).bnd fun ds W => ofO (g W ds) W) :=
  (pe_callB hc hg hm hv ha hn hdb he hpl).imp fun σ H Q ⟨ρ, m, W, he, hw, h⟩ => ⟨ρ, m, W, he, hw, h.bnd.imp fun xs m1 W1 H1 s1 hw1 h1 vs hvs => by
    obtain ⟨d, e, k⟩ := h1.ofO hw1
    exact ⟨m1, W1, xs, d, hw1, hvs, e, fun v' H' s' is => k H' s' v' is⟩⟩
theorem e_callTy {T : String} {g : Wd → List D → Option D} {x : Str} {p : Pos} (hc : CallR X (.type T) (cD (mdOf X) g)) (hg : Gl X x) (hm : X.mg x = none) (hv : bootBuiltins x = some (.type T)) (ha : PA X (e :: es) (tAs (mdOf X) Wx fs)) (hn : x ≠ "__name__") (hdb : (x == ("__debug__" : Str)) = false)
    (he : starEach (e :: es) X.env = (false, eval e X.env) :: starEach es X.env) (hpl : (backTo pos (starEach es X.env)).any (·.1) = false) :
    PE X (.Call (.Name x p) (e :: es) [] pos) (tE (mdOf X) Wx fun ρ W => (fs ρ W).bnd fun ds W => ofO (g W ds) W) :=
  (pe_callTy hc hg hm hv ha hn hdb he hpl).imp fun σ H Q ⟨ρ, m, W, he, hw, h⟩ => ⟨ρ, m, W, he, hw, h.bnd.imp fun xs m1 W1 H1 s1 hw1 h1 vs hvs => by
    obtain ⟨d, e, k⟩ := h1.ofO hw1
    exact ⟨m1, W1, xs, d, hw1, hvs, e, fun v' H' s' is => k H' s' v' is⟩⟩
theorem e_isi {T : String} {x : Str} {p q : Pos} (hg : Gl X "isinstance") (hm : X.mg "isinstance" = none) (hgT : Gl X x) (hmT : X.mg x = none) (hv : bootBuiltins x = some (.type T)) (hT : T ∈ isiTs) (ha : PE X a (tE (mdOf X) Wx fa)) (hn : x ≠ "__name__") (hdb : (x == ("__debug__" : Str)) = false)
    (he : starEach [a, .Name x q] X.env = (false, eval a X.env) :: starEach [.Name x q] X.env) :
    PE X (.Call (.Name "isinstance" p) [a, .Name x q] [] pos) (tE (mdOf X) Wx fun ρ W => (fa ρ W).bnd fun x W => match tyName W x with | some A => .ok (.bl (isiB A T)) W | none => .bad) := by
  refine (pe_callB (X := X) (x := "isinstance") cd_isi hg hm (by decide +kernel) (pa_cons ha (pa_cons (pe_bltn (v := .ty T) hgT hmT hv rfl hn hdb) pa_nil rfl) he) (by decide +kernel) (by decide +kernel) he rfl).imp fun σ H Q ⟨ρ, m, W, he, hw, h⟩ => ⟨ρ, m, W, he, hw, h.bnd.imp fun x m1 W1 H1 s1 hw1 h1 v hv => ?_⟩
  split at h1
  · rename_i A e
    exact ⟨m1, W1, v, x, A, T, rfl, hw1, hv, e, hT, h1.okI hw1 _ (.bl _)⟩
  · exact h1.elim
/-! ### subscripts -/
theorem e_sl {lo hi : Option Expr} {p2 : Pos} {fl fh : EnvD → Wd → R (Option Int)} (he : PE X e (tE (mdOf X) Wx fa)) (hl : PO X lo (tO (mdOf X) Wx fl)) (hu : PO X hi (tO (mdOf X) Wx fh)) :
    PE X (.Subscript e (.Slice lo hi none p2) pos) (tE (mdOf X) Wx fun ρ W => (fa ρ W).bnd fun x W => (fl ρ W).bnd fun l W => (fh ρ W).bnd fun h W => ofO (dSl W x l h) W) :=
  (pe_slice sld he hl hu).imp fun σ H Q ⟨ρ, m, W, he, hw, h⟩ => ⟨ρ, m, W, he, hw, h.bnd.imp fun x m1 W1 H1 s1 hw1 h1 v hv => ⟨ρ, m1, W1, he.mono s1, hw1, h1.bnd.imp fun l m2 W2 H2 s2 hw2 h2 =>
    ⟨ρ, m2, W2, (he.mono s1).mono s2, hw2, h2.bnd.imp fun u m3 W3 H3 s3 hw3 h3 => by
      obtain ⟨d, e, k⟩ := h3.ofO hw3
      exact ⟨m3, W3, x, d, hw3, hv.mono (s2.trans s3), e, fun v' H' s' is => k H' s' v' is⟩⟩⟩⟩
theorem o_no : PO X none (tO (mdOf X) Wx fun _ W => .ok none W) := po_none.imp fun σ H Q ⟨ρ, m, W, he, hw, h⟩ => h.okI hw
theorem o_yes (ha : PE X e (tE (mdOf X) Wx fa)) : PO X (some e) (tO (mdOf X) Wx fun ρ W => (fa ρ W).bnd fun x W => match x with | .int i => .ok (some i) W | _ => .bad) :=
  (po_some ha).imp fun σ H Q ⟨ρ, m, W, he, hw, h⟩ => ⟨ρ, m, W, he, hw, h.bnd.imp fun x m1 W1 H1 s1 hw1 h1 v hv => by
    cases x with
    | int i =>
      cases hv
      exact ⟨i, rfl, h1.okI hw1⟩
    | _ => exact h1.elim⟩
end
end PL

/-! PL8: iterators and comprehensions, by data. -/
namespace PL
open PySem PySem.Spec PyProof.Rows L2

section
variable {X : Cx} {Wx : WX} {e a b c : Expr} {es : List Expr} {pos : Pos} {fa fb fc : EnvD → Wd → R D}
theorem e_ix (ha : PE X a (tE (mdOf X) Wx fa)) (hb : PE X b (tE (mdOf X) Wx fb)) (hs : PlainIx b) :
    PE X (.Subscript a b pos) (tE (mdOf X) Wx fun ρ W => (fa ρ W).bnd fun x W => (fb ρ W).bnd fun y W => ofO (dIx W x y) W) :=
  (pe_ix ixd ha hb hs).imp fun σ H Q ⟨ρ, m, W, he, hw, h⟩ => ⟨ρ, m, W, he, hw, h.bnd.imp fun x m1 W1 H1 s1 hw1 h1 v hv => ⟨ρ, m1, W1, he.mono s1, hw1, h1.bnd.imp fun y m2 W2 H2 s2 hw2 h2 u hu => by
    obtain ⟨d, e, k⟩ := h2.ofO hw2
    exact ⟨m2, W2, x, y, d, hw2, hv.mono s2, hu, e, fun v' is => k H2 (Same.refl _) v' is⟩⟩⟩
theorem Is.asD {M : Md} {m : Ms} {H : Hp} {v : V} {kvs : List (Key × D)} (h : Is M m H v (.dct kvs)) : ∃ a ks, v = .ref a ∧ ¬ m.has a ∧ H a = some (.dK ks) ∧ IsKvs M m H ks kvs := by
  cases h with
  | dct h1 h2 h3 => exact ⟨_, _, rfl, h1, h2, h3⟩
theorem e_dx (hu : X.A.units + 1 < cLine) (ha : PE X a (tE (mdOf X) Wx fa)) (hb : PE X b (tE (mdOf X) Wx fb)) (hs : NoSl b) :
    PE X (.Subscript a b pos) (tE (mdOf X) Wx fun ρ W => (fa ρ W).bnd fun x W => (fb ρ W).bnd fun y W => ofO (dDx x y) W) :=
  (pe_dget hu ha hb hs).imp fun σ H Q ⟨ρ, m, W, he, hw, h⟩ => ⟨ρ, m, W, he, hw, h.bnd.imp fun x m1 W1 H1 s1 hw1 h1 v hv => ⟨ρ, m1, W1, he.mono s1, hw1, h1.bnd.imp fun y m2 W2 H2 s2 hw2 h2 u hu => by
    obtain ⟨d, e, k⟩ := h2.ofO hw2
    unfold dDx at e
    split at e
    · rename_i kvs
      obtain ⟨kk, e1, e2⟩ := Option.bind_eq_some_iff.mp e
      obtain ⟨p, ks, rfl, n, hp, r⟩ := (hv.mono s2).asD
      rcases r.get (k := kk) with ⟨w, d', e3, e4, is⟩ | ⟨_, e4⟩
      · rw [e2] at e4; cases e4
        exact ⟨p, w, rfl, .inl ⟨ks, kk, .inl hp, hu.key e1, e3.symm⟩, k H2 (Same.refl _) w is⟩
      · rw [e2] at e4; cases e4
    · cases e⟩⟩
theorem e_get {apos cpos : Pos} (hu : X.A.units + 1 < cLine) (ha : PE X a (tE (mdOf X) Wx fa)) (hb : PE X b (tE (mdOf X) Wx fb)) (hc : PE X c (tE (mdOf X) Wx fc)) (hm : M2 X a "get" apos b c cpos) :
    PE X (.Call (.Attribute a "get" apos) [b, c] [] cpos) (tE (mdOf X) Wx fun ρ W => (fa ρ W).bnd fun x W => match x with
      | .dct kvs => (fb ρ W).bnd fun y W => (fc ρ W).bnd fun z W => ofO (dGet kvs y z) W
      | _ => .bad) :=
  (pe_dget2 hu ha hb hc hm).imp fun σ H Q ⟨ρ, m, W, he, hw, h⟩ => ⟨ρ, m, W, he, hw, h.bnd.imp fun x m1 W1 H1 s1 hw1 h1 v hv => by
    cases x with
    | dct kvs =>
      obtain ⟨p, ks, rfl, n, hp, r⟩ := hv.asD
      refine ⟨p, rfl, .inl ⟨ks, .inl hp⟩, ρ, m1, W1, he.mono s1, hw1, h1.bnd.imp fun y m2 W2 H2 s2 hw2 h2 u hu => ⟨ρ, m2, W2, (he.mono s1).mono s2, hw2, h2.bnd.imp fun z m3 W3 H3 s3 hw3 h3 w hz => ?_⟩⟩
      obtain ⟨d, e, k⟩ := h3.ofO hw3
      obtain ⟨kk, e1, rfl⟩ := some_map (show (asKey y).map _ = some d from e)
      have hp3 := ((s2.trans s3).kp.keep p _ n hp).1
      have r3 := r.mono (s2.trans s3)
      refine ⟨valV ks kk, .inl ⟨ks, kk, .inl hp3, hu.key e1, rfl⟩, ?_⟩
      rcases r3.get (k := kk) with ⟨w', d', e3, e4, is⟩ | ⟨e3, e4⟩
      · rw [e3]
        rw [e4] at k
        exact k H3 (Same.refl _) w' is
      · rw [e3]
        rw [e4] at k
        exact k H3 (Same.refl _) w hz
    | _ => exact h1.elim⟩
theorem e_lzip {p pos p2 pos2 : Pos} (hc : X.calm = true) (hg : Gl X "zip") (hm : X.mg "zip" = none) (hg2 : Gl X "list") (hm2 : X.mg "list" = none) (ha : PE X a (tE (mdOf X) Wx fa)) (hb : PE X b (tE (mdOf X) Wx fb))
    (hs : starEach [a, b] X.env = (false, eval a X.env) :: starEach [b] X.env) (hs' : starEach [b] X.env = (false, eval b X.env) :: starEach [] X.env) (hpl : (backTo pos (starEach [b] X.env)).any (·.1) = false) :
    PE X (.Call (.Name "list" p2) [.Call (.Name "zip" p) [a, b] [] pos] [] pos2) (tE (mdOf X) Wx fun ρ W => (fa ρ W).bnd fun x W => (fb ρ W).bnd fun y W => (ofO (dZip W x y) W).bnd fun ds W => if ds.length ≤ 16777216 then .ok (.lst ds) W else .bad) :=
  (ZL.pe_lzip hc hg hm hg2 hm2 (pa_cons ha (pa_cons hb pa_nil hs') hs) hs hpl rfl rfl).imp fun σ H Q ⟨ρ, m, W, he, hw, h⟩ => ⟨ρ, m, W, he, hw, h.bnd.imp fun x m1 W1 H1 s1 hw1 h1 v hv => ⟨ρ, m1, W1, he.mono s1, hw1, h1.bnd.imp fun y m2 W2 H2 s2 hw2 h2 u hu => by
    obtain ⟨d, e, k⟩ := h2.bnd.ofO hw2
    obtain ⟨hl, k⟩ := (k H2 (Same.refl _)).ite
    have fin : ∀ (p q : Addr) (xs ys : List V) (ds es : List D), v = .ref p → u = .ref q → (SqL X.K H2 p xs ∧ SqL X.K H2 q ys ∨ SqT X.K H2 p xs ∧ SqT X.K H2 q ys) → IsAll (mdOf X) m2 H2 xs ds → IsAll (mdOf X) m2 H2 ys es → d = ds.zipWith pairD es →
        ∃ a b xs ys, [v, u] = [V.ref a, V.ref b] ∧ ((SqL X.K H2 a xs ∧ SqL X.K H2 b ys) ∨ (SqT X.K H2 a xs ∧ SqT X.K H2 b ys)) ∧ min xs.length ys.length ≤ sizeLine ∧ ∀ S ps H3, ZL.Zipped H2 H3 S ps xs ys → Q (.ref S) H3 := by
      intro p q xs ys ds es hp hq hh r1 r2 ed
      subst hp; subst hq; subst ed
      rw [List.length_zipWith, ← r1.length, ← r2.length] at hl
      refine ⟨p, q, xs, ys, rfl, hh, by rw [sizeLine_eq]; exact hl, fun S ps H3 z => ?_⟩
      obtain ⟨z1, z2, z3, z4, z5⟩ := z
      have hw3 := hw2.mono z1
      refine k m2 H3 (.same z1) hw3 _ (.lst (hw2.notIn z2) z3 ?_)
      have go : ∀ (xs ys : List V) (ds es : List D) (ps : List Addr), IsAll (mdOf X) m2 H3 xs ds → IsAll (mdOf X) m2 H3 ys es → ps.length = min xs.length ys.length → (∀ (j : Nat) (T : Addr) (x y : V), ps[j]? = some T → xs[j]? = some x → ys[j]? = some y → H2 T = none ∧ H3 T = some (.tup [x, y])) →
          IsAll (mdOf X) m2 H3 (ps.map V.ref) (ds.zipWith pairD es) := by
        intro xs
        induction xs with
        | nil =>
          intro ys ds es ps r1 r2 hl _
          cases r1
          have : ps = [] := List.eq_nil_of_length_eq_zero (by simpa using hl)
          subst this
          exact .nil
        | cons x xs ih =>
          intro ys ds es ps r1 r2 hl hz
          cases r1 with
          | cons a1 b1 =>
            cases r2 with
            | nil =>
              have : ps = [] := List.eq_nil_of_length_eq_zero (by simpa using hl)
              subst this
              exact .nil
            | cons a2 b2 =>
              cases ps with
              | nil => simp at hl
              | cons T ps =>
                obtain ⟨n1, n2⟩ := hz 0 T _ _ rfl rfl rfl
                refine .cons (.tup (.inl ⟨hw2.notIn n1, .inl n2⟩) (.cons a1 (.cons a2 .nil))) (ih _ _ _ ps b1 b2 (by simp at hl; omega) fun j T x y h1 h2 h3 => hz (j + 1) T x y (by simpa using h1) (by simpa using h2) (by simpa using h3))
      exact go xs ys ds es ps (r1.mono (.same z1)) (r2.mono (.same z1)) z4 z5
    have lists : ∀ (ds es : List D), asL W2 x = some ds → asL W2 y = some es → d = ds.zipWith pairD es → ∃ a b xs ys, [v, u] = [V.ref a, V.ref b] ∧ ((SqL X.K H2 a xs ∧ SqL X.K H2 b ys) ∨ (SqT X.K H2 a xs ∧ SqT X.K H2 b ys)) ∧ min xs.length ys.length ≤ sizeLine ∧ ∀ S ps H3, ZL.Zipped H2 H3 S ps xs ys → Q (.ref S) H3 := by
      intro ds es h1 h2 ed
      obtain ⟨p, xs, e1, hp, r1⟩ := (hv.mono s2).asL hw2 h1
      obtain ⟨q, ys, e2, hq, r2⟩ := hu.asL hw2 h2
      exact fin p q xs ys ds es e1 e2 (.inl ⟨SqL.of hp, SqL.of hq⟩) r1 r2 ed
    unfold dZip at e
    split at e
    · cases e
      obtain ⟨p, xs, e1, hp, r1⟩ := (hv.mono s2).asT
      obtain ⟨q, ys, e2, hq, r2⟩ := hu.asT
      exact fin p q xs ys _ _ e1 e2 (.inr ⟨hp.seq, hq.seq⟩) r1 r2 rfl
    · split at e
      · cases e
        exact lists _ _ (by assumption) (by assumption) rfl
      · cases e⟩⟩
end
end PL

/-! PLQ: sorted(a set of tuples of ints), of any ints, the tuple of none too. -/
namespace SQ
open PySem PySem.Spec PyProof.Rows L2
theorem perm_map {α β : Type} (f : α → β) : ∀ {vs : List β} {L : List α}, vs.Perm (L.map f) → ∃ L1 : List α, L1.Perm L ∧ vs = L1.map f
  | [], L, h => by
    have e : L.map f = [] := List.nil_perm.mp h
    have : L = [] := List.map_eq_nil_iff.mp e
    exact ⟨[], by rw [this], rfl⟩
  | v :: vs, L, h => by
    have hm : v ∈ L.map f := h.mem_iff.mp (by simp)
    obtain ⟨q, hq, rfl⟩ := List.mem_map.mp hm
    obtain ⟨s, t, rfl⟩ := List.append_of_mem hq
    have h1 : ((s ++ q :: t).map f).Perm (f q :: (s ++ t).map f) := by
      have := (List.perm_middle (a := q) (l₁ := s) (l₂ := t)).map f
      simpa using this
    obtain ⟨L1, p, e⟩ := perm_map f (List.Perm.cons_inv (h.trans h1))
    exact ⟨q :: L1, (p.cons q).trans List.perm_middle.symm, by rw [List.map_cons, e]⟩
def tenc (q : Addr × List Int) : PyData := .tuple (q.2.map .int)
theorem reads_ints {h : Heap} : ∀ {us : List Value} {ns : List Int}, IntsAre us ns → ReadsAll h us (ns.map .int) []
  | _, _, .nil => .nil
  | _, _, .cons _ _ t => .cons (as := []) (bs := []) (.int _ _) (reads_ints t)
theorem reads_isT {P : Program} {w : World} {h : Heap} {k : List Int} {b : Addr} (x : IsT P w h k b) : Reads h (.ref b) (.tuple (k.map .int)) [] := by
  obtain ⟨a, xs, e, ⟨o, ho, hc, n, hd⟩, i⟩ := tupInts_of x
  injection e with e
  rw [e]
  exact .tuple ho hc hd (reads_ints i)
theorem dataLe_tup {β : Type} (x : β → List Int) : PySem.W.dataLe false (fun b => .tuple ((x b).map .int)) = fun p q => decide (x p ≤ x q) := by
  funext p q
  show (!PySem.W.dataLt (.tuple ((x q).map .int)) (.tuple ((x p).map .int))) = _
  rw [PySem.W.dataLt_tuple]
  show (!PySem.W.rowLt ((x q).map .int) ((x p).map .int)) = _
  rw [PySem.W.dataLt_ints]
  by_cases h : x q < x p
  · have h' : ¬ x p ≤ x q := fun r => List.not_lt.mpr r h
    simp [h, h']
  · have h' : x p ≤ x q := List.not_lt.mp h
    simp [h, h']
theorem each_map {R : Value → (Addr × List Int) → Prop} {f : Addr × List Int → Value} : ∀ {l : List (Addr × List Int)}, (∀ q ∈ l, R (f q) q) → PySem.W.EachIs R (l.map f) l
  | [], _ => .nil
  | q :: l, h => .cons (h q (by simp)) (each_map fun r hr => h r (by simp [hr]))
theorem each_refs : ∀ {out : List Value} {l : List (Addr × List Int)}, PySem.W.EachIs (fun v q => v = Value.ref q.1) out l → out = l.map fun q => Value.ref q.1
  | _, _, .nil => rfl
  | _, _, .cons h t => by rw [h, each_refs t]; rfl
section
variable {P : Program} {w : World} {A : Around} {E : Value → Shared → Prop} {s : Shared}
theorem sorted_setG {a : Addr} {L : List (Addr × List Int)} {es : Array (Int × Value)} {ep : Nat} {t : SetTable} {Q : Value → Shared → Prop} (R : SetTR P w s.heap a L es ep t) (hh : A.handled = none) (hu : A.units + 64 < cLine)
    (hd : 2 ≤ L.length → ∀ p ∈ L, p.2 ≠ [])
    (hQ : ∀ s' p (out : Array Value) (c : Nat) (L' : List (Addr × List Int)), (∀ b o, s.heap.get? b = some o → s'.heap.get? b = some o) → s'.gens = s.gens → s'.os = s.os → s.heap.objs.size ≤ p →
      s'.heap.get? p = some (seqObj "list" out c) → out.toList = L'.map (fun q => Value.ref q.1) → L'.Perm L → L'.Pairwise (fun q r => q.2 ≤ r.2) → Q (.ref p) s') :
    wpAny (model P w) A (call (.builtin "sorted") [.ref a]) Q E s := by
  obtain ⟨o, ho, hex, hdt⟩ := R.ob
  have hsz := R.size
  have hfew := R.few
  refine Calls.call_function_entry kind_sorted plain_sorted entry_sorted (args_sorted1 _) ?_
  unfold Builtin.«sorted»
  refine wpAny_bind (m := checkCount "sorted" 1 1 _) (wpAny_pure ?_)
  refine wpAny_bind (collect_set (A := A.in1) hh ⟨o, ho, hex.1, hdt⟩ R.fits (by unfold scanBound; omega) R.tab.ris R.led fun s1 vs k1 hz g1 o1 pm => ?_)
  have hes : es.toList.map (·.2) = L.map fun q => Value.ref q.1 := by
    rw [R.rows]
    unfold rowsOf
    rw [List.map_map]
    rfl
  rw [hes] at pm
  obtain ⟨L1, p1, rfl⟩ := perm_map _ pm
  have hl1 : L1.length < 64 := by rw [p1.length_eq]; exact hfew
  have hvz : (L1.map fun q => Value.ref q.1).length ≤ sizeLine := by rw [List.length_map, sizeLine_eq]; omega
  refine wpAny_bind (wpAny_newList ?_ hvz)
  have hoL : (s1.heap.push (seqObj "list" (L1.map fun q => Value.ref q.1).toArray 0)).get? s1.heap.objs.size = some (seqObj "list" (L1.map fun q => Value.ref q.1).toArray 0) := Heap.get?_push_size _ rfl
  have fin : ∀ (out : Array Value) (L' : List (Addr × List Int)), out.toList = L'.map (fun q => Value.ref q.1) → L'.Perm L1 → L'.Pairwise (fun q r => q.2 ≤ r.2) →
      Q (.ref s1.heap.objs.size) { s1 with heap := sortedHeap (s1.heap.push (seqObj "list" (L1.map fun q => Value.ref q.1).toArray 0)) s1.heap.objs.size (L1.map fun q => Value.ref q.1) out } := by
    intro out L' e1 e2 e3
    obtain ⟨c, hc⟩ := sortedHeap_at (vs := L1.map fun q => Value.ref q.1) (out := out) hoL
    refine hQ _ s1.heap.objs.size out c L' (fun b u e => ?_) g1 o1 hz hc e1 (e2.trans p1) e3
    have q := k1 b u e
    have hlt := Heap.lt_size q
    show (sortedHeap (s1.heap.push (seqObj "list" (L1.map fun q => Value.ref q.1).toArray 0)) s1.heap.objs.size (L1.map fun q => Value.ref q.1) out).get? b = some u
    rw [sortedHeap_old (Nat.ne_of_lt hlt) (by rw [size_push']; exact Nat.lt_succ_of_lt hlt)]
    exact Heap.get?_push_of_some _ q
  by_cases h2 : 2 ≤ L1.length
  · have hne : ∀ q ∈ L1, q.2 ≠ [] := fun q hq => hd (by rw [← p1.length_eq]; exact h2) q (p1.mem_iff.mp hq)
    have er : PySem.W.EachIs (fun v b => ∃ as, Reads (s1.heap.push (seqObj "list" (L1.map fun q => Value.ref q.1).toArray 0)) v (tenc b) as ∧ s1.heap.objs.size ∉ as) (L1.map fun q => Value.ref q.1) L1 :=
      each_map fun q hq => ⟨[], reads_isT (P := P) (w := w) (isT_keep (R.tup q (p1.mem_iff.mp hq)) fun b u e => Heap.get?_push_of_some _ (k1 b u e)), by simp⟩
    have hk : PySem.W.Sortable (L1.map tenc) := .inl fun d hd' => by
      obtain ⟨q, hq, rfl⟩ := List.mem_map.mp hd'
      cases e : q.2 with
      | nil => exact absurd e (hne q hq)
      | cons x r => exact ⟨.int x, r.map .int, by unfold tenc; rw [e]; rfl⟩
    refine wpAny_bind (wpAny_holding (PySem.W.list_sort_data (s := { s1 with heap := s1.heap.push (seqObj "list" (L1.map fun q => Value.ref q.1).toArray 0) }) (R := fun v q => v = Value.ref q.1) hoL (each_map fun q _ => rfl) er (PySem.W.AllAlike.of fun b b' => ?_) hk (by rw [sizeLine_eq]; omega) (fun b hb => ?_) fun out _ eo => ?_))
    · show PySem.W.alike (.tuple (b.2.map .int)) (.tuple (b'.2.map .int)) = true
      rw [PySem.W.alike]
      exact PySem.W.alike_ints _ _
    · have h0 : (tenc b).depth ≤ 1 := by
        unfold tenc
        rw [PyData.depth, PySem.W.depth_ints]
        decide
      show A.units + _ + 1 + (tenc b).depth < cLine
      omega
    · refine wpAny_pure ⟨_, rfl, fin _ (L1.mergeSort (PySem.W.dataLe false tenc)) ?_ (List.mergeSort_perm _ _) ?_⟩
      · rw [← each_refs eo]
      · have e : PySem.W.dataLe false tenc = fun p q => decide (p.2 ≤ q.2) := dataLe_tup (fun q : Addr × List Int => q.2)
        have hp := List.pairwise_mergeSort (le := PySem.W.dataLe false tenc) (fun a b c h1 h2 => by
          rw [e] at h1 h2 ⊢
          exact decide_eq_true (List.le_trans (of_decide_eq_true h1) (of_decide_eq_true h2))) (fun a b => by
          rw [e]
          rcases List.le_total a.2 b.2 with h | h
          · simp [h]
          · simp [h]) L1
        refine hp.imp fun {q r} h => ?_
        rw [e] at h
        exact of_decide_eq_true h
  · have pw : ∀ L' : List (Addr × List Int), L'.Perm L1 → L'.Pairwise (fun q r => q.2 ≤ r.2) := fun L' hp => by
      have hl := hp.length_eq
      match L', hl with
      | [], _ => exact .nil
      | [q], _ => exact .cons (fun _ h => by cases h) .nil
      | _ :: _ :: _, hl => simp at hl; omega
    refine wpAny_bind (wpAny_holding (wpAny_call_entry slot_list_sort ⟨_, hoL, rfl⟩ entry_list_sort (Srt.list_sort_any (s := { s1 with heap := s1.heap.push (seqObj "list" (L1.map fun q => Value.ref q.1).toArray 0) }) hoL hvz (fun h => absurd (by simpa using h) h2) fun out hp => ⟨_, rfl, ?_⟩) (args_list_sort _)))
    obtain ⟨L', e1, e2⟩ := perm_map _ hp
    exact wpAny_pure ⟨_, rfl, fin out.toArray L' (by simpa using e2) e1 (pw L' e1)⟩
end
end SQ

/-! PLR: sorted(set(rows)), by data. -/
namespace PL
open PySem PySem.Spec PyProof.Rows L2

/-! ### the rows' order -/
theorem ltL_irr (x : List Int) : ¬ x < x := List.lt_irrefl x
theorem ltL_trans {x y z : List Int} (h : x < y) (h' : y < z) : x < z := List.lt_trans h h'
theorem insL_mem {x z : List Int} : ∀ {l : List (List Int)}, z ∈ insL x l ↔ z = x ∨ z ∈ l
  | [] => by simp [insL]
  | y :: ys => by
    unfold insL
    split
    · rename_i e; subst e; simp
    · split
      · simp
      · rw [List.mem_cons, insL_mem (l := ys), List.mem_cons]
        constructor
        · rintro (h | h | h)
          · exact .inr (.inl h)
          · exact .inl h
          · exact .inr (.inr h)
        · rintro (h | h | h)
          · exact .inr (.inl h)
          · exact .inl h
          · exact .inr (.inr h)
theorem insL_pw {x : List Int} : ∀ {l : List (List Int)}, l.Pairwise (· < ·) → (insL x l).Pairwise (· < ·)
  | [], _ => by simp [insL]
  | y :: ys, h => by
    obtain ⟨h1, h2⟩ := List.pairwise_cons.mp h
    unfold insL
    split
    · exact h
    · rename_i ne
      split
      · rename_i lt
        refine List.pairwise_cons.mpr ⟨fun z hz => ?_, h⟩
        rcases List.mem_cons.mp hz with rfl | hz
        · exact lt
        · exact ltL_trans lt (h1 z hz)
      · rename_i nlt
        refine List.pairwise_cons.mpr ⟨fun z hz => ?_, insL_pw h2⟩
        rcases insL_mem.mp hz with rfl | hz
        · have hle : y ≤ z := List.not_lt.mp nlt
          rcases List.le_total z y with h' | h'
          · exact absurd (List.le_antisymm h' hle) ne
          · by_cases q : y < z
            · exact q
            · exact absurd (List.le_antisymm (List.not_lt.mp q) hle) ne
        · exact h1 z hz
theorem sortL_pw : ∀ l : List (List Int), (sortL l).Pairwise (· < ·)
  | [] => .nil
  | x :: xs => insL_pw (sortL_pw xs)
theorem sortL_mem {z : List Int} : ∀ {l : List (List Int)}, z ∈ sortL l ↔ z ∈ l
  | [] => by simp [sortL]
  | x :: xs => by rw [sortL, insL_mem, sortL_mem, List.mem_cons]
theorem strict_one : ∀ {m n : List (List Int)}, m.Pairwise (· < ·) → n.Pairwise (· < ·) → (∀ z, z ∈ m ↔ z ∈ n) → m = n
  | [], [], _, _, _ => rfl
  | [], y :: n, _, _, h => absurd ((h y).mpr (by simp)) (by simp)
  | x :: m, [], _, _, h => absurd ((h x).mp (by simp)) (by simp)
  | x :: m, y :: n, hm, hn, h => by
    obtain ⟨m1, m2⟩ := List.pairwise_cons.mp hm
    obtain ⟨n1, n2⟩ := List.pairwise_cons.mp hn
    have e : x = y := by
      rcases List.mem_cons.mp ((h x).mp (by simp)) with e | hx
      · exact e
      · rcases List.mem_cons.mp ((h y).mpr (by simp)) with e | hy
        · exact e.symm
        · exact absurd (ltL_trans (m1 y hy) (n1 x hx)) (ltL_irr x)
    subst e
    congr 1
    refine strict_one m2 n2 fun z => ⟨fun hz => ?_, fun hz => ?_⟩
    · rcases List.mem_cons.mp ((h z).mp (by simp [hz])) with e | hz'
      · subst e; exact absurd (m1 z hz) (ltL_irr z)
      · exact hz'
    · rcases List.mem_cons.mp ((h z).mpr (by simp [hz])) with e | hz'
      · subst e; exact absurd (n1 z hz) (ltL_irr z)
      · exact hz'
section
variable {X : Cx}
/-- sorted(set), rows of any ints -/
def rSortG (K : PySem.W.Frag) (P : Program) (w : World) : List V → Hp → VK → Prop := fun vs H Q => ∃ (a : Addr) (L : List (Addr × List Int)), vs = [V.ref a] ∧ H a = some (SetTO P w a L) ∧ (∀ p ∈ L, SqT K H p.1 (p.2.map V.int)) ∧ ((∀ p ∈ L, p.2 ≠ []) ∨ ∀ p ∈ L, p.2 = []) ∧
  ∀ (L' : List (Addr × List Int)) (p : Addr), L'.Perm L → (L'.map (·.2)).Nodup → L'.Pairwise (fun q r => q.2 ≤ r.2) → H p = none → Q (.ref p) (upd H p (.lst (L'.map fun q => V.ref q.1)))
theorem few_of : ∀ {L : List (Addr × List Int)}, (L.map (·.2)).Nodup → (∀ p ∈ L, p.2 = []) → ¬ 2 ≤ L.length
  | [], _, _ => by simp
  | [_], _, _ => by simp
  | x :: y :: r, nd, h => by
    have e1 := h x (by simp)
    have e2 := h y (by simp)
    rw [List.map_cons, List.map_cons, List.nodup_cons] at nd
    exact absurd (by rw [e1, e2]; exact List.mem_cons_self) nd.1
theorem cr_sortG (hc : X.calm = true) (hu : X.A.units + 64 < cLine) : CallR X (.builtin "sorted") (rSortG X.K X.prog X.w) := by
  intro pins s σ H vs us Q I r ⟨a, L, e, ha, hk, hd, q⟩
  subst e
  obtain ⟨es, ep, t, R⟩ := (show SetT0 X.prog X.w s.heap a L from (I.hok a _ ha).1).full fun p hp => I.isT (hk p hp)
  rw [Vals.ref1 r]
  have hd' : 2 ≤ L.length → ∀ p ∈ L, p.2 ≠ [] := fun h2 => by
    exact hd.elim id fun z => absurd h2 (few_of R.nd z)
  refine SQ.sorted_setG R (I.ok.hd hc) hu hd' fun s' p out c L' k g o hp hg hout pm pw => ?_
  have few : L'.length < 64 := by rw [pm.length_eq]; exact R.few
  have small : (L'.map fun q => V.ref q.1).length ≤ sizeLine := by rw [List.length_map, sizeLine_eq]; omega
  have fresh : H p = none := I.hok.fresh hp
  have vals : Vals (L'.map fun q => V.ref q.1) out.toList := by rw [hout]; exact vals_of_refs L'
  have J := I.call' (s' := s') (ch := []) (H' := upd H p (.lst (L'.map fun q => V.ref q.1))) o (Un.laid k hp fresh) (I.hok.laid k hp ⟨small, out.toList, c, vals, hg⟩) (by rw [g]; exact I.bare) (fun _ z => nomatch z)
  exact ⟨.ref p, _, J, rfl, q L' p pm ((pm.map (·.2)).nodup_iff.mpr R.nd) pw fresh⟩
theorem IsAll.tups {M : Md} {m : Ms} {H : Hp} : ∀ {ds : List D} {ks : List (List Int)} {vs : List V}, IsAll M m H vs ds → tupsI ds = some ks → ∃ l : List (Addr × List Int), vs = l.map (fun p => V.ref p.1) ∧ l.map (·.2) = ks ∧ ∀ p ∈ l, FzT M.K m H p.1 (p.2.map V.int)
  | [], _, _, h, e => by cases h; cases e; exact ⟨[], rfl, rfl, by simp⟩
  | d :: ds, ks, _, h, e => by
    cases h with
    | cons a b =>
      unfold tupsI at e
      split at e
      · rename_i q; cases q
      · rename_i q
        cases q
        split at e
        · rename_i k kr e1 e2
          cases e
          obtain ⟨l, rfl, rfl, hl⟩ := IsAll.tups b e2
          obtain ⟨p, xs, rfl, ht, r⟩ := a.asT
          have ex := r.intsOf e1
          subst ex
          refine ⟨(p, k) :: l, rfl, rfl, fun z hz => ?_⟩
          rcases List.mem_cons.mp hz with rfl | hz
          · exact ht
          · exact hl z hz
        · cases e
      · cases e
theorem e_sset {a : Expr} {fa : EnvD → Wd → R D} {p p2 pos pos2 : Pos} (hc : X.calm = true) (hu : X.A.units + 64 < cLine) (hg : Gl X "sorted") (hm : X.mg "sorted" = none) (hg2 : Gl X "set") (hm2 : X.mg "set" = none) {Wx : WX} (ha : PE X a (tE (mdOf X) Wx fa))
    (hs : starEach [a] X.env = (false, eval a X.env) :: starEach [] X.env) :
    PE X (.Call (.Name "sorted" p) [.Call (.Name "set" p2) [a] [] pos2] [] pos) (tE (mdOf X) Wx fun ρ W => (fa ρ W).bnd fun x W => ofO (dSset x) W) := by
  have h1 := pe_callTy (X := X) (x := "set") (p := p2) (pos := pos2) (cr_setOfT hc hu) hg2 hm2 (by decide +kernel) (pa_cons ha pa_nil hs) (by decide +kernel) (by decide +kernel) hs rfl
  refine (pe_callB (X := X) (x := "sorted") (p := p) (pos := pos) (cr_sortG hc hu) hg hm (by decide +kernel) (pa_cons h1 pa_nil rfl) (by decide +kernel) (by decide +kernel) rfl rfl).imp fun σ H Q ⟨ρ, m, W, he, hw, h⟩ => ⟨ρ, m, W, he, hw, h.bnd.imp fun x m1 W1 H1 s1 hw1 h1 v hv => ?_⟩
  obtain ⟨d, e, k⟩ := h1.ofO hw1
  unfold dSset at e
  split at e
  · rename_i ds
    split at e
    · rename_i ks ek
      split at e
      · rename_i hl
        cases e
        cases hv with
        | lst hn hp r =>
          rename_i b vs
          obtain ⟨l, rfl, rfl, ht⟩ := r.tups ek
          rw [List.length_map] at hl
          refine ⟨b, l, rfl, SqL.of hp, fun q hq => (ht q hq).seq, hl.1, fun a L ha hsub hall => ?_⟩
          have hH : Same H1 (upd H1 a (SetTO X.prog X.w a L)) := same_upd ha
          have st : Step m1 H1 m1 (upd H1 a (SetTO X.prog X.w a L)) := Step.same hH
          refine ⟨a, L, rfl, upd_same, fun q hq => ((ht q (hsub q hq)).mono st).seq, ?_, fun L' p' hperm hnd hpw hfr => ?_⟩
          · refine hl.2.imp (fun z q hq => ?_) fun z q hq => ?_
            · have := List.all_eq_true.mp z q.2 (List.mem_map.mpr ⟨q, hsub q hq, rfl⟩)
              simpa using this
            · have := List.all_eq_true.mp z q.2 (List.mem_map.mpr ⟨q, hsub q hq, rfl⟩)
              simpa using this
          · have hH2 : Same H1 (upd (upd H1 a (SetTO X.prog X.w a L)) p' (.lst (L'.map fun q => V.ref q.1))) := fun b o e => same_upd hfr b o (hH b o e)
            refine k _ hH2 _ (.lst (hw1.notIn (by
              cases q : H1 p' with
              | none => rfl
              | some o => rw [hH p' o q] at hfr; cases hfr)) upd_same ?_)
            have e3 : L'.map (·.2) = sortL (l.map (·.2)) := by
              refine strict_one ?_ (sortL_pw _) fun z => ?_
              · have pw2 : (L'.map (·.2)).Pairwise (· ≤ ·) := List.pairwise_map.mpr hpw
                exact (pw2.and hnd).imp fun {x y} h => by
                  by_cases q : x < y
                  · exact q
                  · exact absurd (List.le_antisymm h.1 (List.not_lt.mp q)) h.2
              · rw [sortL_mem]
                constructor
                · intro hz
                  obtain ⟨q, hq, rfl⟩ := List.mem_map.mp hz
                  exact List.mem_map.mpr ⟨q, hsub q (hperm.mem_iff.mp hq), rfl⟩
                · intro hz
                  obtain ⟨q, hq, rfl⟩ := List.mem_map.mp hz
                  obtain ⟨q', hq', e'⟩ := List.mem_map.mp (hall q hq)
                  exact List.mem_map.mpr ⟨q', hperm.mem_iff.mpr hq', e'⟩
            rw [← e3]
            have hall' : ∀ q ∈ L', FzT X.K m1 (upd (upd H1 a (SetTO X.prog X.w a L)) p' (.lst (L'.map fun q => V.ref q.1))) q.1 (q.2.map V.int) := fun q hq => (ht q (hsub q (hperm.mem_iff.mp hq))).mono (Step.same hH2)
            clear hpw hnd hperm e3 hH2
            revert hall'
            generalize upd (upd H1 a (SetTO X.prog X.w a L)) p' (.lst (L'.map fun q => V.ref q.1)) = H9
            intro hall'
            induction L' with
            | nil => exact .nil
            | cons q L' ih => exact .cons (.tup (hall' q (by simp)) (IsAll.ints _)) (ih fun z hz => hall' z (by simp [hz]))
      · cases e
    · cases e
  · cases e
end
end PL

/-! PL9: iterators, targets, comprehensions, by data. -/
namespace PL
open PySem PySem.Spec PyProof.Rows L2

/-- J gives ds, one after another -/
def ItG (M : Md) (m : Ms) (H : Hp) (ds : List D) (J : It) : Prop := ∃ (G : Hp → Prop) (Y : Nat → Hp → V → Hp → Prop), Walk J ds.length G Y ∧ (∀ m' H', Kp m H m' H' → G H') ∧
  ∀ i m' W' H' x H'', Kp m H m' H' → WOk M m' W' H' → Y i H' x H'' → ∃ d, ds[i]? = some d ∧ Same H' H'' ∧ Is M m' H'' x d
def tI (M : Md) (Wx : WX) (f : EnvD → Wd → R (List D)) : TI := fun σ H Q => ∃ ρ m W, EnvOk M m H σ ρ ∧ WOk M m W H ∧ aft M Wx m H (f ρ W) fun ds m' _ H' => ∀ J, ItG M m' H' ds J → Q J H'
theorem _root_.L2.PI.imp {X : Cx} {tg e : Expr} {t t' : TI} (h : PI X tg e t) (f : ∀ σ H Q, t' σ H Q → t σ H Q) : PI X tg e t' := ⟨fun pins s σ H Q I q => h.run pins s σ H Q I (f σ H Q q)⟩
section
variable {M : Md} {m : Ms} {H : Hp}
theorem itg_list {a : Addr} {xs : List V} {ds : List D} (hn : ¬ m.has a) (h : H a = some (.lst xs)) (r : IsAll M m H xs ds) : ItG M m H ds (Itl M.K a) := by
  refine ⟨fun H => SqL M.K H a xs, YAt xs, by rw [← r.length]; exact walk_list, fun m' H' k => SqL.of (k.keep a _ hn h).1, fun i m' W' H' x H'' k hw y => ?_⟩
  obtain ⟨rfl, e⟩ := y
  have hl : i < ds.length := by rw [← r.length]; exact (List.getElem?_eq_some_iff.mp e).1
  obtain ⟨v, e', is⟩ := r.get (List.getElem?_eq_getElem hl)
  rw [e] at e'; cases e'
  exact ⟨_, List.getElem?_eq_getElem hl, Same.refl _, is.kp k⟩
theorem itg_tup {a : Addr} {xs : List V} {ds : List D} (h : FzT M.K m H a xs) (r : IsAll M m H xs ds) : ItG M m H ds (Itt M.K a) := by
  refine ⟨fun H => SqT M.K H a xs, YAt xs, by rw [← r.length]; exact walk_tup, fun m' H' k => (h.kp k).seq, fun i m' W' H' x H'' k hw y => ?_⟩
  obtain ⟨rfl, e⟩ := y
  have hl : i < ds.length := by rw [← r.length]; exact (List.getElem?_eq_some_iff.mp e).1
  obtain ⟨v, e', is⟩ := r.get (List.getElem?_eq_getElem hl)
  rw [e] at e'; cases e'
  exact ⟨_, List.getElem?_eq_getElem hl, Same.refl _, is.kp k⟩
theorem itg_rng {lo : Int} {n : Nat} : ItG M m H ((List.range n).map fun (i : Nat) => D.int (lo + (i : Int))) (Itr lo n) := by
  refine ⟨fun _ => True, fun i H x H' => i < n ∧ H' = H ∧ x = .int (lo + i), ?_, fun _ _ _ => trivial, fun i m' W' H' x H'' k hw y => ?_⟩
  · have e : ((List.range n).map fun (i : Nat) => D.int (lo + (i : Int))).length = n := by simp
    rw [e]
    have w := walk_range (lo := lo) (n := n)
    exact ⟨w.goes, w.stops, fun i H x H' hi g y => ⟨hi, w.yields i H x H' hi g y⟩⟩
  · obtain ⟨hi, rfl, rfl⟩ := y
    exact ⟨_, by simp [hi], Same.refl _, .int _⟩
theorem itg_pair {J : It} {n : Nat} {G : Hp → Prop} {xs ys : Nat → Option V} {ds es : List D} (w : Walk J n G (YPair xs ys)) (hn : (ds.zipWith pairD es).length = n) (hG : ∀ m' H', Kp m H m' H' → G H')
    (hx : ∀ i m' H' x, Kp m H m' H' → xs i = some x → i < n → ∃ d, ds[i]? = some d ∧ Is M m' H' x d) (hy : ∀ i m' H' x, Kp m H m' H' → ys i = some x → i < n → ∃ d, es[i]? = some d ∧ Is M m' H' x d) : ItG M m H (ds.zipWith pairD es) J := by
  subst hn
  refine ⟨G, fun i H v H' => i < (ds.zipWith pairD es).length ∧ YPair xs ys i H v H', ⟨w.goes, w.stops, fun i H x H' hi g y => ⟨hi, w.yields i H x H' hi g y⟩⟩, hG, fun i m' W' H' x H'' k hw y => ?_⟩
  obtain ⟨hi, T, u, v, rfl, hT, rfl, e1, e2⟩ := y
  obtain ⟨d1, q1, r1⟩ := hx i m' H' u k e1 hi
  obtain ⟨d2, q2, r2⟩ := hy i m' H' v k e2 hi
  refine ⟨pairD d1 d2, ?_, same_upd hT, .tup (.inl ⟨hw.notIn hT, .inl upd_same⟩) (.cons (r1.mono (Step.upd hT)) (.cons (r2.mono (Step.upd hT)) .nil))⟩
  rw [List.getElem?_zipWith, q1, q2]
end
section
variable {X : Cx} {Wx : WX} {tg e a b c : Expr} {es : List Expr} {pos : Pos} {fa fb fc : EnvD → Wd → R D}
theorem i_seq (ha : PE X a (tE (mdOf X) Wx fa)) : PI X tg a (tI (mdOf X) Wx fun ρ W => (fa ρ W).bnd fun x W => match x with
    | .lst xs => .ok xs W
    | .tup xs => .ok xs W
    | _ => .bad) := by
  refine ⟨fun pins s σ H Q I h => ?_⟩
  obtain ⟨ρ, m, W, he, hw, h⟩ := h
  dsimp only at h
  cases q : fa ρ W with
  | bad => rw [q] at h; exact h.elim
  | err ex W' =>
    refine (pi_list ha).run pins s σ H Q I ⟨ρ, m, W, he, hw, ?_⟩
    rw [q] at h ⊢
    exact h
  | ok x W' =>
    rw [q] at h
    cases x with
    | lst ds =>
      refine (pi_list ha).run pins s σ H Q I ⟨ρ, m, W, he, hw, ?_⟩
      rw [q]
      intro m' H' st hw' v hv
      cases hv with
      | lst n hp r => exact ⟨_, rfl, ⟨_, SqL.of hp⟩, h m' H' st hw' _ (itg_list n hp r)⟩
    | tup ds =>
      refine (pi_tup ha).run pins s σ H Q I ⟨ρ, m, W, he, hw, ?_⟩
      rw [q]
      intro m' H' st hw' v hv
      cases hv with
      | tup hp r => exact ⟨_, rfl, ⟨_, hp.seq⟩, h m' H' st hw' _ (itg_tup hp r)⟩
    | _ => exact h.elim
theorem i_rng1 {p : Pos} (hg : Gl X "range") (hm : X.mg "range" = none) (ha : PE X a (tE (mdOf X) Wx fa)) (hs : starEach [a] X.env = [(false, eval a X.env)]) :
    PI X tg (.Call (.Name "range" p) [a] [] pos) (tI (mdOf X) Wx fun ρ W => (fa ρ W).bnd fun x W => match x with
      | .int j => ofO (dRange 0 j) W
      | _ => .bad) :=
  (pi_range1 hg hm (pa_cons ha pa_nil hs) hs).imp fun σ H Q ⟨ρ, m, W, he, hw, h⟩ => ⟨ρ, m, W, he, hw, h.bnd.imp fun x m1 W1 H1 s1 hw1 h1 v hv => by
    cases x with
    | int j =>
      cases hv
      obtain ⟨ds, e, k⟩ := h1.ofO hw1
      unfold dRange at e
      split at e
      · rename_i hl
        cases e
        refine ⟨j, rfl, hl.2.2.1, hl.2.2.2, k H1 (Same.refl _) _ ?_⟩
        have e0 : (j - 0).toNat = j.toNat := by rw [Int.sub_zero]
        rw [e0]
        exact itg_rng
      · cases e
    | _ => exact h1.elim⟩
theorem i_rng2 {p : Pos} (hg : Gl X "range") (hm : X.mg "range" = none) (ha : PE X a (tE (mdOf X) Wx fa)) (hb : PE X b (tE (mdOf X) Wx fb)) (hs : starEach [a, b] X.env = [(false, eval a X.env), (false, eval b X.env)]) (hs2 : starEach [b] X.env = [(false, eval b X.env)]) :
    PI X tg (.Call (.Name "range" p) [a, b] [] pos) (tI (mdOf X) Wx fun ρ W => (fa ρ W).bnd fun x W => (fb ρ W).bnd fun y W => match x, y with
      | .int i, .int j => ofO (dRange i j) W
      | _, _ => .bad) :=
  (pi_range2 hg hm (pa_cons ha (pa_cons hb pa_nil hs2) (by rw [hs, hs2])) hs hs2).imp fun σ H Q ⟨ρ, m, W, he, hw, h⟩ => ⟨ρ, m, W, he, hw, h.bnd.imp fun x m1 W1 H1 s1 hw1 h1 v hv => ⟨ρ, m1, W1, he.mono s1, hw1, h1.bnd.imp fun y m2 W2 H2 s2 hw2 h2 u hu => by
    split at h2
    · cases hv; cases hu
      obtain ⟨ds, e, k⟩ := h2.ofO hw2
      unfold dRange at e
      split at e
      · rename_i hl
        cases e
        exact ⟨_, _, rfl, hl, k H2 (Same.refl _) _ itg_rng⟩
      · cases e
    · exact h2.elim⟩⟩
theorem zip_len {ds : List D} {n : Nat} (h : ds.length = n) : ((List.range n).zipWith (fun i x => pairD (.int (i : Nat)) x) ds) = (((List.range n).map fun (i : Nat) => D.int (i : Int)).zipWith pairD ds) := by
  rw [List.zipWith_map_left]
theorem i_enum {p tpos : Pos} {elts : List Expr} {kk : Nat} (hg : Gl X "enumerate") (hm : X.mg "enumerate" = none) (ha : PE X a (tE (mdOf X) Wx fa)) (hs : starEach [a] X.env = [(false, eval a X.env)]) :
    PI X (.Tuple elts kk tpos) (.Call (.Name "enumerate" p) [a] [] pos) (tI (mdOf X) Wx fun ρ W => (fa ρ W).bnd fun x W => match x with
      | .lst _ => ofO (dEnum W x) W
      | _ => .bad) :=
  (pi_enum hg hm (pa_cons ha pa_nil hs) hs).imp fun σ H Q ⟨ρ, m, W, he, hw, h⟩ => ⟨ρ, m, W, he, hw, h.bnd.imp fun x m1 W1 H1 s1 hw1 h1 v hv => by
    cases x with
    | lst ds =>
      cases hv with
      | lst n hp r =>
        rename_i q xs
        refine ⟨q, xs, rfl, SqL.of hp, ?_⟩
        obtain ⟨es, e, k⟩ := h1.ofO hw1
        refine k H1 (Same.refl _) _ ?_
        have e' : es = (((List.range ds.length).map fun (i : Nat) => D.int (i : Int)).zipWith pairD ds) := by
          rw [← zip_len rfl]; cases e; rfl
        rw [e']
        refine itg_pair walk_enum (by simp [r.length]) (fun m' H' k => SqL.of (k.keep q _ n hp).1) (fun i m' H' x k e hi => ?_) fun i m' H' x k e hi => ?_
        · cases e
          rw [r.length] at hi
          exact ⟨_, by simp [hi], .int _⟩
        · have hl : i < ds.length := by rw [← r.length]; exact hi
          obtain ⟨v, e', is⟩ := r.get (List.getElem?_eq_getElem hl)
          rw [e] at e'; cases e'
          exact ⟨_, List.getElem?_eq_getElem hl, is.kp k⟩
    | _ => exact h1.elim⟩
theorem all_get {M : Md} {m : Ms} {H : Hp} {xs : List V} {ds : List D} (r : IsAll M m H xs ds) {i : Nat} {x : V} (e : xs[i]? = some x) {m' : Ms} {H' : Hp} (k : Kp m H m' H') : ∃ d, ds[i]? = some d ∧ Is M m' H' x d := by
  have hl : i < ds.length := by rw [← r.length]; exact (List.getElem?_eq_some_iff.mp e).1
  obtain ⟨v, e', is⟩ := r.get (List.getElem?_eq_getElem hl)
  rw [e] at e'; cases e'
  exact ⟨_, List.getElem?_eq_getElem hl, is.kp k⟩
theorem walk_zipT' {K : PySem.W.Frag} {a b : Addr} {xs ys : List V} {n : Nat} (hn : n = min xs.length ys.length) : Walk (RZ.ItzT K a b) n (fun H => SqT K H a xs ∧ SqT K H b ys) (YPair (fun i => xs[i]?) (fun i => ys[i]?)) := by
  subst hn
  refine ⟨fun i _ hi q => ?_, fun _ q => ⟨xs, ys, q.1, q.2, by omega⟩, fun i H v H' _ q y => ?_⟩
  · have h1 : i < xs.length := by omega
    have h2 : i < ys.length := by omega
    exact ⟨xs, ys, xs[i], ys[i], q.1, q.2, by simp [h1], by simp [h2]⟩
  · obtain ⟨T, x, z, h1, h2, h3, h4, h5⟩ := y
    exact ⟨T, x, z, h1, h2, h3, h4 xs q.1, h5 ys q.2⟩
theorem i_zip {p tpos : Pos} {elts : List Expr} {kk : Nat} (hg : Gl X "zip") (hm : X.mg "zip" = none) (ha : PE X a (tE (mdOf X) Wx fa)) (hb : PE X b (tE (mdOf X) Wx fb)) (hs : starEach [a, b] X.env = (false, eval a X.env) :: starEach [b] X.env)
    (hs' : starEach [b] X.env = (false, eval b X.env) :: starEach [] X.env) (hpl : (backTo pos (starEach [b] X.env)).any (·.1) = false) :
    PI X (.Tuple elts kk tpos) (.Call (.Name "zip" p) [a, b] [] pos) (tI (mdOf X) Wx fun ρ W => (fa ρ W).bnd fun x W => (fb ρ W).bnd fun y W => match x, y with
      | .lst _, .lst _ => ofO (dZip W x y) W
      | .tup _, .tup _ => ofO (dZip W x y) W
      | _, _ => .bad) :=
  (RZ.pi_zipA hg hm (pa_cons ha (pa_cons hb pa_nil hs') hs) hs hpl).imp fun σ H Q ⟨ρ, m, W, he, hw, h⟩ => ⟨ρ, m, W, he, hw, h.bnd.imp fun x m1 W1 H1 s1 hw1 h1 v hv => ⟨ρ, m1, W1, he.mono s1, hw1, h1.bnd.imp fun y m2 W2 H2 s2 hw2 h2 u hu => by
    have hv2 := hv.mono s2
    split at h2
    · obtain ⟨es, e, k⟩ := h2.ofO hw2
      have k' := k H2 (Same.refl _)
      cases e
      cases hv2 with
      | lst n1 hp1 r1 => cases hu with
        | lst n2 hp2 r2 =>
          refine ⟨_, _, _, _, rfl, .inl ⟨SqL.of hp1, SqL.of hp2, k' _ ?_⟩⟩
          exact itg_pair (walk_zip rfl) (by rw [List.length_zipWith, r1.length, r2.length]) (fun m' H' k => ⟨SqL.of (k.keep _ _ n1 hp1).1, SqL.of (k.keep _ _ n2 hp2).1⟩) (fun i m' H' x k e hi => all_get r1 e k) fun i m' H' x k e hi => all_get r2 e k
    · obtain ⟨es, e, k⟩ := h2.ofO hw2
      have k' := k H2 (Same.refl _)
      cases e
      cases hv2 with
      | tup hp1 r1 => cases hu with
        | tup hp2 r2 =>
          refine ⟨_, _, _, _, rfl, .inr ⟨hp1.seq, hp2.seq, k' _ ?_⟩⟩
          exact itg_pair (walk_zipT' rfl) (by rw [List.length_zipWith, r1.length, r2.length]) (fun m' H' k => ⟨(hp1.kp k).seq, (hp2.kp k).seq⟩) (fun i m' H' x k e hi => all_get r1 e k) fun i m' H' x k e hi => all_get r2 e k
    · exact h2.elim⟩⟩
end
end PL

/-! PL10: targets, comprehensions, by data. -/
namespace PL
open PySem PySem.Spec PyProof.Rows L2

/-! ### what is known of the names -/
structure ScOk (X : Cx) (sc : Scope) : Prop where
  loc : ∀ x, sc.names.lookup x = some .local → X.env.scope.names.lookup x = some .local
  cel : ∀ x, sc.names.lookup x = some .cell → X.env.scope.names.lookup x = some .cell ∧ X.fn x = true
  fre : ∀ x, sc.names.lookup x = some .free → X.env.scope.names.lookup x = some .cell ∨ X.env.scope.names.lookup x = some .free
  glb : ∀ x, sc.names.lookup x = some .globalImplicit → Gl X x
/-- the name is the i-th, and is seen -/
def visB (N : List Str) (sc : Scope) (i : Nat) (x : Str) : Bool := (match N[i]? with | some y => x == y | none => false) && (match sc.names.lookup x with
  | some .local => true
  | some .cell => true
  | some .free => true
  | _ => false) && !(x == ("__debug__" : Str)) && !(x == ("__classdict__" : Str))
def glbB (sc : Scope) (x : Str) : Bool := (match sc.names.lookup x with
  | some .globalImplicit => true
  | _ => false) && !(x == ("__debug__" : Str)) && !(x == ("__name__" : Str))
def locB (N : List Str) (sc : Scope) (i : Nat) (x : Str) : Bool := (match N[i]? with | some y => x == y | none => false) && (match sc.names.lookup x with
  | some .local => true
  | some .cell => true
  | _ => false)
theorem ixB {N : List Str} {i : Nat} {x : Str} (h : (match N[i]? with | some y => x == y | none => false) = true) : N[i]? = some x := by
  split at h
  · rename_i y e
    rw [e, beq_iff_eq.mp h]
  · cases h
section
variable {X : Cx} {sc : Scope}
theorem visB_ok {i : Nat} {x : Str} (S : ScOk X sc) (h : visB X.N sc i x = true) : X.N[i]? = some x ∧ Vis X.env.scope x ∧ (x == ("__debug__" : Str)) = false ∧ (x == ("__classdict__" : Str)) = false := by
  unfold visB at h
  simp only [Bool.and_eq_true, Bool.not_eq_true'] at h
  obtain ⟨⟨⟨h1, h2⟩, h3⟩, h4⟩ := h
  refine ⟨ixB h1, ?_, h3, h4⟩
  split at h2
  · exact .inl (S.loc x (by assumption))
  · exact .inr (.inl (S.cel x (by assumption)).1)
  · exact .inr (S.fre x (by assumption))
  · cases h2
theorem glbB_ok {x : Str} (S : ScOk X sc) (h : glbB sc x = true) : Gl X x ∧ (x == ("__debug__" : Str)) = false ∧ x ≠ "__name__" := by
  unfold glbB at h
  simp only [Bool.and_eq_true, Bool.not_eq_true'] at h
  obtain ⟨⟨h1, h2⟩, h3⟩ := h
  refine ⟨?_, h2, fun e => by rw [e] at h3; simp at h3⟩
  split at h1
  · exact S.glb x (by assumption)
  · cases h1
theorem locB_ok {i : Nat} {x : Str} (S : ScOk X sc) (h : locB X.N sc i x = true) : X.N[i]? = some x ∧ Loc X.env.scope x ∧ (X.fn x = true ∨ X.env.scope.names.lookup x = some .local) := by
  unfold locB at h
  simp only [Bool.and_eq_true] at h
  obtain ⟨h1, h2⟩ := h
  refine ⟨ixB h1, ?_⟩
  split at h2
  · exact ⟨.inl (S.loc x (by assumption)), .inr (S.loc x (by assumption))⟩
  · exact ⟨.inr (S.cel x (by assumption)).1, .inl (S.cel x (by assumption)).2⟩
  · cases h2
theorem relS_free {scope : Scope} : ∀ {names : List (Str × NameKind)} {x : Str}, names.lookup x = some .free →
    (names.map fun (n, k) => if (k == NameKind.free && scope.kind == .function && scope.names.lookup n == some .cell) then (n, NameKind.cell) else (n, k)).lookup x = some .cell ∨
    (names.map fun (n, k) => if (k == NameKind.free && scope.kind == .function && scope.names.lookup n == some .cell) then (n, NameKind.cell) else (n, k)).lookup x = some .free
  | [], _, h => by simp at h
  | (n, k) :: r, x, h => by
    show List.lookup x ((if (k == NameKind.free && scope.kind == .function && scope.names.lookup n == some .cell) = true then (n, NameKind.cell) else (n, k)) :: (r.map _)) = some .cell ∨
      List.lookup x ((if (k == NameKind.free && scope.kind == .function && scope.names.lookup n == some .cell) = true then (n, NameKind.cell) else (n, k)) :: (r.map _)) = some .free
    cases hx : x == n with
    | true =>
      simp only [List.lookup_cons, hx] at h
      cases h
      split
      · left; simp only [List.lookup_cons, hx]
      · right; simp only [List.lookup_cons, hx]
    | false =>
      simp only [List.lookup_cons, hx] at h
      have ih := @relS_free scope r x h
      split <;> (simp only [List.lookup_cons, hx]; exact ih)
theorem ScOk.blk {s : Shared} {H : Hp} {C : Addr} {cl : List (Str × Addr)} {fp : List Addr} {scope : Scope} : ScOk (X.blk s H scope (compEnvC scope cl C X.env) fp) scope :=
  ⟨fun x e => lookup_relS_keep (by decide) e, fun x e => ⟨lookup_relS_keep (by decide) e, by show (scope.names.lookup x == some .cell) = true; rw [e]; rfl⟩, fun x e => relS_free e, fun x e => lookup_relS_keep (sc := X.env.scope) (by decide) e⟩
/-- the block's names against the raw scope -/
def blkB (N : List Str) (sc scope : Scope) (own : List (Str × Nat)) : Bool :=
  (match scope.kind with | .function => true | _ => false) && (scope.names.all fun y => match scope.names.lookup y.1 with | some k => k == y.2 | none => false) && (own.all fun p => match N[p.2]? with | some y => p.1 == y | none => false) &&
    (scope.names.all fun y => match y.2 with
      | .free => (match sc.names.lookup y.1 with | some .cell => true | some .free => true | _ => false)
      | .local => (own.any fun p => p.1 == y.1) || !(N.any fun z => z == y.1)
      | .cell => (own.any fun p => p.1 == y.1) || !(N.any fun z => z == y.1)
      | _ => true)
theorem blkB_ok {scope : Scope} {own : List (Str × Nat)} (S : ScOk X sc) (h : blkB X.N sc scope own = true) : BlkOk X.N X.env.scope scope own := by
  unfold blkB at h
  simp only [Bool.and_eq_true, List.all_eq_true] at h
  obtain ⟨⟨⟨h1, h2⟩, h3⟩, h4⟩ := h
  refine ⟨?_, fun y hy => ?_, fun p hp => ixB (h3 p hp), fun y hy e => ?_, fun y hy e => ?_⟩
  · split at h1
    · assumption
    · cases h1
  · have q := h2 y hy
    split at q
    · rename_i k e
      rw [e, beq_iff_eq.mp q]
    · cases q
  · have q := h4 y hy
    simp only [e] at q
    split at q
    · exact .inl (S.cel _ (by assumption)).1
    · exact S.fre _ (by assumption)
    · cases q
  · have q := h4 y hy
    have q' : ((own.any fun p => p.1 == y.1) || !(X.N.any fun z => z == y.1)) = true := by rcases e with e | e <;> (simp only [e] at q; exact q)
    rw [Bool.or_eq_true] at q'
    rcases q' with q | q
    · left
      obtain ⟨p, hp, e⟩ := List.any_eq_true.mp q
      exact List.mem_map.mpr ⟨p, hp, beq_iff_eq.mp e⟩
    · right
      intro hm
      rw [Bool.not_eq_true'] at q
      have := List.any_eq_false.mp q _ hm
      simp at this
end

/-! ### targets -/
mutual
def T.ixs : T → List Nat
  | .nm i => [i]
  | .tp ts => T.ixss ts
def T.ixss : List T → List Nat
  | [] => []
  | t :: ts => T.ixs t ++ T.ixss ts
end
mutual
def chkT (N : List Str) (sc : Scope) : T → Expr → Bool
  | .nm i, e => match e with
    | .Name x _ => locB N sc i x
    | _ => false
  | .tp ts, e => match e with
    | .Tuple es _ _ => chkTs N sc ts es
    | _ => false
def chkTs (N : List Str) (sc : Scope) : List T → List Expr → Bool
  | [], es => match es with
    | [] => true
    | _ => false
  | t :: ts, es => match es with
    | e :: es => chkT N sc t e && chkTs N sc ts es
    | [] => false
end
def tG (M : Md) (t : T) : TG := fun v σ H Q => ∃ ρ m W d ρ', EnvOk M m H σ ρ ∧ Is M m H v d ∧ t.put W d ρ = some ρ' ∧ ∀ σ', EnvOk M m H σ' ρ' → σ'.length = σ.length → (∀ j, j ∉ t.ixs → σ'[j]? = σ[j]?) → Q σ' H
def tGs (M : Md) (ts : List T) : TGs := fun vs σ H Q => ∃ ρ m W ds ρ', EnvOk M m H σ ρ ∧ IsAll M m H vs ds ∧ ds.length = ts.length ∧ T.puts W ts ds ρ = some ρ' ∧ ∀ σ', EnvOk M m H σ' ρ' → σ'.length = σ.length → (∀ j, j ∉ T.ixss ts → σ'[j]? = σ[j]?) → Q σ' H
theorem _root_.L2.PG.imp {X : Cx} {tg : Expr} {t t' : TG} (h : PG X tg t) (f : ∀ v σ H Q, t' v σ H Q → t v σ H Q) : PG X tg t' := ⟨fun pins s σ H v u Q I r q => h.run pins s σ H v u Q I r (f v σ H Q q)⟩
theorem _root_.L2.PGs.imp {X : Cx} {tg : List Expr} {t t' : TGs} (h : PGs X tg t) (f : ∀ v σ H Q, t' v σ H Q → t v σ H Q) : PGs X tg t' := ⟨fun pins s σ H v u Q I r q => h.run pins s σ H v u Q I r (f v σ H Q q)⟩
section
variable {X : Cx} {sc : Scope}
theorem assign_plain {N : List Str} : ∀ {ts : List T} {es : List Expr} {env : Env}, chkTs N sc ts es = true → (assignEach es env).map (·.2) = es.map (fun e => assign e env) ∧ (assignEach es env).length = ts.length ∧ ∀ p ∈ assignEach es env, p.1 = false
  | [], es, env, h => by
    cases es with
    | nil => exact ⟨rfl, rfl, fun p hp => by cases hp⟩
    | cons _ _ => simp [chkTs] at h
  | t :: ts, es, env, h => by
    cases es with
    | nil => simp [chkTs] at h
    | cons e es =>
      simp only [chkTs, Bool.and_eq_true] at h
      obtain ⟨h1, h2⟩ := h
      obtain ⟨i1, i2, i3⟩ := assign_plain (env := env) h2
      have key : assignEach (e :: es) env = (false, assign e env) :: assignEach es env := by
        cases t with
        | nm i => cases e <;> first | rfl | (simp [chkT] at h1)
        | tp ts => cases e <;> first | rfl | (simp [chkT] at h1)
      rw [key]
      refine ⟨by rw [List.map_cons, List.map_cons, i1], by rw [List.length_cons, List.length_cons, i2], fun p hp => ?_⟩
      rcases List.mem_cons.mp hp with rfl | hp
      · rfl
      · exact i3 p hp
mutual
theorem g_ok (hc : X.calm = true) (hN : X.N.Nodup) (S : ScOk X sc) : ∀ (t : T) (e : Expr), chkT X.N sc t e = true → PG X e (tG (mdOf X) t)
  | .nm i, e, h => by
    cases e with
    | Name x p =>
      simp only [chkT] at h
      obtain ⟨h1, h2, h3⟩ := locB_ok S h
      refine (pg_name hN h1 h2 h3).imp fun v σ H Q ⟨ρ, m, W, d, ρ', he, hv, e, k⟩ => ?_
      simp only [T.put] at e
      split at e
      · cases e
        exact k _ (he.set hv) (by simp) fun j hj => List.getElem?_set_ne (fun q => hj (by simp [T.ixs, q]))
      · cases e
    | _ => simp [chkT] at h
  | .tp ts, e, h => by
    cases e with
    | Tuple es k p =>
      simp only [chkT] at h
      obtain ⟨h1, h2, h3⟩ := assign_plain (env := X.env) h
      refine (pg_tup hc (gs_ok hc hN S ts es h) h2 (List.findIdx?_eq_none_iff.mpr fun p hp => by simpa using h3 p hp)).imp fun v σ H Q ⟨ρ, m, W, d, ρ', he, hv, e, k⟩ => ?_
      simp only [T.put] at e
      split at e
      · rename_i xs
        split at e
        · rename_i hl
          obtain ⟨a, vs, rfl, hq, r⟩ := hv.asT
          exact ⟨a, vs, rfl, hq.seq, r.length.trans hl, ρ, m, W, xs, ρ', he, r, hl, e, fun σ' h1 h2 h3 => k σ' h1 h2 h3⟩
        · cases e
      · cases e
    | _ => simp [chkT] at h
theorem gs_ok (hc : X.calm = true) (hN : X.N.Nodup) (S : ScOk X sc) : ∀ (ts : List T) (es : List Expr), chkTs X.N sc ts es = true → PGs X es (tGs (mdOf X) ts)
  | [], es, h => by
    cases es with
    | nil =>
      refine pgs_nil.imp fun vs σ H Q ⟨ρ, m, W, ds, ρ', he, hv, hl, e, k⟩ => ?_
      have : ds = [] := List.eq_nil_of_length_eq_zero hl
      subst this
      cases hv
      simp only [T.puts] at e
      cases e
      exact ⟨rfl, k σ he rfl fun _ _ => rfl⟩
    | cons _ _ => simp [chkTs] at h
  | t :: ts, es, h => by
    cases es with
    | nil => simp [chkTs] at h
    | cons e es =>
      have h' := h
      simp only [chkTs, Bool.and_eq_true] at h
      obtain ⟨a1, _, _⟩ := assign_plain (env := X.env) h'
      obtain ⟨a2, _, _⟩ := assign_plain (env := X.env) h.2
      refine (pgs_cons (g_ok hc hN S t e h.1) (gs_ok hc hN S ts es h.2) (by rw [a1, a2, List.map_cons])).imp fun vs σ H Q ⟨ρ, m, W, ds, ρ', he, hv, hl, e, k⟩ => ?_
      cases hv with
      | nil => simp at hl
      | cons r1 r2 =>
        simp only [T.puts] at e
        split at e
        · rename_i ρ1 e1
          refine ⟨_, _, rfl, ρ, m, W, _, ρ1, he, r1, e1, fun σ1 g1 g2 g3 => ?_⟩
          exact ⟨ρ1, m, W, _, ρ', g1, r2, by simpa using hl, e, fun σ2 f1 f2 f3 => k σ2 f1 (f2.trans g2) fun j hj => by
            simp only [T.ixss, List.mem_append, not_or] at hj
            rw [f3 j hj.2, g3 j hj.1]⟩
        · cases e
end
end

/-! ### the own names forgotten -/
theorem wipe_at {σ : L2.St} : ∀ (vs : List Nat) (j : Nat), j ∉ vs → (L2.wipe σ vs)[j]? = σ[j]?
  | [], _, _ => rfl
  | v :: vs, j, h => by
    unfold L2.wipe
    simp only [List.mem_cons, not_or] at h
    rw [List.getElem?_set_ne (Ne.symm h.1)]
    exact wipe_at vs j h.2
theorem wipe_in {σ : L2.St} : ∀ (vs : List Nat) (j : Nat), j ∈ vs → j < σ.length → (L2.wipe σ vs)[j]? = some none
  | [], _, h, _ => by cases h
  | v :: vs, j, h, hl => by
    unfold L2.wipe
    by_cases e : v = j
    · subst e
      exact List.getElem?_set_self (by rw [L2.wipe_length]; exact hl)
    · rw [List.getElem?_set_ne e]
      rcases List.mem_cons.mp h with h | h
      · exact absurd h.symm e
      · exact wipe_in vs j h hl
theorem wipe_ext {σ σ' : L2.St} (vs : List Nat) (hl : σ'.length = σ.length) (h : ∀ j, j ∉ vs → σ'[j]? = σ[j]?) : L2.wipe σ' vs = L2.wipe σ vs := by
  refine List.ext_getElem? fun j => ?_
  by_cases hj : j ∈ vs
  · by_cases hh : j < σ.length
    · rw [wipe_in vs j hj hh, wipe_in vs j hj (by rw [hl]; exact hh)]
    · rw [List.getElem?_eq_none (by rw [L2.wipe_length]; omega), List.getElem?_eq_none (by rw [L2.wipe_length]; omega)]
  · rw [wipe_at vs j hj, wipe_at vs j hj, h j hj]
section
variable {M : Md} {m : Ms} {H : Hp} {σ : L2.St} {ρ : EnvD}
theorem EnvOk.unset (h : EnvOk M m H σ ρ) (v : Nat) : EnvOk M m H (σ.set v none) (ρ.set v none) := ⟨fun j e q => by
  by_cases hj : j = v
  · subst hj
    by_cases hl : j < ρ.length
    · rw [List.getElem?_set_self hl] at q; cases q
    · rw [List.getElem?_eq_none (by simpa using hl)] at q; cases q
  · rw [List.getElem?_set_ne (Ne.symm hj)] at q ⊢
    exact h.at_ j e q, by simp [h.len]⟩
theorem EnvOk.wipe (h : EnvOk M m H σ ρ) : ∀ vs : List Nat, EnvOk M m H (L2.wipe σ vs) (wipeD ρ vs)
  | [] => h
  | v :: vs => by
    unfold L2.wipe wipeD
    exact (EnvOk.wipe h vs).unset v
end
end PL

/-! PL11: list comprehensions, by data. -/
namespace PL
open PySem PySem.Spec PyProof.Rows L2

theorem lcLoop_cons {asg : D → Wd → Option EnvD} {tst : EnvD → Wd → R Bool} {elt : EnvD → Wd → R D} {d : D} {ds ys : List D} {W Wf : Wd} (h : lcLoop asg tst elt (d :: ds) W = .ok ys Wf) :
    ∃ ρ b W1, asg d W = some ρ ∧ tst ρ W = .ok b W1 ∧ ((b = true ∧ ∃ y W2 zs, elt ρ W1 = .ok y W2 ∧ lcLoop asg tst elt ds W2 = .ok zs Wf ∧ ys = y :: zs) ∨ (b = false ∧ lcLoop asg tst elt ds W1 = .ok ys Wf)) := by
  unfold lcLoop at h
  cases e1 : asg d W with
  | none => rw [e1] at h; cases h
  | some ρ =>
    rw [e1] at h
    cases e2 : tst ρ W with
    | bad => simp only [e2, R.bndX] at h; cases h
    | err _ _ => simp only [e2, R.bndX] at h; cases h
    | ok b W1 =>
      simp only [e2, R.bndX] at h
      refine ⟨ρ, b, W1, rfl, e2, ?_⟩
      cases b with
      | false => exact .inr ⟨rfl, by simpa using h⟩
      | true =>
        left
        simp only [if_pos] at h
        cases e3 : elt ρ W1 with
        | bad => rw [e3] at h; cases h
        | err _ _ => rw [e3] at h; cases h
        | ok y W2 =>
          rw [e3] at h
          simp only at h
          cases e4 : lcLoop asg tst elt ds W2 with
          | bad => rw [e4] at h; cases h
          | err _ _ => rw [e4] at h; cases h
          | ok zs W3 =>
            rw [e4] at h
            cases h
            exact ⟨rfl, y, W2, zs, rfl, e4, rfl⟩
/-- at a turn -/
structure LcAt (M : Md) (m1 : Ms) (H1 : Hp) (Dn : Addr) (asg : D → Wd → Option EnvD) (ft : EnvD → Wd → R Bool) (fe : EnvD → Wd → R D) (ds ys : List D) (Wf : Wd) (i : Nat) (m' : Ms) (W' : Wd) (acc : List V) (accD zs : List D) (H : Hp) : Prop where
  kp : Kp m1 H1 m' H
  op : m'.op = Dn :: m1.op
  opk : ∀ a ∈ m1.op, ∀ o, H1 a = some o → H a = some o
  ok : WOk M m' W' H
  at_ : H Dn = some (.lst acc)
  all : IsAll M m' H acc accD
  go : lcLoop asg ft fe (ds.drop i) W' = .ok zs Wf
  fin : accD ++ zs = ys
section
variable {X : Cx} {sc : Scope} {Wx : WX}
abbrev W0 : WX := fun _ _ _ _ => False
theorem e_lc {own : List (Str × Nat)} {t : T} {fi : EnvD → Wd → R (List D)} {ft : EnvD → Wd → R Bool} {fe : EnvD → Wd → R D}
    {te : TE} {tt : TT} {g : TG} {wi : TI} (hte : te = tE (mdOf X) W0 fe) (htt : tt = tB (mdOf X) W0 ft) (hg : g = tG (mdOf X) t) (hwi : wi = tI (mdOf X) Wx fi) (ht : ∀ j ∈ t.ixs, j ∈ own.map (·.2)) :
    ∀ σ H Q, tE (mdOf X) Wx (fun ρ W => (fi ρ W).bnd fun ds W => (lcLoop (fun d W => t.put W d (wipeD ρ (own.map (·.2)))) ft fe ds W).bndX fun ys W => if ys.length ≤ 16777216 then .ok (.lst ys) W else .bad) σ H Q →
      tLc wi g tt te (own.map (·.2)) σ H Q := by
  subst hte htt hg hwi
  intro σ H Q ⟨ρ, m, W, he, hw, h⟩
  refine ⟨ρ, m, W, he, hw, h.bnd.imp fun ds m1 W1 H1 s1 hw1 h1 J hJ Dn hD => ?_⟩
  obtain ⟨G, Y, wk, hG, hY⟩ := hJ
  have hD0 : ∀ a o, H1 a = some o → a ≠ Dn := fun a o e q => by rw [q, hD] at e; cases e
  cases q : lcLoop (fun d W => t.put W d (wipeD ρ (own.map (·.2)))) ft fe ds W1 with
  | bad => rw [q] at h1; exact h1.elim
  | err _ _ => rw [q] at h1; exact h1.elim
  | ok ys Wf =>
    rw [q] at h1
    obtain ⟨hl, h1⟩ := (show aft (mdOf X) Wx m1 H1 (if ys.length ≤ 16777216 then R.ok (D.lst ys) Wf else .bad) _ from h1).ite
    have hl' : ys.length ≤ sizeLine := by rw [sizeLine_eq]; exact hl
    refine lc_it wk (Pv := fun i H => ∃ m' W' acc accD zs, LcAt (mdOf X) m1 H1 Dn (fun d W => t.put W d (wipeD ρ (own.map (·.2)))) ft fe ds ys Wf i m' W' acc accD zs H) ?_ ?_ ?_ ?_
    · refine ⟨⟨m1.ch, Dn :: m1.op⟩, W1, [], [], ys, ⟨⟨[], by simp⟩, fun a o n e => ⟨?_, ?_⟩⟩, rfl, fun a ha o e => ?_, ⟨hw1.len, hw1.nd, fun i xs e => ?_, fun a ha => ?_⟩, upd_same, .nil, q, rfl⟩
      · rw [upd_ne (hD0 a o e)]; exact e
      · rintro (z | z)
        · exact n (.inl z)
        · rcases List.mem_cons.mp z with z | z
          · exact hD0 a o e z
          · exact n (.inr z)
      · rw [upd_ne (hD0 a o e)]; exact e
      · obtain ⟨a, vs, e1, e2, e3⟩ := hw1.at_ i xs e
        refine ⟨a, vs, e1, by rw [upd_ne (hD0 a _ e2)]; exact e2, e3.kp ⟨⟨[], by simp⟩, fun b o n e => ⟨by rw [upd_ne (hD0 b o e)]; exact e, ?_⟩⟩⟩
        rintro (z | z)
        · exact n (.inl z)
        · rcases List.mem_cons.mp z with z | z
          · exact hD0 b o e z
          · exact n (.inr z)
      · rcases List.mem_cons.mp ha with z | z
        · subst z
          exact ⟨fun z => hw1.notIn hD (.inl z), _, upd_same⟩
        · obtain ⟨n, o, e⟩ := hw1.opn a z
          exact ⟨n, o, by rw [upd_ne (hD0 a o e)]; exact e⟩
    · rintro i H hi ⟨m', W', acc, accD, zs, L⟩
      exact hG m' H L.kp
    · rintro i x H2 H3 hi ⟨m', W', acc, accD, zs, L⟩ y
      obtain ⟨d, e1, sm, is⟩ := hY i m' W' H2 x H3 L.kp L.ok y
      have hdrop : ds.drop i = d :: ds.drop (i + 1) := by
        rw [List.drop_eq_getElem_cons hi]
        rw [List.getElem?_eq_getElem hi] at e1
        cases e1; rfl
      have hgo := L.go
      rw [hdrop] at hgo
      obtain ⟨ρ1, b, Wb, c1, c2, c3⟩ := lcLoop_cons hgo
      have kall : Kp m H m' H3 := (s1.kp.trans L.kp).trans (Step.same sm).kp
      have hw3 := L.ok.mono sm
      refine ⟨wipeD ρ (own.map (·.2)), m', W', d, ρ1, (he.kp kall).wipe _, is, c1, fun σ2 g1 g2 g3 => ⟨?_, ρ1, m', W', g1, hw3, ?_⟩⟩
      · rw [L2.wipe_length] at g2
        exact wipe_ext _ g2 fun j hj => by
          rw [g3 j fun z => hj (ht j z), wipe_at _ j hj]
      · rw [c2]
        intro m3 H4 st3 hw4
        have D4 : H4 Dn = some (.lst acc) := st3.opk Dn (by rw [L.op]; exact List.mem_cons_self) _ (sm _ _ L.at_)
        have kp4 : Kp m1 H1 m3 H4 := (L.kp.trans (Step.same sm).kp).trans st3.kp
        have op4 : m3.op = Dn :: m1.op := st3.op.trans L.op
        have opk4 : ∀ a ∈ m1.op, ∀ o, H1 a = some o → H4 a = some o := fun a ha o e => st3.opk a (by rw [L.op]; exact List.mem_cons_of_mem _ ha) o (sm _ _ (L.opk a ha o e))
        have all4 : IsAll (mdOf X) m3 H4 acc accD := (L.all.mono (.same sm)).mono st3
        rcases c3 with ⟨rfl, y, W2, zs', c4, c5, rfl⟩ | ⟨rfl, c5⟩
        · simp only [if_pos]
          refine ⟨ρ1, m3, Wb, g1.mono st3, hw4, ?_⟩
          rw [c4]
          intro m5 H5 st5 hw5 v hv
          have D5 : H5 Dn = some (.lst acc) := st5.opk Dn (by rw [op4]; exact List.mem_cons_self) _ D4
          have op5 : m5.op = Dn :: m1.op := st5.op.trans op4
          have all5 := all4.mono st5
          have kD : Kp m5 H5 m5 (upd H5 Dn (.lst (acc ++ [v]))) := ⟨⟨[], by simp⟩, fun a o n e => ⟨by rw [upd_ne (fun z => n (.inr (by rw [op5, z]; exact List.mem_cons_self)))]; exact e, n⟩⟩
          refine ⟨acc, D5, ?_, m5, W2, acc ++ [v], accD ++ [y], zs', (kp4.trans st5.kp).trans kD, op5, fun a ha o e => ?_, ⟨hw5.len, hw5.nd, fun j xs e => ?_, fun a ha => ?_⟩, upd_same, (all5.append (.cons hv .nil)).kp kD, c5, by rw [← L.fin]; simp⟩
          · have e1 := all5.length
            have e2 := congrArg List.length L.fin
            simp only [List.length_append, List.length_cons] at e2
            omega
          · rw [upd_ne (hD0 a o e)]
            exact st5.opk a (by rw [op4]; exact List.mem_cons_of_mem _ ha) o (opk4 a ha o e)
          · obtain ⟨a, vs, f1, f2, f3⟩ := hw5.at_ j xs e
            have ne : a ≠ Dn := fun z => by
              obtain ⟨n, _⟩ := hw5.opn Dn (by rw [op5]; exact List.mem_cons_self)
              exact n (by rw [← z]; exact List.mem_of_getElem? f1)
            exact ⟨a, vs, f1, by rw [upd_ne ne]; exact f2, f3.kp kD⟩
          · obtain ⟨n, o, e⟩ := hw5.opn a ha
            by_cases z : a = Dn
            · subst z; exact ⟨n, _, upd_same⟩
            · exact ⟨n, o, by rw [upd_ne z]; exact e⟩
        · simp only [Bool.false_eq_true, if_false]
          exact ⟨m3, Wb, acc, accD, zs, kp4, op4, opk4, hw4, D4, all4, c5, L.fin⟩
    · rintro H' ⟨m', W', acc, accD, zs, L⟩
      have e0 : ds.drop ds.length = [] := by simp
      have hgo := L.go
      rw [e0] at hgo
      unfold lcLoop at hgo
      cases hgo
      have ef := L.fin
      rw [List.append_nil] at ef
      have kc : Kp m' H' ⟨m'.ch, m1.op⟩ H' := ⟨⟨[], by simp⟩, fun a o n e => ⟨e, fun z => n (z.imp id fun z => by rw [L.op]; exact List.mem_cons_of_mem _ z)⟩⟩
      have nD : ¬ Ms.has ⟨m'.ch, m1.op⟩ Dn := by
        rintro (z | z)
        · exact (L.ok.opn Dn (by rw [L.op]; exact List.mem_cons_self)).1 z
        · exact hw1.notIn hD (.inr z)
      refine h1 ⟨m'.ch, m1.op⟩ H' ⟨L.kp.trans kc, rfl, L.opk⟩ ⟨L.ok.len, L.ok.nd, fun i xs e => ?_, fun a ha => L.ok.opn a (by rw [L.op]; exact List.mem_cons_of_mem _ ha)⟩ (.ref Dn) (.lst nD L.at_ (by rw [← ef]; exact L.all.kp kc))
      obtain ⟨a, vs, f1, f2, f3⟩ := L.ok.at_ i xs e
      exact ⟨a, vs, f1, f2, f3.kp kc⟩
end
end PL

/-! PL12: the check of codes against expressions, and that it is sound. -/
namespace PL
open PySem PySem.Spec PyProof.Rows L2

mutual
def D.same : D → D → Bool
  | .non, .non => true
  | .bl a, .bl b => a == b
  | .int a, .int b => a == b
  | .str a, .str b => a == b
  | .tup a, .tup b => D.sames a b
  | .lst a, .lst b => D.sames a b
  | .fn a, .fn b => a == b
  | _, _ => false
def D.sames : List D → List D → Bool
  | [], [] => true
  | a :: as, b :: bs => D.same a b && D.sames as bs
  | _, _ => false
end
mutual
theorem D.same_ok : ∀ {a b : D}, D.same a b = true → a = b
  | .non, .non, _ => rfl
  | .bl a, .bl b, h => by simp [D.same] at h; rw [h]
  | .int a, .int b, h => by simp [D.same] at h; rw [h]
  | .str a, .str b, h => by simp [D.same] at h; rw [h]
  | .tup a, .tup b, h => by simp only [D.same] at h; rw [D.sames_ok h]
  | .lst a, .lst b, h => by simp only [D.same] at h; rw [D.sames_ok h]
  | .fn a, .fn b, h => by simp [D.same] at h; rw [h]
  | .dct a, b, h => by cases b <;> simp [D.same] at h
  | .ref a, b, h => by cases b <;> simp [D.same] at h
  | .scr a, b, h => by cases b <;> simp [D.same] at h
theorem D.sames_ok : ∀ {a b : List D}, D.sames a b = true → a = b
  | [], [], _ => rfl
  | a :: as, b :: bs, h => by
    simp only [D.sames, Bool.and_eq_true] at h
    rw [D.same_ok h.1, D.sames_ok h.2]
  | [], _ :: _, h => by simp [D.sames] at h
  | _ :: _, [], h => by simp [D.sames] at h
end

structure Glb where
  fns : List Str
  frees : List Str
  gs : List (Str × D)
structure Gd (X : Cx) (Δ : Tab) (G : Glb) : Prop where
  calm : X.calm = true
  nd : X.N.Nodup
  units : X.A.units + 200 < cLine
  fns : ∀ x ∈ G.fns, ∃ k f fd ps, FnOk X.prog X.w X.K X.mg X.base (L2.CX X.prog X.w) k f fd ps (spD (mdOf X) (Δ x)) ∧ Room k X.A ∧ X.mg x = some (.ref f) ∧ PySem.W.keepIn X.K (.ref f) = true ∧ Binds X.K fd ps []
  free : ∀ x ∈ G.frees, X.mg x = none
  gs : ∀ p ∈ G.gs, ∃ v u, X.mg p.1 = some u ∧ RelV v u ∧ ∀ m H, Is (mdOf X) m H v p.2

/-! ### small checks -/
def nostar : Expr → Bool
  | .Starred _ _ => false
  | _ => true
def noslice : Expr → Bool
  | .Slice _ _ _ _ => false
  | _ => true
def noset : Expr → Bool
  | .Set _ _ _ => false
  | _ => true
def baseB : Expr → Bool
  | .Call _ _ _ _ => false
  | _ => true
def cstB : D → Const → Bool
  | .non, .none => true
  | .bl a, .bool b => a == b
  | .int a, .int b => a == b
  | .str a, .str b => a == b && PyData.strOk a
  | _, _ => false
def binB : Operator → Bool
  | .Add => true
  | .Sub => true
  | .Mult => true
  | .FloorDiv => true
  | .Mod => true
  | .Pow => true
  | _ => false
theorem star_ok {e : Expr} {es : List Expr} {env : Env} (h : nostar e = true) : starEach (e :: es) env = (false, eval e env) :: starEach es env := by
  cases e <;> first | rfl | cases h
theorem slice_ok {e : Expr} (h : noslice e = true) : ∀ o i, subscripted e false o i = operate [o, i] (getItem o i) := by
  cases e <;> first | (intro o i; rfl) | cases h
theorem set_ok {e : Expr} (h : noset e = true) (env : Env) : ∀ x, foldedSetIterable e env x = pure x := by
  cases e <;> first | (intro x; rfl) | cases h
theorem base_ok {e : Expr} {a : Str} {env : Env} (h : baseB e = true) (w : Sem Value) : attributeBase e a env w = w := by
  cases e <;> first | rfl | cases h
theorem any_ok {es : List Expr} {env : Env} {pos : Pos} (h : es.all nostar = true) : (backTo pos (starEach es env)).any (·.1) = false := by
  induction es with
  | nil => rfl
  | cons e es ih =>
    simp only [List.all_cons, Bool.and_eq_true] at h
    rw [star_ok h.1]
    show (false || (backTo pos (starEach es env)).any (·.1)) = false
    rw [ih h.2]; rfl

/-! ### the check -/
section
variable (G : Glb) (N : List Str)
mutual
def chk (sc : Scope) : C → Expr → Bool
  | .var i, e => match e with
    | .Name x _ => visB N sc i x
    | _ => false
  | .cst d, e => match e with
    | .Constant c _ _ => cstB d c
    | _ => false
  | .glo x d, e => match e with
    | .Name y _ => x == y && glbB sc y && (match G.gs.find? fun p => p.1 == y with
      | some p => D.same p.2 d
      | none => false)
    | _ => false
  | .tup es, e => match e with
    | .Tuple es' _ _ => chks sc es es'
    | _ => false
  | .lst es, e => match e with
    | .List es' _ => chks sc es es'
    | _ => false
  | .bin o a b, e => match e with
    | .BinOp a' o' b' _ => o == o' && binB o' && chk sc a a' && chk sc b b'
    | _ => false
  | .neg a, e => match e with
    | .UnaryOp .USub a' _ => chk sc a a'
    | _ => false
  | .not a, e => match e with
    | .UnaryOp .Not a' _ => chk sc a a'
    | _ => false
  | .and es, e => match e with
    | .BoolOp .And es' _ => !es'.isEmpty && chks sc es es'
    | _ => false
  | .or es, e => match e with
    | .BoolOp .Or es' _ => !es'.isEmpty && chks sc es es'
    | _ => false
  | .cmp o a b, e => match e with
    | .Compare a' [o'] [b'] _ => o == o' && !(behindInMarks o' b') && chk sc a a' && chk sc b b'
    | _ => false
  | .cmp2 o p a b c, e => match e with
    | .Compare a' [o', p'] [b', c'] _ => o == o' && p == p' && !(lastMarks [o', p'] [b', c']) && chk sc a a' && chk sc b b' && chk sc c c'
    | _ => false
  | .ite t a b, e => match e with
    | .IfExp t' a' b' _ => chk sc t t' && chk sc a a' && chk sc b b'
    | _ => false
  | .call f es, e => match e with
    | .Call (.Name x _) es' [] _ => f == x && glbB sc x && G.fns.contains x && chks sc es es'
    | _ => false
  | .bi f es, e => match e with
    | .Call (.Name x _) es' [] _ => f == x && glbB sc x && G.frees.contains x && !es'.isEmpty && (biOf x).isSome && chks sc es es'
    | _ => false
  | .isi a T, e => match e with
    | .Call (.Name x _) [a', .Name y _] [] _ => x == "isinstance" && glbB sc x && G.frees.contains x && y == Str.ofString T && glbB sc y && G.frees.contains y && isiTs.contains T && nostar a' && chk sc a a'
    | _ => false
  | .get o k d, e => match e with
    | .Call (.Attribute o' m apos) [k', d'] [] cpos => m == "get" && baseB o' && apos.endLine == cpos.line && nostar k' && nostar d' && chk sc o o' && chk sc k k' && chk sc d d'
    | _ => false
  | .ix a i, e => match e with
    | .Subscript a' i' _ => noslice i' && chk sc a a' && chk sc i i'
    | _ => false
  | .dx a i, e => match e with
    | .Subscript a' i' _ => noslice i' && chk sc a a' && chk sc i i'
    | _ => false
  | .sl a lo hi, e => match e with
    | .Subscript a' (.Slice lo' hi' none _) _ => chk sc a a' && chko sc lo lo' && chko sc hi hi'
    | _ => false
  | .lc own t w ifs el, e => match e with
    | .ListComp elt [⟨tg, iter, ifs', z⟩] scope _ => z == 0 && noset iter && blkB N sc scope own && chkT N scope t tg && (t.ixs.all fun j => own.any fun p => p.2 == j) && chkI sc w tg iter && chkt scope ifs ifs' && chk scope el elt
    | _ => false
  | .lzip a b, e => match e with
    | .Call (.Name x _) [.Call (.Name y _) [a', b'] [] _] [] _ => x == "list" && glbB sc x && G.frees.contains x && y == "zip" && glbB sc y && G.frees.contains y && nostar a' && nostar b' && chk sc a a' && chk sc b b'
    | _ => false
  | .new es, e => match e with
    | .List es' _ => chks sc es es'
    | _ => false
  | .sset a, e => match e with
    | .Call (.Name x _) [.Call (.Name y _) [a'] [] _] [] _ => x == "sorted" && glbB sc x && G.frees.contains x && y == "set" && glbB sc y && G.frees.contains y && nostar a' && chk sc a a'
    | _ => false
def chks (sc : Scope) : Cs → List Expr → Bool
  | .nil, es => match es with
    | [] => true
    | _ => false
  | .cons c cs, es => match es with
    | e :: es => nostar e && chk sc c e && chks sc cs es
    | [] => false
def chkt (sc : Scope) : Cs → List Expr → Bool
  | .nil, es => match es with
    | [] => true
    | _ => false
  | .cons c cs, es => match cs, es with
    | .nil, [e] => chk sc c e
    | _, _ => false
def chko (sc : Scope) : Co → Option Expr → Bool
  | .no, e => match e with
    | none => true
    | _ => false
  | .yes c, e => match e with
    | some e => chk sc c e
    | none => false
def chkI (sc : Scope) : I → Expr → Expr → Bool
  | .seq c, _, e => chk sc c e
  | .rng1 c, _, e => match e with
    | .Call (.Name x _) [a] [] _ => x == "range" && glbB sc x && G.frees.contains x && nostar a && chk sc c a
    | _ => false
  | .rng2 c d, _, e => match e with
    | .Call (.Name x _) [a, b] [] _ => x == "range" && glbB sc x && G.frees.contains x && nostar a && nostar b && chk sc c a && chk sc d b
    | _ => false
  | .enum c, tg, e => match tg, e with
    | .Tuple _ _ _, .Call (.Name x _) [a] [] _ => x == "enumerate" && glbB sc x && G.frees.contains x && nostar a && chk sc c a
    | _, _ => false
  | .zip c d, tg, e => match tg, e with
    | .Tuple _ _ _, .Call (.Name x _) [a, b] [] _ => x == "zip" && glbB sc x && G.frees.contains x && nostar a && nostar b && chk sc c a && chk sc d b
    | _, _ => false
end
end
end PL

/-! PL13: the check is sound: expressions. -/
namespace PL
open PySem PySem.Spec PyProof.Rows L2
section
variable {X : Cx}
theorem op_ok {o : Operator} (h : binB o = true) : OpR X (binaryOp o) (rD (mdOf X) (dBin o)) := by
  cases o <;> first | exact opd_add | exact opd_sub | exact opd_mul | exact opd_div | exact opd_mod | exact opd_pow | cases h
theorem cmp_ok (hu : X.A.units + 200 < cLine) (o : CmpOp) : OpR X (compareOp o) (rD (mdOf X) (dCmp o)) := by
  cases o with
  | Eq => exact opd_eq hu
  | NotEq => exact opd_ne hu
  | Lt => exact opd_lt
  | LtE => exact opd_le
  | Gt => exact opd_gt
  | GtE => exact opd_ge
  | Is => exact opd_is
  | IsNot => exact opd_isnot
  | In => exact opd_in hu
  | NotIn => exact opd_notin hu
theorem bo_cmp (o : CmpOp) : Bo (dCmp o) := by
  have b1 : ∀ f : Wd → D → D → Option Bool, Bo (oB f) := fun f W x y d e => by
    obtain ⟨k, _, rfl⟩ := some_map (show (f W x y).map D.bl = some d from e)
    exact ⟨k, rfl⟩
  have b2 : ∀ f : Wd → D → D → Option Bool, Bo (oNB f) := fun f W x y d e => by
    obtain ⟨k, _, rfl⟩ := some_map (show (f W x y).map (fun c => D.bl !c) = some d from e)
    exact ⟨_, rfl⟩
  cases o <;> first | exact b1 _ | exact b2 _
theorem bi_ok (hc : X.calm = true) {f : Str} (h : (biOf f).isSome = true) : ∃ g, biOf f = some g ∧ ((∃ id, bootBuiltins f = some (.builtin id) ∧ CallR X (.builtin id) (cD (mdOf X) g)) ∨ ∃ T, bootBuiltins f = some (.type T) ∧ CallR X (.type T) (cD (mdOf X) g)) := by
  unfold biOf at h ⊢
  split
  · rename_i e; subst e; exact ⟨_, rfl, .inl ⟨_, by decide +kernel, cd_len⟩⟩
  split
  · rename_i e; subst e; exact ⟨_, rfl, .inl ⟨_, by decide +kernel, cd_all hc⟩⟩
  split
  · rename_i e; subst e; exact ⟨_, rfl, .inl ⟨_, by decide +kernel, cd_any hc⟩⟩
  split
  · rename_i e; subst e; exact ⟨_, rfl, .inl ⟨_, by decide +kernel, cd_sum hc⟩⟩
  split
  · rename_i e; subst e; exact ⟨_, rfl, .inr ⟨_, by decide +kernel, cd_list⟩⟩
  split
  · rename_i e; subst e; exact ⟨_, rfl, .inr ⟨_, by decide +kernel, cd_tuple⟩⟩
  split
  · rename_i e; subst e; exact ⟨_, rfl, .inl ⟨_, by decide +kernel, cd_abs⟩⟩
  split
  · rename_i e; subst e; exact ⟨_, rfl, .inr ⟨_, by decide +kernel, cd_int⟩⟩
  split
  · rename_i e; subst e; exact ⟨_, rfl, .inl ⟨_, by decide +kernel, cd_repr⟩⟩
  split
  · rename_i e; subst e; exact ⟨_, rfl, .inr ⟨_, by decide +kernel, cd_dict hc⟩⟩
  · simp_all
theorem isi_boot {T : String} (h : T ∈ isiTs) : bootBuiltins (Str.ofString T) = some (.type T) := by
  have : ∀ T ∈ isiTs, bootBuiltins (Str.ofString T) = some (.type T) := by decide +kernel
  exact this T h
theorem cst_ok {d : D} {c : Const} {k : Nat} {pos : Pos} {Wx : WX} (h : cstB d c = true) : PE X (.Constant c k pos) (tE (mdOf X) Wx fun _ W => .ok d W) := by
  cases d with
  | non => cases c with
    | none => exact e_cst pe_non fun _ _ => .non
    | _ => cases h
  | bl a => cases c with
    | bool b => simp only [cstB, beq_iff_eq] at h; subst h; exact e_cst pe_bl fun _ _ => .bl _
    | _ => cases h
  | int a => cases c with
    | int b => simp only [cstB, beq_iff_eq] at h; subst h; exact e_cst pe_int fun _ _ => .int _
    | _ => cases h
  | str a => cases c with
    | str b => simp only [cstB, Bool.and_eq_true, beq_iff_eq] at h; obtain ⟨rfl, h⟩ := h; exact e_cst pe_str fun _ _ => .str _ h
    | _ => cases h
  | _ => cases c <;> cases h
theorem Gd.blk {Δ : Tab} {G : Glb} (g : Gd X Δ G) {s : Shared} {H : Hp} {C : Addr} {cl : List (Str × Addr)} {fp : List Addr} {scope : Scope} : Gd (X.blk s H scope (compEnvC scope cl C X.env) fp) Δ G :=
  ⟨g.calm, g.nd, g.units, g.fns, g.free, g.gs⟩
/-- not (a test), by data -/
theorem tru_not {r : R D} : truR (r.bnd fun x W => (ofO (truth W x) W).bnd fun b W => .ok (.bl !b) W) = (truR r).bnd fun b W => .ok (!b) W := by
  cases r with
  | ok x W =>
    simp only [R.bnd, truR]
    cases truth W x <;> rfl
  | err _ _ => rfl
  | bad => rfl
theorem tru_ite {r : R Bool} {f g : Wd → R D} : truR (r.bnd fun k W => if k = true then f W else g W) = r.bnd fun k W => if k = true then truR (f W) else truR (g W) := by
  cases r with
  | ok k W => cases k <;> rfl
  | err _ _ => rfl
  | bad => rfl
theorem tru_and {r : R D} {f : Wd → R D} : truR (r.bnd fun x W => (ofO (truth W x) W).bnd fun t W => if t = true then f W else .ok x W) = (truR r).bnd fun t W => if t = true then truR (f W) else .ok false W := by
  cases r with
  | ok x W =>
    simp only [R.bnd, truR]
    cases e : truth W x with
    | none => rfl
    | some t => cases t with
      | true => rfl
      | false => simp [ofO, R.bnd, e]
  | err _ _ => rfl
  | bad => rfl
theorem tru_or {r : R D} {f : Wd → R D} : truR (r.bnd fun x W => (ofO (truth W x) W).bnd fun t W => if t = true then .ok x W else f W) = (truR r).bnd fun t W => if t = true then .ok true W else truR (f W) := by
  cases r with
  | ok x W =>
    simp only [R.bnd, truR]
    cases e : truth W x with
    | none => rfl
    | some t => cases t with
      | false => rfl
      | true => simp [ofO, R.bnd, e]
  | err _ _ => rfl
  | bad => rfl
theorem t_ite {Wx : WX} {c a b : Expr} {pos : Pos} {ft fa fb : EnvD → Wd → R Bool} (ht : PT X c (tB (mdOf X) Wx ft)) (ha : PT X a (tB (mdOf X) Wx fa)) (hb : PT X b (tB (mdOf X) Wx fb)) :
    PT X (.IfExp c a b pos) (tB (mdOf X) Wx fun ρ W => (ft ρ W).bnd fun k W => if k = true then fa ρ W else fb ρ W) := by
  refine ⟨fun pins s σ H Q I ⟨ρ, m, W, he, hw, h⟩ => ?_⟩
  show wpAny _ _ (isTrue c X.env (eval c X.env) >>= fun k => if k then isTrue a X.env (eval a X.env) else isTrue b X.env (eval b X.env)) _ _ s
  refine wpAny_bind (thn (ht.run pins s σ H (fun k H1 => ∃ m1 W1, EnvOk (mdOf X) m1 H1 σ ρ ∧ WOk (mdOf X) m1 W1 H1 ∧ aft (mdOf X) Wx m1 H1 (if k = true then fa ρ W1 else fb ρ W1) fun b _ _ H' => Q b H') I ⟨ρ, m, W, he, hw, h.bnd.imp fun k m1 W1 H1 s1 hw1 h1 => ⟨m1, W1, he.mono s1, hw1, h1⟩⟩) fun k s1 ⟨H1, I1, m1, W1, g1, g2, g3⟩ => ?_)
  cases k with
  | true => exact ha.run pins s1 σ H1 Q I1 ⟨ρ, m1, W1, g1, g2, g3⟩
  | false => exact hb.run pins s1 σ H1 Q I1 ⟨ρ, m1, W1, g1, g2, g3⟩
theorem both {Wx : WX} {e : Expr} {f : EnvD → Wd → R D} (h : PE X e (tE (mdOf X) Wx f)) (p : ∀ whole, isTrue e X.env whole = (do let v ← whole; standAt e.pos; holding [v] (truthy v))) : PE X e (tE (mdOf X) Wx f) ∧ PT X e (tB (mdOf X) Wx fun ρ W => truR (f ρ W)) := ⟨h, t_truth h p⟩
theorem w_one_and {e : Expr} {t : TT} {pos : Pos} (h : PT X e t) : PW X (.BoolOp .And [e] pos) t := pw_and1 h
end
section
variable (Δ : Tab) (G : Glb)
/-- what the check of an expression gives -/
def OkC (c : C) : Prop := ∀ (e : Expr) (X : Cx) (Wx : WX) (sc : Scope), Gd X Δ G → ScOk X sc → Takes X Wx → chk G X.N sc c e = true → PE X e (tE (mdOf X) Wx (run Δ c)) ∧ PT X e (tB (mdOf X) Wx fun ρ W => truR (run Δ c ρ W))
def OkCs (cs : Cs) : Prop := ∀ (es : List Expr) (X : Cx) (Wx : WX) (sc : Scope), Gd X Δ G → ScOk X sc → Takes X Wx → chks G X.N sc cs es = true →
  es.all nostar = true ∧ PA X es (tAs (mdOf X) Wx (runs Δ cs)) ∧ (es ≠ [] → ∀ pos, PE X (.BoolOp .And es pos) (tE (mdOf X) Wx (runAnd Δ cs)) ∧ PE X (.BoolOp .Or es pos) (tE (mdOf X) Wx (runOr Δ cs)) ∧
    PW X (.BoolOp .And es pos) (tB (mdOf X) Wx fun ρ W => truR (runAnd Δ cs ρ W)) ∧ PW X (.BoolOp .Or es pos) (tB (mdOf X) Wx fun ρ W => truR (runOr Δ cs ρ W)))
def OkT (cs : Cs) : Prop := ∀ (es : List Expr) (X : Cx) (Wx : WX) (sc : Scope), Gd X Δ G → ScOk X sc → Takes X Wx → chkt G X.N sc cs es = true → PTs X es (tB (mdOf X) Wx (runT Δ cs))
def OkO (c : Co) : Prop := ∀ (e : Option Expr) (X : Cx) (Wx : WX) (sc : Scope), Gd X Δ G → ScOk X sc → Takes X Wx → chko G X.N sc c e = true → PO X e (tO (mdOf X) Wx (runo Δ c))
def OkI (c : I) : Prop := ∀ (tg e : Expr) (X : Cx) (Wx : WX) (sc : Scope), Gd X Δ G → ScOk X sc → Takes X Wx → chkI G X.N sc c tg e = true → PI X tg e (tI (mdOf X) Wx (runI Δ c))
theorem mem_of_contains {l : List Str} {x : Str} (h : l.contains x = true) : x ∈ l := by simpa using h
theorem mem_of_containsS {l : List String} {x : String} (h : l.contains x = true) : x ∈ l := by simpa using h
theorem star1 {a : Expr} {env : Env} (h : nostar a = true) : starEach [a] env = [(false, eval a env)] := star_ok h
theorem star2 {a b : Expr} {env : Env} (h : nostar a = true) (h' : nostar b = true) : starEach [a, b] env = [(false, eval a env), (false, eval b env)] := by rw [star_ok h, star_ok h']; rfl
variable {Δ G}
theorem okVar (i : Nat) : OkC Δ G (.var i) := fun e X Wx sc g S tk h => by
  cases e with
  | Name x p =>
    obtain ⟨h1, h2, h3, h4⟩ := visB_ok S (show visB X.N sc i x = true from h)
    exact ⟨e_var h1 h2 h3 h4, t_truth (e_var h1 h2 h3 h4) fun _ => rfl⟩
  | _ => exact absurd h (by simp [chk])
theorem okCst (d : D) : OkC Δ G (.cst d) := fun e X Wx sc g S tk h => by
  cases e with
  | Constant c k p =>
    exact both (cst_ok (X := X) (k := k) (pos := p) (Wx := Wx) (show cstB d c = true from h)) fun _ => rfl
  | _ => exact absurd h (by simp [chk])
theorem okGlo (x : Str) (d : D) : OkC Δ G (.glo x d) := fun e X Wx sc g S tk h => by
  cases e with
  | Name y p =>
    simp only [chk, Bool.and_eq_true, beq_iff_eq] at h
    obtain ⟨⟨rfl, h2⟩, h3⟩ := h
    obtain ⟨g1, g2, g3⟩ := glbB_ok S h2
    split at h3
    · rename_i q e
      obtain ⟨v, u, e1, r, is⟩ := g.gs q (List.mem_of_find?_eq_some e)
      have e2 := List.find?_some e
      simp only [beq_iff_eq] at e2
      rw [e2] at e1
      rw [D.same_ok h3] at is
      exact both (e_cst (Wx := Wx) (pe_glob (pos := p) g1 e1 r g2) is) fun _ => rfl
    · cases h3
  | _ => exact absurd h (by simp [chk])
theorem okTup {es : Cs} (ih : OkCs Δ G es) : OkC Δ G (.tup es) := fun e X Wx sc g S tk h => by
  cases e with
  | Tuple es' k p =>
    exact both (e_tup (k := k) (pos := p) (ih es' X Wx sc g S tk (show chks G X.N sc es es' = true from h)).2.1) fun _ => rfl
  | _ => exact absurd h (by simp [chk])
theorem okLst {es : Cs} (ih : OkCs Δ G es) : OkC Δ G (.lst es) := fun e X Wx sc g S tk h => by
  cases e with
  | List es' p =>
    exact both (e_lst (pos := p) (ih es' X Wx sc g S tk (show chks G X.N sc es es' = true from h)).2.1) fun _ => rfl
  | _ => exact absurd h (by simp [chk])
theorem okNew {es : Cs} (ih : OkCs Δ G es) : OkC Δ G (.new es) := fun e X Wx sc g S tk h => by
  cases e with
  | List es' p => exact both (e_new (pos := p) (ih es' X Wx sc g S tk (show chks G X.N sc es es' = true from h)).2.1) fun _ => rfl
  | _ => exact absurd h (by simp [chk])
theorem okBin {o : Operator} {a b : C} (ha : OkC Δ G a) (hb : OkC Δ G b) : OkC Δ G (.bin o a b) := fun e X Wx sc g S tk h => by
  cases e with
  | BinOp a' o' b' p =>
    simp only [chk, Bool.and_eq_true, beq_iff_eq] at h
    obtain ⟨⟨⟨rfl, h2⟩, h3⟩, h4⟩ := h
    exact both (e_bin (pos := p) (op_ok h2) (ha a' X Wx sc g S tk h3).1 (hb b' X Wx sc g S tk h4).1) fun _ => rfl
  | _ => exact absurd h (by simp [chk])
theorem okNeg {a : C} (ha : OkC Δ G a) : OkC Δ G (.neg a) := fun e X Wx sc g S tk h => by
  cases e with
  | UnaryOp o a' p =>
    cases o with
    | USub =>
      exact both (e_neg (pos := p) (ha a' X Wx sc g S tk (show chk G X.N sc a a' = true from h)).1) fun _ => rfl
    | _ => exact absurd h (by simp [chk])
  | _ => exact absurd h (by simp [chk])
theorem okNot {a : C} (ha : OkC Δ G a) : OkC Δ G (.not a) := fun e X Wx sc g S tk h => by
  cases e with
  | UnaryOp o a' p =>
    cases o with
    | Not =>
      obtain ⟨h1, h2⟩ := ha a' X Wx sc g S tk (show chk G X.N sc a a' = true from h)
      refine ⟨e_not h1, (t_not h2).imp fun σ H Q ⟨ρ, m, W, he, hw, hh⟩ => ⟨ρ, m, W, he, hw, ?_⟩⟩
      dsimp only at hh ⊢
      rw [← tru_not]
      exact hh
    | _ => exact absurd h (by simp [chk])
  | _ => exact absurd h (by simp [chk])
theorem okAnd {es : Cs} (ih : OkCs Δ G es) : OkC Δ G (.and es) := fun e X Wx sc g S tk h => by
  cases e with
  | BoolOp o es' p =>
    cases o with
    | And =>
      simp only [chk, Bool.and_eq_true, Bool.not_eq_true', List.isEmpty_eq_false_iff] at h
      obtain ⟨_, _, h2⟩ := ih es' X Wx sc g S tk h.2
      obtain ⟨q1, _, q2, _⟩ := h2 h.1 p
      exact ⟨q1, q2.pt⟩
    | _ => exact absurd h (by simp [chk])
  | _ => exact absurd h (by simp [chk])
theorem okOr {es : Cs} (ih : OkCs Δ G es) : OkC Δ G (.or es) := fun e X Wx sc g S tk h => by
  cases e with
  | BoolOp o es' p =>
    cases o with
    | Or =>
      simp only [chk, Bool.and_eq_true, Bool.not_eq_true', List.isEmpty_eq_false_iff] at h
      obtain ⟨_, _, h2⟩ := ih es' X Wx sc g S tk h.2
      obtain ⟨_, q1, _, q2⟩ := h2 h.1 p
      exact ⟨q1, q2.pt⟩
    | _ => exact absurd h (by simp [chk])
  | _ => exact absurd h (by simp [chk])
theorem okCmp {o : CmpOp} {a b : C} (ha : OkC Δ G a) (hb : OkC Δ G b) : OkC Δ G (.cmp o a b) := fun e X Wx sc g S tk h => by
  unfold chk at h
  split at h
  · simp only [Bool.and_eq_true, beq_iff_eq, Bool.not_eq_true'] at h
    obtain ⟨⟨⟨rfl, h2⟩, h3⟩, h4⟩ := h
    exact ⟨e_cmp (cmp_ok g.units o) (ha _ X Wx sc g S tk h3).1 (hb _ X Wx sc g S tk h4).1 h2, t_cmp (bo_cmp o) (cmp_ok g.units o) (ha _ X Wx sc g S tk h3).1 (hb _ X Wx sc g S tk h4).1 h2⟩
  · cases h
theorem okCmp2 {o p : CmpOp} {a b c : C} (ha : OkC Δ G a) (hb : OkC Δ G b) (hc : OkC Δ G c) : OkC Δ G (.cmp2 o p a b c) := fun e X Wx sc g S tk h => by
  unfold chk at h
  split at h
  · simp only [Bool.and_eq_true, beq_iff_eq, Bool.not_eq_true'] at h
    obtain ⟨⟨⟨⟨⟨rfl, rfl⟩, h2⟩, h3⟩, h4⟩, h5⟩ := h
    exact ⟨e_chain (bo_cmp o) (cmp_ok g.units o) (cmp_ok g.units p) (ha _ X Wx sc g S tk h3).1 (hb _ X Wx sc g S tk h4).1 (hc _ X Wx sc g S tk h5).1 h2,
      t_chain (bo_cmp o) (bo_cmp p) (cmp_ok g.units o) (cmp_ok g.units p) (ha _ X Wx sc g S tk h3).1 (hb _ X Wx sc g S tk h4).1 (hc _ X Wx sc g S tk h5).1 h2⟩
  · cases h
theorem okIte {t a b : C} (ht : OkC Δ G t) (ha : OkC Δ G a) (hb : OkC Δ G b) : OkC Δ G (.ite t a b) := fun e X Wx sc g S tk h => by
  cases e with
  | IfExp t' a' b' p =>
    simp only [chk, Bool.and_eq_true] at h
    obtain ⟨⟨h1, h2⟩, h3⟩ := h
    obtain ⟨_, q1⟩ := ht _ X Wx sc g S tk h1
    obtain ⟨q2, q3⟩ := ha _ X Wx sc g S tk h2
    obtain ⟨q4, q5⟩ := hb _ X Wx sc g S tk h3
    refine ⟨e_ite q1 q2 q4, (t_ite q1 q3 q5).imp fun σ H Q ⟨ρ, m, W, he, hw, hh⟩ => ⟨ρ, m, W, he, hw, ?_⟩⟩
    dsimp only at hh ⊢
    rw [← tru_ite]
    exact hh
  | _ => exact absurd h (by simp [chk])
theorem okCall {f : Str} {es : Cs} (ih : OkCs Δ G es) : OkC Δ G (.call f es) := fun e X Wx sc g S tk h => by
  unfold chk at h
  split at h
  · rename_i x _ es' p
    simp only [Bool.and_eq_true, beq_iff_eq] at h
    obtain ⟨⟨⟨rfl, h2⟩, h3⟩, h4⟩ := h
    obtain ⟨g1, g2, g3⟩ := glbB_ok S h2
    obtain ⟨k, f', fd, ps, F, hr, hm, hk, hb⟩ := g.fns _ (mem_of_contains h3)
    obtain ⟨n1, n2, _⟩ := ih es' X Wx sc g S tk h4
    cases es' with
    | nil =>
      cases es with
      | nil =>
        exact both (e_call0 (pos := p) F hr g1 hm hk hb tk g2) fun _ => rfl
      | cons _ _ => simp [chks] at h4
    | cons e' es' =>
      simp only [List.all_cons, Bool.and_eq_true] at n1
      exact both (e_call (pos := p) F hr g1 hm hk hb tk n2 g2 (star_ok n1.1) (any_ok n1.2)) fun _ => rfl
  · cases h
theorem run_bi {f : Str} {es : Cs} {g : Wd → List D → Option D} (e : biOf f = some g) : run Δ (.bi f es) = fun ρ W => (runs Δ es ρ W).bnd fun ds W => ofO (g W ds) W := by
  funext ρ W
  rw [run]
  rw [e]
theorem okBi {f : Str} {es : Cs} (ih : OkCs Δ G es) : OkC Δ G (.bi f es) := fun e X Wx sc g S tk h => by
  unfold chk at h
  split at h
  · rename_i x _ es' p
    simp only [Bool.and_eq_true, beq_iff_eq, Bool.not_eq_true', List.isEmpty_eq_false_iff] at h
    obtain ⟨⟨⟨⟨⟨rfl, h2⟩, h3⟩, h4⟩, h5⟩, h6⟩ := h
    obtain ⟨g1, g2, g3⟩ := glbB_ok S h2
    have hm := g.free _ (mem_of_contains h3)
    obtain ⟨n1, n2, _⟩ := ih es' X Wx sc g S tk h6
    obtain ⟨q, eq, hq⟩ := bi_ok (X := X) g.calm h5
    rw [run_bi eq]
    cases es' with
    | nil => exact absurd rfl h4
    | cons e' es' =>
      simp only [List.all_cons, Bool.and_eq_true] at n1
      rcases hq with ⟨id, hb, hc⟩ | ⟨T, hb, hc⟩
      · exact both (e_callB (pos := p) hc g1 hm hb n2 g3 g2 (star_ok n1.1) (any_ok n1.2)) fun _ => rfl
      · exact both (e_callTy (pos := p) hc g1 hm hb n2 g3 g2 (star_ok n1.1) (any_ok n1.2)) fun _ => rfl
  · cases h
theorem okIsi {a : C} {T : String} (ha : OkC Δ G a) : OkC Δ G (.isi a T) := fun e X Wx sc g S tk h => by
  unfold chk at h
  split at h
  · simp only [Bool.and_eq_true, beq_iff_eq] at h
    obtain ⟨⟨⟨⟨⟨⟨⟨⟨h1, h2⟩, h3⟩, h4⟩, h5⟩, h6⟩, h7⟩, h8⟩, h9⟩ := h
    subst h1; subst h4
    obtain ⟨g1, g2, g3⟩ := glbB_ok S h2
    obtain ⟨f1, f2, f3⟩ := glbB_ok S h5
    have hT := mem_of_containsS h7
    exact both (e_isi (Wx := Wx) g1 (g.free _ (mem_of_contains h3)) f1 (g.free _ (mem_of_contains h6)) (isi_boot hT) hT (ha _ X Wx sc g S tk h9).1 f3 f2 (star_ok h8)) fun _ => rfl
  · cases h
theorem okGet {o k d : C} (ho : OkC Δ G o) (hk : OkC Δ G k) (hd : OkC Δ G d) : OkC Δ G (.get o k d) := fun e X Wx sc g S tk h => by
  unfold chk at h
  split at h
  · simp only [Bool.and_eq_true, beq_iff_eq] at h
    obtain ⟨⟨⟨⟨⟨⟨⟨h1, h2⟩, h3⟩, h4⟩, h5⟩, h6⟩, h7⟩, h8⟩ := h
    subst h1
    have hu := g.units
    exact both (e_get (by omega) (ho _ X Wx sc g S tk h6).1 (hk _ X Wx sc g S tk h7).1 (hd _ X Wx sc g S tk h8).1 (M2.mk (base_ok h2 _) (by rw [star2 h4 h5]; rfl) (beq_iff_eq.mpr h3) (by rw [star2 h4 h5]; rfl))) fun _ => rfl
  · cases h
theorem okIx {a i : C} (ha : OkC Δ G a) (hi : OkC Δ G i) : OkC Δ G (.ix a i) := fun e X Wx sc g S tk h => by
  cases e with
  | Subscript a' i' p =>
    simp only [chk, Bool.and_eq_true] at h
    exact both (e_ix (pos := p) (ha _ X Wx sc g S tk h.1.2).1 (hi _ X Wx sc g S tk h.2).1 (slice_ok h.1.1)) fun _ => rfl
  | _ => exact absurd h (by simp [chk])
theorem okDx {a i : C} (ha : OkC Δ G a) (hi : OkC Δ G i) : OkC Δ G (.dx a i) := fun e X Wx sc g S tk h => by
  cases e with
  | Subscript a' i' p =>
    simp only [chk, Bool.and_eq_true] at h
    have hu := g.units
    exact both (e_dx (pos := p) (by omega) (ha _ X Wx sc g S tk h.1.2).1 (hi _ X Wx sc g S tk h.2).1 (slice_ok h.1.1)) fun _ => rfl
  | _ => exact absurd h (by simp [chk])
theorem okSl {a : C} {lo hi : Co} (ha : OkC Δ G a) (hl : OkO Δ G lo) (hh : OkO Δ G hi) : OkC Δ G (.sl a lo hi) := fun e X Wx sc g S tk h => by
  unfold chk at h
  split at h
  · simp only [Bool.and_eq_true] at h
    exact both (e_sl (ha _ X Wx sc g S tk h.1.1).1 (hl _ X Wx sc g S tk h.1.2) (hh _ X Wx sc g S tk h.2)) fun _ => rfl
  · cases h
theorem okLzip {a b : C} (ha : OkC Δ G a) (hb : OkC Δ G b) : OkC Δ G (.lzip a b) := fun e X Wx sc g S tk h => by
  unfold chk at h
  split at h
  · simp only [Bool.and_eq_true, beq_iff_eq] at h
    obtain ⟨⟨⟨⟨⟨⟨⟨⟨⟨h1, h2⟩, h3⟩, h4⟩, h5⟩, h6⟩, h7⟩, h8⟩, h9⟩, h10⟩ := h
    subst h1; subst h4
    obtain ⟨g1, g2, g3⟩ := glbB_ok S h2
    obtain ⟨f1, f2, f3⟩ := glbB_ok S h5
    exact both (e_lzip g.calm f1 (g.free _ (mem_of_contains h6)) g1 (g.free _ (mem_of_contains h3)) (ha _ X Wx sc g S tk h9).1 (hb _ X Wx sc g S tk h10).1 (star_ok h7) (star_ok h8) (any_ok (by simp [h8]))) fun _ => rfl
  · cases h
theorem okSset {a : C} (ha : OkC Δ G a) : OkC Δ G (.sset a) := fun e X Wx sc g S tk h => by
  unfold chk at h
  split at h
  · simp only [Bool.and_eq_true, beq_iff_eq] at h
    obtain ⟨⟨⟨⟨⟨⟨⟨h1, h2⟩, h3⟩, h4⟩, h5⟩, h6⟩, h7⟩, h8⟩ := h
    subst h1; subst h4
    have hu := g.units
    exact both (e_sset g.calm (by omega) (glbB_ok S h2).1 (g.free _ (mem_of_contains h3)) (glbB_ok S h5).1 (g.free _ (mem_of_contains h6)) (ha _ X Wx sc g S tk h8).1 (star_ok h7)) fun _ => rfl
  · cases h
theorem okLc {own : List (Str × Nat)} {t : T} {w : I} {ifs : Cs} {el : C} (hw : OkI Δ G w) (hi : OkT Δ G ifs) (he : OkC Δ G el) : OkC Δ G (.lc own t w ifs el) := fun e X Wx sc g S tk h => by
  unfold chk at h
  split at h
  · simp only [Bool.and_eq_true, beq_iff_eq] at h
    obtain ⟨⟨⟨⟨⟨⟨⟨h1, h2⟩, h3⟩, h4⟩, h5⟩, h6⟩, h7⟩, h8⟩ := h
    subst h1
    refine both ((pe_lc g.calm g.nd (hw _ _ X Wx sc g S tk h6) (blkB_ok S h3) (fun s H C cl fp => g_ok (X := X.blk s H _ (compEnvC _ cl C X.env) fp) g.calm g.nd ScOk.blk t _ h4)
      (fun s H C cl fp => hi _ _ W0 _ g.blk ScOk.blk takes0 h7) (fun s H C cl fp => (he _ _ W0 _ g.blk ScOk.blk takes0 h8).1) (set_ok h2 _)).imp (e_lc (X := X) (t := t) (own := own) rfl rfl rfl rfl (fun j hj => ?_))) fun _ => rfl
    have q := List.all_eq_true.mp h5 j hj
    obtain ⟨p, hp, e⟩ := List.any_eq_true.mp q
    exact List.mem_map.mpr ⟨p, hp, beq_iff_eq.mp e⟩
  · cases h
theorem okNil : OkCs Δ G .nil := fun es X Wx sc g S tk h => by
  cases es with
  | nil => exact ⟨rfl, a_nil, fun h => absurd rfl h⟩
  | cons _ _ => simp [chks] at h
theorem okCons {c : C} {cs : Cs} (hc : OkC Δ G c) (hcs : OkCs Δ G cs) : OkCs Δ G (.cons c cs) := fun es X Wx sc g S tk h => by
  cases es with
  | nil => simp [chks] at h
  | cons e es =>
    simp only [chks, Bool.and_eq_true] at h
    obtain ⟨⟨h1, h2⟩, h3⟩ := h
    obtain ⟨q1, q2⟩ := hc e X Wx sc g S tk h2
    obtain ⟨q3, q4, q5⟩ := hcs es X Wx sc g S tk h3
    refine ⟨by simp [h1, q3], a_cons q1 q4 (star_ok h1), fun _ pos => ?_⟩
    cases es with
    | nil =>
      cases cs with
      | nil => exact ⟨pe_one q1, pe_one q1, pw_and1 q2, pw_or1 q2⟩
      | cons _ _ => simp [chks] at h3
    | cons e2 es2 =>
      cases cs with
      | nil => simp [chks] at h3
      | cons c2 cs2 =>
        obtain ⟨p1, p2, p3, p4⟩ := q5 (by simp) pos
        refine ⟨e_and q1 p1, e_or q1 p2, (w_and q2 p3).imp fun σ H Q ⟨ρ, m, W, he, hw, hh⟩ => ⟨ρ, m, W, he, hw, ?_⟩, (w_or q2 p4).imp fun σ H Q ⟨ρ, m, W, he, hw, hh⟩ => ⟨ρ, m, W, he, hw, ?_⟩⟩
        · dsimp only at hh ⊢
          rw [← tru_and]
          exact hh
        · dsimp only at hh ⊢
          rw [← tru_or]
          exact hh
theorem okT0 : OkT Δ G .nil := fun es X Wx sc g S tk h => by
  cases es with
  | nil => exact ⟨fun pins s σ H Q I hh => pts_nil.run pins s σ H Q I (by
      obtain ⟨ρ, m, W, he, hw, hh⟩ := hh
      exact (show aft _ _ _ _ (R.ok true W) _ from hh).okI hw)⟩
  | cons _ _ => simp [chkt] at h
theorem okT1 {c : C} {cs : Cs} (hc : OkC Δ G c) : OkT Δ G (.cons c cs) := fun es X Wx sc g S tk h => by
  cases cs with
  | nil =>
    cases es with
    | nil => simp [chkt] at h
    | cons e es =>
      cases es with
      | nil => exact pts_one (hc e X Wx sc g S tk (show chk G X.N sc c e = true from h)).2
      | cons _ _ => simp [chkt] at h
  | cons _ _ => simp [chkt] at h
theorem okNo : OkO Δ G .no := fun e X Wx sc g S tk h => by
  cases e with
  | none => exact o_no
  | some _ => simp [chko] at h
theorem okYes {c : C} (hc : OkC Δ G c) : OkO Δ G (.yes c) := fun e X Wx sc g S tk h => by
  cases e with
  | none => simp [chko] at h
  | some e => exact o_yes (hc e X Wx sc g S tk (show chk G X.N sc c e = true from h)).1
theorem okSeq {c : C} (hc : OkC Δ G c) : OkI Δ G (.seq c) := fun tg e X Wx sc g S tk h => i_seq (hc e X Wx sc g S tk (show chk G X.N sc c e = true from h)).1
theorem okRng1 {c : C} (hc : OkC Δ G c) : OkI Δ G (.rng1 c) := fun tg e X Wx sc g S tk h => by
  unfold chkI at h
  split at h
  · simp only [Bool.and_eq_true, beq_iff_eq] at h
    obtain ⟨⟨⟨⟨h1, h2⟩, h3⟩, h4⟩, h5⟩ := h
    subst h1
    exact i_rng1 (glbB_ok S h2).1 (g.free _ (mem_of_contains h3)) (hc _ X Wx sc g S tk h5).1 (star1 h4)
  · cases h
theorem okRng2 {c d : C} (hc : OkC Δ G c) (hd : OkC Δ G d) : OkI Δ G (.rng2 c d) := fun tg e X Wx sc g S tk h => by
  unfold chkI at h
  split at h
  · simp only [Bool.and_eq_true, beq_iff_eq] at h
    obtain ⟨⟨⟨⟨⟨⟨h1, h2⟩, h3⟩, h4⟩, h5⟩, h6⟩, h7⟩ := h
    subst h1
    exact i_rng2 (glbB_ok S h2).1 (g.free _ (mem_of_contains h3)) (hc _ X Wx sc g S tk h6).1 (hd _ X Wx sc g S tk h7).1 (star2 h4 h5) (star1 h5)
  · cases h
theorem okEnum {c : C} (hc : OkC Δ G c) : OkI Δ G (.enum c) := fun tg e X Wx sc g S tk h => by
  unfold chkI at h
  split at h
  · simp only [Bool.and_eq_true, beq_iff_eq] at h
    obtain ⟨⟨⟨⟨h1, h2⟩, h3⟩, h4⟩, h5⟩ := h
    subst h1
    exact i_enum (glbB_ok S h2).1 (g.free _ (mem_of_contains h3)) (hc _ X Wx sc g S tk h5).1 (star1 h4)
  · cases h
theorem okZip {c d : C} (hc : OkC Δ G c) (hd : OkC Δ G d) : OkI Δ G (.zip c d) := fun tg e X Wx sc g S tk h => by
  unfold chkI at h
  split at h
  · simp only [Bool.and_eq_true, beq_iff_eq] at h
    obtain ⟨⟨⟨⟨⟨⟨h1, h2⟩, h3⟩, h4⟩, h5⟩, h6⟩, h7⟩ := h
    subst h1
    exact i_zip (glbB_ok S h2).1 (g.free _ (mem_of_contains h3)) (hc _ X Wx sc g S tk h6).1 (hd _ X Wx sc g S tk h7).1 (star_ok h4) (star_ok h5) (any_ok (by simp [h5]))
  · cases h
mutual
theorem ok_C : ∀ c : C, OkC Δ G c
  | .var i => okVar i
  | .cst d => okCst d
  | .glo x d => okGlo x d
  | .tup es => okTup (ok_Cs es).1
  | .lst es => okLst (ok_Cs es).1
  | .new es => okNew (ok_Cs es).1
  | .bin o a b => okBin (ok_C a) (ok_C b)
  | .neg a => okNeg (ok_C a)
  | .not a => okNot (ok_C a)
  | .and es => okAnd (ok_Cs es).1
  | .or es => okOr (ok_Cs es).1
  | .cmp o a b => okCmp (ok_C a) (ok_C b)
  | .cmp2 o p a b c => okCmp2 (ok_C a) (ok_C b) (ok_C c)
  | .ite t a b => okIte (ok_C t) (ok_C a) (ok_C b)
  | .call f es => okCall (ok_Cs es).1
  | .bi f es => okBi (ok_Cs es).1
  | .isi a T => okIsi (ok_C a)
  | .get o k d => okGet (ok_C o) (ok_C k) (ok_C d)
  | .ix a i => okIx (ok_C a) (ok_C i)
  | .dx a i => okDx (ok_C a) (ok_C i)
  | .sl a lo hi => okSl (ok_C a) (ok_Co lo) (ok_Co hi)
  | .lc own t w ifs el => okLc (ok_I w) (ok_Cs ifs).2 (ok_C el)
  | .sset a => okSset (ok_C a)
  | .lzip a b => okLzip (ok_C a) (ok_C b)
theorem ok_Cs : ∀ cs : Cs, OkCs Δ G cs ∧ OkT Δ G cs
  | .nil => ⟨okNil, okT0⟩
  | .cons c cs => ⟨okCons (ok_C c) (ok_Cs cs).1, okT1 (ok_C c)⟩
theorem ok_Co : ∀ c : Co, OkO Δ G c
  | .no => okNo
  | .yes c => okYes (ok_C c)
theorem ok_I : ∀ c : I, OkI Δ G c
  | .seq c => okSeq (ok_C c)
  | .rng1 c => okRng1 (ok_C c)
  | .rng2 c d => okRng2 (ok_C c) (ok_C d)
  | .enum c => okEnum (ok_C c)
  | .zip c d => okZip (ok_C c) (ok_C d)
end
end
end PL

/-! PL14: statements, by data. -/
namespace PL
open PySem PySem.Spec PyProof.Rows L2

def aftS (M : Md) (Wx : WX) (m : Ms) (H : Hp) (r : SR) (D : Ends) : Prop := match r with
  | .nx ρ' W' => ∀ σ' m' H', Step m H m' H' → WOk M m' W' H' → EnvOk M m' H' σ' ρ' → D.nx σ' H'
  | .rt d W' => ∀ v m' H', Step m H m' H' → WOk M m' W' H' → Is M m' H' v d → D.rt v H'
  | .err e W' => ∀ cls dx σ' m' H', Step m H m' H' → WOk M m' W' H' → ExIs M m' H' cls dx e → Wx cls dx σ' H'
  | .bad => False
def tS (M : Md) (Wx : WX) (f : EnvD → Wd → SR) : TS := fun D σ H => ∃ ρ m W, EnvOk M m H σ ρ ∧ WOk M m W H ∧ aftS M Wx m H (f ρ W) D
section
variable {M : Md} {Wx : WX} {m m1 : Ms} {H H1 : Hp} {D D' : Ends}
theorem aftS.step {r : SR} (h : aftS M Wx m H r D) (s : Step m H m1 H1) : aftS M Wx m1 H1 r D := by
  cases r with
  | nx ρ W => exact fun σ' m' H' s' => h σ' m' H' (s.trans s')
  | rt d W => exact fun v m' H' s' => h v m' H' (s.trans s')
  | err e W => exact fun c d σ' m' H' s' => h c d σ' m' H' (s.trans s')
  | bad => exact h
theorem aftS.ofR {α : Type} {r : R α} {f : α → Wd → SR} (h : aftS M Wx m H (r.thnS f) D) : aft M Wx m H r fun a m' W' H' => aftS M Wx m' H' (f a W') D := by
  cases r with
  | ok a W => exact fun m' H' s hw => aftS.step (show aftS M Wx m H (f a W) D from h) s
  | err e W => exact h
  | bad => exact h
theorem aftS.thn {r : SR} {f : EnvD → Wd → SR} (h : aftS M Wx m H (r.thn f) D) (hr : ∀ v H', D.rt v H' → D'.rt v H') (hn : ∀ σ' H', (∃ ρ' m' W', EnvOk M m' H' σ' ρ' ∧ WOk M m' W' H' ∧ Step m H m' H' ∧ aftS M Wx m' H' (f ρ' W') D) → D'.nx σ' H') : aftS M Wx m H r D' := by
  cases r with
  | nx ρ W => exact fun σ' m' H' s' hw he => hn σ' H' ⟨ρ, m', W, he, hw, s', aftS.step (show aftS M Wx m H (f ρ W) D from h) s'⟩
  | rt d W => exact fun v m' H' s' hw hv => hr v H' (h v m' H' s' hw hv)
  | err e W => exact h
  | bad => exact h
theorem aftS.nx {ρ : EnvD} {W : Wd} {σ : L2.St} (h : aftS M Wx m H (.nx ρ W) D) (hw : WOk M m W H) (he : EnvOk M m H σ ρ) : D.nx σ H := h σ m H Step.refl hw he
end
theorem _root_.L2.PS.imp {X : Cx} {st : Stmt} {t t' : TS} (h : PS X st t) (f : ∀ D σ H, t' D σ H → t D σ H) : PS X st t' := ⟨fun pins s σ H D I q => h.run pins s σ H D I (f D σ H q)⟩
theorem _root_.L2.PSs.imp {X : Cx} {st : List Stmt} {t t' : TS} (h : PSs X st t) (f : ∀ D σ H, t' D σ H → t D σ H) : PSs X st t' := ⟨fun pins s σ H D I q => h.run pins s σ H D I (f D σ H q)⟩
section
variable {X : Cx} {Wx : WX} {e a b c : Expr} {pos : Pos} {fa fb fc : EnvD → Wd → R D}
theorem s_nil : PSs X [] (tS (mdOf X) Wx fun ρ W => .nx ρ W) := pss_nil.imp fun D σ H ⟨ρ, m, W, he, hw, h⟩ => h.nx hw he
theorem s_cons {st : Stmt} {rest : List Stmt} {f g : EnvD → Wd → SR} (h1 : PS X st (tS (mdOf X) Wx f)) (h2 : PSs X rest (tS (mdOf X) Wx g)) : PSs X (st :: rest) (tS (mdOf X) Wx fun ρ W => (f ρ W).thn g) :=
  (pss_cons h1 h2).imp fun D σ H ⟨ρ, m, W, he, hw, h⟩ => ⟨ρ, m, W, he, hw, h.thn (fun _ _ q => q) fun σ' H' ⟨ρ', m', W', a1, a2, _, a4⟩ => ⟨ρ', m', W', a1, a2, a4⟩⟩
theorem s_pass : PS X (.Pass pos) (tS (mdOf X) Wx fun ρ W => .nx ρ W) := ps_pass.imp fun D σ H ⟨ρ, m, W, he, hw, h⟩ => h.nx hw he
theorem s_ex (ha : PE X a (tE (mdOf X) Wx fa)) (hs : swapsWith a none pos.line X.env = pure false) : PS X (.Expr a pos) (tS (mdOf X) Wx fun ρ W => (fa ρ W).thnS fun _ W => .nx ρ W) :=
  (ps_expr ha hs).imp fun D σ H ⟨ρ, m, W, he, hw, h⟩ => ⟨ρ, m, W, he, hw, h.ofR.imp fun x m1 W1 H1 s1 hw1 h1 v hv => h1.nx hw1 (he.mono s1)⟩
theorem s_ret (ha : PE X a (tE (mdOf X) Wx fa)) : PS X (.Return (some a) pos) (tS (mdOf X) Wx fun ρ W => (fa ρ W).thnS fun d W => .rt d W) :=
  (ps_ret ha).imp fun D σ H ⟨ρ, m, W, he, hw, h⟩ => ⟨ρ, m, W, he, hw, h.ofR.imp fun x m1 W1 H1 s1 hw1 h1 v hv => h1 v m1 H1 Step.refl hw1 hv⟩
theorem s_ret0 : PS X (.Return none pos) (tS (mdOf X) Wx fun _ W => .rt .non W) := ps_retN.imp fun D σ H ⟨ρ, m, W, he, hw, h⟩ => h .non m H Step.refl hw .non
theorem s_if {ft : EnvD → Wd → R Bool} {as bs : List Stmt} {f g : EnvD → Wd → SR} (hc : PT X c (tB (mdOf X) Wx ft)) (ha : PSs X as (tS (mdOf X) Wx f)) (hb : PSs X bs (tS (mdOf X) Wx g)) :
    PS X (.If c as bs pos) (tS (mdOf X) Wx fun ρ W => (ft ρ W).thnS fun k W => if k = true then f ρ W else g ρ W) :=
  (ps_if hc ha hb).imp fun D σ H ⟨ρ, m, W, he, hw, h⟩ => ⟨ρ, m, W, he, hw, h.ofR.imp fun k m1 W1 H1 s1 hw1 h1 => by
    cases k with
    | true => exact ⟨ρ, m1, W1, he.mono s1, hw1, h1⟩
    | false => exact ⟨ρ, m1, W1, he.mono s1, hw1, h1⟩⟩
theorem s_while {ft : EnvD → Wd → R Bool} {bs : List Stmt} {f : EnvD → Wd → SR} {n : Nat} (hp : PassesOwn (model X.prog X.w) X.A X.env X.xe) (hc : PT X c (tB (mdOf X) Wx ft)) (hb : PSs X bs (tS (mdOf X) Wx f)) :
    PS X (.While c bs [] pos) (tS (mdOf X) Wx fun ρ W => whlLoop ft f n ρ W) := by
  refine (ps_while hp hc hb).imp fun D σ H ⟨ρ, m, W, he, hw, h⟩ => ?_
  refine ⟨fun n σ H => ∃ ρ m W, EnvOk (mdOf X) m H σ ρ ∧ WOk (mdOf X) m W H ∧ aftS (mdOf X) Wx m H (whlLoop ft f n ρ W) D, ⟨n, ρ, m, W, he, hw, h⟩, ?_⟩
  rintro k σ H ⟨ρ, m, W, he, hw, h⟩
  cases k with
  | zero => exact h.elim
  | succ k =>
    unfold whlLoop at h
    refine ⟨ρ, m, W, he, hw, h.ofR.imp fun b m1 W1 H1 s1 hw1 h1 => ?_⟩
    cases b with
    | false => exact h1.nx hw1 (he.mono s1)
    | true =>
      simp only [if_pos] at h1 ⊢
      refine ⟨fun σ H => ∃ ρ m W, EnvOk (mdOf X) m H σ ρ ∧ WOk (mdOf X) m W H ∧ aftS (mdOf X) Wx m H (whlLoop ft f k ρ W) D, fun σ' H' q => ⟨k, Nat.lt_succ_self k, q⟩, ρ, m1, W1, he.mono s1, hw1, ?_⟩
      exact h1.thn (fun _ _ q => q) fun σ' H' ⟨ρ', m', W', a1, a2, _, a4⟩ => ⟨ρ', m', W', a1, a2, a4⟩
theorem s_for {t : T} {fi : EnvD → Wd → R (List D)} {tg iter : Expr} {bs : List Stmt} {f : EnvD → Wd → SR} (hp : PassesOwn (model X.prog X.w) X.A X.env X.xe) (hc : X.calm = true) (hi : PI X tg iter (tI (mdOf X) Wx fi)) (hg : PG X tg (tG (mdOf X) t))
    (hb : PSs X bs (tS (mdOf X) Wx f)) (hs : ∀ x, foldedSetIterable iter X.env x = pure x) :
    PS X (.For tg iter bs [] pos) (tS (mdOf X) Wx fun ρ W => (fi ρ W).thnS fun ds W => forLoop (fun d ρ W => t.put W d ρ) f ds ρ W) := by
  refine (ps_for hp hc hi hg hb hs).imp fun D σ H ⟨ρ, m, W, he, hw, h⟩ => ⟨ρ, m, W, he, hw, h.ofR.imp fun ds m1 W1 H1 s1 hw1 h1 J hJ => ?_⟩
  obtain ⟨G, Y, wk, hG, hY⟩ := hJ
  refine for_it wk (fun i σ H => ∃ ρ' m' W', EnvOk (mdOf X) m' H σ ρ' ∧ WOk (mdOf X) m' W' H ∧ Step m1 H1 m' H ∧ aftS (mdOf X) Wx m' H (forLoop (fun d ρ W => t.put W d ρ) f (ds.drop i) ρ' W') D) ⟨ρ, m1, W1, he.mono s1, hw1, Step.refl, h1⟩ ?_ ?_ ?_
  · rintro i σ H hi ⟨ρ', m', W', a1, a2, a3, a4⟩
    exact hG m' H a3.kp
  · rintro i x σ H2 H3 hi ⟨ρ', m', W', a1, a2, a3, a4⟩ y
    obtain ⟨d, e1, sm, is⟩ := hY i m' W' H2 x H3 a3.kp a2 y
    have hdrop : ds.drop i = d :: ds.drop (i + 1) := by
      rw [List.drop_eq_getElem_cons hi]
      rw [List.getElem?_eq_getElem hi] at e1
      cases e1; rfl
    rw [hdrop] at a4
    unfold forLoop at a4
    split at a4
    · exact a4.elim
    · rename_i ρ1 e2
      refine ⟨ρ', m', W', d, ρ1, a1.mono (.same sm), is, e2, fun σ2 g1 g2 g3 => ⟨ρ1, m', W', g1, a2.mono sm, ?_⟩⟩
      exact (a4.step (.same sm)).thn (fun _ _ q => q) fun σ' H' ⟨ρ3, m3, W3, b1, b2, b3, b4⟩ => ⟨ρ3, m3, W3, b1, b2, (a3.trans (.same sm)).trans b3, b4⟩
  · rintro σ H ⟨ρ', m', W', a1, a2, a3, a4⟩
    have e0 : ds.drop ds.length = [] := by simp
    rw [e0] at a4
    unfold forLoop at a4
    exact a4.nx a2 a1
theorem s_asg {t : T} {tg : Expr} (ha : PE X a (tE (mdOf X) Wx fa)) (hg : PG X tg (tG (mdOf X) t)) (hs : swapsWithSole [tg] a pos.line X.env = pure false) (hw : swappedStores [tg] a X.env = pure none) (h1 : (assignEach [tg] X.env).map (·.2) = [assign tg X.env]) :
    PS X (.Assign [tg] a pos) (tS (mdOf X) Wx fun ρ W => (fa ρ W).thnS fun d W => match t.put W d ρ with | some ρ' => .nx ρ' W | none => .bad) :=
  (ps_asg ha hg hs hw h1).imp fun D σ H ⟨ρ, m, W, he, hw, h⟩ => ⟨ρ, m, W, he, hw, h.ofR.imp fun x m1 W1 H1 s1 hw1 h1 v hv => by
    split at h1
    · rename_i ρ' e
      exact ⟨ρ, m1, W1, x, ρ', he.mono s1, hv, e, fun σ' g1 g2 g3 => h1.nx hw1 g1⟩
    · exact h1.elim⟩
theorem s_name_imp {i : Nat} {te : TE} (hte : te = tE (mdOf X) Wx fa) : ∀ D σ H, tS (mdOf X) Wx (fun ρ W => (fa ρ W).thnS fun d W => match T.put W (.nm i) d ρ with | some ρ' => .nx ρ' W | none => .bad) D σ H → tAsg te (gName i) D σ H := by
  subst hte
  intro D σ H ⟨ρ, m, W, he, hw, h⟩
  refine ⟨ρ, m, W, he, hw, h.ofR.imp fun x m1 W1 H1 s1 hw1 h1 v hv => ?_⟩
  split at h1
  · rename_i ρ' e
    simp only [T.put] at e
    split at e
    · cases e
      exact h1.nx hw1 ((he.mono s1).set hv)
    · cases e
  · exact h1.elim
/-- several names at once, from the right -/
theorem s_par_imp {i j : Nat} {fs : EnvD → Wd → R (List D)} : ∀ D σ H, tS (mdOf X) Wx (fun ρ W => ((fs ρ W).bnd fun ds W => if ds.length ≤ 16777216 then .ok (.tup ds) W else .bad).thnS fun d W => match T.put W (.tp [.nm i, .nm j]) d ρ with | some ρ' => .nx ρ' W | none => .bad) D σ H → tPar i j (tAs (mdOf X) Wx fs) D σ H := by
  intro D σ H ⟨ρ, m, W, he, hw, h⟩
  refine ⟨ρ, m, W, he, hw, h.ofR.bnd.imp fun ds m1 W1 H1 s1 hw1 h1 vs hv => ?_⟩
  obtain ⟨_, h1⟩ := h1.ite
  have h2 := h1.okI hw1
  split at h2
  · rename_i ρ' e
    simp only [T.put] at e
    split at e
    · rename_i hl
      cases hv with
      | nil => simp at hl
      | cons r1 rr => cases rr with
        | nil => simp at hl
        | cons r2 rr =>
          cases rr with
          | cons _ _ => simp at hl
          | nil =>
            refine ⟨_, _, rfl, ?_⟩
            simp only [T.puts, T.put] at e
            split at e
            · rename_i ρ1 e1
              split at e1
              · cases e1
                split at e
                · rename_i ρ2 e2
                  split at e2
                  · cases e2; cases e
                    exact h2.nx hw1 (((he.mono s1).set r1).set r2)
                  · cases e2
                · cases e
              · cases e1
            · cases e
    · cases e
  · exact h2.elim
theorem s_par3_imp {i j l : Nat} {fs : EnvD → Wd → R (List D)} : ∀ D σ H, tS (mdOf X) Wx (fun ρ W => ((fs ρ W).bnd fun ds W => if ds.length ≤ 16777216 then .ok (.tup ds) W else .bad).thnS fun d W => match T.put W (.tp [.nm i, .nm j, .nm l]) d ρ with | some ρ' => .nx ρ' W | none => .bad) D σ H → tPar3 i j l (tAs (mdOf X) Wx fs) D σ H := by
  intro D σ H ⟨ρ, m, W, he, hw, h⟩
  refine ⟨ρ, m, W, he, hw, h.ofR.bnd.imp fun ds m1 W1 H1 s1 hw1 h1 vs hv => ?_⟩
  obtain ⟨_, h1⟩ := h1.ite
  have h2 := h1.okI hw1
  split at h2
  · rename_i ρ' e
    simp only [T.put] at e
    split at e
    · rename_i hl
      cases hv with
      | nil => simp at hl
      | cons r1 rr => cases rr with
        | nil => simp at hl
        | cons r2 rr =>
          cases rr with
          | nil => simp at hl
          | cons r3 rr => cases rr with
            | cons _ _ => simp at hl
            | nil =>
              refine ⟨_, _, _, rfl, ?_⟩
              simp only [T.puts, T.put] at e
              split at e
              · rename_i ρ1 e1
                split at e1
                · cases e1
                  split at e
                  · rename_i ρ2 e2
                    split at e2
                    · cases e2
                      split at e
                      · rename_i ρ3 e3
                        split at e3
                        · cases e3; cases e
                          exact h2.nx hw1 ((((he.mono s1).set r1).set r2).set r3)
                        · cases e3
                      · cases e
                    · cases e2
                  · cases e
                · cases e1
              · cases e
    · cases e
  · exact h2.elim
/-- a changing list is changed -/
theorem WOk.upd {M : Md} {m : Ms} {W : Wd} {H : Hp} {r : Nat} {p : Addr} {vs vs0 : List V} {ds : List D} (h : WOk M m W H) (hp : m.ch[r]? = some p) (hq : H p = some (.lst vs0)) (hr : IsAll M m H vs ds) :
    Step m H m (L2.upd H p (.lst vs)) ∧ WOk M m (W.set r ds) (L2.upd H p (.lst vs)) := by
  have pm : p ∈ m.ch := List.mem_of_getElem? hp
  have st : Step m H m (L2.upd H p (.lst vs)) := ⟨⟨⟨[], by simp⟩, fun a o n e => ⟨by rw [upd_ne (fun z => n (.inl (by rw [z]; exact pm)))]; exact e, n⟩⟩, rfl, fun a ha o e => by
    rw [upd_ne (fun z => (h.opn a ha).1 (by rw [z]; exact pm))]; exact e⟩
  refine ⟨st, by rw [List.length_set]; exact h.len, h.nd, fun i xs e => ?_, fun a ha => ?_⟩
  · by_cases hi : i = r
    · subst hi
      have hl : i < W.length := by rw [← h.len]; exact (List.getElem?_eq_some_iff.mp hp).1
      rw [List.getElem?_set_self hl] at e
      cases e
      exact ⟨p, vs, hp, upd_same, hr.mono st⟩
    · rw [List.getElem?_set_ne (Ne.symm hi)] at e
      obtain ⟨a, us, e1, e2, e3⟩ := h.at_ i xs e
      have ne : a ≠ p := fun z => by
        subst z
        obtain ⟨l1, q1⟩ := List.getElem?_eq_some_iff.mp e1
        obtain ⟨l2, q2⟩ := List.getElem?_eq_some_iff.mp hp
        exact hi ((List.getElem_inj h.nd).mp (q1.trans q2.symm))
      exact ⟨a, us, e1, by rw [upd_ne ne]; exact e2, e3.mono st⟩
  · obtain ⟨n, o, e⟩ := h.opn a ha
    exact ⟨n, o, by rw [upd_ne (fun z => n (by rw [z]; exact pm))]; exact e⟩
theorem s_put {p2 : Pos} (ha : PE X a (tE (mdOf X) Wx fa)) (hb : PE X b (tE (mdOf X) Wx fb)) (hc : PE X c (tE (mdOf X) Wx fc)) (hs : swapsWithSole [.Subscript a b p2] c pos.line X.env = pure false) (hw : swappedStores [.Subscript a b p2] c X.env = pure none)
    (hh : ∀ v, assign (.Subscript a b p2) X.env v = (do
      let ov ← holding [v] (eval a X.env)
      let iv ← holding [v, ov] (eval b X.env)
      standAt p2
      holding [v, ov, iv] (setItem ov iv v)
      release [v, ov, iv] [])) :
    PS X (.Assign [.Subscript a b p2] c pos) (tS (mdOf X) Wx fun ρ W => (fc ρ W).thnS fun z W => (fa ρ W).thnS fun x W => (fb ρ W).thnS fun y W => match x, y with
      | .ref r, .int j => match W[r]? with
        | some xs => match ixN xs.length j with
          | some n => .nx ρ (W.set r (xs.set n z))
          | none => .bad
        | none => .bad
      | _, _ => .bad) :=
  (ps_asg hc (pg_sub ha hb set_list hh) hs hw rfl).imp fun D σ H ⟨ρ, m, W, he, hw, h⟩ => ⟨ρ, m, W, he, hw, h.ofR.imp fun z m1 W1 H1 s1 hw1 h1 v hv => ⟨ρ, m1, W1, he.mono s1, hw1, h1.ofR.imp fun x m2 W2 H2 s2 hw2 h2 u hu =>
    ⟨ρ, m2, W2, (he.mono s1).mono s2, hw2, h2.ofR.imp fun y m3 W3 H3 s3 hw3 h3 w hy => by
      split at h3
      · rename_i r j
        split at h3
        · rename_i xs e
          split at h3
          · rename_i n en
            cases hy
            have hu3 := hu.mono s3
            cases hu3 with
            | ref hr =>
              obtain ⟨p, vs, e1, e2, e3⟩ := hw3.at_ _ _ e
              rw [hr] at e1; cases e1
              obtain ⟨a1, a2⟩ := hw3.upd hr e2 (e3.set n ((hv.mono s2).mono s3))
              exact ⟨_, vs, j, n, rfl, rfl, e2, by rw [e3.length]; exact en, h3 σ m3 _ a1 a2 (((he.mono s1).mono s2).mono (s3.trans a1))⟩
          · exact h3.elim
        · exact h3.elim
      · exact h3.elim⟩⟩⟩
theorem s_app {i : Nat} {x : Str} {px apos cpos : Pos} (hN : X.N[i]? = some x) (hv : Vis X.env.scope x) (hd : (x == ("__debug__" : Str)) = false) (hcd : (x == ("__classdict__" : Str)) = false) (ha : PE X a (tE (mdOf X) Wx fa)) (na : nostar a = true) (hl : (apos.endLine == cpos.line) = true) :
    PS X (.Expr (.Call (.Attribute (.Name x px) "append" apos) [a] [] cpos) pos) (tS (mdOf X) Wx fun ρ W => match ρ[i]? with
      | some (some (.ref r)) => (fa ρ W).thnS fun z W => match W[r]? with
        | some xs => if xs.length < 16777216 then .nx ρ (W.set r (xs ++ [z])) else .bad
        | none => .bad
      | _ => .bad) := by
  refine (ps_expr (pe_bm PySem.F.plainAttrs_list PySem.F.slot_list_append PySem.F.type_list_append mt_append (pe_var hN hv hd hcd) (pa_cons ha pa_nil (star_ok na)) rfl (by rw [star1 na]; rfl) hl (star_ok na) rfl) rfl).imp fun D σ H ⟨ρ, m, W, he, hw, h⟩ => ?_
  dsimp only at h
  split at h
  · rename_i r e
    obtain ⟨v, e1, hv⟩ := he.at_ i _ e
    cases hv with
    | ref hr =>
      rename_i p
      have hwr : ∃ xs, W[r]? = some xs := by
        have hl : r < W.length := by rw [← hw.len]; exact (List.getElem?_eq_some_iff.mp hr).1
        exact ⟨_, List.getElem?_eq_getElem hl⟩
      obtain ⟨xs0, ex0⟩ := hwr
      obtain ⟨p0, vs0, q1, q2, q3⟩ := hw.at_ _ _ ex0
      rw [hr] at q1; cases q1
      refine ⟨.ref p, e1, .inl ⟨rfl, vs0, SqL.of q2⟩, ρ, m, W, he, hw, h.ofR.imp fun z m1 W1 H1 s1 hw1 h1 u hu => ?_⟩
      split at h1
      · rename_i xs ex
        split at h1
        · rename_i hlen
          obtain ⟨p1, vs, w1, w2, w3⟩ := hw1.at_ _ _ ex
          have hr1 := s1.kp.get hr
          rw [hr1] at w1; cases w1
          obtain ⟨a1, a2⟩ := hw1.upd hr1 w2 (w3.append (.cons hu .nil))
          exact ⟨_, vs, u, rfl, rfl, w2, by rw [w3.length, sizeLine_eq]; exact hlen, h1 σ m1 _ a1 a2 (he.mono (s1.trans a1))⟩
        · exact h1.elim
      · exact h1.elim
  · exact h.elim
end
end PL

/-! PL15: the check of statements, and that it is sound. -/
namespace PL
open PySem PySem.Spec PyProof.Rows L2

def nocomp : Expr → Bool
  | .ListComp _ _ _ _ => false
  | .SetComp _ _ _ _ => false
  | .DictComp _ _ _ _ _ => false
  | _ => true
def isName : Expr → Bool
  | .Name _ _ => true
  | _ => false
/-- the tuple's stores stand as they are written -/
def noswap (ts : List Expr) : Expr → Bool
  | .Tuple vs _ _ => (!(ts.length == 2 || ts.length == 3) || vs.length != ts.length) || !(ts.all isName)
  | _ => true
def loc1 (sc : Scope) (x : Str) : Bool := match sc.names.lookup x with
  | some .local => true
  | _ => false
/-- the comprehension's list goes right into the name -/
def swB (sc : Scope) (x : Str) (px : Pos) (e : Expr) : Bool := match e with
  | .ListComp _ _ scope p => loc1 sc x && px.line == p.line && !(scope.names.any fun (n, k) => n == x && (k == .local || k == .cell))
  | _ => false
def freeVals (vs : List Expr) : Bool := !(vs.any fun | .Starred .. => true | _ => false) && !(vs.all (foldedForSure 8)) && !(vs.all (constantsAlone 8))
section
variable {env : Env} {sc : Scope}
theorem nocomp_sw {e : Expr} (h : nocomp e = true) (t : Option Expr) (l : Nat) : swapsWith e t l env = pure false := by
  cases e <;> first | rfl | cases h
theorem noswap_sole {ts : List Expr} {k : Nat} {p : Pos} {e : Expr} {l : Nat} : swapsWithSole [.Tuple ts k p] e l env = pure false := by
  cases e <;> rfl
theorem filterMap_lt {α β : Type} (f : α → Option β) : ∀ l : List α, (∃ a ∈ l, f a = none) → (l.filterMap f).length < l.length
  | [], h => by obtain ⟨a, ha, _⟩ := h; cases ha
  | a :: l, h => by
    cases e : f a with
    | none =>
      rw [List.filterMap_cons_none e, List.length_cons]
      exact Nat.lt_succ_of_le (List.length_filterMap_le f l)
    | some b =>
      rw [List.filterMap_cons_some e, List.length_cons, List.length_cons]
      obtain ⟨c, hc, hn⟩ := h
      rcases List.mem_cons.mp hc with rfl | hc
      · rw [e] at hn; cases hn
      · exact Nat.succ_lt_succ (filterMap_lt f l ⟨c, hc, hn⟩)
theorem noswap_ok {ts : List Expr} {k : Nat} {p : Pos} {e : Expr} (h : noswap ts e = true) : swappedStores [.Tuple ts k p] e env = pure none := by
  cases e with
  | Tuple vs k2 p2 =>
    simp only [noswap, Bool.or_eq_true] at h
    unfold swappedStores
    dsimp only
    by_cases h1 : (!(ts.length == 2 || ts.length == 3) || vs.length != ts.length || env.blockKind != .function) = true
    · rw [if_pos h1]
    · rw [if_neg h1]
      have h2 : (ts.all isName) = false := by
        rcases h with h | h
        · exact absurd (by rw [Bool.or_eq_true, Bool.or_eq_true]; exact .inl h) h1
        · simpa using h
      by_cases h3 : (vs.any fun | .Starred .. => true | _ => false) = true
      · show (if (vs.any fun | .Starred .. => true | _ => false) = true then pure none else _) = _
        rw [if_pos h3]
      · show (if (vs.any fun | .Starred .. => true | _ => false) = true then pure none else _) = _
        rw [if_neg h3]
        refine if_pos ?_
        rw [Bool.or_eq_true]
        left
        obtain ⟨t, ht, hn⟩ := List.all_eq_false.mp h2
        exact bne_iff_ne.mpr (Nat.ne_of_lt (filterMap_lt _ ts ⟨t, ht, by cases t <;> first | rfl | exact absurd rfl hn⟩))
  | _ => rfl
def compOk (e : Expr) : Bool := match e with
  | .ListComp _ _ _ _ => true
  | e => nocomp e
theorem nocomp_sole {e t : Expr} (h : nocomp e = true) (l : Nat) : swapsWithSole [t] e l env = pure false := nocomp_sw h (some t) l
theorem sw_false {x : Str} {px : Pos} {e : Expr} {l : Nat} (hsc : env.scope = sc) (hk : sc.kind = .function) (h : swB sc x px e = false) (hl : compOk e = true) : swapsWith e (some (.Name x px)) l env = pure false := by
  cases e with
  | ListComp elt gens scope p =>
    have hb : env.blockKind = .function := by unfold Env.blockKind; rw [hsc, hk]; rfl
    have hkd : env.kindOf x = sc.names.lookup x := by unfold Env.kindOf; rw [hsc]
    have e1 : (env.blockKind == .function && env.kindOf x == some .local && px.line == p.line && !(scope.names.any fun (n, k) => n == x && (k == .local || k == .cell))) = swB sc x px (.ListComp elt gens scope p) := by
      rw [hb, hkd]
      unfold swB loc1
      cases sc.names.lookup x with
      | none => rfl
      | some k => cases k <;> rfl
    show (pure (env.blockKind == .function && env.kindOf x == some .local && px.line == p.line && !(scope.names.any fun (n, k) => n == x && (k == .local || k == .cell))) : Sem Bool) = pure false
    rw [e1, h]
  | SetComp _ _ _ _ => cases hl
  | DictComp _ _ _ _ _ => cases hl
  | _ => rfl
theorem sw_ok {x : Str} {px p : Pos} {elt : Expr} {gens : List Comprehension} {scope : Scope} {l : Nat} (hsc : env.scope = sc) (hk : sc.kind = .function) (h : swB sc x px (.ListComp elt gens scope p) = true) : sc.names.lookup x = some .local ∧ swapsWith (.ListComp elt gens scope p) (some (.Name x px)) l env = pure true := by
  simp only [swB, Bool.and_eq_true, Bool.not_eq_true'] at h
  obtain ⟨⟨h1, h2⟩, h3⟩ := h
  have hx : sc.names.lookup x = some .local := by
    unfold loc1 at h1
    split at h1
    · assumption
    · cases h1
  exact ⟨hx, sw_true (by rw [hsc]; exact hk) (by rw [hsc]; exact hx) h2 h3⟩
theorem dup2 {x y : Str} (h : (x == y) = false) : ([x, y].eraseDups).length = 2 := by
  have h' : (y == x) = false := by rw [Bool.beq_comm]; exact h
  simp [List.eraseDups_cons, h, h', List.filter]
theorem par2_ok {x y : Str} {px py pt pt2 : Pos} {kt k2 : Nat} {a b : Expr} (hsc : env.scope = sc) (hk : sc.kind = .function) (hx : sc.names.lookup x = some .local) (hy : sc.names.lookup y = some .local) (hp : py.line = px.line) (hd : (x == y) = false) (hv : freeVals [a, b] = true) :
    swappedStores [.Tuple [.Name x px, .Name y py] kt pt] (.Tuple [a, b] k2 pt2) env = pure (some [x, y]) := by
  simp only [freeVals, Bool.and_eq_true, Bool.not_eq_true'] at hv
  obtain ⟨⟨h1, h2⟩, h3⟩ := hv
  have hb : env.blockKind = .function := by unfold Env.blockKind; rw [hsc, hk]; rfl
  have kx : env.kindOf x = some .local := by unfold Env.kindOf; rw [hsc]; exact hx
  have ky : env.kindOf y = some .local := by unfold Env.kindOf; rw [hsc]; exact hy
  have hd2 := dup2 hd
  unfold swappedStores
  dsimp only
  have hn : ([Expr.Name x px, Expr.Name y py].filterMap fun | .Name id pos => if env.kindOf id == some .local && pos.line == (([Expr.Name x px, Expr.Name y py] : List Expr).head?.map (·.pos.line)).getD 0 then some id else none | _ => none) = [x, y] := by
    simp [kx, ky, Expr.pos, hp]
  refine (if_neg (by simp [hb])).trans ?_
  refine (if_neg (show ¬ (([a, b].any fun | .Starred .. => true | _ => false) = true) by rw [h1]; decide)).trans ?_
  refine (if_neg ?_).trans ?_
  · show ¬ (((([Expr.Name x px, Expr.Name y py].filterMap fun | .Name id pos => if env.kindOf id == some .local && pos.line == (([Expr.Name x px, Expr.Name y py] : List Expr).head?.map (·.pos.line)).getD 0 then some id else none | _ => none).length != 2) || ((([Expr.Name x px, Expr.Name y py].filterMap fun | .Name id pos => if env.kindOf id == some .local && pos.line == (([Expr.Name x px, Expr.Name y py] : List Expr).head?.map (·.pos.line)).getD 0 then some id else none | _ => none).eraseDups.length != ([Expr.Name x px, Expr.Name y py].filterMap fun | .Name id pos => if env.kindOf id == some .local && pos.line == (([Expr.Name x px, Expr.Name y py] : List Expr).head?.map (·.pos.line)).getD 0 then some id else none | _ => none).length)) : Bool) = true)
    rw [hn, hd2]
    exact (by decide : ¬ (((2 : Nat) != 2 || (2 : Nat) != 2) = true))
  refine (if_neg (by rw [h2]; decide)).trans ?_
  refine (if_neg (by rw [h3]; decide)).trans ?_
  exact congrArg (fun l => pure (some l)) hn
end
section
variable (G : Glb) (N : List Str)
mutual
def chkS (sc : Scope) : S → Stmt → Bool
  | .asg t c, st => match st with
    | .Assign [tg] e _ => chkT N sc t tg && chk G N sc c e && (match tg with
      | .Name x px => compOk e
      | .Tuple ts _ _ => noswap ts e || (match t, c, ts, e with
        | .tp [.nm i, .nm j], .tup _, [.Name x px, .Name y py], .Tuple [a, b] _ _ => loc1 sc x && loc1 sc y && px.line == py.line && !(x == y) && freeVals [a, b]
        | _, _, _, _ => false)
      | _ => false)
    | _ => false
  | .put a i v, st => match st with
    | .Assign [.Subscript a' i' _] e _ => nocomp e && noslice i' && chk G N sc a a' && chk G N sc i i' && chk G N sc v e
    | _ => false
  | .app i c, st => match st with
    | .Expr (.Call (.Attribute (.Name x _) m apos) [a] [] cpos) _ => m == "append" && visB N sc i x && nostar a && apos.endLine == cpos.line && chk G N sc c a
    | _ => false
  | .ex c, st => match st with
    | .Expr e _ => nocomp e && chk G N sc c e
    | _ => false
  | .ret c, st => match st with
    | .Return (some e) _ => chk G N sc c e
    | _ => false
  | .ret0, st => match st with
    | .Return none _ => true
    | _ => false
  | .ife c a b, st => match st with
    | .If e as bs _ => chk G N sc c e && chkSs sc a as && chkSs sc b bs
    | _ => false
  | .for_ t w b, st => match st with
    | .For tg iter bs [] _ => noset iter && chkT N sc t tg && chkI G N sc w tg iter && chkSs sc b bs
    | _ => false
  | .whl c b, st => match st with
    | .While e bs [] _ => chk G N sc c e && chkSs sc b bs
    | _ => false
  | .pass, st => match st with
    | .Pass _ => true
    | _ => false
  | .no, _ => true
def chkSs (sc : Scope) : Ss → List Stmt → Bool
  | .nil, sts => match sts with
    | [] => true
    | _ => false
  | .cons s r, sts => match sts with
    | st :: rest => chkS sc s st && chkSs sc r rest
    | [] => false
end
end
section
variable {Δ : Tab} {G : Glb} {X : Cx} {Wx : WX} {sc : Scope}
mutual
theorem ok_S (hp : PassesOwn (model X.prog X.w) X.A X.env X.xe) (hsc : X.env.scope = sc) (hk : sc.kind = .function) (g : Gd X Δ G) (Sk : ScOk X sc) (tk : Takes X Wx) : ∀ (s : S) (st : Stmt), chkS G X.N sc s st = true → PS X st (tS (mdOf X) Wx (runS Δ s))
  | .asg t c, st, h => by
    unfold chkS at h
    split at h
    · rename_i tg e pos
      simp only [Bool.and_eq_true] at h
      obtain ⟨⟨h1, h2⟩, h3⟩ := h
      have he := (ok_C (Δ := Δ) (G := G) c e X Wx sc g Sk tk h2).1
      have hg := g_ok g.calm g.nd Sk t tg h1
      split at h3
      · rename_i x px
        cases t with
        | tp ts => simp [chkT] at h1
        | nm i =>
          obtain ⟨l1, l2, l3⟩ := locB_ok Sk (show locB X.N sc i x = true from h1)
          by_cases hsw : swB sc x px e = true
          · cases e with
            | ListComp elt gens scope p =>
              obtain ⟨hx, hs⟩ := sw_ok (env := X.env) (l := pos.line) hsc hk hsw
              cases c with
              | lc own t' w ifs el =>
                unfold chk at h2
                split at h2
                · rename_i heq
                  cases heq
                  simp only [Bool.and_eq_true, beq_iff_eq] at h2
                  obtain ⟨⟨⟨⟨⟨⟨⟨k1, k2⟩, k3⟩, k4⟩, k5⟩, k6⟩, k7⟩, k8⟩ := h2
                  subst k1
                  refine (ps_setLc (te := tE (mdOf X) W0 (run Δ el)) (tt := tB (mdOf X) W0 (runT Δ ifs)) (g := tG (mdOf X) t') (wi := tI (mdOf X) Wx (runI Δ w)) g.calm g.nd l1 (Sk.loc x hx) hs (ok_I w _ _ X Wx sc g Sk tk k6) (blkB_ok Sk k3) (fun s H C cl fp => g_ok (X := X.blk s H _ (compEnvC _ cl C X.env) fp) g.calm g.nd ScOk.blk t' _ k4)
                    (fun s H C cl fp => (ok_Cs ifs).2 _ _ W0 _ g.blk ScOk.blk takes0 k7) (fun s H C cl fp => (ok_C el _ _ W0 _ g.blk ScOk.blk takes0 k8).1) (set_ok k2 _)).imp fun D σ H q => ?_
                  have q' := s_name_imp (X := X) (Wx := Wx) (i := i) (fa := run Δ (.lc own t' w ifs el)) rfl D σ H q
                  exact e_lc (X := X) (t := t') (own := own) rfl rfl rfl rfl (fun j hj => by
                    have q := List.all_eq_true.mp k5 j hj
                    obtain ⟨p, hp, e⟩ := List.any_eq_true.mp q
                    exact List.mem_map.mpr ⟨p, hp, beq_iff_eq.mp e⟩) σ H _ q'
                · cases h2
              | _ => simp [chk] at h2
            | _ => cases hsw
          · have hsw' : swB sc x px e = false := by simpa using hsw
            refine (ps_set g.nd l1 l2 he (sw_false hsc hk hsw' h3) l3).imp (s_name_imp rfl)
      · rename_i ts k p
        rw [Bool.or_eq_true] at h3
        rcases h3 with h3 | h3
        · exact s_asg he hg noswap_sole (noswap_ok h3) rfl
        · split at h3
          · rename_i i j es x px y py a b k2 p2
            simp only [Bool.and_eq_true, beq_iff_eq, Bool.not_eq_true'] at h3
            obtain ⟨⟨⟨⟨q1, q2⟩, q3⟩, q4⟩, q5⟩ := h3
            simp only [chkT, chkTs, Bool.and_eq_true] at h1
            obtain ⟨l1, l2, l3⟩ := locB_ok Sk h1.1
            obtain ⟨m1, m2, m3⟩ := locB_ok Sk h1.2.1
            have hx : sc.names.lookup x = some .local := by
              unfold loc1 at q1
              split at q1
              · assumption
              · cases q1
            have hy : sc.names.lookup y = some .local := by
              unfold loc1 at q2
              split at q2
              · assumption
              · cases q2
            have hij : i ≠ j := fun z => by
              subst z
              rw [l1] at m1
              cases m1
              simp at q4
            have ha := ((ok_Cs (Δ := Δ) (G := G) es).1 _ X Wx sc g Sk tk (show chks G X.N sc es [a, b] = true from h2)).2.1
            exact (ps_par g.calm g.nd l1 m1 hij (Sk.loc x hx) (Sk.loc y hy) ha (par2_ok hsc hk hx hy q3.symm q4 q5) noswap_sole).imp s_par_imp
          · cases h3
      · cases h3
    · cases h
  | .put a i v, st, h => by
    unfold chkS at h
    split at h
    · simp only [Bool.and_eq_true] at h
      obtain ⟨⟨⟨⟨h1, h2⟩, h3⟩, h4⟩, h5⟩ := h
      refine s_put (ok_C a _ X Wx sc g Sk tk h3).1 (ok_C i _ X Wx sc g Sk tk h4).1 (ok_C v _ X Wx sc g Sk tk h5).1 (nocomp_sole h1 _) rfl ?_
      rename_i i' _ _ _
      cases i' <;> first | (intro v; rfl) | cases h2
    · cases h
  | .app i c, st, h => by
    unfold chkS at h
    split at h
    · simp only [Bool.and_eq_true, beq_iff_eq] at h
      obtain ⟨⟨⟨⟨h1, h2⟩, h3⟩, h4⟩, h5⟩ := h
      subst h1
      obtain ⟨v1, v2, v3, v4⟩ := visB_ok Sk h2
      exact s_app v1 v2 v3 v4 (ok_C c _ X Wx sc g Sk tk h5).1 h3 (beq_iff_eq.mpr h4)
    · cases h
  | .ex c, st, h => by
    unfold chkS at h
    split at h
    · simp only [Bool.and_eq_true] at h
      exact s_ex (ok_C c _ X Wx sc g Sk tk h.2).1 (nocomp_sw h.1 _ _)
    · cases h
  | .ret c, st, h => by
    unfold chkS at h
    split at h
    · exact s_ret (ok_C c _ X Wx sc g Sk tk h).1
    · cases h
  | .ret0, st, h => by
    unfold chkS at h
    split at h
    · exact s_ret0
    · cases h
  | .ife c a b, st, h => by
    unfold chkS at h
    split at h
    · simp only [Bool.and_eq_true] at h
      exact s_if (ok_C c _ X Wx sc g Sk tk h.1.1).2 (ok_Ss hp hsc hk g Sk tk a _ h.1.2) (ok_Ss hp hsc hk g Sk tk b _ h.2)
    · cases h
  | .for_ t w b, st, h => by
    unfold chkS at h
    split at h
    · simp only [Bool.and_eq_true] at h
      exact s_for hp g.calm (ok_I w _ _ X Wx sc g Sk tk h.1.2) (g_ok g.calm g.nd Sk t _ h.1.1.2) (ok_Ss hp hsc hk g Sk tk b _ h.2) (set_ok h.1.1.1 _)
    · cases h
  | .whl c b, st, h => by
    unfold chkS at h
    split at h
    · simp only [Bool.and_eq_true] at h
      exact s_while hp (ok_C c _ X Wx sc g Sk tk h.1).2 (ok_Ss hp hsc hk g Sk tk b _ h.2)
    · cases h
  | .pass, st, h => by
    unfold chkS at h
    split at h
    · exact s_pass
    · cases h
  | .no, st, h => ⟨fun pins s σ H D I ⟨ρ, m, W, _, _, q⟩ => q.elim⟩
theorem ok_Ss (hp : PassesOwn (model X.prog X.w) X.A X.env X.xe) (hsc : X.env.scope = sc) (hk : sc.kind = .function) (g : Gd X Δ G) (Sk : ScOk X sc) (tk : Takes X Wx) : ∀ (s : Ss) (sts : List Stmt), chkSs G X.N sc s sts = true → PSs X sts (tS (mdOf X) Wx (runSs Δ s))
  | .nil, sts, h => by
    cases sts with
    | nil => exact s_nil
    | cons _ _ => simp [chkSs] at h
  | .cons s r, sts, h => by
    cases sts with
    | nil => simp [chkSs] at h
    | cons st rest =>
      simp only [chkSs, Bool.and_eq_true] at h
      exact s_cons (ok_S hp hsc hk g Sk tk s st h.1) (ok_Ss hp hsc hk g Sk tk r rest h.2)
end
end
end PL

/-! PL16: defs, programs. -/
namespace PL
open PySem PySem.Spec PyProof.Rows L2

/-! ### leaving a def -/
section
variable {M : Md} {m m' : Ms} {H : Hp}
theorem ch_low {r : List Addr} (hc : m'.ch = m.ch ++ r) {i : Nat} {a : Addr} (h : m'.ch[i]? = some a) (hi : i < m.ch.length) : m.ch[i]? = some a := by
  rw [hc, List.getElem?_append_left hi] at h; exact h
mutual
theorem Is.low' {r : List Addr} (hc : m'.ch = m.ch ++ r) (ho : m'.op = m.op) : ∀ {v : V} {d : D}, Is M m' H v d → D.low m.ch.length d = true → Is M m H v d
  | _, _, .non, _ => .non
  | _, _, .bl b, _ => .bl b
  | _, _, .int i, _ => .int i
  | _, _, .str x h, _ => .str x h
  | _, _, .tup h r', q => .tup (h.imp (fun z => ⟨fun y => z.1 (y.imp (fun k => by rw [hc]; exact List.mem_append_left _ k) fun k => by rw [ho]; exact k), z.2⟩) id) (IsAll.low' hc ho r' (by simpa only [D.low] using q))
  | _, _, .lst n e r', q => .lst (fun y => n (y.imp (fun k => by rw [hc]; exact List.mem_append_left _ k) fun k => by rw [ho]; exact k)) e (IsAll.low' hc ho r' (by simpa only [D.low] using q))
  | _, _, .dct n e r', q => .dct (fun y => n (y.imp (fun k => by rw [hc]; exact List.mem_append_left _ k) fun k => by rw [ho]; exact k)) e (IsKvs.low' hc ho r' (by simpa only [D.low] using q))
  | _, _, .fn h, _ => .fn h
  | _, _, .ref h, q => .ref (ch_low hc h (by simpa [D.low] using q))
  | _, _, .scr h, _ => .scr (h.imp (fun z => ⟨fun y => z.1 (y.imp (fun k => by rw [hc]; exact List.mem_append_left _ k) fun k => by rw [ho]; exact k), z.2⟩) id)
theorem IsAll.low' {r : List Addr} (hc : m'.ch = m.ch ++ r) (ho : m'.op = m.op) : ∀ {vs : List V} {ds : List D}, IsAll M m' H vs ds → D.lows m.ch.length ds = true → IsAll M m H vs ds
  | _, _, .nil, _ => .nil
  | _, _, .cons a b, q => by
    simp only [D.lows, Bool.and_eq_true] at q
    exact .cons (Is.low' hc ho a q.1) (IsAll.low' hc ho b q.2)
theorem IsKvs.low' {r : List Addr} (hc : m'.ch = m.ch ++ r) (ho : m'.op = m.op) : ∀ {vs : List (Key × V)} {ds : List (Key × D)}, IsKvs M m' H vs ds → D.lowK m.ch.length ds = true → IsKvs M m H vs ds
  | _, _, .nil, _ => .nil
  | _, _, .cons a b, q => by
    simp only [D.lowK, Bool.and_eq_true] at q
    exact .cons (Is.low' hc ho a q.1) (IsKvs.low' hc ho b q.2)
end
theorem leave_ok {Wx : WX} {H0 : Hp} {W W' : Wd} {d : D} {v : V} {Q : VK} (hw0 : WOk M m W H0) (s : Step m H0 m' H) (hw : WOk M m' W' H) (hv : Is M m' H v d)
    (h : aft M Wx m H0 (leave W.length d W') fun d m' _ H' => ∀ v, Is M m' H' v d → Q v H') : Q v H := by
  unfold leave at h
  split at h
  · exact h m' H s hw v hv
  · rename_i hlt
    split at h
    · rename_i hlow
      obtain ⟨r, hc⟩ := s.kp.pre
      have hn : m.ch.length = W.length := hw0.len
      have st : Step m H0 m H := ⟨⟨⟨[], by simp⟩, fun a o n e => ⟨(s.kp.keep a o n e).1, n⟩⟩, rfl, s.opk⟩
      have hw1 : WOk M m (W'.take W.length) H := by
        refine ⟨?_, hw0.nd, fun i xs e => ?_, fun a ha => ?_⟩
        · rw [List.length_take, hn]
          have := hw.len
          rw [hc, List.length_append] at this
          omega
        · have hi : i < W.length := by
            have := (List.getElem?_eq_some_iff.mp e).1
            rw [List.length_take] at this
            omega
          have hm := List.all_eq_true.mp hlow xs (List.mem_of_getElem? e)
          rw [List.getElem?_take_of_lt hi] at e
          obtain ⟨a, vs, e1, e2, e3⟩ := hw.at_ i xs e
          exact ⟨a, vs, ch_low hc e1 (by rw [hn]; exact hi), e2, IsAll.low' hc s.op e3 (by rw [hn]; exact hm)⟩
        · obtain ⟨n, o, e⟩ := hw.opn a (by rw [s.op]; exact ha)
          exact ⟨fun z => n (by rw [hc]; exact List.mem_append_left _ z), o, e⟩
      have other : ∀ d, Is M m' H v d → aft M Wx m H0 (if D.low W.length d = true then R.ok d (W'.take W.length) else R.bad) (fun d m' _ H' => ∀ v, Is M m' H' v d → Q v H') → Q v H := fun d hv h => by
        obtain ⟨hl, h⟩ := h.ite
        exact h m H st hw1 v (Is.low' hc s.op hv (by rw [hn]; exact hl))
      cases d with
      | ref i =>
        cases hv with
        | ref hr =>
          rename_i a
          dsimp only at h
          split at h
          · rename_i hi
            exact h m H st hw1 _ (.ref (ch_low hc hr (by rw [hn]; exact hi)))
          · rename_i hi
            split at h
            · rename_i xs ex
              obtain ⟨hl, h⟩ := h.ite
              obtain ⟨a', vs, e1, e2, e3⟩ := hw.at_ i xs ex
              rw [hr] at e1; cases e1
              refine h m H st hw1 _ (.lst ?_ e2 (IsAll.low' hc s.op e3 (by rw [hn]; exact hl)))
              rintro (z | z)
              · obtain ⟨j, hj⟩ := List.getElem?_of_mem z
                have hj2 : m'.ch[j]? = some a := by rw [hc, List.getElem?_append_left (List.getElem?_eq_some_iff.mp hj).1]; exact hj
                have hjl := (List.getElem?_eq_some_iff.mp hj).1
                obtain ⟨l1, q1⟩ := List.getElem?_eq_some_iff.mp hj2
                obtain ⟨l2, q2⟩ := List.getElem?_eq_some_iff.mp hr
                have := (List.getElem_inj hw.nd).mp (q1.trans q2.symm)
                omega
              · exact (hw.opn _ (by rw [s.op]; exact z)).1 (List.mem_of_getElem? hr)
            · exact h.elim
      | _ => exact other _ hv h
    · exact h.elim
end

/-! ### programs -/
structure Txt where
  nm : Str
  st : Stmt
  N : List Str
  ps : List Str
  fn : Fn
def progOf (txts : List Txt) : Prog := txts.map fun t => (t.nm, t.fn)
def nodupB : List Str → Bool
  | [] => true
  | x :: xs => !(xs.contains x) && nodupB xs
theorem nodupB_ok : ∀ {l : List Str}, nodupB l = true → l.Nodup
  | [], _ => .nil
  | x :: xs, h => by
    simp only [nodupB, Bool.and_eq_true, Bool.not_eq_true'] at h
    refine List.nodup_cons.mpr ⟨fun hm => ?_, nodupB_ok h.2⟩
    have : xs.contains x = true := by simpa using hm
    rw [this] at h
    exact absurd h.1 (by simp)
def scB (N ps : List Str) (sc : Scope) : Bool :=
  (match sc.kind with | .function => true | _ => false) && !sc.isCoroutine && !sc.isGenerator && nodupB N && (N.take ps.length == ps) && (ps.all fun x => match sc.names.lookup x with | some .local => true | some .cell => true | _ => false) &&
    sc.names.all fun y => match y.2 with | .free => false | _ => true
theorem scB_ok {N ps : List Str} {sc : Scope} (h : scB N ps sc = true) : FnScope N ps sc := by
  unfold scB at h
  simp only [Bool.and_eq_true, Bool.not_eq_true', List.all_eq_true] at h
  obtain ⟨⟨⟨⟨⟨⟨h1, h2⟩, h3⟩, h4⟩, h5⟩, h6⟩, h7⟩ := h
  refine ⟨?_, h2, h3, nodupB_ok h4, by simpa using h5, fun x hx => ?_, fun y hy e => ?_⟩
  · split at h1
    · assumption
    · cases h1
  · have q := h6 x hx
    split at q
    · exact .inl (by assumption)
    · exact .inr (by assumption)
    · cases q
  · have q := h7 y hy
    rw [e] at q
    cases q
def chkF (G : Glb) (t : Txt) : Bool := scB t.N t.ps (defScope t.st) && chkSs G t.N (defScope t.st) t.fn.body (defBody t.st) && t.fn.many == t.ps.length && t.fn.slots == t.N.length
def chkP (G : Glb) (txts : List Txt) : Bool := txts.all (chkF G) && nodupB (txts.map (·.nm)) && G.fns.all fun x => (txts.map (·.nm)).contains x
def BindOk (t : Txt) : Prop := ∀ (kV doc pm : Value) (an : Option Addr) (cdv ct : Value) (us : List Value), us.length = t.ps.length →
  bindArgs (PySem.W.fnOf t.nm t.nm (defArgs t.st) (defBody t.st) (defScope t.st) .none kV doc pm an cdv ct) ⟨us, []⟩ = pure (t.ps.zip us)
abbrev FnT (K : PySem.W.Frag) (t : Txt) (f : Addr) (fd : FuncData) : Prop := FunD K t.nm t.nm (defArgs t.st) (defBody t.st) (defScope t.st) [] [] f fd
theorem lookup_nodup {α : Type} (f : α → Str) {β : Type} (g : α → β) : ∀ {l : List α} {t : α}, (l.map f).Nodup → t ∈ l → (l.map fun t => (f t, g t)).lookup (f t) = some (g t)
  | [], _, _, h => by cases h
  | a :: l, t, hn, h => by
    rw [List.map_cons, List.nodup_cons] at hn
    rw [List.map_cons, List.lookup_cons]
    rcases List.mem_cons.mp h with rfl | h
    · simp
    · have ne : (f t == f a) = false := by
        rw [beq_eq_false_iff_ne]
        intro e
        exact hn.1 (by rw [← e]; exact List.mem_map.mpr ⟨t, h, rfl⟩)
      rw [ne]
      exact lookup_nodup f g hn.2 h
section
variable {P : Program} {w : World} {K : PySem.W.Frag} {mg : Str → Option Value} {base : Heap} {txts : List Txt} {G : Glb}
theorem env_start {M : Md} {m : Ms} {H : Hp} {N ps : List Str} {vs : List V} {ds : List D} (r : IsAll M m H vs ds) (hs : N.length - vs.length = N.length - ds.length) : EnvOk M m H (L2.start N vs) (ds.map some ++ List.replicate (N.length - ds.length) none) := by
  have hl := r.length
  refine ⟨fun i d e => ?_, by unfold L2.start; simp [hl]⟩
  by_cases hi : i < ds.length
  · rw [List.getElem?_append_left (by simpa using hi)] at e
    simp only [List.getElem?_map] at e
    cases q : ds[i]? with
    | none => rw [q] at e; cases e
    | some d' =>
      rw [q] at e
      cases e
      obtain ⟨v, e1, is⟩ := r.get q
      refine ⟨v, ?_, is⟩
      unfold L2.start
      rw [List.getElem?_append_left (by simp; omega), List.getElem?_map, e1]; rfl
  · rw [List.getElem?_append_right (by simp; omega)] at e
    have := List.getElem?_replicate (n := N.length - ds.length) (a := (none : Option D)) (i := i - (ds.map some).length)
    rw [this] at e
    split at e <;> cases e
/-- every def keeps its promise, level by level -/
theorem fn_all (hc : chkP G txts = true) (hb : ∀ t ∈ txts, BindOk t) (hd : ∀ t ∈ txts, ∃ fd, FnT K t (He.ga K t.nm) fd) (hg : ∀ t ∈ txts, mg t.nm = some (.ref (He.ga K t.nm)))
    (hf : ∀ x ∈ G.frees, mg x = none) (hgs : ∀ p ∈ G.gs, ∃ v u, mg p.1 = some u ∧ RelV v u ∧ ∀ m H, Is ⟨K, mg⟩ m H v p.2) :
    ∀ k, ∀ t ∈ txts, ∀ fd, FnT K t (He.ga K t.nm) fd → FnOk P w K mg base (L2.CX P w) k (He.ga K t.nm) fd t.ps (spD ⟨K, mg⟩ (callK (progOf txts) k t.nm)) := by
  unfold chkP at hc
  simp only [Bool.and_eq_true, List.all_eq_true] at hc
  obtain ⟨⟨hc1, hc2⟩, hc3⟩ := hc
  have hlk : ∀ t ∈ txts, (progOf txts).lookup t.nm = some t.fn := fun t ht => lookup_nodup (fun t : Txt => t.nm) (fun t => t.fn) (nodupB_ok hc2) ht
  intro k
  induction k with
  | zero =>
    intro t ht fd F
    have no : ∀ vs H Q E, ¬ spD ⟨K, mg⟩ (callK (progOf txts) 0 t.nm) vs H Q E := fun vs H Q E ⟨m, W, ds, _, _, h⟩ => h.elim
    exact ⟨fun vs H Q E h => (no vs H Q E h).elim, fun A outer s H args us vs Q E hr he hb' hv hs => (no vs H Q E hs).elim⟩
  | succ k ih =>
    intro t ht fd F
    have ck := hc1 t ht
    unfold chkF at ck
    simp only [Bool.and_eq_true, beq_iff_eq] at ck
    obtain ⟨⟨⟨c1, c2⟩, c3⟩, c4⟩ := ck
    have S := scB_ok c1
    have un : ∀ ds W, callK (progOf txts) (k + 1) t.nm ds W = fnRun (callK (progOf txts) k) t.fn ds W := fun ds W => by
      show (match (progOf txts).lookup t.nm with | some fn => fnRun (callK (progOf txts) k) fn ds W | none => .bad) = _
      rw [hlk t ht]
    refine F.ok S (fun vs H Q E h => ?_) fun cdv A outer s H vs Q E hr h => ?_
    · obtain ⟨m, W, ds, hw, r, h⟩ := h
      rw [un] at h
      unfold fnRun at h
      split at h
      · rename_i hl
        rw [r.length, hl, c3]
      · exact h.elim
    · obtain ⟨m, W, ds, hw, r, h⟩ := h
      rw [un] at h
      unfold fnRun at h
      split at h
      · rename_i hl
        have X := cxOf (L2.CX P w) P w K mg base t.N t.nm (defScope t.st) (He.ga K t.nm) cdv A outer s H E
        have tk : Takes (cxOf (L2.CX P w) P w K mg base t.N t.nm (defScope t.st) (He.ga K t.nm) cdv A outer s H E) (fun cls d _ H => E cls d H) := takes_of rfl rfl rfl rfl
        have g : Gd (cxOf (L2.CX P w) P w K mg base t.N t.nm (defScope t.st) (He.ga K t.nm) cdv A outer s H E) (callK (progOf txts) k) G := by
          refine ⟨rfl, S.nd, by have := hr.un; show (A.deeper _).units + 200 < _; omega, fun x hx => ?_, hf, hgs⟩
          have hm : x ∈ txts.map (·.nm) := by simpa using hc3 x hx
          obtain ⟨t', ht', rfl⟩ := List.mem_map.mp hm
          obtain ⟨fd', F'⟩ := hd t' ht'
          exact ⟨k, _, fd', t'.ps, ih t' ht' fd' F', hr, hg t' ht', F'.kp, F'.bindsN (hb t' ht')⟩
        refine ⟨_, ok_Ss (Wx := fun cls d _ H => E cls d H) (passes_of rfl) rfl S.kind g ⟨fun x e => e, fun x e => ⟨e, rfl⟩, fun x e => .inr e, fun x e => e⟩ tk t.fn.body _ c2, ?_⟩
        have hlv : vs.length = ds.length := r.length
        refine ⟨ds.map some ++ List.replicate (t.fn.slots - t.fn.many) none, m, W, ?_, hw, ?_⟩
        · have e := env_start (N := t.N) (ps := t.ps) r (by rw [hlv])
          rw [c4, ← hl]
          exact e
        · have h' : aft ⟨K, mg⟩ (fun c d _ H' => E c d H') m H (match runSs (callK (progOf txts) k) t.fn.body (ds.map some ++ List.replicate (t.fn.slots - t.fn.many) none) W with
              | .nx _ W' => if t.fn.maker = true then .bad else leave W.length .non W'
              | .rt d W' => if t.fn.maker = true then .ok d W' else leave W.length d W'
              | .err e W' => if W'.length ≤ W.length then .err e W' else .bad
              | .bad => .bad) (fun d m' _ H' => ∀ v, Is ⟨K, mg⟩ m' H' v d → Q v H') := h
          show aftS ⟨K, mg⟩ (fun cls d _ H => E cls d H) m H (runSs (callK (progOf txts) k) t.fn.body (ds.map some ++ List.replicate (t.fn.slots - t.fn.many) none) W) _
          revert h'
          generalize runSs (callK (progOf txts) k) t.fn.body (ds.map some ++ List.replicate (t.fn.slots - t.fn.many) none) W = res
          intro h'
          cases res with
          | bad => exact h'.elim
          | err e W' =>
            dsimp only at h'
            split at h'
            · exact h'
            · exact h'.elim
          | nx ρ' W' =>
            intro σ' m' H' st hw' he'
            dsimp only at h'
            split at h'
            · exact h'.elim
            · exact leave_ok (v := .non) hw st hw' .non h'
          | rt d W' =>
            intro v m' H' st hw' hv
            dsimp only at h'
            split at h'
            · exact h' m' H' st hw' v hv
            · exact leave_ok hw st hw' hv h'
      · exact h.elim
end

/-! ### a law -/
def faOf (fns frees : List Str) (gs : List (Str × D)) : List He.Fa := fns.map .glo ++ (frees.map .free ++ gs.map fun p => match p.2 with
  | .int i => .int p.1 i
  | .str z => .str p.1 z
  | _ => .free p.1)
def dOf (t : Txt) : He.DefD := ⟨(t.nm, none), t.nm, t.nm, defArgs t.st, defBody t.st, defScope t.st, [], []⟩
def gsB (gs : List (Str × D)) : Bool := gs.all fun p => match p.2 with
  | .int _ => true
  | .str z => PyData.strOk z
  | _ => false
theorem says_mem {fa : List He.Fa} {fn : List He.DefD} {K : PySem.W.Frag} (c : He.SaysD fa fn K) {f : He.Fa} (h : f ∈ fa) : f.ok K = true := by
  obtain ⟨i, e⟩ := List.getElem?_of_mem h
  exact c.fact i e
/-- nothing is let out -/
theorem fn_nox {P : Program} {w : World} {K : PySem.W.Frag} {mg : Str → Option Value} {base : Heap} {k : Nat} {f : Addr} {fd : FuncData} {ps : List Str} {sp : Sp} (F : FnOk P w K mg base (L2.CX P w) k f fd ps sp) :
    FnOk P w K mg base CX0 k f fd ps fun vs H Q _ => sp vs H Q fun _ _ _ => False := by
  refine ⟨fun vs H Q E h => F.len vs H Q _ h, fun A outer s H args us vs Q E hr he hb hv hs => codeAny_mono (F.run A outer s H args us vs Q _ hr he hb hv hs) fun r s' hq => ?_⟩
  cases r with
  | error e =>
    obtain ⟨_, _, _, _, _, _, _, _, _, _, _, _, z⟩ := (show L2.CX P w outer H s (fun _ _ _ => False) e s' from hq)
    exact z
  | ok fl => cases fl <;> exact hq
theorem law_facts {P : Program} {w : World} {K : PySem.W.Frag} {h : Heap} {mg : Str → Option Value} {f : Addr} {txts : List Txt} {G : Glb} {k : Nat} {tl : Txt} (X : K.In h) (Gn : h.Ns mainGlobals mg) (hfa : mg ("law" : Str) = some (.ref f))
    (c : He.SaysD (faOf (txts.map (·.nm)) G.frees G.gs) (txts.map dOf) K) (hc : chkP G txts = true) (hgs : gsB G.gs = true) (hb : ∀ t ∈ txts, BindOk t) (ht : tl ∈ txts) (hn : tl.nm = ("law" : Str)) (hp : tl.ps = [("script" : Str)]) :
    ∃ fd : FuncData, (∀ (s : Shared) (v : Value), BindsTo s fd ⟨[v], []⟩ [("script", v)]) ∧ ∀ base : Heap, K.In base → base.Ns mainGlobals mg → FnOk P w K mg base CX0 k f fd [("script" : Str)] (fun vs H Q _ => spD ⟨K, mg⟩ (callK (progOf txts) k ("law" : Str)) vs H Q fun _ _ _ => False) := by
  have hd : ∀ t ∈ txts, ∃ fd, FnT K t (He.ga K t.nm) fd := fun t ht => by
    obtain ⟨i, e⟩ := List.getElem?_of_mem ht
    exact c.def_ i (d := dOf t) (by rw [List.getElem?_map, e]; rfl)
  have hg : ∀ t ∈ txts, mg t.nm = some (.ref (He.ga K t.nm)) := fun t ht => He.glo_ok X Gn (says_mem c (List.mem_append_left _ (List.mem_map.mpr ⟨t.nm, List.mem_map.mpr ⟨t, ht, rfl⟩, rfl⟩)))
  have hf : ∀ x ∈ G.frees, mg x = none := fun x hx => He.free_ok X Gn (says_mem c (List.mem_append_right _ (List.mem_append_left _ (List.mem_map.mpr ⟨x, hx, rfl⟩))))
  have hgs' : ∀ p ∈ G.gs, ∃ v u, mg p.1 = some u ∧ RelV v u ∧ ∀ m H, Is ⟨K, mg⟩ m H v p.2 := fun p hp => by
    have q := List.all_eq_true.mp hgs p hp
    have fc := says_mem c (List.mem_append_right _ (List.mem_append_right _ (List.mem_map.mpr ⟨p, hp, rfl⟩)))
    obtain ⟨x, d⟩ := p
    cases d with
    | int i =>
      obtain ⟨t, e⟩ := He.int_ok X Gn fc
      exact ⟨.int i, _, e, ⟨t, rfl⟩, fun _ _ => .int i⟩
    | str z =>
      obtain ⟨t, e⟩ := He.str_ok X Gn fc
      exact ⟨.str z, _, e, ⟨t, rfl⟩, fun _ _ => .str z q⟩
    | _ => cases q
  obtain ⟨fd, F⟩ := hd tl ht
  have e := hfa.symm.trans (hn ▸ hg tl ht)
  cases e
  refine ⟨fd, fun s v => ?_, fun base _ _ => ?_⟩
  · have b := F.bindsA (ps := tl.ps) (hb tl ht) s [v] (by rw [hp]; rfl)
    rw [hp] at b
    exact b
  · have r := fn_all (P := P) (w := w) (base := base) hc hb hd hg hf hgs' k tl ht fd F
    rw [hn, hp] at r
    exact fn_nox r
theorem law_sp {K : PySem.W.Frag} {mg : Str → Option Value} {g : List D → Wd → R D} {ns : List Int} {H : Hp} {a : Addr} {W : Wd} (hS : SqL K H a (ns.map V.int)) (hr : g [.scr ns] [] = .ok (.bl true) W) :
    spD ⟨K, mg⟩ g [.ref a] H (fun v _ => v = .bl true) fun _ _ _ => False := by
  refine ⟨⟨[], []⟩, [], [.scr ns], ⟨rfl, .nil, fun i xs e => by simp at e, fun a ha => nomatch ha⟩, .cons (.scr (hS.imp (fun z => ⟨fun y => y.elim (fun q => nomatch q) (fun q => nomatch q), z⟩) id)) .nil, ?_⟩
  rw [hr]
  intro m' H' _ _ v hv
  exact is_bl hv
end PL

/-! PL17: the evaluator's equations for simp. -/
namespace PL
open PySem
@[simp] theorem s_fnRun_eq_1 : type_of% @PL.fnRun.eq_1 := @PL.fnRun.eq_1
@[simp] theorem s_runSs_eq_1 : type_of% @PL.runSs.eq_1 := @PL.runSs.eq_1
@[simp] theorem s_runSs_eq_2 : type_of% @PL.runSs.eq_2 := @PL.runSs.eq_2
@[simp] theorem s_runS_eq_1 : type_of% @PL.runS.eq_1 := @PL.runS.eq_1
@[simp] theorem s_runS_eq_2 : type_of% @PL.runS.eq_2 := @PL.runS.eq_2
@[simp] theorem s_runS_eq_3 : type_of% @PL.runS.eq_3 := @PL.runS.eq_3
@[simp] theorem s_runS_eq_4 : type_of% @PL.runS.eq_4 := @PL.runS.eq_4
@[simp] theorem s_runS_eq_5 : type_of% @PL.runS.eq_5 := @PL.runS.eq_5
@[simp] theorem s_runS_eq_6 : type_of% @PL.runS.eq_6 := @PL.runS.eq_6
@[simp] theorem s_runS_eq_7 : type_of% @PL.runS.eq_7 := @PL.runS.eq_7
@[simp] theorem s_runS_eq_8 : type_of% @PL.runS.eq_8 := @PL.runS.eq_8
@[simp] theorem s_runS_eq_9 : type_of% @PL.runS.eq_9 := @PL.runS.eq_9
@[simp] theorem s_runS_eq_10 : type_of% @PL.runS.eq_10 := @PL.runS.eq_10
@[simp] theorem s_runS_eq_11 : type_of% @PL.runS.eq_11 := @PL.runS.eq_11
@[simp] theorem s_run_eq_1 : type_of% @PL.run.eq_1 := @PL.run.eq_1
@[simp] theorem s_run_eq_2 : type_of% @PL.run.eq_2 := @PL.run.eq_2
@[simp] theorem s_run_eq_3 : type_of% @PL.run.eq_3 := @PL.run.eq_3
@[simp] theorem s_run_eq_4 : type_of% @PL.run.eq_4 := @PL.run.eq_4
@[simp] theorem s_run_eq_5 : type_of% @PL.run.eq_5 := @PL.run.eq_5
@[simp] theorem s_run_eq_6 : type_of% @PL.run.eq_6 := @PL.run.eq_6
@[simp] theorem s_run_eq_7 : type_of% @PL.run.eq_7 := @PL.run.eq_7
@[simp] theorem s_run_eq_8 : type_of% @PL.run.eq_8 := @PL.run.eq_8
@[simp] theorem s_run_eq_9 : type_of% @PL.run.eq_9 := @PL.run.eq_9
@[simp] theorem s_run_eq_10 : type_of% @PL.run.eq_10 := @PL.run.eq_10
@[simp] theorem s_run_eq_11 : type_of% @PL.run.eq_11 := @PL.run.eq_11
@[simp] theorem s_run_eq_12 : type_of% @PL.run.eq_12 := @PL.run.eq_12
@[simp] theorem s_run_eq_13 : type_of% @PL.run.eq_13 := @PL.run.eq_13
@[simp] theorem s_run_eq_14 : type_of% @PL.run.eq_14 := @PL.run.eq_14
@[simp] theorem s_run_eq_15 : type_of% @PL.run.eq_15 := @PL.run.eq_15
@[simp] theorem s_run_eq_16 : type_of% @PL.run.eq_16 := @PL.run.eq_16
@[simp] theorem s_run_eq_17 : type_of% @PL.run.eq_17 := @PL.run.eq_17
@[simp] theorem s_run_eq_18 : type_of% @PL.run.eq_18 := @PL.run.eq_18
@[simp] theorem s_run_eq_19 : type_of% @PL.run.eq_19 := @PL.run.eq_19
@[simp] theorem s_run_eq_20 : type_of% @PL.run.eq_20 := @PL.run.eq_20
@[simp] theorem s_run_eq_21 : type_of% @PL.run.eq_21 := @PL.run.eq_21
@[simp] theorem s_run_eq_22 : type_of% @PL.run.eq_22 := @PL.run.eq_22
@[simp] theorem s_run_eq_23 : type_of% @PL.run.eq_23 := @PL.run.eq_23
@[simp] theorem s_run_eq_24 : type_of% @PL.run.eq_24 := @PL.run.eq_24
@[simp] theorem s_runs_eq_1 : type_of% @PL.runs.eq_1 := @PL.runs.eq_1
@[simp] theorem s_runs_eq_2 : type_of% @PL.runs.eq_2 := @PL.runs.eq_2
@[simp] theorem s_runAnd_eq_1 : type_of% @PL.runAnd.eq_1 := @PL.runAnd.eq_1
@[simp] theorem s_runAnd_eq_2 : type_of% @PL.runAnd.eq_2 := @PL.runAnd.eq_2
@[simp] theorem s_runAnd_eq_3 : type_of% @PL.runAnd.eq_3 := @PL.runAnd.eq_3
@[simp] theorem s_runOr_eq_1 : type_of% @PL.runOr.eq_1 := @PL.runOr.eq_1
@[simp] theorem s_runOr_eq_2 : type_of% @PL.runOr.eq_2 := @PL.runOr.eq_2
@[simp] theorem s_runOr_eq_3 : type_of% @PL.runOr.eq_3 := @PL.runOr.eq_3
@[simp] theorem s_runT_eq_1 : type_of% @PL.runT.eq_1 := @PL.runT.eq_1
@[simp] theorem s_runT_eq_2 : type_of% @PL.runT.eq_2 := @PL.runT.eq_2
@[simp] theorem s_runT_eq_3 : type_of% @PL.runT.eq_3 := @PL.runT.eq_3
@[simp] theorem s_runo_eq_1 : type_of% @PL.runo.eq_1 := @PL.runo.eq_1
@[simp] theorem s_runo_eq_2 : type_of% @PL.runo.eq_2 := @PL.runo.eq_2
@[simp] theorem s_runI_eq_1 : type_of% @PL.runI.eq_1 := @PL.runI.eq_1
@[simp] theorem s_runI_eq_2 : type_of% @PL.runI.eq_2 := @PL.runI.eq_2
@[simp] theorem s_runI_eq_3 : type_of% @PL.runI.eq_3 := @PL.runI.eq_3
@[simp] theorem s_runI_eq_4 : type_of% @PL.runI.eq_4 := @PL.runI.eq_4
@[simp] theorem s_runI_eq_5 : type_of% @PL.runI.eq_5 := @PL.runI.eq_5
@[simp] theorem s_R_bnd_eq_1 : type_of% @PL.R.bnd.eq_1 := @PL.R.bnd.eq_1
@[simp] theorem s_R_bnd_eq_2 : type_of% @PL.R.bnd.eq_2 := @PL.R.bnd.eq_2
@[simp] theorem s_R_bnd_eq_3 : type_of% @PL.R.bnd.eq_3 := @PL.R.bnd.eq_3
@[simp] theorem s_R_bndX_eq_1 : type_of% @PL.R.bndX.eq_1 := @PL.R.bndX.eq_1
@[simp] theorem s_R_bndX_eq_2 : type_of% @PL.R.bndX.eq_2 := @PL.R.bndX.eq_2
@[simp] theorem s_R_thnS_eq_1 : type_of% @PL.R.thnS.eq_1 := @PL.R.thnS.eq_1
@[simp] theorem s_R_thnS_eq_2 : type_of% @PL.R.thnS.eq_2 := @PL.R.thnS.eq_2
@[simp] theorem s_R_thnS_eq_3 : type_of% @PL.R.thnS.eq_3 := @PL.R.thnS.eq_3
@[simp] theorem s_SR_thn_eq_1 : type_of% @PL.SR.thn.eq_1 := @PL.SR.thn.eq_1
@[simp] theorem s_SR_thn_eq_2 : type_of% @PL.SR.thn.eq_2 := @PL.SR.thn.eq_2
@[simp] theorem s_ofO_eq_1 : type_of% @PL.ofO.eq_1 := @PL.ofO.eq_1
@[simp] theorem s_ofO_eq_2 : type_of% @PL.ofO.eq_2 := @PL.ofO.eq_2
@[simp] theorem s_truR_eq_1 : type_of% @PL.truR.eq_1 := @PL.truR.eq_1
@[simp] theorem s_truth_eq_1 : type_of% @PL.truth.eq_1 := @PL.truth.eq_1
@[simp] theorem s_truth_eq_2 : type_of% @PL.truth.eq_2 := @PL.truth.eq_2
@[simp] theorem s_truth_eq_3 : type_of% @PL.truth.eq_3 := @PL.truth.eq_3
@[simp] theorem s_truth_eq_4 : type_of% @PL.truth.eq_4 := @PL.truth.eq_4
@[simp] theorem s_truth_eq_5 : type_of% @PL.truth.eq_5 := @PL.truth.eq_5
@[simp] theorem s_truth_eq_6 : type_of% @PL.truth.eq_6 := @PL.truth.eq_6
@[simp] theorem s_truth_eq_7 : type_of% @PL.truth.eq_7 := @PL.truth.eq_7
@[simp] theorem s_leave_eq_1 : type_of% @PL.leave.eq_1 := @PL.leave.eq_1
@[simp] theorem s_leave_eq_2 : type_of% @PL.leave.eq_2 := @PL.leave.eq_2
@[simp] theorem s_dBin_eq_1 : type_of% @PL.dBin.eq_1 := @PL.dBin.eq_1
@[simp] theorem s_dBin_eq_2 : type_of% @PL.dBin.eq_2 := @PL.dBin.eq_2
@[simp] theorem s_dBin_eq_3 : type_of% @PL.dBin.eq_3 := @PL.dBin.eq_3
@[simp] theorem s_dBin_eq_4 : type_of% @PL.dBin.eq_4 := @PL.dBin.eq_4
@[simp] theorem s_dBin_eq_5 : type_of% @PL.dBin.eq_5 := @PL.dBin.eq_5
@[simp] theorem s_dBin_eq_6 : type_of% @PL.dBin.eq_6 := @PL.dBin.eq_6
@[simp] theorem s_dBin_eq_7 : type_of% @PL.dBin.eq_7 := @PL.dBin.eq_7
@[simp] theorem s_dAdd_eq_1 : type_of% @PL.dAdd.eq_1 := @PL.dAdd.eq_1
@[simp] theorem s_dAdd_eq_2 : type_of% @PL.dAdd.eq_2 := @PL.dAdd.eq_2
@[simp] theorem s_dAdd_eq_3 : type_of% @PL.dAdd.eq_3 := @PL.dAdd.eq_3
@[simp] theorem s_dAdd_eq_4 : type_of% @PL.dAdd.eq_4 := @PL.dAdd.eq_4
@[simp] theorem s_dSub_eq_1 : type_of% @PL.dSub.eq_1 := @PL.dSub.eq_1
@[simp] theorem s_dSub_eq_2 : type_of% @PL.dSub.eq_2 := @PL.dSub.eq_2
@[simp] theorem s_dMul_eq_1 : type_of% @PL.dMul.eq_1 := @PL.dMul.eq_1
@[simp] theorem s_dMul_eq_2 : type_of% @PL.dMul.eq_2 := @PL.dMul.eq_2
@[simp] theorem s_dMul_eq_3 : type_of% @PL.dMul.eq_3 := @PL.dMul.eq_3
@[simp] theorem s_dMul_eq_4 : type_of% @PL.dMul.eq_4 := @PL.dMul.eq_4
@[simp] theorem s_dDiv_eq_1 : type_of% @PL.dDiv.eq_1 := @PL.dDiv.eq_1
@[simp] theorem s_dDiv_eq_2 : type_of% @PL.dDiv.eq_2 := @PL.dDiv.eq_2
@[simp] theorem s_dMod_eq_1 : type_of% @PL.dMod.eq_1 := @PL.dMod.eq_1
@[simp] theorem s_dMod_eq_2 : type_of% @PL.dMod.eq_2 := @PL.dMod.eq_2
@[simp] theorem s_dPow_eq_1 : type_of% @PL.dPow.eq_1 := @PL.dPow.eq_1
@[simp] theorem s_dPow_eq_2 : type_of% @PL.dPow.eq_2 := @PL.dPow.eq_2
@[simp] theorem s_dCmp_eq_1 : type_of% @PL.dCmp.eq_1 := @PL.dCmp.eq_1
@[simp] theorem s_dCmp_eq_2 : type_of% @PL.dCmp.eq_2 := @PL.dCmp.eq_2
@[simp] theorem s_dCmp_eq_3 : type_of% @PL.dCmp.eq_3 := @PL.dCmp.eq_3
@[simp] theorem s_dCmp_eq_4 : type_of% @PL.dCmp.eq_4 := @PL.dCmp.eq_4
@[simp] theorem s_dCmp_eq_5 : type_of% @PL.dCmp.eq_5 := @PL.dCmp.eq_5
@[simp] theorem s_dCmp_eq_6 : type_of% @PL.dCmp.eq_6 := @PL.dCmp.eq_6
@[simp] theorem s_dCmp_eq_7 : type_of% @PL.dCmp.eq_7 := @PL.dCmp.eq_7
@[simp] theorem s_dCmp_eq_8 : type_of% @PL.dCmp.eq_8 := @PL.dCmp.eq_8
@[simp] theorem s_dCmp_eq_9 : type_of% @PL.dCmp.eq_9 := @PL.dCmp.eq_9
@[simp] theorem s_dCmp_eq_10 : type_of% @PL.dCmp.eq_10 := @PL.dCmp.eq_10
@[simp] theorem s_oB_eq_1 : type_of% @PL.oB.eq_1 := @PL.oB.eq_1
@[simp] theorem s_oNB_eq_1 : type_of% @PL.oNB.eq_1 := @PL.oNB.eq_1
@[simp] theorem s_dLt_eq_1 : type_of% @PL.dLt.eq_1 := @PL.dLt.eq_1
@[simp] theorem s_dLt_eq_2 : type_of% @PL.dLt.eq_2 := @PL.dLt.eq_2
@[simp] theorem s_dLt_eq_3 : type_of% @PL.dLt.eq_3 := @PL.dLt.eq_3
@[simp] theorem s_dLe_eq_1 : type_of% @PL.dLe.eq_1 := @PL.dLe.eq_1
@[simp] theorem s_dLe_eq_2 : type_of% @PL.dLe.eq_2 := @PL.dLe.eq_2
@[simp] theorem s_dGt_eq_1 : type_of% @PL.dGt.eq_1 := @PL.dGt.eq_1
@[simp] theorem s_dGt_eq_2 : type_of% @PL.dGt.eq_2 := @PL.dGt.eq_2
@[simp] theorem s_dGe_eq_1 : type_of% @PL.dGe.eq_1 := @PL.dGe.eq_1
@[simp] theorem s_dGe_eq_2 : type_of% @PL.dGe.eq_2 := @PL.dGe.eq_2
@[simp] theorem s_dIs_eq_1 : type_of% @PL.dIs.eq_1 := @PL.dIs.eq_1
@[simp] theorem s_dIs_eq_2 : type_of% @PL.dIs.eq_2 := @PL.dIs.eq_2
@[simp] theorem s_dIs_eq_3 : type_of% @PL.dIs.eq_3 := @PL.dIs.eq_3
@[simp] theorem s_dIs_eq_4 : type_of% @PL.dIs.eq_4 := @PL.dIs.eq_4
@[simp] theorem s_tyName_eq_1 : type_of% @PL.tyName.eq_1 := @PL.tyName.eq_1
@[simp] theorem s_tyName_eq_2 : type_of% @PL.tyName.eq_2 := @PL.tyName.eq_2
@[simp] theorem s_tyName_eq_3 : type_of% @PL.tyName.eq_3 := @PL.tyName.eq_3
@[simp] theorem s_tyName_eq_4 : type_of% @PL.tyName.eq_4 := @PL.tyName.eq_4
@[simp] theorem s_tyName_eq_5 : type_of% @PL.tyName.eq_5 := @PL.tyName.eq_5
@[simp] theorem s_tyName_eq_6 : type_of% @PL.tyName.eq_6 := @PL.tyName.eq_6
@[simp] theorem s_tyName_eq_7 : type_of% @PL.tyName.eq_7 := @PL.tyName.eq_7
@[simp] theorem s_tyName_eq_8 : type_of% @PL.tyName.eq_8 := @PL.tyName.eq_8
@[simp] theorem s_tyName_eq_9 : type_of% @PL.tyName.eq_9 := @PL.tyName.eq_9
@[simp] theorem s_isiB_eq_1 : type_of% @PL.isiB.eq_1 := @PL.isiB.eq_1
@[simp] theorem s_dLen_eq_1 : type_of% @PL.dLen.eq_1 := @PL.dLen.eq_1
@[simp] theorem s_dLen_eq_2 : type_of% @PL.dLen.eq_2 := @PL.dLen.eq_2
@[simp] theorem s_dLen_eq_3 : type_of% @PL.dLen.eq_3 := @PL.dLen.eq_3
@[simp] theorem s_dList_eq_1 : type_of% @PL.dList.eq_1 := @PL.dList.eq_1
@[simp] theorem s_dList_eq_2 : type_of% @PL.dList.eq_2 := @PL.dList.eq_2
@[simp] theorem s_dList_eq_3 : type_of% @PL.dList.eq_3 := @PL.dList.eq_3
@[simp] theorem s_dTuple_eq_1 : type_of% @PL.dTuple.eq_1 := @PL.dTuple.eq_1
@[simp] theorem s_dTuple_eq_2 : type_of% @PL.dTuple.eq_2 := @PL.dTuple.eq_2
@[simp] theorem s_dAbs_eq_1 : type_of% @PL.dAbs.eq_1 := @PL.dAbs.eq_1
@[simp] theorem s_dAbs_eq_2 : type_of% @PL.dAbs.eq_2 := @PL.dAbs.eq_2
@[simp] theorem s_dInt_eq_1 : type_of% @PL.dInt.eq_1 := @PL.dInt.eq_1
@[simp] theorem s_dInt_eq_2 : type_of% @PL.dInt.eq_2 := @PL.dInt.eq_2
@[simp] theorem s_dInt_eq_3 : type_of% @PL.dInt.eq_3 := @PL.dInt.eq_3
@[simp] theorem s_dRepr_eq_1 : type_of% @PL.dRepr.eq_1 := @PL.dRepr.eq_1
@[simp] theorem s_dRepr_eq_2 : type_of% @PL.dRepr.eq_2 := @PL.dRepr.eq_2
@[simp] theorem s_dAll_eq_1 : type_of% @PL.dAll.eq_1 := @PL.dAll.eq_1
@[simp] theorem s_dAll_eq_2 : type_of% @PL.dAll.eq_2 := @PL.dAll.eq_2
@[simp] theorem s_dAny_eq_1 : type_of% @PL.dAny.eq_1 := @PL.dAny.eq_1
@[simp] theorem s_dAny_eq_2 : type_of% @PL.dAny.eq_2 := @PL.dAny.eq_2
@[simp] theorem s_dSum_eq_1 : type_of% @PL.dSum.eq_1 := @PL.dSum.eq_1
@[simp] theorem s_dSum_eq_2 : type_of% @PL.dSum.eq_2 := @PL.dSum.eq_2
@[simp] theorem s_dDict_eq_1 : type_of% @PL.dDict.eq_1 := @PL.dDict.eq_1
@[simp] theorem s_dDict_eq_2 : type_of% @PL.dDict.eq_2 := @PL.dDict.eq_2
@[simp] theorem s_asL_eq_1 : type_of% @PL.asL.eq_1 := @PL.asL.eq_1
@[simp] theorem s_asL_eq_2 : type_of% @PL.asL.eq_2 := @PL.asL.eq_2
@[simp] theorem s_asL_eq_3 : type_of% @PL.asL.eq_3 := @PL.asL.eq_3
@[simp] theorem s_asQ_eq_1 : type_of% @PL.asQ.eq_1 := @PL.asQ.eq_1
@[simp] theorem s_asQ_eq_2 : type_of% @PL.asQ.eq_2 := @PL.asQ.eq_2
@[simp] theorem s_asQ_eq_3 : type_of% @PL.asQ.eq_3 := @PL.asQ.eq_3
@[simp] theorem s_asQ_eq_4 : type_of% @PL.asQ.eq_4 := @PL.asQ.eq_4
@[simp] theorem s_pyW_eq_1 : type_of% @PL.pyW.eq_1 := @PL.pyW.eq_1
@[simp] theorem s_pyW_eq_2 : type_of% @PL.pyW.eq_2 := @PL.pyW.eq_2
@[simp] theorem s_T_put_eq_1 : type_of% @PL.T.put.eq_1 := @PL.T.put.eq_1
@[simp] theorem s_T_put_eq_2 : type_of% @PL.T.put.eq_2 := @PL.T.put.eq_2
@[simp] theorem s_T_put_eq_3 : type_of% @PL.T.put.eq_3 := @PL.T.put.eq_3
@[simp] theorem s_T_puts_eq_1 : type_of% @PL.T.puts.eq_1 := @PL.T.puts.eq_1
@[simp] theorem s_T_puts_eq_2 : type_of% @PL.T.puts.eq_2 := @PL.T.puts.eq_2
@[simp] theorem s_wipeD_eq_1 : type_of% @PL.wipeD.eq_1 := @PL.wipeD.eq_1
@[simp] theorem s_wipeD_eq_2 : type_of% @PL.wipeD.eq_2 := @PL.wipeD.eq_2
@[simp] theorem s_D_low_eq_1 : type_of% @PL.D.low.eq_1 := @PL.D.low.eq_1
@[simp] theorem s_D_low_eq_2 : type_of% @PL.D.low.eq_2 := @PL.D.low.eq_2
@[simp] theorem s_D_low_eq_3 : type_of% @PL.D.low.eq_3 := @PL.D.low.eq_3
@[simp] theorem s_D_low_eq_4 : type_of% @PL.D.low.eq_4 := @PL.D.low.eq_4
@[simp] theorem s_D_low_eq_5 : type_of% @PL.D.low.eq_5 := @PL.D.low.eq_5
@[simp] theorem s_D_lows_eq_1 : type_of% @PL.D.lows.eq_1 := @PL.D.lows.eq_1
@[simp] theorem s_D_lows_eq_2 : type_of% @PL.D.lows.eq_2 := @PL.D.lows.eq_2
@[simp] theorem s_D_py_eq_1 : type_of% @PL.D.py.eq_1 := @PL.D.py.eq_1
@[simp] theorem s_D_py_eq_2 : type_of% @PL.D.py.eq_2 := @PL.D.py.eq_2
@[simp] theorem s_D_py_eq_3 : type_of% @PL.D.py.eq_3 := @PL.D.py.eq_3
@[simp] theorem s_D_py_eq_4 : type_of% @PL.D.py.eq_4 := @PL.D.py.eq_4
@[simp] theorem s_D_py_eq_5 : type_of% @PL.D.py.eq_5 := @PL.D.py.eq_5
@[simp] theorem s_D_py_eq_6 : type_of% @PL.D.py.eq_6 := @PL.D.py.eq_6
@[simp] theorem s_D_py_eq_7 : type_of% @PL.D.py.eq_7 := @PL.D.py.eq_7
@[simp] theorem s_D_pys_eq_1 : type_of% @PL.D.pys.eq_1 := @PL.D.pys.eq_1
@[simp] theorem s_D_pys_eq_2 : type_of% @PL.D.pys.eq_2 := @PL.D.pys.eq_2
@[simp] theorem s_dNeg_eq_1 : type_of% @PL.dNeg.eq_1 := @PL.dNeg.eq_1
@[simp] theorem s_dNeg_eq_2 : type_of% @PL.dNeg.eq_2 := @PL.dNeg.eq_2
@[simp] theorem s_bls_eq_1 : type_of% @PL.bls.eq_1 := @PL.bls.eq_1
@[simp] theorem s_bls_eq_2 : type_of% @PL.bls.eq_2 := @PL.bls.eq_2
@[simp] theorem s_bls_eq_3 : type_of% @PL.bls.eq_3 := @PL.bls.eq_3
@[simp] theorem s_nums_eq_1 : type_of% @PL.nums.eq_1 := @PL.nums.eq_1
@[simp] theorem s_nums_eq_2 : type_of% @PL.nums.eq_2 := @PL.nums.eq_2
@[simp] theorem s_nums_eq_3 : type_of% @PL.nums.eq_3 := @PL.nums.eq_3
@[simp] theorem bi_len : biOf "len" = some dLen := by kernel_rfl
@[simp] theorem bi_all : biOf "all" = some dAll := by kernel_rfl
@[simp] theorem bi_any : biOf "any" = some dAny := by kernel_rfl
@[simp] theorem bi_sum : biOf "sum" = some dSum := by kernel_rfl
@[simp] theorem bi_list : biOf "list" = some dList := by kernel_rfl
@[simp] theorem bi_tuple : biOf "tuple" = some dTuple := by kernel_rfl
@[simp] theorem bi_abs : biOf "abs" = some dAbs := by kernel_rfl
@[simp] theorem bi_int : biOf "int" = some dInt := by kernel_rfl
@[simp] theorem bi_repr : biOf "repr" = some dRepr := by kernel_rfl
@[simp] theorem bi_dict : biOf "dict" = some dDict := by kernel_rfl
@[simp] theorem leave_le {n : Nat} {d : D} {W : Wd} (h : W.length ≤ n) : leave n d W = .ok d W := by unfold leave; rw [if_pos h]
end PL

/-! the codes of nearlysure_k48_whole_guarded_tables_fill, printed by comp.py -/
namespace LW
open PySem PL
def top (i : Nat) : Stmt := PySem.Challenge.pw_nearlysure_k48_whole_guarded_tables_fill.main.body.getD i (.Pass ⟨0, 0, 0, 0⟩)
def b__law_right_1 : Ss := .cons (.asg (.nm 5) (.call ("_law_spoilt" : Str) (.cons (.var 0) (.cons (.var 2) .nil)))) (.cons (.ife (.cmp .NotEq (.bi ("repr" : Str) (.cons (.call ("is_guarded" : Str) (.cons (.var 1) (.cons (.var 5) .nil))) .nil)) (.bi ("repr" : Str) (.cons (.call ("_law_fits" : Str) (.cons (.var 1) (.cons (.var 5) .nil))) .nil))) (.cons (.ret (.cst (.bl false))) .nil) (.nil)) .nil)
def l__law_right_2 : S := .for_ (.nm 4) (.rng1 (.cst (.int (3)))) (b__law_right_1)
def x__law_right_3 : C := .lc [(("unknown" : Str), 6)] (.nm 6) (.seq (.var 1)) (.nil) (.call ("_law_some" : Str) (.cons (.var 0) (.cons (.lst (.cons (.cst (.int (1))) (.cons (.cst (.int (2))) (.cons (.cst (.int (3))) (.cons (.cst (.int (5))) .nil))))) .nil)))
def x__law_fits_1 : C := .lc [(("cell" : Str), 3)] (.nm 3) (.seq (.ix (.var 2) (.cst (.int (0))))) (.cons (.not (.call ("_law_is_cell" : Str) (.cons (.var 0) (.cons (.var 3) .nil)))) .nil) (.var 3)
def b__law_fits_2 : Ss := .cons (.ife (.or (.cons (.not (.isi (.var 2) "tuple")) (.cons (.cmp .NotEq (.bi ("len" : Str) (.cons (.var 2) .nil)) (.cst (.int (2)))) (.cons (.not (.isi (.ix (.var 2) (.cst (.int (0)))) "tuple")) (.cons (.cmp .NotEq (.bi ("len" : Str) (.cons (.ix (.var 2) (.cst (.int (0)))) .nil)) (.ix (.var 1) (.cst (.int (0))))) .nil))))) (.cons (.ret (.cst (.bl false))) .nil) (.nil)) (.cons (.ife (.or (.cons (.cmp .NotEq (x__law_fits_1) (.lst (.nil))) (.cons (.cmp .Gt (.call ("_law_weight" : Str) (.cons (.var 0) (.cons (.ix (.var 2) (.cst (.int (1)))) (.cons (.cst (.int (12))) .nil)))) (.cst (.int (1000)))) .nil))) (.cons (.ret (.cst (.bl false))) .nil) (.nil)) .nil)
def l__law_fits_3 : S := .for_ (.nm 2) (.seq (.ix (.var 1) (.cst (.int (1))))) (b__law_fits_2)
def x__law_full_1 : C := .lc [(("row" : Str), 2), (("condition" : Str), 3)] (.tp [.nm 2, .nm 3]) (.seq (.ix (.var 0) (.cst (.int (1))))) (.cons (.call ("_law_true" : Str) (.cons (.var 3) (.cons (.var 1) .nil))) .nil) (.call ("_law_put" : Str) (.cons (.var 2) (.cons (.var 1) .nil)))
def x__law_guarded_1 : C := .lc [(("column" : Str), 8)] (.nm 8) (.rng1 (.var 2)) (.nil) (.call ("_law_any_cell" : Str) (.cons (.var 0) (.cons (.var 1) .nil)))
def b__law_guarded_2 : Ss := .cons (.asg (.nm 6) (.bi ("tuple" : Str) (.cons (x__law_guarded_1) .nil))) (.cons (.asg (.nm 7) (.ite (.cmp .Eq (.call ("_law_roll" : Str) (.cons (.var 0) (.cons (.cst (.int (3))) .nil))) (.cst (.int (0)))) (.tup (.cons (.cst (.str ("all" : Str))) (.cons (.tup (.nil)) .nil))) (.call ("_law_condition" : Str) (.cons (.var 0) (.cons (.var 1) (.cons (.cst (.int (2))) .nil)))))) (.cons (.asg (.nm 4) (.bin .Add (.var 4) (.tup (.cons (.tup (.cons (.var 6) (.cons (.var 7) .nil))) .nil)))) .nil))
def l__law_guarded_3 : S := .for_ (.nm 5) (.rng1 (.call ("_law_roll" : Str) (.cons (.var 0) (.cons (.bin .Add (.var 3) (.cst (.int (1)))) .nil)))) (b__law_guarded_2)
def x_filled_guarded_1 : C := .lc [(("row" : Str), 2), (("condition" : Str), 3)] (.tp [.nm 2, .nm 3]) (.seq (.ix (.var 0) (.cst (.int (1))))) (.cons (.call ("holds_by" : Str) (.cons (.var 3) (.cons (.var 1) .nil))) .nil) (.var 2)
def x_fits_guarded_1 : C := .lc [(("entry" : Str), 2)] (.nm 2) (.seq (.ix (.var 1) (.cst (.int (1))))) (.nil) (.call ("fits_entry" : Str) (.cons (.var 0) (.cons (.ix (.var 1) (.cst (.int (0)))) (.cons (.var 2) .nil))))
def x__law_put_1 : C := .lc [(("cell" : Str), 2)] (.nm 2) (.seq (.var 0)) (.nil) (.get (.var 1) (.var 2) (.var 2))
def x_rows_filled_1 : C := .lc [(("row" : Str), 2)] (.nm 2) (.seq (.var 0)) (.nil) (.call ("row_by" : Str) (.cons (.var 2) (.cons (.var 1) .nil)))
def x_fits_entry_1 : C := .lc [(("cell" : Str), 3)] (.nm 3) (.seq (.ix (.var 2) (.cst (.int (0))))) (.nil) (.call ("fits_cell" : Str) (.cons (.var 0) (.cons (.var 3) .nil)))
def x_row_by_1 : C := .lc [(("cell" : Str), 2)] (.nm 2) (.seq (.var 0)) (.nil) (.get (.var 1) (.var 2) (.var 2))
def f_is_whole : Fn := ⟨3, 3, false, .cons (.ret (.and (.cons (.isi (.var 0) "int") (.cons (.not (.isi (.var 0) "bool")) (.cons (.cmp2 .LtE .LtE (.var 1) (.var 0) (.var 2)) .nil))))) .nil⟩
def t_is_whole : Txt := ⟨"is_whole", top 9, ["value", "low", "high"], ["value", "low", "high"], f_is_whole⟩
def f_is_tuple_of : Fn := ⟨3, 3, false, .cons (.ret (.and (.cons (.isi (.var 0) "tuple") (.cons (.cmp2 .LtE .LtE (.var 1) (.bi ("len" : Str) (.cons (.var 0) .nil)) (.var 2)) .nil)))) .nil⟩
def t_is_tuple_of : Txt := ⟨"is_tuple_of", top 10, ["value", "low", "high"], ["value", "low", "high"], f_is_tuple_of⟩
def f_fits_value : Fn := ⟨1, 1, false, .cons (.ret (.call ("is_whole" : Str) (.cons (.var 0) (.cons (.cst (.int (0))) (.cons (.glo ("GREATEST" : Str) (.int (1000000))) .nil))))) .nil⟩
def t_fits_value : Txt := ⟨"fits_value", top 11, ["value"], ["value"], f_fits_value⟩
def f_does_ascend : Fn := ⟨1, 3, false, .cons (.ret (.bi ("all" : Str) (.cons (.lc [(("one" : Str), 1), (("other" : Str), 2)] (.tp [.nm 1, .nm 2]) (.zip (.var 0) (.sl (.var 0) (.yes (.cst (.int (1)))) (.no))) (.nil) (.cmp .Lt (.var 1) (.var 2))) .nil))) .nil⟩
def t_does_ascend : Txt := ⟨"does_ascend", top 12, ["items", "one", "other"], ["items"], f_does_ascend⟩
def f_row_by : Fn := ⟨2, 3, false, .cons (.ret (.bi ("tuple" : Str) (.cons (x_row_by_1) .nil))) .nil⟩
def t_row_by : Txt := ⟨"row_by", top 13, ["row", "worths", "cell"], ["row", "worths"], f_row_by⟩
def f_fits_unknowns : Fn := ⟨1, 2, false, .cons (.ret (.and (.cons (.call ("is_tuple_of" : Str) (.cons (.var 0) (.cons (.cst (.int (0))) (.cons (.glo ("UNKNOWNS" : Str) (.int (6))) .nil)))) (.cons (.bi ("all" : Str) (.cons (.lc [(("cell" : Str), 1)] (.nm 1) (.seq (.var 0)) (.nil) (.call ("is_whole" : Str) (.cons (.var 1) (.cons (.glo ("LEAST" : Str) (.int (-6))) (.cons (.neg (.cst (.int (1)))) .nil))))) .nil)) (.cons (.call ("does_ascend" : Str) (.cons (.var 0) .nil)) .nil))))) .nil⟩
def t_fits_unknowns : Txt := ⟨"fits_unknowns", top 18, ["value", "cell"], ["value"], f_fits_unknowns⟩
def f_fits_cell : Fn := ⟨2, 2, false, .cons (.ret (.or (.cons (.call ("fits_value" : Str) (.cons (.var 1) .nil)) (.cons (.and (.cons (.call ("is_whole" : Str) (.cons (.var 1) (.cons (.glo ("LEAST" : Str) (.int (-6))) (.cons (.neg (.cst (.int (1)))) .nil)))) (.cons (.cmp .In (.var 1) (.var 0)) .nil))) .nil)))) .nil⟩
def t_fits_cell : Txt := ⟨"fits_cell", top 19, ["unknowns", "value"], ["unknowns", "value"], f_fits_cell⟩
def f_parts_within : Fn := ⟨2, 5, false, .cons (.ife (.or (.cons (.not (.call ("is_tuple_of" : Str) (.cons (.var 1) (.cons (.cst (.int (2))) (.cons (.cst (.int (3))) .nil))))) (.cons (.not (.isi (.ix (.var 1) (.cst (.int (0)))) "str")) .nil))) (.cons (.ret (.cst .non)) .nil) (.nil)) (.cons (.asg (.tp [.nm 2, .nm 3]) (.tup (.cons (.ix (.var 1) (.cst (.int (0)))) (.cons (.sl (.var 1) (.yes (.cst (.int (1)))) (.no)) .nil)))) (.cons (.ife (.cmp .Eq (.var 2) (.cst (.str ("same" : Str)))) (.cons (.ret (.ite (.and (.cons (.cmp .Eq (.bi ("len" : Str) (.cons (.var 3) .nil)) (.cst (.int (2)))) (.cons (.bi ("all" : Str) (.cons (.lc [(("cell" : Str), 4)] (.nm 4) (.seq (.var 3)) (.nil) (.call ("fits_cell" : Str) (.cons (.var 0) (.cons (.var 4) .nil)))) .nil)) .nil))) (.lst (.nil)) (.cst .non))) .nil) (.nil)) (.cons (.ife (.cmp .NotEq (.bi ("len" : Str) (.cons (.var 3) .nil)) (.cst (.int (1)))) (.cons (.ret (.cst .non)) .nil) (.nil)) (.cons (.ife (.cmp .Eq (.var 2) (.cst (.str ("not" : Str)))) (.cons (.ret (.lst (.cons (.ix (.var 3) (.cst (.int (0)))) .nil))) .nil) (.nil)) (.cons (.ret (.ite (.and (.cons (.cmp .In (.var 2) (.tup (.cons (.cst (.str ("all" : Str))) (.cons (.cst (.str ("some" : Str))) .nil)))) (.cons (.call ("is_tuple_of" : Str) (.cons (.ix (.var 3) (.cst (.int (0)))) (.cons (.cst (.int (0))) (.cons (.glo ("PARTS" : Str) (.int (1000))) .nil)))) .nil))) (.bi ("list" : Str) (.cons (.ix (.var 3) (.cst (.int (0)))) .nil)) (.cst .non))) .nil)))))⟩
def t_parts_within : Txt := ⟨"parts_within", top 20, ["unknowns", "value", "word", "rest", "cell"], ["unknowns", "value"], f_parts_within⟩
def f_fits_condition : Fn := ⟨2, 8, false, .cons (.asg (.tp [.nm 2, .nm 3]) (.tup (.cons (.lst (.cons (.tup (.cons (.var 1) (.cons (.cst (.int (0))) .nil))) .nil)) (.cons (.cst (.int (0))) .nil)))) (.cons (.whl (.cmp .NotEq (.var 2) (.lst (.nil))) (.cons (.asg (.tp [.tp [.nm 5, .nm 6], .nm 2, .nm 3]) (.tup (.cons (.ix (.var 2) (.cst (.int (0)))) (.cons (.sl (.var 2) (.yes (.cst (.int (1)))) (.no)) (.cons (.bin .Add (.var 3) (.cst (.int (1)))) .nil))))) (.cons (.asg (.nm 4) (.call ("parts_within" : Str) (.cons (.var 0) (.cons (.var 5) .nil)))) (.cons (.ife (.or (.cons (.cmp .Is (.var 4) (.cst .non)) (.cons (.cmp .Gt (.var 6) (.glo ("DEEPEST" : Str) (.int (12)))) (.cons (.cmp .Gt (.var 3) (.glo ("PARTS" : Str) (.int (1000)))) .nil)))) (.cons (.ret (.cst (.bl false))) .nil) (.nil)) (.cons (.asg (.nm 2) (.bin .Add (.lc [(("one" : Str), 7)] (.nm 7) (.seq (.var 4)) (.nil) (.tup (.cons (.var 7) (.cons (.bin .Add (.var 6) (.cst (.int (1)))) .nil)))) (.var 2))) .nil))))) (.cons (.ret (.cst (.bl true))) .nil))⟩
def t_fits_condition : Txt := ⟨"fits_condition", top 21, ["unknowns", "value", "line", "many", "within", "part", "depth", "one"], ["unknowns", "value"], f_fits_condition⟩
def f_holds_by : Fn := ⟨2, 3, false, .cons (.ife (.cmp .Eq (.ix (.var 0) (.cst (.int (0)))) (.cst (.str ("same" : Str)))) (.cons (.ret (.cmp .Eq (.get (.var 1) (.ix (.var 0) (.cst (.int (1)))) (.ix (.var 0) (.cst (.int (1))))) (.get (.var 1) (.ix (.var 0) (.cst (.int (2)))) (.ix (.var 0) (.cst (.int (2))))))) .nil) (.nil)) (.cons (.ife (.cmp .Eq (.ix (.var 0) (.cst (.int (0)))) (.cst (.str ("not" : Str)))) (.cons (.ret (.not (.call ("holds_by" : Str) (.cons (.ix (.var 0) (.cst (.int (1)))) (.cons (.var 1) .nil))))) .nil) (.nil)) (.cons (.ife (.cmp .Eq (.ix (.var 0) (.cst (.int (0)))) (.cst (.str ("all" : Str)))) (.cons (.ret (.bi ("all" : Str) (.cons (.lc [(("one" : Str), 2)] (.nm 2) (.seq (.ix (.var 0) (.cst (.int (1))))) (.nil) (.call ("holds_by" : Str) (.cons (.var 2) (.cons (.var 1) .nil)))) .nil))) .nil) (.nil)) (.cons (.ret (.bi ("any" : Str) (.cons (.lc [(("one" : Str), 2)] (.nm 2) (.seq (.ix (.var 0) (.cst (.int (1))))) (.nil) (.call ("holds_by" : Str) (.cons (.var 2) (.cons (.var 1) .nil)))) .nil))) .nil)))⟩
def t_holds_by : Txt := ⟨"holds_by", top 22, ["condition", "worths", "one"], ["condition", "worths"], f_holds_by⟩
def f_worths_by : Fn := ⟨2, 2, false, .cons (.ret (.bi ("dict" : Str) (.cons (.lzip (.var 0) (.var 1)) .nil))) .nil⟩
def t_worths_by : Txt := ⟨"worths_by", top 23, ["unknowns", "filling"], ["unknowns", "filling"], f_worths_by⟩
def f_need_unknowns : Fn := ⟨1, 1, false, .cons (.ife (.not (.call ("fits_unknowns" : Str) (.cons (.var 0) .nil))) (.cons (.no) .nil) (.nil)) .nil⟩
def t_need_unknowns : Txt := ⟨"need_unknowns", top 24, ["value"], ["value"], f_need_unknowns⟩
def f_need_filling_of : Fn := ⟨2, 3, false, .cons (.ife (.or (.cons (.not (.call ("is_tuple_of" : Str) (.cons (.var 1) (.cons (.bi ("len" : Str) (.cons (.var 0) .nil)) (.cons (.bi ("len" : Str) (.cons (.var 0) .nil)) .nil))))) (.cons (.not (.bi ("all" : Str) (.cons (.lc [(("one" : Str), 2)] (.nm 2) (.seq (.var 1)) (.nil) (.call ("fits_value" : Str) (.cons (.var 2) .nil))) .nil))) .nil))) (.cons (.no) .nil) (.nil)) .nil⟩
def t_need_filling_of : Txt := ⟨"need_filling_of", top 25, ["unknowns", "value", "one"], ["unknowns", "value"], f_need_filling_of⟩
def f_fits_entry : Fn := ⟨3, 4, false, .cons (.ife (.or (.cons (.not (.call ("is_tuple_of" : Str) (.cons (.var 2) (.cons (.cst (.int (2))) (.cons (.cst (.int (2))) .nil))))) (.cons (.not (.call ("is_tuple_of" : Str) (.cons (.ix (.var 2) (.cst (.int (0)))) (.cons (.var 1) (.cons (.var 1) .nil))))) .nil))) (.cons (.ret (.cst (.bl false))) .nil) (.nil)) (.cons (.ret (.and (.cons (.bi ("all" : Str) (.cons (x_fits_entry_1) .nil)) (.cons (.call ("fits_condition" : Str) (.cons (.var 0) (.cons (.ix (.var 2) (.cst (.int (1)))) .nil))) .nil)))) .nil)⟩
def t_fits_entry : Txt := ⟨"fits_entry", top 28, ["unknowns", "columns", "value", "cell"], ["unknowns", "columns", "value"], f_fits_entry⟩
def f_fits_guarded : Fn := ⟨2, 3, false, .cons (.ife (.or (.cons (.not (.call ("is_tuple_of" : Str) (.cons (.var 1) (.cons (.cst (.int (2))) (.cons (.cst (.int (2))) .nil))))) (.cons (.not (.call ("is_whole" : Str) (.cons (.ix (.var 1) (.cst (.int (0)))) (.cons (.cst (.int (0))) (.cons (.glo ("COLUMNS" : Str) (.int (6))) .nil))))) (.cons (.not (.call ("is_tuple_of" : Str) (.cons (.ix (.var 1) (.cst (.int (1)))) (.cons (.cst (.int (0))) (.cons (.glo ("ENTRIES" : Str) (.int (200))) .nil))))) .nil)))) (.cons (.ret (.cst (.bl false))) .nil) (.nil)) (.cons (.ret (.bi ("all" : Str) (.cons (x_fits_guarded_1) .nil))) .nil)⟩
def t_fits_guarded : Txt := ⟨"fits_guarded", top 29, ["unknowns", "value", "entry"], ["unknowns", "value"], f_fits_guarded⟩
def f_rows_filled : Fn := ⟨2, 3, false, .cons (.ret (.bi ("tuple" : Str) (.cons (.sset (x_rows_filled_1)) .nil))) .nil⟩
def t_rows_filled : Txt := ⟨"rows_filled", top 30, ["rows", "worths", "row"], ["rows", "worths"], f_rows_filled⟩
def f_filled_guarded : Fn := ⟨2, 4, false, .cons (.ret (.call ("rows_filled" : Str) (.cons (x_filled_guarded_1) (.cons (.var 1) .nil)))) .nil⟩
def t_filled_guarded : Txt := ⟨"filled_guarded", top 31, ["guarded", "worths", "row", "condition"], ["guarded", "worths"], f_filled_guarded⟩
def f_need_guarded : Fn := ⟨2, 2, false, .cons (.ife (.not (.call ("fits_guarded" : Str) (.cons (.var 0) (.cons (.var 1) .nil)))) (.cons (.no) .nil) (.nil)) .nil⟩
def t_need_guarded : Txt := ⟨"need_guarded", top 32, ["unknowns", "value"], ["unknowns", "value"], f_need_guarded⟩
def f_is_guarded : Fn := ⟨2, 2, false, .cons (.ex (.call ("need_unknowns" : Str) (.cons (.var 0) .nil))) (.cons (.ret (.call ("fits_guarded" : Str) (.cons (.var 0) (.cons (.var 1) .nil)))) .nil)⟩
def t_is_guarded : Txt := ⟨"is_guarded", top 33, ["unknowns", "value"], ["unknowns", "value"], f_is_guarded⟩
def f_guarded_filled : Fn := ⟨3, 3, false, .cons (.ex (.call ("need_unknowns" : Str) (.cons (.var 0) .nil))) (.cons (.ex (.call ("need_guarded" : Str) (.cons (.var 0) (.cons (.var 1) .nil)))) (.cons (.ex (.call ("need_filling_of" : Str) (.cons (.var 0) (.cons (.var 2) .nil)))) (.cons (.ret (.call ("filled_guarded" : Str) (.cons (.var 1) (.cons (.call ("worths_by" : Str) (.cons (.var 0) (.cons (.var 2) .nil))) .nil)))) .nil)))⟩
def t_guarded_filled : Txt := ⟨"guarded_filled", top 34, ["unknowns", "guarded", "filling"], ["unknowns", "guarded", "filling"], f_guarded_filled⟩
def f__law_cup : Fn := ⟨1, 2, true, .cons (.asg (.nm 1) (.bi ("abs" : Str) (.cons (.ix (.bin .Add (.bi ("list" : Str) (.cons (.var 0) .nil)) (.lst (.cons (.cst (.int (0))) .nil))) (.cst (.int (0)))) .nil))) (.cons (.ret (.new (.cons (.ite (.cmp .GtE (.var 1) (.bin .Pow (.cst (.int (10))) (.cst (.int (18))))) (.bin .FloorDiv (.var 1) (.cst (.int (43)))) (.cst (.int (0)))) (.cons (.bin .Add (.bin .Mod (.bi ("int" : Str) (.cons (.bin .Add (.bin .Mult (.var 1) (.cst (.int (251)))) (.cst (.int (2111)))) .nil)) (.cst (.int (2077503307)))) (.cst (.int (137)))) .nil)))) .nil)⟩
def t__law_cup : Txt := ⟨"_law_cup", top 36, ["script", "cell"], ["script"], f__law_cup⟩
def f__law_roll : Fn := ⟨2, 4, false, .cons (.ife (.cmp .Gt (.ix (.var 0) (.cst (.int (0)))) (.cst (.int (0)))) (.cons (.asg (.nm 3) (.bin .Mod (.bi ("int" : Str) (.cons (.ix (.var 0) (.cst (.int (0)))) .nil)) (.var 1))) (.cons (.put (.var 0) (.cst (.int (0))) (.bin .FloorDiv (.ix (.var 0) (.cst (.int (0)))) (.var 1))) (.cons (.ret (.var 3)) .nil))) (.nil)) (.cons (.put (.var 0) (.cst (.int (1))) (.bin .Mod (.bi ("int" : Str) (.cons (.bin .Add (.bin .Mult (.ix (.var 0) (.cst (.int (1)))) (.cst (.int (30983)))) (.cst (.int (7933)))) .nil)) (.cst (.int (2147483563))))) (.cons (.asg (.nm 2) (.bin .Mod (.bi ("int" : Str) (.cons (.bin .Mult (.ix (.var 0) (.cst (.int (1)))) (.bin .Add (.ix (.var 0) (.cst (.int (1)))) (.cst (.int (197))))) .nil)) (.cst (.int (2147483587))))) (.cons (.ret (.bin .Mod (.bi ("int" : Str) (.cons (.bin .FloorDiv (.var 2) (.cst (.int (773)))) .nil)) (.var 1))) .nil)))⟩
def t__law_roll : Txt := ⟨"_law_roll", top 37, ["cup", "many", "deep", "found"], ["cup", "many"], f__law_roll⟩
def f__law_some : Fn := ⟨2, 2, false, .cons (.ret (.ix (.var 1) (.call ("_law_roll" : Str) (.cons (.var 0) (.cons (.bi ("len" : Str) (.cons (.var 1) .nil)) .nil))))) .nil⟩
def t__law_some : Txt := ⟨"_law_some", top 38, ["cup", "things"], ["cup", "things"], f__law_some⟩
def f__law_put : Fn := ⟨2, 3, false, .cons (.ret (.bi ("tuple" : Str) (.cons (x__law_put_1) .nil))) .nil⟩
def t__law_put : Txt := ⟨"_law_put", top 39, ["row", "worths", "cell"], ["row", "worths"], f__law_put⟩
def f__law_some_unknowns : Fn := ⟨1, 1, false, .cons (.ret (.call ("_law_some" : Str) (.cons (.var 0) (.cons (.lst (.cons (.tup (.nil)) (.cons (.tup (.cons (.neg (.cst (.int (1)))) .nil)) (.cons (.tup (.cons (.neg (.cst (.int (1)))) .nil)) (.cons (.tup (.cons (.neg (.cst (.int (2)))) (.cons (.neg (.cst (.int (1)))) .nil))) (.cons (.tup (.cons (.neg (.cst (.int (2)))) (.cons (.neg (.cst (.int (1)))) .nil))) (.cons (.tup (.cons (.neg (.cst (.int (5)))) (.cons (.neg (.cst (.int (1)))) .nil))) (.cons (.tup (.cons (.neg (.cst (.int (6)))) (.cons (.neg (.cst (.int (3)))) .nil))) (.cons (.tup (.cons (.neg (.cst (.int (3)))) (.cons (.neg (.cst (.int (2)))) (.cons (.neg (.cst (.int (1)))) .nil)))) .nil))))))))) .nil)))) .nil⟩
def t__law_some_unknowns : Txt := ⟨"_law_some_unknowns", top 40, ["cup"], ["cup"], f__law_some_unknowns⟩
def f__law_any_cell : Fn := ⟨2, 2, false, .cons (.ret (.call ("_law_some" : Str) (.cons (.var 0) (.cons (.bin .Add (.lst (.cons (.cst (.int (1))) (.cons (.cst (.int (2))) (.cons (.cst (.int (3))) .nil)))) (.bin .Mult (.bi ("list" : Str) (.cons (.var 1) .nil)) (.cst (.int (2))))) .nil)))) .nil⟩
def t__law_any_cell : Txt := ⟨"_law_any_cell", top 41, ["cup", "unknowns"], ["cup", "unknowns"], f__law_any_cell⟩
def f__law_condition : Fn := ⟨3, 5, false, .cons (.asg (.nm 3) (.call ("_law_roll" : Str) (.cons (.var 0) (.cons (.cst (.int (6))) .nil)))) (.cons (.ife (.or (.cons (.cmp .Eq (.var 2) (.cst (.int (0)))) (.cons (.cmp .Lt (.var 3) (.cst (.int (2)))) .nil))) (.cons (.ret (.tup (.cons (.cst (.str ("same" : Str))) (.cons (.call ("_law_any_cell" : Str) (.cons (.var 0) (.cons (.var 1) .nil))) (.cons (.call ("_law_any_cell" : Str) (.cons (.var 0) (.cons (.var 1) .nil))) .nil))))) .nil) (.nil)) (.cons (.ife (.cmp .Eq (.var 3) (.cst (.int (2)))) (.cons (.ret (.tup (.cons (.cst (.str ("not" : Str))) (.cons (.call ("_law_condition" : Str) (.cons (.var 0) (.cons (.var 1) (.cons (.bin .Sub (.var 2) (.cst (.int (1)))) .nil)))) .nil)))) .nil) (.nil)) (.cons (.ret (.tup (.cons (.call ("_law_some" : Str) (.cons (.var 0) (.cons (.lst (.cons (.cst (.str ("all" : Str))) (.cons (.cst (.str ("some" : Str))) .nil))) .nil))) (.cons (.bi ("tuple" : Str) (.cons (.lc [(("part" : Str), 4)] (.nm 4) (.rng1 (.call ("_law_roll" : Str) (.cons (.var 0) (.cons (.cst (.int (4))) .nil)))) (.nil) (.call ("_law_condition" : Str) (.cons (.var 0) (.cons (.var 1) (.cons (.bin .Sub (.var 2) (.cst (.int (1)))) .nil))))) .nil)) .nil)))) .nil)))⟩
def t__law_condition : Txt := ⟨"_law_condition", top 42, ["cup", "unknowns", "deep", "way", "part"], ["cup", "unknowns", "deep"], f__law_condition⟩
def f__law_true : Fn := ⟨2, 7, false, .cons (.asg (.nm 2) (.ix (.var 0) (.cst (.int (0))))) (.cons (.ife (.cmp .Eq (.var 2) (.cst (.str ("same" : Str)))) (.cons (.asg (.tp [.nm 4, .nm 5]) (.sl (.var 0) (.yes (.cst (.int (1)))) (.no))) (.cons (.ret (.cmp .Eq (.get (.var 1) (.var 4) (.var 4)) (.get (.var 1) (.var 5) (.var 5)))) .nil)) (.nil)) (.cons (.ife (.cmp .Eq (.var 2) (.cst (.str ("not" : Str)))) (.cons (.ret (.not (.call ("_law_true" : Str) (.cons (.ix (.var 0) (.cst (.int (1)))) (.cons (.var 1) .nil))))) .nil) (.nil)) (.cons (.asg (.nm 3) (.lc [(("part" : Str), 6)] (.nm 6) (.seq (.ix (.var 0) (.cst (.int (1))))) (.nil) (.call ("_law_true" : Str) (.cons (.var 6) (.cons (.var 1) .nil))))) (.cons (.ret (.ite (.cmp .Eq (.var 2) (.cst (.str ("all" : Str)))) (.cmp .NotIn (.cst (.bl false)) (.var 3)) (.cmp .In (.cst (.bl true)) (.var 3)))) .nil))))⟩
def t__law_true : Txt := ⟨"_law_true", top 43, ["condition", "worths", "word", "sides", "one", "two", "part"], ["condition", "worths"], f__law_true⟩
def f__law_by : Fn := ⟨2, 2, false, .cons (.ret (.bi ("dict" : Str) (.cons (.lzip (.var 0) (.var 1)) .nil))) .nil⟩
def t__law_by : Txt := ⟨"_law_by", top 44, ["unknowns", "filling"], ["unknowns", "filling"], f__law_by⟩
def f__law_number : Fn := ⟨3, 3, false, .cons (.ret (.and (.cons (.isi (.var 0) "int") (.cons (.not (.isi (.var 0) "bool")) (.cons (.cmp2 .LtE .LtE (.var 1) (.var 0) (.var 2)) .nil))))) .nil⟩
def t__law_number : Txt := ⟨"_law_number", top 47, ["here", "low", "high"], ["here", "low", "high"], f__law_number⟩
def f__law_is_cell : Fn := ⟨2, 2, false, .cons (.ret (.or (.cons (.call ("_law_number" : Str) (.cons (.var 1) (.cons (.cst (.int (0))) (.cons (.bin .Pow (.cst (.int (10))) (.cst (.int (6)))) .nil)))) (.cons (.and (.cons (.call ("_law_number" : Str) (.cons (.var 1) (.cons (.neg (.cst (.int (6)))) (.cons (.neg (.cst (.int (1)))) .nil)))) (.cons (.cmp .In (.var 1) (.var 0)) .nil))) .nil)))) .nil⟩
def t__law_is_cell : Txt := ⟨"_law_is_cell", top 48, ["unknowns", "here"], ["unknowns", "here"], f__law_is_cell⟩
def f__law_weight : Fn := ⟨3, 4, false, .cons (.ife (.or (.cons (.not (.isi (.var 1) "tuple")) (.cons (.cmp .Eq (.var 1) (.tup (.nil))) (.cons (.not (.isi (.ix (.var 1) (.cst (.int (0)))) "str")) (.cons (.cmp .Lt (.var 2) (.cst (.int (0)))) .nil))))) (.cons (.ret (.cst (.int (5000)))) .nil) (.nil)) (.cons (.ife (.cmp .Eq (.ix (.var 1) (.cst (.int (0)))) (.cst (.str ("same" : Str)))) (.cons (.ret (.ite (.and (.cons (.cmp .Eq (.bi ("len" : Str) (.cons (.var 1) .nil)) (.cst (.int (3)))) (.cons (.call ("_law_is_cell" : Str) (.cons (.var 0) (.cons (.ix (.var 1) (.cst (.int (1)))) .nil))) (.cons (.call ("_law_is_cell" : Str) (.cons (.var 0) (.cons (.ix (.var 1) (.cst (.int (2)))) .nil))) .nil)))) (.cst (.int (1))) (.cst (.int (5000))))) .nil) (.nil)) (.cons (.ife (.or (.cons (.cmp .NotEq (.bi ("len" : Str) (.cons (.var 1) .nil)) (.cst (.int (2)))) (.cons (.cmp .NotIn (.ix (.var 1) (.cst (.int (0)))) (.tup (.cons (.cst (.str ("not" : Str))) (.cons (.cst (.str ("all" : Str))) (.cons (.cst (.str ("some" : Str))) .nil))))) .nil))) (.cons (.ret (.cst (.int (5000)))) .nil) (.nil)) (.cons (.ife (.cmp .Eq (.ix (.var 1) (.cst (.int (0)))) (.cst (.str ("not" : Str)))) (.cons (.ret (.bin .Add (.cst (.int (1))) (.call ("_law_weight" : Str) (.cons (.var 0) (.cons (.ix (.var 1) (.cst (.int (1)))) (.cons (.bin .Sub (.var 2) (.cst (.int (1)))) .nil)))))) .nil) (.nil)) (.cons (.ife (.not (.isi (.ix (.var 1) (.cst (.int (1)))) "tuple")) (.cons (.ret (.cst (.int (5000)))) .nil) (.nil)) (.cons (.ret (.bin .Add (.cst (.int (1))) (.bi ("sum" : Str) (.cons (.lc [(("part" : Str), 3)] (.nm 3) (.seq (.ix (.var 1) (.cst (.int (1))))) (.nil) (.call ("_law_weight" : Str) (.cons (.var 0) (.cons (.var 3) (.cons (.bin .Sub (.var 2) (.cst (.int (1)))) .nil))))) .nil)))) .nil)))))⟩
def t__law_weight : Txt := ⟨"_law_weight", top 49, ["unknowns", "here", "deep", "part"], ["unknowns", "here", "deep"], f__law_weight⟩
def f__law_guarded : Fn := ⟨4, 9, false, .cons (.asg (.nm 4) (.tup (.nil))) (.cons (l__law_guarded_3) (.cons (.ret (.tup (.cons (.var 2) (.cons (.var 4) .nil)))) .nil))⟩
def t__law_guarded : Txt := ⟨"_law_guarded", top 50, ["cup", "unknowns", "columns", "most", "found", "entry", "row", "condition", "column"], ["cup", "unknowns", "columns", "most"], f__law_guarded⟩
def f__law_full : Fn := ⟨2, 4, false, .cons (.ret (.bi ("tuple" : Str) (.cons (.sset (x__law_full_1)) .nil))) .nil⟩
def t__law_full : Txt := ⟨"_law_full", top 51, ["guarded", "worths", "row", "condition"], ["guarded", "worths"], f__law_full⟩
def f__law_spoilt : Fn := ⟨2, 4, false, .cons (.ife (.or (.cons (.not (.isi (.var 1) "tuple")) (.cons (.cmp .Eq (.var 1) (.tup (.nil))) (.cons (.cmp .Eq (.call ("_law_roll" : Str) (.cons (.var 0) (.cons (.cst (.int (5))) .nil))) (.cst (.int (0)))) .nil)))) (.cons (.ret (.call ("_law_some" : Str) (.cons (.var 0) (.cons (.lst (.cons (.cst .non) (.cons (.tup (.nil)) (.cons (.lst (.nil)) (.cons (.cst (.int (0))) (.cons (.cst (.int (1))) (.cons (.cst (.int (6))) (.cons (.cst (.int (7))) (.cons (.neg (.cst (.int (1)))) (.cons (.neg (.cst (.int (4)))) (.cons (.cst (.bl true)) (.cons (.cst (.str ("same" : Str))) (.cons (.tup (.cons (.cst (.int (1))) .nil)) (.cons (.tup (.cons (.tup (.cons (.cst (.int (1))) .nil)) (.cons (.tup (.cons (.cst (.str ("all" : Str))) (.cons (.tup (.nil)) .nil))) .nil))) (.cons (.tup (.cons (.cst (.str ("all" : Str))) (.cons (.tup (.nil)) .nil))) (.cons (.tup (.cons (.cst (.int (1))) (.cons (.tup (.nil)) .nil))) .nil)))))))))))))))) .nil)))) .nil) (.nil)) (.cons (.asg (.tp [.nm 2, .nm 3]) (.tup (.cons (.call ("_law_roll" : Str) (.cons (.var 0) (.cons (.bi ("len" : Str) (.cons (.var 1) .nil)) .nil))) (.cons (.call ("_law_roll" : Str) (.cons (.var 0) (.cons (.cst (.int (9))) .nil))) .nil)))) (.cons (.ife (.cmp .Lt (.var 3) (.cst (.int (2)))) (.cons (.ret (.bin .Add (.bin .Add (.sl (.var 1) (.no) (.yes (.var 2))) (.sl (.var 1) (.yes (.bin .Add (.var 2) (.var 3))) (.no))) (.ite (.cmp .Eq (.var 3) (.cst (.int (0)))) (.sl (.var 1) (.yes (.var 2)) (.yes (.bin .Add (.var 2) (.cst (.int (1)))))) (.tup (.nil))))) .nil) (.nil)) (.cons (.ret (.ite (.cmp .Eq (.var 3) (.cst (.int (2)))) (.bi ("list" : Str) (.cons (.var 1) .nil)) (.bin .Add (.bin .Add (.sl (.var 1) (.no) (.yes (.var 2))) (.tup (.cons (.call ("_law_spoilt" : Str) (.cons (.var 0) (.cons (.ix (.var 1) (.var 2)) .nil))) .nil))) (.sl (.var 1) (.yes (.bin .Add (.var 2) (.cst (.int (1))))) (.no))))) .nil)))⟩
def t__law_spoilt : Txt := ⟨"_law_spoilt", top 52, ["cup", "here", "at", "way"], ["cup", "here"], f__law_spoilt⟩
def f__law_fits : Fn := ⟨2, 4, false, .cons (.ife (.or (.cons (.not (.isi (.var 1) "tuple")) (.cons (.cmp .NotEq (.bi ("len" : Str) (.cons (.var 1) .nil)) (.cst (.int (2)))) (.cons (.not (.call ("_law_number" : Str) (.cons (.ix (.var 1) (.cst (.int (0)))) (.cons (.cst (.int (0))) (.cons (.cst (.int (6))) .nil))))) (.cons (.not (.isi (.ix (.var 1) (.cst (.int (1)))) "tuple")) (.cons (.cmp .Gt (.bi ("len" : Str) (.cons (.ix (.var 1) (.cst (.int (1)))) .nil)) (.cst (.int (200)))) .nil)))))) (.cons (.ret (.cst (.bl false))) .nil) (.nil)) (.cons (l__law_fits_3) (.cons (.ret (.cst (.bl true))) .nil))⟩
def t__law_fits : Txt := ⟨"_law_fits", top 53, ["unknowns", "here", "entry", "cell"], ["unknowns", "here"], f__law_fits⟩
def f__law_right : Fn := ⟨2, 7, false, .cons (.asg (.nm 2) (.call ("_law_guarded" : Str) (.cons (.var 0) (.cons (.var 1) (.cons (.call ("_law_some" : Str) (.cons (.var 0) (.cons (.lst (.cons (.cst (.int (0))) (.cons (.cst (.int (1))) (.cons (.cst (.int (1))) (.cons (.cst (.int (2))) (.cons (.cst (.int (3))) .nil)))))) .nil))) (.cons (.cst (.int (4))) .nil)))))) (.cons (.asg (.nm 3) (.bi ("tuple" : Str) (.cons (x__law_right_3) .nil))) (.cons (.ife (.or (.cons (.cmp .IsNot (.call ("is_guarded" : Str) (.cons (.var 1) (.cons (.var 2) .nil))) (.cst (.bl true))) (.cons (.cmp .NotEq (.call ("guarded_filled" : Str) (.cons (.var 1) (.cons (.var 2) (.cons (.var 3) .nil)))) (.call ("_law_full" : Str) (.cons (.var 2) (.cons (.call ("_law_by" : Str) (.cons (.var 1) (.cons (.var 3) .nil))) .nil)))) .nil))) (.cons (.ret (.cst (.bl false))) .nil) (.nil)) (.cons (l__law_right_2) (.cons (.ret (.cst (.bl true))) .nil))))⟩
def t__law_right : Txt := ⟨"_law_right", top 54, ["cup", "unknowns", "guarded", "filling", "turn", "value", "unknown"], ["cup", "unknowns"], f__law_right⟩
def f_law : Fn := ⟨1, 7, false, .cons (.asg (.nm 1) (.call ("_law_cup" : Str) (.cons (.var 0) .nil))) (.cons (.for_ (.nm 2) (.rng1 (.cst (.int (4)))) (.cons (.ife (.not (.call ("_law_right" : Str) (.cons (.var 1) (.cons (.call ("_law_some_unknowns" : Str) (.cons (.var 1) .nil)) .nil)))) (.cons (.ret (.cst (.bl false))) .nil) (.nil)) .nil)) (.cons (.asg (.nm 3) (.tup (.cons (.cst (.int (1))) (.cons (.tup (.cons (.tup (.cons (.tup (.cons (.cst (.int (1))) .nil)) (.cons (.tup (.cons (.cst (.str ("same" : Str))) (.cons (.neg (.cst (.int (1)))) (.cons (.cst (.int (1))) .nil)))) .nil))) (.cons (.tup (.cons (.tup (.cons (.neg (.cst (.int (1)))) .nil)) (.cons (.tup (.cons (.cst (.str ("not" : Str))) (.cons (.tup (.cons (.cst (.str ("same" : Str))) (.cons (.neg (.cst (.int (1)))) (.cons (.cst (.int (1))) .nil)))) .nil))) .nil))) .nil))) .nil)))) (.cons (.ife (.or (.cons (.cmp .NotEq (.call ("guarded_filled" : Str) (.cons (.tup (.cons (.neg (.cst (.int (1)))) .nil)) (.cons (.var 3) (.cons (.tup (.cons (.cst (.int (1))) .nil)) .nil)))) (.tup (.cons (.tup (.cons (.cst (.int (1))) .nil)) .nil))) (.cons (.cmp .NotEq (.call ("guarded_filled" : Str) (.cons (.tup (.cons (.neg (.cst (.int (1)))) .nil)) (.cons (.var 3) (.cons (.tup (.cons (.cst (.int (4))) .nil)) .nil)))) (.tup (.cons (.tup (.cons (.cst (.int (4))) .nil)) .nil))) (.cons (.cmp .IsNot (.call ("is_guarded" : Str) (.cons (.tup (.nil)) (.cons (.var 3) .nil))) (.cst (.bl false))) .nil)))) (.cons (.ret (.cst (.bl false))) .nil) (.nil)) (.cons (.asg (.nm 4) (.tup (.cons (.cst (.int (2))) (.cons (.tup (.cons (.tup (.cons (.tup (.cons (.neg (.cst (.int (1)))) (.cons (.cst (.int (3))) .nil))) (.cons (.tup (.cons (.cst (.str ("all" : Str))) (.cons (.tup (.nil)) .nil))) .nil))) (.cons (.tup (.cons (.tup (.cons (.cst (.int (3))) (.cons (.neg (.cst (.int (2)))) .nil))) (.cons (.tup (.cons (.cst (.str ("all" : Str))) (.cons (.tup (.nil)) .nil))) .nil))) (.cons (.tup (.cons (.tup (.cons (.neg (.cst (.int (2)))) (.cons (.neg (.cst (.int (1)))) .nil))) (.cons (.tup (.cons (.cst (.str ("same" : Str))) (.cons (.neg (.cst (.int (1)))) (.cons (.neg (.cst (.int (2)))) .nil)))) .nil))) .nil)))) .nil)))) (.cons (.ife (.or (.cons (.cmp .NotEq (.call ("guarded_filled" : Str) (.cons (.tup (.cons (.neg (.cst (.int (2)))) (.cons (.neg (.cst (.int (1)))) .nil))) (.cons (.var 4) (.cons (.tup (.cons (.cst (.int (3))) (.cons (.cst (.int (3))) .nil))) .nil)))) (.tup (.cons (.tup (.cons (.cst (.int (3))) (.cons (.cst (.int (3))) .nil))) .nil))) (.cons (.cmp .NotEq (.call ("guarded_filled" : Str) (.cons (.tup (.cons (.neg (.cst (.int (2)))) (.cons (.neg (.cst (.int (1)))) .nil))) (.cons (.var 4) (.cons (.tup (.cons (.cst (.int (4))) (.cons (.cst (.int (3))) .nil))) .nil)))) (.tup (.cons (.tup (.cons (.cst (.int (3))) (.cons (.cst (.int (3))) .nil))) (.cons (.tup (.cons (.cst (.int (3))) (.cons (.cst (.int (4))) .nil))) .nil)))) (.cons (.cmp .NotEq (.call ("guarded_filled" : Str) (.cons (.tup (.cons (.neg (.cst (.int (2)))) (.cons (.neg (.cst (.int (1)))) .nil))) (.cons (.var 4) (.cons (.tup (.cons (.cst (.int (2))) (.cons (.cst (.int (2))) .nil))) .nil)))) (.tup (.cons (.tup (.cons (.cst (.int (2))) (.cons (.cst (.int (2))) .nil))) (.cons (.tup (.cons (.cst (.int (2))) (.cons (.cst (.int (3))) .nil))) (.cons (.tup (.cons (.cst (.int (3))) (.cons (.cst (.int (2))) .nil))) .nil))))) .nil)))) (.cons (.ret (.cst (.bl false))) .nil) (.nil)) (.cons (.asg (.nm 5) (.tup (.cons (.cst (.int (0))) (.cons (.tup (.cons (.tup (.cons (.tup (.nil)) (.cons (.tup (.cons (.cst (.str ("some" : Str))) (.cons (.tup (.nil)) .nil))) .nil))) (.cons (.tup (.cons (.tup (.nil)) (.cons (.tup (.cons (.cst (.str ("same" : Str))) (.cons (.neg (.cst (.int (1)))) (.cons (.cst (.int (2))) .nil)))) .nil))) .nil))) .nil)))) (.cons (.ife (.or (.cons (.cmp .NotEq (.call ("guarded_filled" : Str) (.cons (.tup (.cons (.neg (.cst (.int (1)))) .nil)) (.cons (.var 5) (.cons (.tup (.cons (.cst (.int (2))) .nil)) .nil)))) (.tup (.cons (.tup (.nil)) .nil))) (.cons (.cmp .NotEq (.call ("guarded_filled" : Str) (.cons (.tup (.cons (.neg (.cst (.int (1)))) .nil)) (.cons (.var 5) (.cons (.tup (.cons (.cst (.int (3))) .nil)) .nil)))) (.tup (.nil))) (.cons (.cmp .NotEq (.call ("guarded_filled" : Str) (.cons (.tup (.nil)) (.cons (.tup (.cons (.cst (.int (4))) (.cons (.tup (.nil)) .nil))) (.cons (.tup (.nil)) .nil)))) (.tup (.nil))) .nil)))) (.cons (.ret (.cst (.bl false))) .nil) (.nil)) (.cons (.asg (.nm 6) (.tup (.cons (.tup (.nil)) (.cons (.tup (.cons (.cst (.str ("all" : Str))) (.cons (.tup (.nil)) .nil))) .nil)))) (.cons (.ret (.and (.cons (.cmp .Is (.call ("is_guarded" : Str) (.cons (.tup (.nil)) (.cons (.tup (.cons (.cst (.int (0))) (.cons (.bin .Mult (.tup (.cons (.var 6) .nil)) (.cst (.int (200)))) .nil))) .nil))) (.cst (.bl true))) (.cons (.cmp .Is (.call ("is_guarded" : Str) (.cons (.tup (.nil)) (.cons (.tup (.cons (.cst (.int (0))) (.cons (.bin .Mult (.tup (.cons (.var 6) .nil)) (.cst (.int (201)))) .nil))) .nil))) (.cst (.bl false))) (.cons (.cmp .Is (.call ("is_guarded" : Str) (.cons (.tup (.cons (.neg (.cst (.int (1)))) .nil)) (.cons (.tup (.cons (.cst (.int (6))) (.cons (.tup (.cons (.tup (.cons (.bin .Mult (.tup (.cons (.neg (.cst (.int (1)))) .nil)) (.cst (.int (6)))) (.cons (.tup (.cons (.cst (.str ("all" : Str))) (.cons (.tup (.nil)) .nil))) .nil))) .nil)) .nil))) .nil))) (.cst (.bl true))) .nil))))) .nil)))))))))⟩
def t_law : Txt := ⟨"law", top 55, ["script", "cup", "turn", "gt", "two", "none", "entry"], ["script"], f_law⟩
def txts : List Txt := [t_is_whole, t_is_tuple_of, t_fits_value, t_does_ascend, t_row_by, t_fits_unknowns, t_fits_cell, t_parts_within, t_fits_condition, t_holds_by, t_worths_by, t_need_unknowns, t_need_filling_of, t_fits_entry, t_fits_guarded, t_rows_filled, t_filled_guarded, t_need_guarded, t_is_guarded, t_guarded_filled, t__law_cup, t__law_roll, t__law_some, t__law_put, t__law_some_unknowns, t__law_any_cell, t__law_condition, t__law_true, t__law_by, t__law_number, t__law_is_cell, t__law_weight, t__law_guarded, t__law_full, t__law_spoilt, t__law_fits, t__law_right, t_law]
def prg : Prog := progOf txts
def G : Glb := ⟨(["is_whole", "is_tuple_of", "fits_value", "does_ascend", "row_by", "fits_unknowns", "fits_cell", "parts_within", "fits_condition", "holds_by", "worths_by", "need_unknowns", "need_filling_of", "fits_entry", "fits_guarded", "rows_filled", "filled_guarded", "need_guarded", "is_guarded", "guarded_filled", "_law_cup", "_law_roll", "_law_some", "_law_put", "_law_some_unknowns", "_law_any_cell", "_law_condition", "_law_true", "_law_by", "_law_number"] : List Str) ++ (["_law_is_cell", "_law_weight", "_law_guarded", "_law_full", "_law_spoilt", "_law_fits", "_law_right", "law"] : List Str), ["abs", "all", "any", "bool", "dict", "int", "isinstance", "len", "list", "range", "repr", "set", "sorted", "str", "sum", "tuple", "zip"], [("COLUMNS", .int (6)), ("DEEPEST", .int (12)), ("ENTRIES", .int (200)), ("GREATEST", .int (1000000)), ("LEAST", .int (-6)), ("PARTS", .int (1000)), ("UNKNOWNS", .int (6))]⟩
theorem c_is_whole (k : Nat) (ds : List D) (W : Wd) : callK prg (k + 1) "is_whole" ds W = fnRun (callK prg k) f_is_whole ds W := by kernel_rfl
theorem c_is_tuple_of (k : Nat) (ds : List D) (W : Wd) : callK prg (k + 1) "is_tuple_of" ds W = fnRun (callK prg k) f_is_tuple_of ds W := by kernel_rfl
theorem c_fits_value (k : Nat) (ds : List D) (W : Wd) : callK prg (k + 1) "fits_value" ds W = fnRun (callK prg k) f_fits_value ds W := by kernel_rfl
theorem c_does_ascend (k : Nat) (ds : List D) (W : Wd) : callK prg (k + 1) "does_ascend" ds W = fnRun (callK prg k) f_does_ascend ds W := by kernel_rfl
theorem c_row_by (k : Nat) (ds : List D) (W : Wd) : callK prg (k + 1) "row_by" ds W = fnRun (callK prg k) f_row_by ds W := by kernel_rfl
theorem c_fits_unknowns (k : Nat) (ds : List D) (W : Wd) : callK prg (k + 1) "fits_unknowns" ds W = fnRun (callK prg k) f_fits_unknowns ds W := by kernel_rfl
theorem c_fits_cell (k : Nat) (ds : List D) (W : Wd) : callK prg (k + 1) "fits_cell" ds W = fnRun (callK prg k) f_fits_cell ds W := by kernel_rfl
theorem c_parts_within (k : Nat) (ds : List D) (W : Wd) : callK prg (k + 1) "parts_within" ds W = fnRun (callK prg k) f_parts_within ds W := by kernel_rfl
theorem c_fits_condition (k : Nat) (ds : List D) (W : Wd) : callK prg (k + 1) "fits_condition" ds W = fnRun (callK prg k) f_fits_condition ds W := by kernel_rfl
theorem c_holds_by (k : Nat) (ds : List D) (W : Wd) : callK prg (k + 1) "holds_by" ds W = fnRun (callK prg k) f_holds_by ds W := by kernel_rfl
theorem c_worths_by (k : Nat) (ds : List D) (W : Wd) : callK prg (k + 1) "worths_by" ds W = fnRun (callK prg k) f_worths_by ds W := by kernel_rfl
theorem c_need_unknowns (k : Nat) (ds : List D) (W : Wd) : callK prg (k + 1) "need_unknowns" ds W = fnRun (callK prg k) f_need_unknowns ds W := by kernel_rfl
theorem c_need_filling_of (k : Nat) (ds : List D) (W : Wd) : callK prg (k + 1) "need_filling_of" ds W = fnRun (callK prg k) f_need_filling_of ds W := by kernel_rfl
theorem c_fits_entry (k : Nat) (ds : List D) (W : Wd) : callK prg (k + 1) "fits_entry" ds W = fnRun (callK prg k) f_fits_entry ds W := by kernel_rfl
theorem c_fits_guarded (k : Nat) (ds : List D) (W : Wd) : callK prg (k + 1) "fits_guarded" ds W = fnRun (callK prg k) f_fits_guarded ds W := by kernel_rfl
theorem c_rows_filled (k : Nat) (ds : List D) (W : Wd) : callK prg (k + 1) "rows_filled" ds W = fnRun (callK prg k) f_rows_filled ds W := by kernel_rfl
theorem c_filled_guarded (k : Nat) (ds : List D) (W : Wd) : callK prg (k + 1) "filled_guarded" ds W = fnRun (callK prg k) f_filled_guarded ds W := by kernel_rfl
theorem c_need_guarded (k : Nat) (ds : List D) (W : Wd) : callK prg (k + 1) "need_guarded" ds W = fnRun (callK prg k) f_need_guarded ds W := by kernel_rfl
theorem c_is_guarded (k : Nat) (ds : List D) (W : Wd) : callK prg (k + 1) "is_guarded" ds W = fnRun (callK prg k) f_is_guarded ds W := by kernel_rfl
theorem c_guarded_filled (k : Nat) (ds : List D) (W : Wd) : callK prg (k + 1) "guarded_filled" ds W = fnRun (callK prg k) f_guarded_filled ds W := by kernel_rfl
theorem c__law_cup (k : Nat) (ds : List D) (W : Wd) : callK prg (k + 1) "_law_cup" ds W = fnRun (callK prg k) f__law_cup ds W := by kernel_rfl
theorem c__law_roll (k : Nat) (ds : List D) (W : Wd) : callK prg (k + 1) "_law_roll" ds W = fnRun (callK prg k) f__law_roll ds W := by kernel_rfl
theorem c__law_some (k : Nat) (ds : List D) (W : Wd) : callK prg (k + 1) "_law_some" ds W = fnRun (callK prg k) f__law_some ds W := by kernel_rfl
theorem c__law_put (k : Nat) (ds : List D) (W : Wd) : callK prg (k + 1) "_law_put" ds W = fnRun (callK prg k) f__law_put ds W := by kernel_rfl
theorem c__law_some_unknowns (k : Nat) (ds : List D) (W : Wd) : callK prg (k + 1) "_law_some_unknowns" ds W = fnRun (callK prg k) f__law_some_unknowns ds W := by kernel_rfl
theorem c__law_any_cell (k : Nat) (ds : List D) (W : Wd) : callK prg (k + 1) "_law_any_cell" ds W = fnRun (callK prg k) f__law_any_cell ds W := by kernel_rfl
theorem c__law_condition (k : Nat) (ds : List D) (W : Wd) : callK prg (k + 1) "_law_condition" ds W = fnRun (callK prg k) f__law_condition ds W := by kernel_rfl
theorem c__law_true (k : Nat) (ds : List D) (W : Wd) : callK prg (k + 1) "_law_true" ds W = fnRun (callK prg k) f__law_true ds W := by kernel_rfl
theorem c__law_by (k : Nat) (ds : List D) (W : Wd) : callK prg (k + 1) "_law_by" ds W = fnRun (callK prg k) f__law_by ds W := by kernel_rfl
theorem c__law_number (k : Nat) (ds : List D) (W : Wd) : callK prg (k + 1) "_law_number" ds W = fnRun (callK prg k) f__law_number ds W := by kernel_rfl
theorem c__law_is_cell (k : Nat) (ds : List D) (W : Wd) : callK prg (k + 1) "_law_is_cell" ds W = fnRun (callK prg k) f__law_is_cell ds W := by kernel_rfl
theorem c__law_weight (k : Nat) (ds : List D) (W : Wd) : callK prg (k + 1) "_law_weight" ds W = fnRun (callK prg k) f__law_weight ds W := by kernel_rfl
theorem c__law_guarded (k : Nat) (ds : List D) (W : Wd) : callK prg (k + 1) "_law_guarded" ds W = fnRun (callK prg k) f__law_guarded ds W := by kernel_rfl
theorem c__law_full (k : Nat) (ds : List D) (W : Wd) : callK prg (k + 1) "_law_full" ds W = fnRun (callK prg k) f__law_full ds W := by kernel_rfl
theorem c__law_spoilt (k : Nat) (ds : List D) (W : Wd) : callK prg (k + 1) "_law_spoilt" ds W = fnRun (callK prg k) f__law_spoilt ds W := by kernel_rfl
theorem c__law_fits (k : Nat) (ds : List D) (W : Wd) : callK prg (k + 1) "_law_fits" ds W = fnRun (callK prg k) f__law_fits ds W := by kernel_rfl
theorem c__law_right (k : Nat) (ds : List D) (W : Wd) : callK prg (k + 1) "_law_right" ds W = fnRun (callK prg k) f__law_right ds W := by kernel_rfl
theorem c_law (k : Nat) (ds : List D) (W : Wd) : callK prg (k + 1) "law" ds W = fnRun (callK prg k) f_law ds W := by kernel_rfl
theorem chk_ok : chkP G txts = true := by decide +kernel
theorem gs_ok' : gsB G.gs = true := by decide +kernel
theorem bind_ok : ∀ t ∈ txts, BindOk t := by
  unfold txts
  refine List.forall_mem_cons.mpr ⟨fun _ _ _ _ _ _ us hl => match us, hl with | [_, _, _], _ => rfl, ?_⟩
  refine List.forall_mem_cons.mpr ⟨fun _ _ _ _ _ _ us hl => match us, hl with | [_, _, _], _ => rfl, ?_⟩
  refine List.forall_mem_cons.mpr ⟨fun _ _ _ _ _ _ us hl => match us, hl with | [_], _ => rfl, ?_⟩
  refine List.forall_mem_cons.mpr ⟨fun _ _ _ _ _ _ us hl => match us, hl with | [_], _ => rfl, ?_⟩
  refine List.forall_mem_cons.mpr ⟨fun _ _ _ _ _ _ us hl => match us, hl with | [_, _], _ => rfl, ?_⟩
  refine List.forall_mem_cons.mpr ⟨fun _ _ _ _ _ _ us hl => match us, hl with | [_], _ => rfl, ?_⟩
  refine List.forall_mem_cons.mpr ⟨fun _ _ _ _ _ _ us hl => match us, hl with | [_, _], _ => rfl, ?_⟩
  refine List.forall_mem_cons.mpr ⟨fun _ _ _ _ _ _ us hl => match us, hl with | [_, _], _ => rfl, ?_⟩
  refine List.forall_mem_cons.mpr ⟨fun _ _ _ _ _ _ us hl => match us, hl with | [_, _], _ => rfl, ?_⟩
  refine List.forall_mem_cons.mpr ⟨fun _ _ _ _ _ _ us hl => match us, hl with | [_, _], _ => rfl, ?_⟩
  refine List.forall_mem_cons.mpr ⟨fun _ _ _ _ _ _ us hl => match us, hl with | [_, _], _ => rfl, ?_⟩
  refine List.forall_mem_cons.mpr ⟨fun _ _ _ _ _ _ us hl => match us, hl with | [_], _ => rfl, ?_⟩
  refine List.forall_mem_cons.mpr ⟨fun _ _ _ _ _ _ us hl => match us, hl with | [_, _], _ => rfl, ?_⟩
  refine List.forall_mem_cons.mpr ⟨fun _ _ _ _ _ _ us hl => match us, hl with | [_, _, _], _ => rfl, ?_⟩
  refine List.forall_mem_cons.mpr ⟨fun _ _ _ _ _ _ us hl => match us, hl with | [_, _], _ => rfl, ?_⟩
  refine List.forall_mem_cons.mpr ⟨fun _ _ _ _ _ _ us hl => match us, hl with | [_, _], _ => rfl, ?_⟩
  refine List.forall_mem_cons.mpr ⟨fun _ _ _ _ _ _ us hl => match us, hl with | [_, _], _ => rfl, ?_⟩
  refine List.forall_mem_cons.mpr ⟨fun _ _ _ _ _ _ us hl => match us, hl with | [_, _], _ => rfl, ?_⟩
  refine List.forall_mem_cons.mpr ⟨fun _ _ _ _ _ _ us hl => match us, hl with | [_, _], _ => rfl, ?_⟩
  refine List.forall_mem_cons.mpr ⟨fun _ _ _ _ _ _ us hl => match us, hl with | [_, _, _], _ => rfl, ?_⟩
  refine List.forall_mem_cons.mpr ⟨fun _ _ _ _ _ _ us hl => match us, hl with | [_], _ => rfl, ?_⟩
  refine List.forall_mem_cons.mpr ⟨fun _ _ _ _ _ _ us hl => match us, hl with | [_, _], _ => rfl, ?_⟩
  refine List.forall_mem_cons.mpr ⟨fun _ _ _ _ _ _ us hl => match us, hl with | [_, _], _ => rfl, ?_⟩
  refine List.forall_mem_cons.mpr ⟨fun _ _ _ _ _ _ us hl => match us, hl with | [_, _], _ => rfl, ?_⟩
  refine List.forall_mem_cons.mpr ⟨fun _ _ _ _ _ _ us hl => match us, hl with | [_], _ => rfl, ?_⟩
  refine List.forall_mem_cons.mpr ⟨fun _ _ _ _ _ _ us hl => match us, hl with | [_, _], _ => rfl, ?_⟩
  refine List.forall_mem_cons.mpr ⟨fun _ _ _ _ _ _ us hl => match us, hl with | [_, _, _], _ => rfl, ?_⟩
  refine List.forall_mem_cons.mpr ⟨fun _ _ _ _ _ _ us hl => match us, hl with | [_, _], _ => rfl, ?_⟩
  refine List.forall_mem_cons.mpr ⟨fun _ _ _ _ _ _ us hl => match us, hl with | [_, _], _ => rfl, ?_⟩
  refine List.forall_mem_cons.mpr ⟨fun _ _ _ _ _ _ us hl => match us, hl with | [_, _, _], _ => rfl, ?_⟩
  refine List.forall_mem_cons.mpr ⟨fun _ _ _ _ _ _ us hl => match us, hl with | [_, _], _ => rfl, ?_⟩
  refine List.forall_mem_cons.mpr ⟨fun _ _ _ _ _ _ us hl => match us, hl with | [_, _, _], _ => rfl, ?_⟩
  refine List.forall_mem_cons.mpr ⟨fun _ _ _ _ _ _ us hl => match us, hl with | [_, _, _, _], _ => rfl, ?_⟩
  refine List.forall_mem_cons.mpr ⟨fun _ _ _ _ _ _ us hl => match us, hl with | [_, _], _ => rfl, ?_⟩
  refine List.forall_mem_cons.mpr ⟨fun _ _ _ _ _ _ us hl => match us, hl with | [_, _], _ => rfl, ?_⟩
  refine List.forall_mem_cons.mpr ⟨fun _ _ _ _ _ _ us hl => match us, hl with | [_, _], _ => rfl, ?_⟩
  refine List.forall_mem_cons.mpr ⟨fun _ _ _ _ _ _ us hl => match us, hl with | [_, _], _ => rfl, ?_⟩
  refine List.forall_mem_cons.mpr ⟨fun _ _ _ _ _ _ us hl => match us, hl with | [_], _ => rfl, ?_⟩
  exact fun _ h => nomatch h
end LW

namespace LW
open PySem PL
/-- plain data -/
def Pl (d : D) : Prop := (D.py d).isSome = true
def isW (d : D) (lo hi : Int) : Bool := match d with
  | .int i => decide (lo ≤ i) && decide (i ≤ hi)
  | _ => false
def isT (d : D) (lo hi : Int) : Bool := match d with
  | .tup xs => decide (lo ≤ (xs.length : Int)) && decide ((xs.length : Int) ≤ hi)
  | _ => false
def inL (u : List Int) (d : D) : Bool := match d with
  | .int i => u.contains i
  | _ => false
def fc (u : List Int) (d : D) : Bool := isW d 0 1000000 || (isW d (-6) (-1) && inL u d)
theorem isw (k : Nat) {d : D} (hd : Pl d) (lo hi : Int) (W : Wd) : callK prg (k + 1) "is_whole" [d, .int lo, .int hi] W = .ok (.bl (isW d lo hi)) W := by
  rw [c_is_whole]
  cases d with
  | int i =>
    by_cases h : lo ≤ i <;> simp [f_is_whole, isW, h]
  | fn _ => simp [Pl, D.py] at hd
  | ref _ => simp [Pl, D.py] at hd
  | scr _ => simp [Pl, D.py] at hd
  | dct _ => simp [Pl, D.py] at hd
  | _ => simp [f_is_whole, isW]
theorem ist (k : Nat) {d : D} (hd : Pl d) (lo hi : Int) (W : Wd) : callK prg (k + 1) "is_tuple_of" [d, .int lo, .int hi] W = .ok (.bl (isT d lo hi)) W := by
  rw [c_is_tuple_of]
  cases d with
  | tup i =>
    by_cases h : lo ≤ (i.length : Int) <;> simp [f_is_tuple_of, isT, h]
  | fn _ => simp [Pl, D.py] at hd
  | ref _ => simp [Pl, D.py] at hd
  | scr _ => simp [Pl, D.py] at hd
  | dct _ => simp [Pl, D.py] at hd
  | _ => simp [f_is_tuple_of, isT]
theorem fvl (k : Nat) {d : D} (hd : Pl d) (W : Wd) : callK prg (k + 2) "fits_value" [d] W = .ok (.bl (isW d 0 1000000)) W := by
  rw [c_fits_value]
  simp [f_fits_value, isw k hd]
theorem pys_ints (u : List Int) : D.pys (u.map .int) = some (u.map .int) := by
  induction u with
  | nil => rfl
  | cons a u ih => simp [ih]
theorem depth_ints (u : List Int) : PyData.depthAll (u.map .int) ≤ 1 := by
  induction u with
  | nil => simp [PyData.depthAll]
  | cons a u ih => simp [PyData.depthAll, PyData.depth, ih]
theorem in_ints (W : Wd) (i : Int) (u : List Int) : dIn W (.int i) (.tup (u.map .int)) = some (u.contains i) := by
  have h : min (PyData.depthAll (u.map PyData.int)) (PyData.int i).depth ≤ 100 := Nat.le_trans (Nat.min_le_left _ _) (Nat.le_trans (depth_ints u) (by decide))
  have e : ((u.map PyData.int).any fun y => PyData.eqv y (.int i)) = u.contains i := by
    clear h
    induction u with
    | nil => rfl
    | cons a u ih =>
      rw [List.map_cons, List.any_cons, ih, List.contains_cons]
      show ((a == i) || u.contains i) = _
      rw [Bool.beq_comm]
  show (match asQ W (.tup (u.map .int)) with
    | some ds => match D.pys ds, pyW W (.int i) with
      | some ps, some p => if min (PyData.depthAll ps) p.depth ≤ 100 then some (ps.any fun y => PyData.eqv y p) else none
      | _, _ => none
    | none => none) = _
  simp only [asQ, pys_ints, pyW, D.py]
  rw [if_pos h, e]
@[simp] theorem eq_str (W : Wd) (a b : Str) : dEq W (.str a) (.str b) = some (a == b) := by simp [dEq, PyData.depth, PyData.eqv]
@[simp] theorem eq_int (W : Wd) (a b : Int) : dEq W (.int a) (.int b) = some (a == b) := by simp [dEq, PyData.depth, PyData.eqv]
theorem pys_strs (u : List Str) : D.pys (u.map .str) = some (u.map .str) := by
  induction u with
  | nil => rfl
  | cons a u ih => simp [ih]
theorem depth_strs (u : List Str) : PyData.depthAll (u.map .str) ≤ 1 := by
  induction u with
  | nil => simp [PyData.depthAll]
  | cons a u ih => simp [PyData.depthAll, PyData.depth, ih]
theorem in_strs (W : Wd) (i : Str) (u : List Str) : dIn W (.str i) (.tup (u.map .str)) = some (u.contains i) := by
  have h : min (PyData.depthAll (u.map PyData.str)) (PyData.str i).depth ≤ 100 := Nat.le_trans (Nat.min_le_left _ _) (Nat.le_trans (depth_strs u) (by decide))
  have e : ((u.map PyData.str).any fun y => PyData.eqv y (.str i)) = u.contains i := by
    clear h
    induction u with
    | nil => rfl
    | cons a u ih =>
      rw [List.map_cons, List.any_cons, ih, List.contains_cons]
      show ((a == i) || u.contains i) = _
      rw [Bool.beq_comm]
  show (match asQ W (.tup (u.map .str)) with
    | some ds => match D.pys ds, pyW W (.str i) with
      | some ps, some p => if min (PyData.depthAll ps) p.depth ≤ 100 then some (ps.any fun y => PyData.eqv y p) else none
      | _, _ => none
    | none => none) = _
  simp only [asQ, pys_strs, pyW, D.py]
  rw [if_pos h, e]
theorem fcl (k : Nat) {d : D} (hd : Pl d) (u : List Int) (W : Wd) : callK prg (k + 3) "fits_cell" [.tup (u.map .int), d] W = .ok (.bl (fc u d)) W := by
  rw [c_fits_cell]
  cases h1 : isW d 0 1000000
  · cases h2 : isW d (-6) (-1)
    · simp [f_fits_cell, isw (k+1) hd, fvl k hd, h1, h2, fc]
    · cases d with
      | int i => simp [f_fits_cell, isw (k+1) hd, fvl k hd, h1, h2, fc, in_ints, inL]
      | _ => simp [isW] at h2
  · simp [f_fits_cell, isw (k+1) hd, fvl k hd, h1, fc]
end LW

namespace LW
open PySem PL
def pw (u : List Int) : D → Option (List D)
  | .tup (.str w :: rest) => if w = "same" then (match rest with
      | [a, b] => if fc u a = true ∧ fc u b = true then some [] else none
      | _ => none)
    else match rest with
      | [x] => if w = "not" then some [x] else if w = "all" ∨ w = "some" then (match x with
        | .tup xs => if xs.length ≤ 1000 then some xs else none
        | _ => none) else none
      | _ => none
  | _ => none
def oL : Option (List D) → D
  | some xs => .lst xs
  | none => .non
theorem Pl.cons {a : D} {xs : List D} (h : Pl (.tup (a :: xs))) : Pl a ∧ Pl (.tup xs) := by
  unfold Pl at *
  simp only [D.py, D.pys] at h ⊢
  cases e : D.py a with
  | none => rw [e] at h; simp at h
  | some p =>
    rw [e] at h
    cases e2 : D.pys xs with
    | none => rw [e2] at h; simp at h
    | some ps => simp
@[simp] theorem in_as (W : Wd) (w : Str) : dIn W (.str w) (.tup [.str "all", .str "some"]) = some (decide (w = "all") || decide (w = "some")) := by
  have := in_strs W w ["all", "some"]
  simpa using this
@[simp] theorem cut1 (W : Wd) (a : D) (xs : List D) : dSl W (.tup (a :: xs)) (some 1) none = some (.tup xs) := by
  simp [dSl, cutD, HT.sIx]
@[simp] theorem ix0 (W : Wd) (a : D) (xs : List D) : dIx W (.tup (a :: xs)) (.int 0) = some a := by simp [dIx, L2.atI, L2.ixN]
@[simp] theorem ix0l (W : Wd) (a : D) (xs : List D) : dIx W (.lst (a :: xs)) (.int 0) = some a := by simp [dIx, L2.atI, L2.ixN]
theorem ns1 : ¬ (("not" : Str) = "same") := by decide +kernel
theorem ns2 : ¬ (("all" : Str) = "same") := by decide +kernel
theorem ns3 : ¬ (("some" : Str) = "same") := by decide +kernel
theorem na1 : ¬ (("all" : Str) = "not") := by decide +kernel
theorem na2 : ¬ (("some" : Str) = "not") := by decide +kernel
theorem na3 : ¬ (("not" : Str) = "all") := by decide +kernel
theorem na4 : ¬ (("not" : Str) = "some") := by decide +kernel
theorem pwl (k : Nat) (u : List Int) {d : D} (hd : Pl d) (W : Wd) : callK prg (k + 5) "parts_within" [.tup (u.map .int), d] W = .ok (oL (pw u d)) W := by
  rw [c_parts_within]
  cases d with
  | tup xs =>
    match xs, hd with
    | [], hd => simp [f_parts_within, ist (k+3) hd, isT, pw, oL]
    | [a], hd =>
      have e : pw u (.tup [a]) = none := by
        cases a <;> first | rfl | (simp [pw])
      simp [f_parts_within, ist (k+3) hd, isT, e, oL]
    | [a, b], hd =>
      obtain ⟨ha, hb⟩ := hd.cons
      obtain ⟨hb, _⟩ := hb.cons
      cases a with
      | str w =>
        by_cases h1 : w = "same"
        · subst h1
          simp [f_parts_within, ist (k+3) hd, isT, pw, oL]
        · by_cases h2 : w = "not"
          · subst h2
            simp [f_parts_within, ist (k+3) hd, isT, pw, oL, ns1]
          · by_cases h3 : w = "all" ∨ w = "some"
            · cases b with
              | tup ys =>
                by_cases h4 : ys.length ≤ 1000
                · have h5 : (ys.length : Int) ≤ 1000 := by omega
                  simp [f_parts_within, ist (k+3) hd, ist (k+3) hb, isT, pw, oL, h1, h2, h3, h4, h5]
                · have h5 : ¬ (ys.length : Int) ≤ 1000 := by omega
                  simp [f_parts_within, ist (k+3) hd, ist (k+3) hb, isT, pw, oL, h1, h2, h3, h4, h5]
              | _ => simp [f_parts_within, ist (k+3) hd, ist (k+3) hb, isT, pw, oL, h1, h2, h3]
            · simp [f_parts_within, ist (k+3) hd, isT, pw, oL, h1, h2, h3]
      | fn _ => simp [Pl, D.py] at ha
      | ref _ => simp [Pl, D.py] at ha
      | scr _ => simp [Pl, D.py] at ha
      | dct _ => simp [Pl, D.py] at ha
      | _ => simp [f_parts_within, ist (k+3) hd, isT, pw, oL]
    | [a, b, c], hd =>
      obtain ⟨ha, hb⟩ := hd.cons
      obtain ⟨hb, hc⟩ := hb.cons
      obtain ⟨hc, _⟩ := hc.cons
      cases a with
      | str w =>
        by_cases h1 : w = "same"
        · subst h1
          cases h2 : fc u b <;> cases h3 : fc u c <;> simp [f_parts_within, lcLoop, ist (k+3) hd, isT, pw, oL, fcl (k+1) hb, fcl (k+1) hc, h2, h3]
        · simp [f_parts_within, ist (k+3) hd, isT, pw, oL, h1]
      | fn _ => simp [Pl, D.py] at ha
      | ref _ => simp [Pl, D.py] at ha
      | scr _ => simp [Pl, D.py] at ha
      | dct _ => simp [Pl, D.py] at ha
      | _ => simp [f_parts_within, ist (k+3) hd, isT, pw, oL]
    | a :: b :: c :: d :: ys, hd =>
      have e : pw u (.tup (a :: b :: c :: d :: ys)) = none := by
        cases a <;> first | rfl | (simp [pw])
      have h : ¬ (((a :: b :: c :: d :: ys).length : Int) ≤ 3) := by simp only [List.length_cons]; omega
      simp only [List.length_cons] at h
      have hl : isT (.tup (a :: b :: c :: d :: ys)) 2 3 = false := by simp [isT]; omega
      simp [f_parts_within, ist (k+3) hd, hl, e, oL]
  | fn _ => simp [Pl, D.py] at hd
  | ref _ => simp [Pl, D.py] at hd
  | scr _ => simp [Pl, D.py] at hd
  | dct _ => simp [Pl, D.py] at hd
  | _ => simp [f_parts_within, ist (k+3) hd, isT, pw, oL]
end LW

namespace LW
open PySem PL
theorem lc_map {asg : D → Wd → Option EnvD} {tst : EnvD → Wd → R Bool} {elt : EnvD → Wd → R D} {W : Wd} (f : D → D) : ∀ {xs : List D}, (∀ x ∈ xs, ∃ ρ, asg x W = some ρ ∧ tst ρ W = .ok true W ∧ elt ρ W = .ok (f x) W) → lcLoop asg tst elt xs W = .ok (xs.map f) W
  | [], _ => rfl
  | x :: xs, h => by
    obtain ⟨ρ, h1, h2, h3⟩ := h x (by simp)
    have ih := lc_map f (xs := xs) fun y hy => h y (by simp [hy])
    simp [lcLoop, h1, h2, h3, ih]
mutual
def wt (u : List Int) : D → Int → Int
  | .tup (.str w :: rest), deep => if deep < 0 then 5000 else if w = "same" then (match rest with
      | [a, b] => if fc u a = true ∧ fc u b = true then 1 else 5000
      | _ => 5000)
    else match rest with
      | [x] => if w = "not" then 1 + wt u x (deep - 1) else if w = "all" ∨ w = "some" then (match x with
        | .tup xs => 1 + wts u xs (deep - 1)
        | _ => 5000) else 5000
      | _ => 5000
  | _, _ => 5000
def wts (u : List Int) : List D → Int → Int
  | [], _ => 0
  | x :: xs, deep => wt u x deep + wts u xs deep
end
theorem wts_sum (u : List Int) (xs : List D) (deep : Int) : wts u xs deep = (xs.map fun x => wt u x deep).sum := by
  induction xs with
  | nil => simp [wts]
  | cons x xs ih => simp [wts, ih]
theorem wt_bad (u : List Int) (d : D) (deep : Int) (h : ¬ ∃ w rest, d = .tup (.str w :: rest)) : wt u d deep = 5000 := by
  unfold wt
  split
  · exact absurd ⟨_, _, rfl⟩ h
  · rfl
theorem wt_tup (u : List Int) (w : Str) (rest : List D) (deep : Int) : wt u (.tup (.str w :: rest)) deep = if deep < 0 then 5000 else if w = "same" then (match rest with
      | [a, b] => if fc u a = true ∧ fc u b = true then 1 else 5000
      | _ => 5000)
    else match rest with
      | [x] => if w = "not" then 1 + wt u x (deep - 1) else if w = "all" ∨ w = "some" then (match x with
        | .tup xs => 1 + wts u xs (deep - 1)
        | _ => 5000) else 5000
      | _ => 5000 := by
  rw [wt.eq_def]
mutual
theorem wt_pos (u : List Int) : ∀ (d : D) (deep : Int), 1 ≤ wt u d deep
  | .tup (.str w :: [x]), deep => by
    have hx := wt_pos u x (deep - 1)
    rw [wt_tup]
    cases x with
    | tup xs =>
      have := wts_pos u xs (deep - 1)
      dsimp only
      split
      · omega
      · split
        · omega
        · split
          · omega
          · split <;> omega
    | _ =>
      dsimp only
      split
      · omega
      · split
        · omega
        · split
          · omega
          · split <;> omega
  | .tup (.str w :: []), deep => by
    rw [wt_tup]; dsimp only
    split
    · omega
    · split <;> omega
  | .tup (.str w :: a :: b :: []), deep => by
    rw [wt_tup]; dsimp only
    split
    · omega
    · split
      · split <;> omega
      · omega
  | .tup (.str w :: a :: b :: c :: r), deep => by
    rw [wt_tup]; dsimp only
    split
    · omega
    · split <;> omega
  | .tup [], _ => by rw [wt_bad _ _ _ (by simp)]; omega
  | .tup (.non :: _), _ => by rw [wt_bad _ _ _ (by simp)]; omega
  | .tup (.bl _ :: _), _ => by rw [wt_bad _ _ _ (by simp)]; omega
  | .tup (.int _ :: _), _ => by rw [wt_bad _ _ _ (by simp)]; omega
  | .tup (.tup _ :: _), _ => by rw [wt_bad _ _ _ (by simp)]; omega
  | .tup (.lst _ :: _), _ => by rw [wt_bad _ _ _ (by simp)]; omega
  | .tup (.dct _ :: _), _ => by rw [wt_bad _ _ _ (by simp)]; omega
  | .tup (.fn _ :: _), _ => by rw [wt_bad _ _ _ (by simp)]; omega
  | .tup (.ref _ :: _), _ => by rw [wt_bad _ _ _ (by simp)]; omega
  | .tup (.scr _ :: _), _ => by rw [wt_bad _ _ _ (by simp)]; omega
  | .non, _ => by rw [wt_bad _ _ _ (by simp)]; omega
  | .bl _, _ => by rw [wt_bad _ _ _ (by simp)]; omega
  | .int _, _ => by rw [wt_bad _ _ _ (by simp)]; omega
  | .str _, _ => by rw [wt_bad _ _ _ (by simp)]; omega
  | .lst _, _ => by rw [wt_bad _ _ _ (by simp)]; omega
  | .dct _, _ => by rw [wt_bad _ _ _ (by simp)]; omega
  | .fn _, _ => by rw [wt_bad _ _ _ (by simp)]; omega
  | .ref _, _ => by rw [wt_bad _ _ _ (by simp)]; omega
  | .scr _, _ => by rw [wt_bad _ _ _ (by simp)]; omega
theorem wts_pos (u : List Int) : ∀ (xs : List D) (deep : Int), (xs.length : Int) ≤ wts u xs deep
  | [], _ => by simp [wts]
  | x :: xs, deep => by
    have h1 := wt_pos u x deep
    have h2 := wts_pos u xs deep
    simp [wts]; omega
end
/-- a node's weight by its parts -/
theorem wt_pw (u : List Int) (d : D) (deep : Int) (hd : 0 ≤ deep) : (∃ xs, pw u d = some xs ∧ wt u d deep = 1 + wts u xs (deep - 1)) ∨ (pw u d = none ∧ 1001 ≤ wt u d deep) := by
  by_cases hs : ∃ w rest, d = .tup (.str w :: rest)
  · obtain ⟨w, rest, rfl⟩ := hs
    have hn : ¬ deep < 0 := by omega
    by_cases h1 : w = "same"
    · subst h1
      match rest with
      | [a, b] =>
        by_cases h2 : fc u a = true ∧ fc u b = true
        · left; exact ⟨[], by simp [pw, h2], by simp [wt_tup, hn, h2, wts]⟩
        · right; simp [pw, wt_tup, hn, h2]
      | [] => right; simp [pw, wt_tup, hn]
      | [a] => right; simp [pw, wt_tup, hn]
      | a :: b :: c :: r => right; simp [pw, wt_tup, hn]
    · match rest with
      | [x] =>
        by_cases h2 : w = "not"
        · subst h2
          left; exact ⟨[x], by simp [pw, h1], by simp [wt_tup, hn, h1, wts]⟩
        · by_cases h3 : w = "all" ∨ w = "some"
          · cases x with
            | tup xs =>
              by_cases h4 : xs.length ≤ 1000
              · left; exact ⟨xs, by simp [pw, h1, h2, h3, h4], by simp [wt_tup, hn, h1, h2, h3]⟩
              · right
                have := wts_pos u xs (deep - 1)
                refine ⟨by simp [pw, h1, h2, h3, h4], ?_⟩
                simp [wt_tup, hn, h1, h2, h3]; omega
            | _ => right; simp [pw, wt_tup, hn, h1, h2, h3]
          · right; simp [pw, wt_tup, hn, h1, h2, h3]
      | [] => right; simp [pw, wt_tup, hn, h1]
      | a :: b :: r => right; simp [pw, wt_tup, hn, h1]
  · right
    have e1 : pw u d = none := by
      unfold pw
      split
      · exact absurd ⟨_, _, rfl⟩ hs
      · rfl
    have e2 : wt u d deep = 5000 := wt_bad u d deep hs
    exact ⟨e1, by omega⟩
theorem wt_deep (u : List Int) (d : D) (deep : Int) (hd : deep < 0) : wt u d deep = 5000 := by
  by_cases hs : ∃ w rest, d = .tup (.str w :: rest)
  · obtain ⟨w, rest, rfl⟩ := hs
    rw [wt_tup, if_pos hd]
  · exact wt_bad u d deep hs
theorem pw_len (u : List Int) (d : D) {xs : List D} (h : pw u d = some xs) : xs.length ≤ 1000 := by
  unfold pw at h
  split at h
  · split at h
    · split at h
      · split at h
        · cases h; simp
        · cases h
      · cases h
    · split at h
      · split at h
        · cases h; simp
        · split at h
          · split at h
            · split at h
              · cases h; assumption
              · cases h
            · cases h
          · cases h
      · cases h
  · cases h
theorem Pl.mem {xs : List D} (h : Pl (.tup xs)) {x : D} (hx : x ∈ xs) : Pl x := by
  induction xs with
  | nil => cases hx
  | cons a xs ih =>
    obtain ⟨h1, h2⟩ := h.cons
    rcases List.mem_cons.mp hx with rfl | hx
    · exact h1
    · exact ih h2 hx
theorem Pl.all {xs : List D} (h : ∀ x ∈ xs, Pl x) : ∃ ps, D.pys xs = some ps := by
  induction xs with
  | nil => exact ⟨[], rfl⟩
  | cons a xs ih =>
    obtain ⟨ps, e⟩ := ih fun x hx => h x (by simp [hx])
    have ha := h a (by simp)
    unfold Pl at ha
    obtain ⟨p, ep⟩ := Option.isSome_iff_exists.mp ha
    exact ⟨p :: ps, by simp [D.pys, ep, e]⟩
theorem pw_pl (u : List Int) {d : D} (hd : Pl d) {xs : List D} (h : pw u d = some xs) : ∀ x ∈ xs, Pl x := by
  unfold pw at h
  split at h
  · rename_i w rest
    obtain ⟨_, hr⟩ := hd.cons
    split at h
    · split at h
      · split at h
        · cases h; simp
        · cases h
      · cases h
    · split at h
      · rename_i x _
        have hx := hr.cons.1
        split at h
        · cases h; simpa using hx
        · split at h
          · split at h
            · split at h
              · cases h; exact fun y hy => hx.mem hy
              · cases h
            · cases h
          · cases h
      · cases h
  · cases h
/-- the line of parts -/
def lineD (l : List (D × Int)) : List D := l.map fun p => .tup [p.1, .int p.2]
def lineW (u : List Int) (l : List (D × Int)) : Int := (l.map fun p => wt u p.1 (12 - p.2)).sum
theorem line_py {l : List (D × Int)} (h : ∀ p ∈ l, Pl p.1) : ∃ ps, D.pys (lineD l) = some ps := by
  refine Pl.all fun x hx => ?_
  obtain ⟨p, hp, rfl⟩ := List.mem_map.mp hx
  have := h p hp
  unfold Pl at *
  obtain ⟨q, e⟩ := Option.isSome_iff_exists.mp this
  simp [D.py, D.pys, e]
theorem ne_nil (W : Wd) {xs : List D} (h : ∃ ps, D.pys xs = some ps) : dEq W (.lst xs) (.lst []) = some xs.isEmpty := by
  obtain ⟨ps, e⟩ := h
  have hm : min (PyData.list ps).depth (PyData.list []).depth ≤ 100 := Nat.le_trans (Nat.min_le_right _ _) (by simp [PyData.depth, PyData.depthAll])
  unfold dEq
  simp only [pyW, D.py, e, D.pys, Option.map_some]
  rw [if_pos hm]
  cases xs with
  | nil => simp [D.pys] at e; subst e; rfl
  | cons a xs =>
    cases ps with
    | nil =>
      simp only [D.pys] at e
      cases h1 : D.py a <;> rw [h1] at e <;> simp at e
    | cons p ps => rfl
end LW

namespace LW
open PySem PL
def lpC : C := .cmp .NotEq (.var 2) (.lst (.nil))
def lpB : Ss := .cons (.asg (.tp [.tp [.nm 5, .nm 6], .nm 2, .nm 3]) (.tup (.cons (.ix (.var 2) (.cst (.int (0)))) (.cons (.sl (.var 2) (.yes (.cst (.int (1)))) (.no)) (.cons (.bin .Add (.var 3) (.cst (.int (1)))) .nil))))) (.cons (.asg (.nm 4) (.call ("parts_within" : Str) (.cons (.var 0) (.cons (.var 5) .nil)))) (.cons (.ife (.or (.cons (.cmp .Is (.var 4) (.cst .non)) (.cons (.cmp .Gt (.var 6) (.glo ("DEEPEST" : Str) (.int (12)))) (.cons (.cmp .Gt (.var 3) (.glo ("PARTS" : Str) (.int (1000)))) .nil)))) (.cons (.ret (.cst (.bl false))) .nil) (.nil)) (.cons (.asg (.nm 2) (.bin .Add (.lc [(("one" : Str), 7)] (.nm 7) (.seq (.var 4)) (.nil) (.tup (.cons (.var 7) (.cons (.bin .Add (.var 6) (.cst (.int (1)))) .nil)))) (.var 2))) .nil)))
theorem cut1l (W : Wd) (a : D) (xs : List D) : dSl W (.lst (a :: xs)) (some 1) none = some (.lst xs) := by
  simp [dSl, cutD, HT.sIx]
/-- one turn -/
theorem body_bad (k : Nat) (u : List Int) (v : D) (p : D) (dep : Int) (r : List D) (many : Int) (w4 w5 w6 w7 : Option D) (W : Wd) (hp : Pl p) (hb : pw u p = none ∨ 12 < dep ∨ 1000 < many + 1) :
    runSs (callK prg (k + 5)) lpB [some (.tup (u.map .int)), some v, some (.lst (.tup [p, .int dep] :: r)), some (.int many), w4, w5, w6, w7] W = .rt (.bl false) W := by
  unfold lpB
  rcases hb with hb | hb
  · simp [cut1l, pwl k u hp, hb, oL]
  · cases q : pw u p with
    | none => simp [cut1l, pwl k u hp, q, oL]
    | some xs =>
      by_cases h1 : 12 < dep
      · simp [cut1l, pwl k u hp, q, oL, h1]
      · have h2 : 1000 < many + 1 := by omega
        simp [cut1l, pwl k u hp, q, oL, h1, h2]
theorem body_ok (k : Nat) (u : List Int) (v : D) (p : D) (dep : Int) (r : List D) (many : Int) (w4 w5 w6 w7 : Option D) (W : Wd) (hp : Pl p) {xs : List D} (hb : pw u p = some xs) (h1 : dep ≤ 12) (h2 : many + 1 ≤ 1000) (hl : xs.length + r.length ≤ 16777216) :
    runSs (callK prg (k + 5)) lpB [some (.tup (u.map .int)), some v, some (.lst (.tup [p, .int dep] :: r)), some (.int many), w4, w5, w6, w7] W =
      .nx [some (.tup (u.map .int)), some v, some (.lst ((xs.map fun x => .tup [x, .int (dep + 1)]) ++ r)), some (.int (many + 1)), some (.lst xs), some p, some (.int dep), w7] W := by
  unfold lpB
  have h3 : ¬ 12 < dep := by omega
  have h4 : ¬ 1000 < many + 1 := by omega
  have h5 : xs.length ≤ 16777216 := by omega
  simp [cut1l, pwl k u hp, hb, oL, h3, h4]
  rw [lc_map (fun x => .tup [x, .int (dep + 1)])]
  · simp [h5, hl]
  · intro x hx
    exact ⟨_, rfl, rfl, rfl⟩
theorem line_step (u : List Int) (p : D) (dep : Int) (r : List (D × Int)) {xs : List D} (h1 : dep ≤ 12) (hb : pw u p = some xs) :
    lineW u ((xs.map fun x => (x, dep + 1)) ++ r) + 1 = lineW u ((p, dep) :: r) := by
  rcases wt_pw u p (12 - dep) (by omega) with ⟨ys, e1, e2⟩ | ⟨e1, _⟩
  · rw [hb] at e1; cases e1
    simp only [lineW, List.map_append, List.map_map, List.map_cons, List.sum_append, List.sum_cons, e2, wts_sum]
    have : (List.map ((fun p => wt u p.1 (12 - p.2)) ∘ fun x => (x, dep + 1)) xs) = xs.map fun x => wt u x (12 - dep - 1) := by
      apply List.map_congr_left
      intro x _
      show wt u x (12 - (dep + 1)) = _
      congr 1; omega
    rw [this]; omega
  · rw [hb] at e1; cases e1
theorem lineW_nn (u : List Int) (l : List (D × Int)) : 0 ≤ lineW u l := by
  induction l with
  | nil => simp [lineW]
  | cons p l ih =>
    have := wt_pos u p.1 (12 - p.2)
    simp only [lineW, List.map_cons, List.sum_cons] at ih ⊢
    omega
theorem loop (k : Nat) (u : List Int) (v : D) (W : Wd) : ∀ (n : Nat) (l : List (D × Int)) (many : Int) (w4 w5 w6 w7 : Option D), (∀ p ∈ l, Pl p.1) → 0 ≤ many → many ≤ 1000 → (l.length : Int) ≤ 1000 * many + 1 → 1001 - many < n →
    ∃ ρ, whlLoop (fun ρ W => truR (PL.run (callK prg (k + 5)) lpC ρ W)) (runSs (callK prg (k + 5)) lpB) n [some (.tup (u.map .int)), some v, some (.lst (lineD l)), some (.int many), w4, w5, w6, w7] W =
      if many + lineW u l ≤ 1000 then .nx ρ W else .rt (.bl false) W := by
  intro n
  induction n with
  | zero => intro l many w4 w5 w6 w7 hl h0 h1 h2 h3; omega
  | succ n ih =>
    intro l many w4 w5 w6 w7 hl h0 h1 h2 h3
    have hc : truR (PL.run (callK prg (k + 5)) lpC [some (.tup (u.map .int)), some v, some (.lst (lineD l)), some (.int many), w4, w5, w6, w7] W) = .ok (!l.isEmpty) W := by
      have := ne_nil W (line_py hl)
      simp [lpC, this]
      cases l <;> rfl
    unfold whlLoop
    simp only [hc, R.thnS]
    cases l with
    | nil =>
      have : many + lineW u [] ≤ 1000 := by simp [lineW]; omega
      exact ⟨_, (if_pos this).symm⟩
    | cons q r =>
      obtain ⟨p, dep⟩ := q
      have hp : Pl p := hl (p, dep) (by simp)
      have hr : ∀ q ∈ r, Pl q.1 := fun q hq => hl q (by simp [hq])
      have hpos := wt_pos u p (12 - dep)
      have hnn := lineW_nn u r
      have e0 : lineW u ((p, dep) :: r) = wt u p (12 - dep) + lineW u r := by simp [lineW]
      simp only [List.isEmpty_cons, Bool.not_false, if_pos]
      have ed : lineD ((p, dep) :: r) = .tup [p, .int dep] :: lineD r := rfl
      rw [ed]
      by_cases hb : pw u p = none ∨ 12 < dep ∨ 1000 < many + 1
      · rw [body_bad k u v p dep (lineD r) many w4 w5 w6 w7 W hp hb]
        refine ⟨[], ?_⟩
        have : ¬ (many + lineW u ((p, dep) :: r) ≤ 1000) := by
          rw [e0]
          by_cases h12 : 12 < dep
          · have := wt_deep u p (12 - dep) (by omega); omega
          · rcases hb with hb | hb | hb
            · rcases wt_pw u p (12 - dep) (by omega) with ⟨xs, e1, _⟩ | ⟨_, e2⟩
              · rw [hb] at e1; cases e1
              · omega
            · omega
            · omega
        rw [if_neg this]
        rfl
      · simp only [not_or] at hb
        obtain ⟨b1, b2, b3⟩ := hb
        cases q : pw u p with
        | none => exact absurd q b1
        | some xs =>
          have hx := pw_len u p q
          have hlen : xs.length + (lineD r).length ≤ 16777216 := by
            have : (lineD r).length = r.length := by simp [lineD]
            simp only [List.length_cons] at h2
            omega
          rw [body_ok k u v p dep (lineD r) many w4 w5 w6 w7 W hp q (by omega) (by omega) hlen]
          have el : (xs.map fun x => .tup [x, .int (dep + 1)]) ++ lineD r = lineD ((xs.map fun x => (x, dep + 1)) ++ r) := by
            simp [lineD]
          rw [el]
          simp only [SR.thn]
          obtain ⟨ρ, e⟩ := ih ((xs.map fun x => (x, dep + 1)) ++ r) (many + 1) (some (.lst xs)) (some p) (some (.int dep)) w7 (fun q hq => by
            rcases List.mem_append.mp hq with hq | hq
            · obtain ⟨x, hx, rfl⟩ := List.mem_map.mp hq
              exact pw_pl u hp (by assumption) x hx
            · exact hr q hq) (by omega) (by omega) (by simp only [List.length_append, List.length_map, List.length_cons] at h2 ⊢; omega) (by omega)
          refine ⟨ρ, e.trans ?_⟩
          have es := line_step u p dep r (by omega) q
          have : many + 1 + lineW u ((xs.map fun x => (x, dep + 1)) ++ r) = many + lineW u ((p, dep) :: r) := by omega
          rw [this]
theorem fcd (k : Nat) (u : List Int) {d : D} (hd : Pl d) (W : Wd) : callK prg (k + 6) "fits_condition" [.tup (u.map .int), d] W = .ok (.bl (decide (wt u d 12 ≤ 1000))) W := by
  rw [c_fits_condition]
  obtain ⟨ρ, e⟩ := loop k u d W 1000000000 [(d, 0)] 0 none none none none (by simpa using hd) (by omega) (by omega) (by simp) (by omega)
  have e2 : lineW u [(d, 0)] = wt u d 12 := by simp [lineW]
  rw [e2] at e
  have e3 : lineD [(d, 0)] = [.tup [d, .int 0]] := rfl
  rw [e3] at e
  simp only [Int.zero_add] at e
  have hf : f_fits_condition = ⟨2, 8, false, .cons (.asg (.tp [.nm 2, .nm 3]) (.tup (.cons (.lst (.cons (.tup (.cons (.var 1) (.cons (.cst (.int (0))) .nil))) .nil)) (.cons (.cst (.int (0))) .nil)))) (.cons (.whl lpC lpB) (.cons (.ret (.cst (.bl true))) .nil))⟩ := rfl
  rw [hf]
  have e' : runS (callK prg (k + 5)) (.whl lpC lpB) [some (.tup (u.map .int)), some d, some (.lst [.tup [d, .int 0]]), some (.int 0), none, none, none, none] W = if wt u d 12 ≤ 1000 then .nx ρ W else .rt (.bl false) W := e
  clear e hf
  generalize S.whl lpC lpB = sw at e' ⊢
  by_cases h : wt u d 12 ≤ 1000
  · rw [if_pos h] at e'
    simp [e', h]
  · rw [if_neg h] at e'
    simp [e', h]
end LW

namespace LW
open PySem PL
theorem num (k : Nat) {d : D} (hd : Pl d) (lo hi : Int) (W : Wd) : callK prg (k + 1) "_law_number" [d, .int lo, .int hi] W = .ok (.bl (isW d lo hi)) W := by
  rw [c__law_number]
  cases d with
  | int i =>
    by_cases h : lo ≤ i <;> simp [f__law_number, isW, h]
  | fn _ => simp [Pl, D.py] at hd
  | ref _ => simp [Pl, D.py] at hd
  | scr _ => simp [Pl, D.py] at hd
  | dct _ => simp [Pl, D.py] at hd
  | _ => simp [f__law_number, isW]
theorem icl (k : Nat) {d : D} (hd : Pl d) (u : List Int) (W : Wd) : callK prg (k + 3) "_law_is_cell" [.tup (u.map .int), d] W = .ok (.bl (fc u d)) W := by
  rw [c__law_is_cell]
  cases h1 : isW d 0 1000000
  · cases h2 : isW d (-6) (-1)
    · simp [f__law_is_cell, num (k+1) hd, h1, h2, fc]
    · cases d with
      | int i => simp [f__law_is_cell, num (k+1) hd, h1, h2, fc, in_ints, inL]
      | _ => simp [isW] at h2
  · simp [f__law_is_cell, num (k+1) hd, h1, fc]
theorem eq_tnil (W : Wd) {xs : List D} (h : Pl (.tup xs)) : dEq W (.tup xs) (.tup []) = some xs.isEmpty := by
  obtain ⟨ps, e⟩ : ∃ ps, D.pys xs = some ps := by
    unfold Pl at h
    simp only [D.py] at h
    cases e : D.pys xs with
    | none => rw [e] at h; simp at h
    | some ps => exact ⟨ps, rfl⟩
  have hm : min (PyData.tuple ps).depth (PyData.tuple []).depth ≤ 100 := Nat.le_trans (Nat.min_le_right _ _) (by simp [PyData.depth, PyData.depthAll])
  unfold dEq
  simp only [pyW, D.py, e, D.pys, Option.map_some]
  rw [if_pos hm]
  cases xs with
  | nil => simp [D.pys] at e; subst e; rfl
  | cons a xs =>
    cases ps with
    | nil =>
      simp only [D.pys] at e
      cases h1 : D.py a <;> rw [h1] at e <;> simp at e
    | cons p ps => rfl
@[simp] theorem in_nas (W : Wd) (w : Str) : dIn W (.str w) (.tup [.str "not", .str "all", .str "some"]) = some (decide (w = "not") || (decide (w = "all") || decide (w = "some"))) := by
  have := in_strs W w ["not", "all", "some"]
  simpa using this
@[simp] theorem ix1 (W : Wd) (a b : D) (xs : List D) : dIx W (.tup (a :: b :: xs)) (.int 1) = some b := by
  have : (1 : Int) < (xs.length : Int) + 1 + 1 := by omega
  simp [dIx, L2.atI, L2.ixN, this]
@[simp] theorem ix2 (W : Wd) (a b c : D) (xs : List D) : dIx W (.tup (a :: b :: c :: xs)) (.int 2) = some c := by
  have : (2 : Int) < (xs.length : Int) + 1 + 1 + 1 := by omega
  simp [dIx, L2.atI, L2.ixN, this]
theorem nums_map (f : D → Int) (xs : List D) : PL.nums (xs.map fun x => .int (f x)) = some (xs.map f) := by
  induction xs with
  | nil => rfl
  | cons x xs ih => simp [PL.nums, ih]
end LW

namespace LW
open PySem PL
/-- the world: a cup alone -/
def Cup (W : Wd) : Prop := ∃ a b : Int, W = [[.int a, .int b]]
theorem roll (k : Nat) {W : Wd} (hW : Cup W) {m : Int} (h1 : 0 < m) (h2 : m < 1073741824) : ∃ (r : Int) (W' : Wd), callK prg (k + 1) "_law_roll" [.ref 0, .int m] W = .ok (.int r) W' ∧ Cup W' ∧ 0 ≤ r ∧ r < m := by
  obtain ⟨a, b, rfl⟩ := hW
  by_cases h : 0 < a
  · refine ⟨a % m, [[.int (a / m), .int b]], ?_, ⟨_, _, rfl⟩, Int.emod_nonneg _ (by omega), Int.emod_lt_of_pos _ h1⟩
    rw [c__law_roll]
    simp [f__law_roll, dIx, L2.atI, L2.ixN, h, h1, h2]
  · have hb : 0 ≤ (b * 30983 + 7933) % 2147483563 ∧ (b * 30983 + 7933) % 2147483563 < 2147483563 := ⟨Int.emod_nonneg _ (by omega), Int.emod_lt_of_pos _ (by omega)⟩
    refine ⟨((b * 30983 + 7933) % 2147483563 * ((b * 30983 + 7933) % 2147483563 + 197)) % 2147483587 / 773 % m, [[.int a, .int ((b * 30983 + 7933) % 2147483563)]], ?_, ⟨_, _, rfl⟩, Int.emod_nonneg _ (by omega), Int.emod_lt_of_pos _ h1⟩
    have hm : ((b * 30983 + 7933) % 2147483563).natAbs < 2 ^ 64 := by omega
    have hm' : ((b * 30983 + 7933) % 2147483563).natAbs < 18446744073709551616 := by omega
    rw [c__law_roll]
    generalize hb' : (b * 30983 + 7933) % 2147483563 = b' at *
    simp [f__law_roll, dIx, L2.atI, L2.ixN, h, h1, h2, hb', hm']
theorem ix_at (W : Wd) (xs : List D) (r : Int) (h0 : 0 ≤ r) (h1 : r < xs.length) : ∃ x, dIx W (.lst xs) (.int r) = some x ∧ x ∈ xs := by
  have hl : r.toNat < xs.length := by omega
  refine ⟨xs[r.toNat], ?_, List.getElem_mem hl⟩
  simp [dIx, L2.atI, L2.ixN, h0, h1, hl]
theorem some_of (k : Nat) {W : Wd} (hW : Cup W) {xs : List D} (h1 : xs ≠ []) (h2 : xs.length < 1073741824) : ∃ (x : D) (W' : Wd), callK prg (k + 2) "_law_some" [.ref 0, .lst xs] W = .ok x W' ∧ Cup W' ∧ x ∈ xs := by
  have hp : 0 < xs.length := List.length_pos_iff.mpr h1
  obtain ⟨r, W', e, c, g1, g2⟩ := roll k hW (m := xs.length) (by omega) (by omega)
  obtain ⟨x, ex, hm⟩ := ix_at W' xs r g1 g2
  refine ⟨x, W', ?_, c, hm⟩
  rw [c__law_some]
  obtain ⟨a, b, rfl⟩ := hW
  obtain ⟨a', b', rfl⟩ := c
  simp [f__law_some, e, ex]
theorem cup (k : Nat) (ns : List Int) (h : ns.length ≤ 63) : ∃ W, callK prg (k + 1) "_law_cup" [.scr ns] [] = .ok (.ref 0) W ∧ Cup W := by
  rw [c__law_cup]
  have hl : ns.length + 1 ≤ 16777216 := by omega
  have h0 : (0 : Int) < (ns.length : Int) + 1 := by omega
  cases ns with
  | nil =>
    refine ⟨[[.int 0, .int 2248]], ?_, ⟨_, _, rfl⟩⟩
    simp [f__law_cup, dIx, L2.atI, L2.ixN, dGe]
  | cons n ns =>
    refine ⟨[[.int (if (10 : Int) ^ 18 ≤ (if n < 0 then -n else n) then (if n < 0 then -n else n) / 43 else 0), .int (((if n < 0 then -n else n) * 251 + 2111) % 2077503307 + 137)]], ?_, ⟨_, _, rfl⟩⟩
    simp only [List.length_cons] at hl h0
    generalize hc : (if n < 0 then -n else n) = c
    by_cases hb : (10 : Int) ^ 18 ≤ c
    · have hb' : (1000000000000000000 : Int) ≤ c := by simpa using hb
      simp [f__law_cup, dIx, L2.atI, L2.ixN, hl, h0, hc, hb', dGe]
    · have hb' : ¬ (1000000000000000000 : Int) ≤ c := by simpa using hb
      simp [f__law_cup, dIx, L2.atI, L2.ixN, hl, h0, hc, hb', dGe]
end LW

namespace LW
open PySem PL
def cellsOf (u : List Int) : List Int := [1, 2, 3] ++ u
theorem na5 : ¬ (("some" : Str) = "all") := by decide +kernel
theorem any_cell (k : Nat) (u : List Int) (hu : u.length ≤ 6) {W : Wd} (hW : Cup W) : ∃ (x : Int) (W' : Wd), callK prg (k + 3) "_law_any_cell" [.ref 0, .tup (u.map .int)] W = .ok (.int x) W' ∧ Cup W' ∧ x ∈ cellsOf u := by
  have hl : 3 + (u.length + u.length) ≤ 16777216 := by omega
  have hl2 : u.length * 2 ≤ 16777216 := by omega
  obtain ⟨x, W', e, c, hm⟩ := some_of k hW (xs := .int 1 :: .int 2 :: .int 3 :: (u.map .int ++ u.map .int)) (by simp) (by simp; omega)
  have hx : ∃ n : Int, x = .int n ∧ n ∈ cellsOf u := by
    simp only [List.mem_cons, List.mem_append, List.mem_map] at hm
    unfold cellsOf
    rcases hm with rfl | rfl | rfl | ⟨n, hn, rfl⟩ | ⟨n, hn, rfl⟩
    · exact ⟨1, rfl, by simp⟩
    · exact ⟨2, rfl, by simp⟩
    · exact ⟨3, rfl, by simp⟩
    · exact ⟨n, rfl, by simp [hn]⟩
    · exact ⟨n, rfl, by simp [hn]⟩
  obtain ⟨n, rfl, hn⟩ := hx
  refine ⟨n, W', ?_, c, hn⟩
  rw [c__law_any_cell]
  obtain ⟨a, b, rfl⟩ := hW
  obtain ⟨a', b', rfl⟩ := c
  have er : (List.replicate 2 (u.map D.int)).flatten = u.map .int ++ u.map .int := by simp [List.replicate]
  simp [f__law_any_cell, hl, hl2, er, e]
/-- conditions -/
inductive Cnd where
  | same (a b : Int)
  | no (c : Cnd)
  | all (cs : List Cnd)
  | some (cs : List Cnd)
mutual
def Cnd.d : Cnd → D
  | .same a b => .tup [.str "same", .int a, .int b]
  | .no c => .tup [.str "not", c.d]
  | .all cs => .tup [.str "all", .tup (Cnd.ds cs)]
  | .some cs => .tup [.str "some", .tup (Cnd.ds cs)]
def Cnd.ds : List Cnd → List D
  | [] => []
  | c :: cs => c.d :: Cnd.ds cs
end
theorem ds_map (cs : List Cnd) : Cnd.ds cs = cs.map Cnd.d := by
  induction cs with
  | nil => rfl
  | cons c cs ih => simp [Cnd.ds, ih]
def Good (u : List Int) : Nat → Cnd → Prop
  | _, .same a b => a ∈ cellsOf u ∧ b ∈ cellsOf u
  | n + 1, .no c => Good u n c
  | n + 1, .all cs => cs.length ≤ 3 ∧ ∀ c ∈ cs, Good u n c
  | n + 1, .some cs => cs.length ≤ 3 ∧ ∀ c ∈ cs, Good u n c
  | 0, .no _ => False
  | 0, .all _ => False
  | 0, .some _ => False
theorem lc_ex {asg : D → Wd → Option EnvD} {tst : EnvD → Wd → R Bool} {elt : EnvD → Wd → R D} (P : D → Prop) : ∀ {xs : List D} {W : Wd}, Cup W → (∀ x ∈ xs, ∀ W, Cup W → ∃ ρ y W', asg x W = some ρ ∧ tst ρ W = .ok true W ∧ elt ρ W = .ok y W' ∧ Cup W' ∧ P y) →
    ∃ ys W', lcLoop asg tst elt xs W = .ok ys W' ∧ Cup W' ∧ ys.length = xs.length ∧ ∀ y ∈ ys, P y
  | [], W, hW, _ => ⟨[], W, rfl, hW, rfl, by simp⟩
  | x :: xs, W, hW, h => by
    obtain ⟨ρ, y, W1, h1, h2, h3, h4, h5⟩ := h x (by simp) W hW
    obtain ⟨ys, W2, g1, g2, g3, g4⟩ := lc_ex P (xs := xs) h4 fun z hz => h z (by simp [hz])
    refine ⟨y :: ys, W2, by simp [lcLoop, h1, h2, h3, g1], g2, by simp [g3], fun z hz => ?_⟩
    rcases List.mem_cons.mp hz with rfl | hz
    · exact h5
    · exact g4 z hz
theorem map_of {ys : List D} {P : Cnd → Prop} (h : ∀ y ∈ ys, ∃ c : Cnd, y = c.d ∧ P c) : ∃ cs : List Cnd, ys = cs.map Cnd.d ∧ ∀ c ∈ cs, P c := by
  induction ys with
  | nil => exact ⟨[], rfl, by simp⟩
  | cons y ys ih =>
    obtain ⟨c, rfl, hc⟩ := h y (by simp)
    obtain ⟨cs, rfl, hcs⟩ := ih fun z hz => h z (by simp [hz])
    refine ⟨c :: cs, rfl, fun z hz => ?_⟩
    rcases List.mem_cons.mp hz with rfl | hz
    · exact hc
    · exact hcs z hz
theorem rng_ok (r : Int) (h0 : 0 ≤ r) (h1 : r < 1000) : dRange 0 r = some ((List.range r.toNat).map fun (i : Nat) => .int ((i : Int))) := by
  unfold dRange
  rw [if_pos (by omega)]
  simp
theorem run_lc (Δ : Tab) (own : List (Str × Nat)) (t : T) (w : I) (ifs : Cs) (e : C) (ρ : EnvD) (W : Wd) : PL.run Δ (.lc own t w ifs e) ρ W = (runI Δ w ρ W).bnd fun ds W => (lcLoop (fun d W => t.put W d (wipeD ρ (own.map (·.2)))) (runT Δ ifs) (PL.run Δ e) ds W).bndX fun ys W => if ys.length ≤ 16777216 then .ok (.lst ys) W else .bad := rfl
def cnE : C := .call ("_law_condition" : Str) (.cons (.var 0) (.cons (.var 1) (.cons (.bin .Sub (.var 2) (.cst (.int (1)))) .nil)))
def cnL : C := .lc [(("part" : Str), 4)] (.nm 4) (.rng1 (.call ("_law_roll" : Str) (.cons (.var 0) (.cons (.cst (.int (4))) .nil)))) (.nil) cnE
theorem cond_f : f__law_condition = ⟨3, 5, false, .cons (.asg (.nm 3) (.call ("_law_roll" : Str) (.cons (.var 0) (.cons (.cst (.int (6))) .nil)))) (.cons (.ife (.or (.cons (.cmp .Eq (.var 2) (.cst (.int (0)))) (.cons (.cmp .Lt (.var 3) (.cst (.int (2)))) .nil))) (.cons (.ret (.tup (.cons (.cst (.str ("same" : Str))) (.cons (.call ("_law_any_cell" : Str) (.cons (.var 0) (.cons (.var 1) .nil))) (.cons (.call ("_law_any_cell" : Str) (.cons (.var 0) (.cons (.var 1) .nil))) .nil))))) .nil) (.nil)) (.cons (.ife (.cmp .Eq (.var 3) (.cst (.int (2)))) (.cons (.ret (.tup (.cons (.cst (.str ("not" : Str))) (.cons (.call ("_law_condition" : Str) (.cons (.var 0) (.cons (.var 1) (.cons (.bin .Sub (.var 2) (.cst (.int (1)))) .nil)))) .nil)))) .nil) (.nil)) (.cons (.ret (.tup (.cons (.call ("_law_some" : Str) (.cons (.var 0) (.cons (.lst (.cons (.cst (.str ("all" : Str))) (.cons (.cst (.str ("some" : Str))) .nil))) .nil))) (.cons (.bi ("tuple" : Str) (.cons cnL .nil)) .nil)))) .nil)))⟩ := rfl
theorem condition (u : List Int) (hu : u.length ≤ 6) (k : Nat) : ∀ (n : Nat) {W : Wd}, Cup W → ∃ (c : Cnd) (W' : Wd), callK prg (k + 4 + n) "_law_condition" [.ref 0, .tup (u.map .int), .int n] W = .ok c.d W' ∧ Cup W' ∧ Good u n c := by
  intro n
  induction n with
  | zero =>
    intro W hW
    obtain ⟨r, W1, e1, c1, _, _⟩ := roll (k + 2) hW (m := 6) (by omega) (by omega)
    obtain ⟨x, W2, e2, c2, hx⟩ := any_cell k u hu c1
    obtain ⟨y, W3, e3, c3, hy⟩ := any_cell k u hu c2
    refine ⟨.same x y, W3, ?_, c3, hx, hy⟩
    rw [show k + 4 + 0 = (k + 3) + 1 from rfl, c__law_condition]
    obtain ⟨_, _, rfl⟩ := hW
    obtain ⟨_, _, rfl⟩ := c1
    obtain ⟨_, _, rfl⟩ := c2
    obtain ⟨_, _, rfl⟩ := c3
    simp [f__law_condition, e1, e2, e3, Cnd.d]
  | succ n ih =>
    intro W hW
    obtain ⟨r, W1, e1, c1, r0, r6⟩ := roll (k + n + 3) hW (m := 6) (by omega) (by omega)
    rw [show k + 4 + (n + 1) = (k + n + 4) + 1 by omega, c__law_condition]
    have ih' : ∀ {W : Wd}, Cup W → ∃ (c : Cnd) (W' : Wd), callK prg (k + n + 4) "_law_condition" [.ref 0, .tup (u.map .int), .int n] W = .ok c.d W' ∧ Cup W' ∧ Good u n c := fun {W} h => by
      have := ih h
      rwa [show k + 4 + n = k + n + 4 by omega] at this
    have hn : ¬ ((n : Int) + 1 = 0) := by omega
    have hn1 : (n : Int) + 1 - 1 = n := by omega
    by_cases h2 : r < 2
    · obtain ⟨x, W2, e2, c2, hx⟩ := any_cell (k + n + 1) u hu c1
      obtain ⟨y, W3, e3, c3, hy⟩ := any_cell (k + n + 1) u hu c2
      refine ⟨.same x y, W3, ?_, c3, hx, hy⟩
      obtain ⟨_, _, rfl⟩ := hW
      obtain ⟨_, _, rfl⟩ := c1
      obtain ⟨_, _, rfl⟩ := c2
      obtain ⟨_, _, rfl⟩ := c3
      simp [f__law_condition, e1, e2, e3, Cnd.d, hn, h2]
    · by_cases h3 : r = 2
      · obtain ⟨c, W2, e2, c2, hc⟩ := ih' c1
        refine ⟨.no c, W2, ?_, c2, hc⟩
        obtain ⟨_, _, rfl⟩ := hW
        obtain ⟨_, _, rfl⟩ := c1
        obtain ⟨_, _, rfl⟩ := c2
        subst h3
        simp [f__law_condition, e1, e2, Cnd.d, hn, hn1]
      · obtain ⟨w, W2, e2, c2, hw⟩ := some_of (k + n + 2) c1 (xs := [.str "all", .str "some"]) (by simp) (by simp)
        obtain ⟨q, W3, e3, c3, q0, q4⟩ := roll (k + n + 3) c2 (m := 4) (by omega) (by omega)
        obtain ⟨ys, W4, g1, c4, gl, gp⟩ := lc_ex (asg := fun d W => T.put W (.nm 4) d (wipeD [some (.ref 0), some (.tup (u.map .int)), some (.int ((n : Int) + 1)), some (.int r), none] [4])) (tst := runT (callK prg (k + n + 4)) .nil) (elt := PL.run (callK prg (k + n + 4)) cnE)
          (fun y => ∃ c : Cnd, y = c.d ∧ Good u n c) (xs := (List.range q.toNat).map fun (i : Nat) => .int ((i : Int))) c3 (fun x hx W hW => by
            obtain ⟨c, W', e, cW, good⟩ := ih' hW
            exact ⟨_, c.d, W', rfl, rfl, by simp [cnE, hn1, e], cW, c, rfl, good⟩)
        obtain ⟨cs, rfl, hcs⟩ := map_of gp
        have hlen : cs.length ≤ 3 := by simp at gl; omega
        have hI : runI (callK prg (k + n + 4)) (.rng1 (.call ("_law_roll" : Str) (.cons (.var 0) (.cons (.cst (.int (4))) .nil)))) [some (.ref 0), some (.tup (u.map .int)), some (.int ((n : Int) + 1)), some (.int r), none] W2 = .ok ((List.range q.toNat).map fun (i : Nat) => .int ((i : Int))) W3 := by
          simp [e3, rng_ok q q0 (by omega)]
        have hL : PL.run (callK prg (k + n + 4)) cnL [some (.ref 0), some (.tup (u.map .int)), some (.int ((n : Int) + 1)), some (.int r), none] W2 = .ok (.lst (cs.map Cnd.d)) W4 := by
          have hl2 : (cs.map Cnd.d).length ≤ 16777216 := by simp; omega
          unfold cnL
          rw [run_lc, hI]
          show (lcLoop (fun d W => T.put W (.nm 4) d (wipeD [some (.ref 0), some (.tup (u.map .int)), some (.int ((n : Int) + 1)), some (.int r), none] [4])) (runT (callK prg (k + n + 4)) .nil) (PL.run (callK prg (k + n + 4)) cnE) _ W3).bndX _ = _
          rw [g1]
          show (if (cs.map Cnd.d).length ≤ 16777216 then _ else _) = _
          rw [if_pos hl2]
        have hw' : w = .str "all" ∨ w = .str "some" := by simpa using hw
        rcases hw' with rfl | rfl
        · refine ⟨.all cs, W4, ?_, c4, hlen, hcs⟩
          rw [cond_f]
          generalize cnL = cl at hL ⊢
          obtain ⟨_, _, rfl⟩ := hW
          obtain ⟨_, _, rfl⟩ := c1
          obtain ⟨_, _, rfl⟩ := c2
          obtain ⟨_, _, rfl⟩ := c4
          simp [e1, e2, hL, Cnd.d, hn, h2, h3, ds_map]
        · refine ⟨.some cs, W4, ?_, c4, hlen, hcs⟩
          rw [cond_f]
          generalize cnL = cl at hL ⊢
          obtain ⟨_, _, rfl⟩ := hW
          obtain ⟨_, _, rfl⟩ := c1
          obtain ⟨_, _, rfl⟩ := c2
          obtain ⟨_, _, rfl⟩ := c4
          simp [e1, e2, hL, Cnd.d, hn, h2, h3, ds_map]
end LW

namespace LW
open PySem PL
mutual
def sm : D → Bool
  | .tup xs => decide (xs.length ≤ 16777216) && sms xs
  | .lst xs => decide (xs.length ≤ 16777216) && sms xs
  | _ => true
def sms : List D → Bool
  | [] => true
  | x :: xs => sm x && sms xs
end
theorem sms_mem {xs : List D} (h : sms xs = true) {x : D} (hx : x ∈ xs) : sm x = true := by
  induction xs with
  | nil => cases hx
  | cons a xs ih =>
    simp only [sms, Bool.and_eq_true] at h
    rcases List.mem_cons.mp hx with rfl | hx
    · exact h.1
    · exact ih h.2 hx
theorem wt0 (u : List Int) (W : Wd) (k : Nat) (deep : Int) {d : D} (hd : Pl d) (hl : deep < 0) : callK prg (k + 1) "_law_weight" [.tup (u.map .int), d, .int deep] W = .ok (.int 5000) W := by
  rw [c__law_weight]
  cases d with
  | tup xs =>
    cases xs with
    | nil => simp [f__law_weight, eq_tnil W hd]
    | cons a rest =>
      obtain ⟨ha, hr⟩ := hd.cons
      cases a with
      | fn _ => simp [Pl, D.py] at ha
      | ref _ => simp [Pl, D.py] at ha
      | scr _ => simp [Pl, D.py] at ha
      | dct _ => simp [Pl, D.py] at ha
      | _ => simp [f__law_weight, eq_tnil W hd, hl]
  | fn _ => simp [Pl, D.py] at hd
  | ref _ => simp [Pl, D.py] at hd
  | scr _ => simp [Pl, D.py] at hd
  | dct _ => simp [Pl, D.py] at hd
  | _ => simp [f__law_weight]
theorem wt_nostr (u : List Int) (W : Wd) (k : Nat) (deep : Int) {d : D} (hd : Pl d) (h : ¬ ∃ w rest, d = .tup (.str w :: rest)) : callK prg (k + 1) "_law_weight" [.tup (u.map .int), d, .int deep] W = .ok (.int 5000) W := by
  rw [c__law_weight]
  cases d with
  | tup xs =>
    cases xs with
    | nil => simp [f__law_weight, eq_tnil W hd]
    | cons a rest =>
      obtain ⟨ha, hr⟩ := hd.cons
      cases a with
      | fn _ => simp [Pl, D.py] at ha
      | ref _ => simp [Pl, D.py] at ha
      | scr _ => simp [Pl, D.py] at ha
      | dct _ => simp [Pl, D.py] at ha
      | str w => exact absurd ⟨w, rest, rfl⟩ h
      | _ => simp [f__law_weight, eq_tnil W hd]
  | fn _ => simp [Pl, D.py] at hd
  | ref _ => simp [Pl, D.py] at hd
  | scr _ => simp [Pl, D.py] at hd
  | dct _ => simp [Pl, D.py] at hd
  | _ => simp [f__law_weight]
theorem wt_same (u : List Int) (W : Wd) (k : Nat) (deep : Int) {rest : List D} (hd : Pl (.tup (.str "same" :: rest))) (hn : ¬ deep < 0) : callK prg (k + 4) "_law_weight" [.tup (u.map .int), .tup (.str "same" :: rest), .int deep] W = .ok (.int (wt u (.tup (.str "same" :: rest)) deep)) W := by
  rw [c__law_weight, wt_tup, if_neg hn, if_pos rfl]
  have hr := hd.cons.2
  match rest, hr with
  | [x, y], hr =>
    obtain ⟨hx, hy⟩ := hr.cons
    have hy := hy.cons.1
    cases f1 : fc u x <;> cases f2 : fc u y <;> simp [f__law_weight, eq_tnil W hd, hn, icl k hx, icl k hy, f1, f2]
  | [], hr => simp [f__law_weight, eq_tnil W hd, hn]
  | [x], hr => simp [f__law_weight, eq_tnil W hd, hn]
  | x :: y :: z :: r, hr =>
    have : ¬ ((r.length : Int) + 1 + 1 + 1 + 1 = 3) := by omega
    simp [f__law_weight, eq_tnil W hd, hn, this]
theorem wt_len (u : List Int) (W : Wd) (k : Nat) (deep : Int) {w : Str} {rest : List D} (hd : Pl (.tup (.str w :: rest))) (hn : ¬ deep < 0) (h1 : ¬ w = "same") (hl : rest.length ≠ 1) : callK prg (k + 1) "_law_weight" [.tup (u.map .int), .tup (.str w :: rest), .int deep] W = .ok (.int 5000) W := by
  rw [c__law_weight]
  have : ¬ ((rest.length : Int) + 1 = 2) := by omega
  simp [f__law_weight, eq_tnil W hd, hn, h1, this]
theorem wt_word (u : List Int) (W : Wd) (k : Nat) (deep : Int) {w : Str} {x : D} (hd : Pl (.tup (.str w :: [x]))) (hn : ¬ deep < 0) (h1 : ¬ w = "same") (h2 : ¬ w = "not") (h3 : ¬ (w = "all" ∨ w = "some")) : callK prg (k + 1) "_law_weight" [.tup (u.map .int), .tup (.str w :: [x]), .int deep] W = .ok (.int 5000) W := by
  rw [c__law_weight]
  obtain ⟨h3a, h3b⟩ := not_or.mp h3
  simp [f__law_weight, eq_tnil W hd, hn, h1, h2, h3a, h3b]
theorem wt_not (u : List Int) (W : Wd) (k : Nat) (deep : Int) {x : D} {n : Int} (hd : Pl (.tup (.str "not" :: [x]))) (hn : ¬ deep < 0) (h : callK prg k "_law_weight" [.tup (u.map .int), x, .int (deep - 1)] W = .ok (.int n) W) : callK prg (k + 1) "_law_weight" [.tup (u.map .int), .tup (.str "not" :: [x]), .int deep] W = .ok (.int (1 + n)) W := by
  rw [c__law_weight]
  simp [f__law_weight, eq_tnil W hd, hn, ns1, h]
theorem wt_notup (u : List Int) (W : Wd) (k : Nat) (deep : Int) {w : Str} {x : D} (hd : Pl (.tup (.str w :: [x]))) (hn : ¬ deep < 0) (h3 : w = "all" ∨ w = "some") (hx : ∀ xs, x ≠ .tup xs) : callK prg (k + 1) "_law_weight" [.tup (u.map .int), .tup (.str w :: [x]), .int deep] W = .ok (.int 5000) W := by
  rw [c__law_weight]
  have hx' := hd.cons.2.cons.1
  rcases h3 with rfl | rfl
  · cases x with
    | fn _ => simp [Pl, D.py] at hx'
    | ref _ => simp [Pl, D.py] at hx'
    | scr _ => simp [Pl, D.py] at hx'
    | dct _ => simp [Pl, D.py] at hx'
    | tup xs => exact absurd rfl (hx xs)
    | _ => simp [f__law_weight, eq_tnil W hd, hn, ns2, na1]
  · cases x with
    | fn _ => simp [Pl, D.py] at hx'
    | ref _ => simp [Pl, D.py] at hx'
    | scr _ => simp [Pl, D.py] at hx'
    | dct _ => simp [Pl, D.py] at hx'
    | tup xs => exact absurd rfl (hx xs)
    | _ => simp [f__law_weight, eq_tnil W hd, hn, ns3, na2, na5]
theorem wt_parts (u : List Int) (W : Wd) (k : Nat) (deep : Int) {w : Str} {xs : List D} (f : D → Int) (hd : Pl (.tup (.str w :: [.tup xs]))) (hn : ¬ deep < 0) (h3 : w = "all" ∨ w = "some") (hl : xs.length ≤ 16777216)
    (h : ∀ x ∈ xs, callK prg k "_law_weight" [.tup (u.map .int), x, .int (deep - 1)] W = .ok (.int (f x)) W) : callK prg (k + 1) "_law_weight" [.tup (u.map .int), .tup (.str w :: [.tup xs]), .int deep] W = .ok (.int (1 + (xs.map f).sum)) W := by
  rw [c__law_weight]
  rcases h3 with rfl | rfl
  · simp [f__law_weight, eq_tnil W hd, hn, ns2, na1]
    rw [lc_map (fun x => .int (f x))]
    · simp [nums_map, hl]
    · intro x hx
      refine ⟨_, rfl, rfl, ?_⟩
      simp [h x hx]
  · simp [f__law_weight, eq_tnil W hd, hn, ns3, na2, na5]
    rw [lc_map (fun x => .int (f x))]
    · simp [nums_map, hl]
    · intro x hx
      refine ⟨_, rfl, rfl, ?_⟩
      simp [h x hx]
theorem wtl (u : List Int) (W : Wd) (k : Nat) : ∀ (n : Nat) (deep : Int) {d : D}, Pl d → sm d = true → deep < n → callK prg (k + 4 + n) "_law_weight" [.tup (u.map .int), d, .int deep] W = .ok (.int (wt u d deep)) W := by
  intro n
  induction n with
  | zero =>
    intro deep d hd hs hlt
    rw [wt_deep u d deep hlt]
    exact wt0 u W (k + 3) deep hd hlt
  | succ n ih =>
    intro deep d hd hs hlt
    by_cases hneg : deep < 0
    · rw [wt_deep u d deep hneg]
      exact wt0 u W (k + 4 + n) deep hd hneg
    · by_cases hst : ∃ w rest, d = .tup (.str w :: rest)
      · obtain ⟨w, rest, rfl⟩ := hst
        by_cases h1 : w = "same"
        · subst h1
          have := wt_same u W (k + 1 + n) deep hd hneg
          rw [show k + 4 + (n + 1) = k + 1 + n + 4 by omega]
          exact this
        · rw [wt_tup, if_neg hneg, if_neg h1]
          match rest, hd, hs with
          | [], hd, _ => exact wt_len u W (k + 4 + n) deep hd hneg h1 (by simp)
          | x :: y :: r, hd, _ => exact wt_len u W (k + 4 + n) deep hd hneg h1 (by simp)
          | [x], hd, hs =>
            have hx := hd.cons.2.cons.1
            have hsx : sm x = true := by simp [sm, sms] at hs; exact hs
            dsimp only
            by_cases h2 : w = "not"
            · subst h2
              rw [if_pos rfl]
              exact wt_not u W (k + 4 + n) deep hd hneg (ih (deep - 1) hx hsx (by omega))
            · rw [if_neg h2]
              by_cases h3 : w = "all" ∨ w = "some"
              · rw [if_pos h3]
                by_cases ht : ∃ xs, x = .tup xs
                · obtain ⟨xs, rfl⟩ := ht
                  simp only [sm, Bool.and_eq_true, decide_eq_true_eq] at hsx
                  dsimp only
                  rw [wts_sum]
                  exact wt_parts u W (k + 4 + n) deep (fun x => wt u x (deep - 1)) hd hneg h3 hsx.1 fun y hy => ih (deep - 1) (hx.mem hy) (sms_mem hsx.2 hy) (by omega)
                · cases x with
                  | tup xs => exact absurd ⟨xs, rfl⟩ ht
                  | _ => exact wt_notup u W (k + 4 + n) deep hd hneg h3 fun xs e => ht ⟨xs, e⟩
              · rw [if_neg h3]
                exact wt_word u W (k + 4 + n) deep hd hneg h1 h2 h3
      · rw [wt_bad u d deep hst]
        exact wt_nostr u W (k + 4 + n) deep hd hst
end LW

namespace LW
open PySem PL
mutual
def ev (g : Int → Int) : Cnd → Bool
  | .same a b => g a == g b
  | .no c => !(ev g c)
  | .all cs => evA g cs
  | .some cs => evS g cs
def evA (g : Int → Int) : List Cnd → Bool
  | [] => true
  | c :: cs => ev g c && evA g cs
def evS (g : Int → Int) : List Cnd → Bool
  | [] => false
  | c :: cs => ev g c || evS g cs
end
theorem evA_all (g : Int → Int) (cs : List Cnd) : evA g cs = (cs.map (ev g)).all id := by
  induction cs with
  | nil => rfl
  | cons c cs ih => simp [evA, ih]
theorem evS_any (g : Int → Int) (cs : List Cnd) : evS g cs = (cs.map (ev g)).any id := by
  induction cs with
  | nil => rfl
  | cons c cs ih => simp [evS, ih]
theorem lc_mapi {α : Type} {asg : D → Wd → Option EnvD} {tst : EnvD → Wd → R Bool} {elt : EnvD → Wd → R D} {W : Wd} (h f : α → D) : ∀ {xs : List α}, (∀ x ∈ xs, ∃ ρ, asg (h x) W = some ρ ∧ tst ρ W = .ok true W ∧ elt ρ W = .ok (f x) W) → lcLoop asg tst elt (xs.map h) W = .ok (xs.map f) W
  | [], _ => rfl
  | x :: xs, hh => by
    obtain ⟨ρ, h1, h2, h3⟩ := hh x (by simp)
    have ih := lc_mapi h f (xs := xs) fun y hy => hh y (by simp [hy])
    simp [lcLoop, h1, h2, h3, ih]
theorem bls_map {α : Type} (f : α → Bool) (xs : List α) : PL.bls (xs.map fun x => .bl (f x)) = some (xs.map f) := by
  induction xs with
  | nil => rfl
  | cons x xs ih => simp [PL.bls, ih]
theorem pys_bls (u : List Bool) : D.pys (u.map .bl) = some (u.map .bool) := by
  induction u with
  | nil => rfl
  | cons a u ih => simp [ih]
theorem depth_bls (u : List Bool) : PyData.depthAll (u.map .bool) ≤ 1 := by
  induction u with
  | nil => simp [PyData.depthAll]
  | cons a u ih => simp [PyData.depthAll, PyData.depth, ih]
theorem in_bls (W : Wd) (b : Bool) (u : List Bool) : dIn W (.bl b) (.lst (u.map .bl)) = some (u.contains b) := by
  have h : min (PyData.depthAll (u.map PyData.bool)) (PyData.bool b).depth ≤ 100 := Nat.le_trans (Nat.min_le_left _ _) (Nat.le_trans (depth_bls u) (by decide))
  have e : ((u.map PyData.bool).any fun y => PyData.eqv y (.bool b)) = u.contains b := by
    clear h
    induction u with
    | nil => rfl
    | cons a u ih =>
      rw [List.map_cons, List.any_cons, ih, List.contains_cons]
      show ((a == b) || u.contains b) = _
      rw [Bool.beq_comm]
  show (match asQ W (.lst (u.map .bl)) with
    | some ds => match D.pys ds, pyW W (.bl b) with
      | some ps, some p => if min (PyData.depthAll ps) p.depth ≤ 100 then some (ps.any fun y => PyData.eqv y p) else none
      | _, _ => none
    | none => none) = _
  simp only [asQ, pys_bls, pyW, D.py]
  rw [if_pos h, e]
def Worth (kvs : List (L2.Key × D)) (g : Int → Int) : Prop := ∀ a, dGet kvs (.int a) (.int a) = some (.int (g a))
theorem len_small {u : List Int} {n : Nat} {cs : List Cnd} (h : cs.length ≤ 3) : cs.length ≤ 16777216 := by omega
theorem holds (u : List Int) {kvs : List (L2.Key × D)} {g : Int → Int} (hg : Worth kvs g) (W : Wd) (k : Nat) : ∀ (n : Nat) (c : Cnd), Good u n c → callK prg (k + 1 + n) "holds_by" [c.d, .dct kvs] W = .ok (.bl (ev g c)) W := by
  intro n
  induction n with
  | zero =>
    intro c hc
    cases c with
    | same a b =>
      rw [c_holds_by]
      simp [f_holds_by, Cnd.d, hg a, hg b, ev]
    | _ => exact hc.elim
  | succ n ih =>
    intro c hc
    rw [show k + 1 + (n + 1) = (k + 1 + n) + 1 from rfl, c_holds_by]
    cases c with
    | same a b => simp [f_holds_by, Cnd.d, hg a, hg b, ev]
    | no c => simp [f_holds_by, Cnd.d, ev, ns1, ih c hc]
    | all cs =>
      have hl := hc.1
      have hl' : cs.length ≤ 16777216 := by omega
      simp [f_holds_by, Cnd.d, ev, ns2, na1, ds_map]
      rw [lc_mapi Cnd.d (fun c => .bl (ev g c))]
      · have := bls_map (ev g) cs
        simp [hl', this, evA_all]
      · intro c hcm
        refine ⟨_, rfl, rfl, ?_⟩
        simp [ih c (hc.2 c hcm)]
    | some cs =>
      have hl := hc.1
      have hl' : cs.length ≤ 16777216 := by omega
      simp [f_holds_by, Cnd.d, ev, ns3, na2, na5, ds_map]
      rw [lc_mapi Cnd.d (fun c => .bl (ev g c))]
      · have := bls_map (ev g) cs
        simp [hl', this, evS_any]
      · intro c hcm
        refine ⟨_, rfl, rfl, ?_⟩
        simp [ih c (hc.2 c hcm)]
theorem contains_f (bs : List Bool) : (!bs.contains false) = bs.all id := by
  induction bs with
  | nil => rfl
  | cons b bs ih => cases b <;> simp_all [List.contains_cons]
theorem contains_t (bs : List Bool) : bs.contains true = bs.any id := by
  induction bs with
  | nil => rfl
  | cons b bs ih => cases b <;> simp_all [List.contains_cons]
theorem truel (u : List Int) {kvs : List (L2.Key × D)} {g : Int → Int} (hg : Worth kvs g) (W : Wd) (k : Nat) : ∀ (n : Nat) (c : Cnd), Good u n c → callK prg (k + 1 + n) "_law_true" [c.d, .dct kvs] W = .ok (.bl (ev g c)) W := by
  intro n
  induction n with
  | zero =>
    intro c hc
    cases c with
    | same a b =>
      rw [c__law_true]
      simp [f__law_true, Cnd.d, hg a, hg b, ev]
    | _ => exact hc.elim
  | succ n ih =>
    intro c hc
    rw [show k + 1 + (n + 1) = (k + 1 + n) + 1 from rfl, c__law_true]
    cases c with
    | same a b => simp [f__law_true, Cnd.d, hg a, hg b, ev]
    | no c => simp [f__law_true, Cnd.d, ev, ns1, ih c hc]
    | all cs =>
      have hl := hc.1
      have hl' : cs.length ≤ 16777216 := by omega
      have hb : dIn W (.bl false) (.lst (cs.map fun c => .bl (ev g c))) = some ((cs.map (ev g)).contains false) := by
        have := in_bls W false (cs.map (ev g))
        rwa [List.map_map] at this
      simp [f__law_true, Cnd.d, ev, ns2, na1, ds_map]
      rw [lc_mapi Cnd.d (fun c => .bl (ev g c))]
      · have hcf := contains_f (cs.map (ev g))
        simp [hl', hb, evA_all]
        simpa using hcf
      · intro c hcm
        refine ⟨_, rfl, rfl, ?_⟩
        simp [ih c (hc.2 c hcm)]
    | some cs =>
      have hl := hc.1
      have hl' : cs.length ≤ 16777216 := by omega
      have hb : dIn W (.bl true) (.lst (cs.map fun c => .bl (ev g c))) = some ((cs.map (ev g)).contains true) := by
        have := in_bls W true (cs.map (ev g))
        rwa [List.map_map] at this
      simp [f__law_true, Cnd.d, ev, ns3, na2, na5, ds_map]
      rw [lc_mapi Cnd.d (fun c => .bl (ev g c))]
      · have hcf := contains_t (cs.map (ev g))
        simp [hl', hb, evS_any, na5]
        simpa using hcf
      · intro c hcm
        refine ⟨_, rfl, rfl, ?_⟩
        simp [ih c (hc.2 c hcm)]
end LW

namespace LW
open PySem PL
def kv0 (u f : List Int) : List (L2.Key × D) := List.zipWith (fun a b => (.inl a, .int b)) u f
def kvsOf (u f : List Int) : List (L2.Key × D) := keyMerge [] (kv0 u f)
def IntV (kvs : List (L2.Key × D)) : Prop := ∀ p ∈ kvs, ∃ n, p.2 = .int n
theorem pairs_zip (u f : List Int) : PL.pairsK (List.zipWith (fun a b => pairD (D.int a) (D.int b)) u f) = some (kv0 u f) := by
  induction u generalizing f with
  | nil => cases f <;> rfl
  | cons a u ih =>
    cases f with
    | nil => rfl
    | cons b f =>
      show (match asKey (.int a), PL.pairsK (List.zipWith (fun a b => pairD (D.int a) (D.int b)) u f) with
        | some k, some kvs => some ((k, D.int b) :: kvs)
        | _, _ => none) = _
      rw [ih f]
      rfl
theorem IntV.put {kvs : List (L2.Key × D)} (h : IntV kvs) (k : L2.Key) (n : Int) : IntV (keyPut kvs k (.int n)) := by
  unfold keyPut
  split
  · intro p hp
    obtain ⟨q, hq, rfl⟩ := List.mem_map.mp hp
    split
    · exact ⟨n, rfl⟩
    · exact h q hq
  · intro p hp
    rcases List.mem_append.mp hp with hp | hp
    · exact h p hp
    · rw [List.mem_singleton.mp hp]; exact ⟨n, rfl⟩
theorem IntV.merge {more : List (L2.Key × D)} (hm : IntV more) : ∀ {kvs : List (L2.Key × D)}, IntV kvs → IntV (keyMerge kvs more) := by
  induction more with
  | nil => exact fun h => h
  | cons p more ih =>
    intro kvs h
    obtain ⟨n, hn⟩ := hm p (by simp)
    have : keyMerge kvs (p :: more) = keyMerge (keyPut kvs p.1 p.2) more := rfl
    rw [this, hn]
    exact ih (fun q hq => hm q (by simp [hq])) (h.put p.1 n)
theorem intv (u f : List Int) : IntV (kvsOf u f) := by
  refine IntV.merge (fun p hp => ?_) (fun p hp => by cases hp)
  unfold kv0 at hp
  rw [List.mem_iff_getElem] at hp
  obtain ⟨i, hi, rfl⟩ := hp
  rw [List.getElem_zipWith]
  exact ⟨_, rfl⟩
theorem worth (u f : List Int) : ∃ g, Worth (kvsOf u f) g := by
  have h : ∀ a : Int, ∃ n : Int, dGet (kvsOf u f) (.int a) (.int a) = some (.int n) := fun a => by
    unfold dGet
    simp only [asKey, Option.map_some]
    cases e : keyGet (kvsOf u f) (.inl a) with
    | none => exact ⟨a, rfl⟩
    | some d =>
      unfold keyGet at e
      obtain ⟨p, h1, h2⟩ := Option.map_eq_some_iff.mp e
      obtain ⟨n, hn⟩ := intv u f p (List.mem_of_find?_eq_some h1)
      rw [hn] at h2
      exact ⟨n, by rw [← h2]; rfl⟩
  exact ⟨fun a => Classical.choose (h a), fun a => Classical.choose_spec (h a)⟩
theorem wby (k : Nat) (u f : List Int) (hl : u.length ≤ 6) (W : Wd) : callK prg (k + 1) "worths_by" [.tup (u.map .int), .tup (f.map .int)] W = .ok (.dct (kvsOf u f)) W := by
  have h1 : min u.length f.length ≤ 16777216 := by omega
  rw [c_worths_by]
  simp [f_worths_by, dZip, h1, pairs_zip, kvsOf]
theorem lby (k : Nat) (u f : List Int) (hl : u.length ≤ 6) (W : Wd) : callK prg (k + 1) "_law_by" [.tup (u.map .int), .tup (f.map .int)] W = .ok (.dct (kvsOf u f)) W := by
  have h1 : min u.length f.length ≤ 16777216 := by omega
  rw [c__law_by]
  simp [f__law_by, dZip, h1, pairs_zip, kvsOf]
/-- the sets of unknowns -/
def U6 : List (List Int) := [[], [-1], [-2, -1], [-5, -1], [-6, -3], [-3, -2, -1]]
theorem needU (k : Nat) {u : List Int} (hu : u ∈ U6) {W : Wd} (hW : Cup W) : callK prg (k + 6) "need_unknowns" [.tup (u.map .int)] W = .ok .non W := by
  obtain ⟨a, b, rfl⟩ := hW
  simp only [U6, List.mem_cons, List.not_mem_nil, or_false] at hu
  rcases hu with rfl | rfl | rfl | rfl | rfl | rfl
  · kernel_rfl
  · kernel_rfl
  · kernel_rfl
  · kernel_rfl
  · kernel_rfl
  · kernel_rfl
theorem U6_len {u : List Int} (hu : u ∈ U6) : u.length ≤ 6 := by
  simp only [U6, List.mem_cons, List.not_mem_nil, or_false] at hu
  rcases hu with rfl | rfl | rfl | rfl | rfl | rfl <;> decide
theorem U6_in {u : List Int} (hu : u ∈ U6) : ∀ a ∈ u, -6 ≤ a ∧ a ≤ -1 := by
  simp only [U6, List.mem_cons, List.not_mem_nil, or_false] at hu
  rcases hu with rfl | rfl | rfl | rfl | rfl | rfl <;> decide
theorem pl_ints (u : List Int) : Pl (.tup (u.map .int)) := by simp [Pl, pys_ints]
theorem needF (k : Nat) (u f : List Int) (hl : f.length = u.length) (hs : u.length ≤ 6) (hf : ∀ x ∈ f, 0 ≤ x ∧ x ≤ 1000000) (W : Wd) : callK prg (k + 4) "need_filling_of" [.tup (u.map .int), .tup (f.map .int)] W = .ok .non W := by
  have h1 : isT (.tup (f.map .int)) u.length u.length = true := by simp [isT, hl]
  have h2 : f.length ≤ 16777216 := by omega
  rw [c_need_filling_of]
  simp [f_need_filling_of, ist (k + 2) (pl_ints f), h1]
  rw [lc_mapi D.int (fun x => .bl true)]
  · have := bls_map (fun _ : Int => true) f
    simp [h2, this]
  · intro x hx
    have hx' : isW (.int x) 0 1000000 = true := by simp [isW, hf x hx]
    refine ⟨_, rfl, rfl, ?_⟩
    have hp : Pl (.int x) := rfl
    simp [fvl (k + 1) hp, hx']
/-- the weight of a written condition -/
def bd : Nat → Int
  | 0 => 1
  | n + 1 => 1 + 3 * bd n
theorem bd_pos (n : Nat) : 1 ≤ bd n := by
  induction n with
  | zero => simp [bd]
  | succ n ih => simp [bd]; omega
theorem fc_cell {u : List Int} (hu : ∀ a ∈ u, -6 ≤ a ∧ a ≤ -1) {a : Int} (h : a ∈ cellsOf u) : fc u (.int a) = true := by
  unfold cellsOf at h
  rcases List.mem_append.mp h with h | h
  · simp only [List.mem_cons, List.not_mem_nil, or_false] at h
    rcases h with rfl | rfl | rfl <;> simp [fc, isW]
  · have := hu a h
    simp [fc, isW, inL, this, h]
theorem good_wt {u : List Int} (hu : ∀ a ∈ u, -6 ≤ a ∧ a ≤ -1) : ∀ (n : Nat) (c : Cnd) (deep : Int), Good u n c → (n : Int) ≤ deep → wt u c.d deep ≤ bd n := by
  intro n
  induction n with
  | zero =>
    intro c deep hc hd
    cases c with
    | same a b =>
      have hn : ¬ deep < 0 := by omega
      simp [Cnd.d, wt_tup, hn, fc_cell hu hc.1, fc_cell hu hc.2, bd]
    | _ => exact hc.elim
  | succ n ih =>
    intro c deep hc hd
    have hn : ¬ deep < 0 := by omega
    have hb := bd_pos n
    cases c with
    | same a b => simp [Cnd.d, wt_tup, hn, fc_cell hu hc.1, fc_cell hu hc.2, bd]; omega
    | no c =>
      have := ih c (deep - 1) hc (by omega)
      simp [Cnd.d, wt_tup, hn, ns1, bd]; omega
    | all cs =>
      have hs : ∀ cs : List Cnd, (∀ c ∈ cs, Good u n c) → wts u (Cnd.ds cs) (deep - 1) ≤ cs.length * bd n := fun cs => by
        induction cs with
        | nil => intro _; simp [Cnd.ds, wts]
        | cons c cs ihc =>
          intro h
          have h1 := ih c (deep - 1) (h c (by simp)) (by omega)
          have h2 := ihc fun c hc => h c (by simp [hc])
          simp only [Cnd.ds, wts, List.length_cons]
          have : ((cs.length + 1 : Nat) : Int) * bd n = cs.length * bd n + bd n := by rw [Int.natCast_add, Int.add_mul]; simp
          omega
      have h1 := hs cs hc.2
      have h2 : (cs.length : Int) * bd n ≤ 3 * bd n := Int.mul_le_mul_of_nonneg_right (by have := hc.1; omega) (by omega)
      simp [Cnd.d, wt_tup, hn, ns2, na1, bd]; omega
    | some cs =>
      have hs : ∀ cs : List Cnd, (∀ c ∈ cs, Good u n c) → wts u (Cnd.ds cs) (deep - 1) ≤ cs.length * bd n := fun cs => by
        induction cs with
        | nil => intro _; simp [Cnd.ds, wts]
        | cons c cs ihc =>
          intro h
          have h1 := ih c (deep - 1) (h c (by simp)) (by omega)
          have h2 := ihc fun c hc => h c (by simp [hc])
          simp only [Cnd.ds, wts, List.length_cons]
          have : ((cs.length + 1 : Nat) : Int) * bd n = cs.length * bd n + bd n := by rw [Int.natCast_add, Int.add_mul]; simp
          omega
      have h1 := hs cs hc.2
      have h2 : (cs.length : Int) * bd n ≤ 3 * bd n := Int.mul_le_mul_of_nonneg_right (by have := hc.1; omega) (by omega)
      simp [Cnd.d, wt_tup, hn, ns3, na2, na5, bd]; omega
/-- shapes that are spoilt -/
def Sh : Nat → D → Prop
  | 0, d => Pl d ∧ sm d = true ∧ ∀ xs, d ≠ .tup xs
  | n + 1, d => Pl d ∧ sm d = true ∧ ∀ xs, d = .tup xs → xs.length ≤ 4 ∧ ∀ x ∈ xs, Sh n x
theorem Sh.pl : ∀ {n : Nat} {d : D}, Sh n d → Pl d ∧ sm d = true
  | 0, _, h => ⟨h.1, h.2.1⟩
  | _ + 1, _, h => ⟨h.1, h.2.1⟩
theorem Sh.up : ∀ {n : Nat} {d : D}, Sh n d → Sh (n + 1) d
  | 0, d, h => ⟨h.1, h.2.1, fun xs e => absurd e (h.2.2 xs)⟩
  | n + 1, d, h => ⟨h.1, h.2.1, fun xs e => ⟨(h.2.2 xs e).1, fun x hx => Sh.up ((h.2.2 xs e).2 x hx)⟩⟩
theorem Sh.ups {n m : Nat} {d : D} (h : Sh n d) (hm : n ≤ m) : Sh m d := by
  induction hm with
  | refl => exact h
  | step _ ih => exact ih.up
theorem sh_tup {n : Nat} {xs : List D} (hl : xs.length ≤ 4) (h : ∀ x ∈ xs, Sh n x) : Sh (n + 1) (.tup xs) := by
  have hp : Pl (.tup xs) := by
    obtain ⟨ps, e⟩ := Pl.all fun x hx => (h x hx).pl.1
    simp [Pl, D.py, e]
  have hs : sms xs = true := by
    clear hl hp
    induction xs with
    | nil => rfl
    | cons x xs ih => simp [sms, (h x (by simp)).pl.2, ih fun y hy => h y (by simp [hy])]
  refine ⟨hp, by simp [sm, hs]; omega, fun ys e => ?_⟩
  cases e
  exact ⟨hl, h⟩
theorem good_sh {u : List Int} : ∀ (n : Nat) (c : Cnd), Good u n c → Sh (2 * n + 1) c.d := by
  have hint : ∀ a : Int, Sh 0 (.int a) := fun a => ⟨rfl, rfl, fun xs e => by cases e⟩
  have hstr : ∀ a : Str, Sh 0 (.str a) := fun a => ⟨rfl, rfl, fun xs e => by cases e⟩
  have same : ∀ n a b, Sh (2 * n + 1) (Cnd.same a b).d := fun n a b => by
    refine Sh.ups (n := 1) (sh_tup (n := 0) (by simp) fun x hx => ?_) (by omega)
    simp only [List.mem_cons, List.not_mem_nil, or_false] at hx
    rcases hx with rfl | rfl | rfl
    · exact hstr _
    · exact hint _
    · exact hint _
  intro n
  induction n with
  | zero =>
    intro c hc
    cases c with
    | same a b => exact same 0 a b
    | _ => exact hc.elim
  | succ n ih =>
    intro c hc
    have parts : ∀ (w : Str) (cs : List Cnd), cs.length ≤ 3 → (∀ c ∈ cs, Good u n c) → Sh (2 * (n + 1) + 1) (.tup [.str w, .tup (Cnd.ds cs)]) := fun w cs hl hcs => by
      refine sh_tup (n := 2 * n + 2) (by simp) fun x hx => ?_
      simp only [List.mem_cons, List.not_mem_nil, or_false] at hx
      rcases hx with rfl | rfl
      · exact (hstr w).ups (by omega)
      · refine sh_tup (n := 2 * n + 1) (by rw [ds_map]; simp; omega) fun y hy => ?_
        rw [ds_map] at hy
        obtain ⟨c, hc, rfl⟩ := List.mem_map.mp hy
        exact ih c (hcs c hc)
    cases c with
    | same a b => exact same (n + 1) a b
    | no c =>
      refine sh_tup (n := 2 * n + 2) (by simp) fun x hx => ?_
      simp only [List.mem_cons, List.not_mem_nil, or_false] at hx
      rcases hx with rfl | rfl
      · exact (hstr _).ups (by omega)
      · exact (ih c hc).up
    | all cs => exact parts _ cs hc.1 hc.2
    | some cs => exact parts _ cs hc.1 hc.2
end LW

namespace LW
open PySem PL
def Ok (d : D) : Prop := Pl d ∧ sm d = true
def S17 : List D := [.non, .tup [], .lst [], .int 0, .int 1, .int 6, .int 7, .int (-1), .int (-4), .bl true, .str "same", .tup [.int 1], .tup [.tup [.int 1], .tup [.str "all", .tup []]], .tup [.str "all", .tup []], .tup [.int 1, .tup []]]
theorem s17_ok {d : D} (h : d ∈ S17) : Ok d := by
  simp only [S17, List.mem_cons, List.not_mem_nil, or_false] at h
  rcases h with rfl | rfl | rfl | rfl | rfl | rfl | rfl | rfl | rfl | rfl | rfl | rfl | rfl | rfl | rfl <;> exact ⟨rfl, rfl⟩
theorem ok_tup {xs : List D} (hl : xs.length ≤ 16777216) (h : ∀ x ∈ xs, Ok x) : Ok (.tup xs) := by
  obtain ⟨ps, e⟩ := Pl.all fun x hx => (h x hx).1
  refine ⟨by simp [Pl, D.py, e], ?_⟩
  have hs : sms xs = true := by
    clear hl e
    induction xs with
    | nil => rfl
    | cons x xs ih => simp [sms, (h x (by simp)).2, ih fun y hy => h y (by simp [hy])]
  simp [sm, hs]; omega
theorem ok_lst {xs : List D} (hl : xs.length ≤ 16777216) (h : ∀ x ∈ xs, Ok x) : Ok (.lst xs) := by
  obtain ⟨ps, e⟩ := Pl.all fun x hx => (h x hx).1
  refine ⟨by simp [Pl, D.py, e], ?_⟩
  have hs : sms xs = true := by
    clear hl e
    induction xs with
    | nil => rfl
    | cons x xs ih => simp [sms, (h x (by simp)).2, ih fun y hy => h y (by simp [hy])]
  simp [sm, hs]; omega
theorem cut_mem {xs : List D} {lo hi : Option Int} {x : D} (h : x ∈ cutD xs lo hi) : x ∈ xs := by
  unfold cutD at h
  exact List.mem_of_mem_drop (List.mem_of_mem_take h)
theorem cut_len (xs : List D) (lo hi : Option Int) : (cutD xs lo hi).length ≤ xs.length := by
  unfold cutD
  simp only [List.length_take, List.length_drop]
  omega
theorem sl_tup (W : Wd) (xs : List D) (lo hi : Option Int) : dSl W (.tup xs) lo hi = some (.tup (cutD xs lo hi)) := rfl
theorem ix_tup (W : Wd) (xs : List D) (r : Int) (h0 : 0 ≤ r) (h1 : r < xs.length) : ∃ x, dIx W (.tup xs) (.int r) = some x ∧ x ∈ xs := by
  have hl : r.toNat < xs.length := by omega
  refine ⟨xs[r.toNat], ?_, List.getElem_mem hl⟩
  simp [dIx, L2.atI, L2.ixN, h0, h1, hl]
theorem spoilt (k : Nat) : ∀ (n : Nat) (d : D), Sh n d → ∀ {W : Wd}, Cup W → ∃ (d' : D) (W' : Wd), callK prg (k + 3 + n) "_law_spoilt" [.ref 0, d] W = .ok d' W' ∧ Cup W' ∧ Ok d' := by
  intro n
  induction n with
  | zero =>
    intro d hd W hW
    obtain ⟨x, W1, e1, c1, hx⟩ := some_of k hW (xs := S17) (by simp [S17]) (by simp [S17])
    refine ⟨x, W1, ?_, c1, s17_ok hx⟩
    rw [show k + 3 + 0 = (k + 2) + 1 from rfl, c__law_spoilt]
    obtain ⟨_, _, rfl⟩ := hW
    obtain ⟨_, _, rfl⟩ := c1
    unfold S17 at e1
    have hp := hd.1
    cases d with
    | tup xs => exact absurd rfl (hd.2.2 xs)
    | fn _ => simp [Pl, D.py] at hp
    | ref _ => simp [Pl, D.py] at hp
    | scr _ => simp [Pl, D.py] at hp
    | dct _ => simp [Pl, D.py] at hp
    | _ => simp [f__law_spoilt, e1]
  | succ n ih =>
    intro d hd W hW
    rw [show k + 3 + (n + 1) = (k + n + 3) + 1 by omega, c__law_spoilt]
    have ih' : ∀ (d : D), Sh n d → ∀ {W : Wd}, Cup W → ∃ (d' : D) (W' : Wd), callK prg (k + n + 3) "_law_spoilt" [.ref 0, d] W = .ok d' W' ∧ Cup W' ∧ Ok d' := fun d h W hW => by
      have := ih d h hW
      rwa [show k + 3 + n = k + n + 3 by omega] at this
    have pick : ∀ {W : Wd}, Cup W → ∃ (x : D) (W' : Wd), callK prg (k + n + 3) "_law_some" [.ref 0, .lst S17] W = .ok x W' ∧ Cup W' ∧ Ok x := fun {W} hW => by
      obtain ⟨x, W1, e1, c1, hx⟩ := some_of (k + n + 1) hW (xs := S17) (by simp [S17]) (by simp [S17])
      exact ⟨x, W1, e1, c1, s17_ok hx⟩
    have hp := hd.1
    cases d with
    | tup xs =>
      obtain ⟨hl, hx⟩ := hd.2.2 xs rfl
      have hok : ∀ x ∈ xs, Ok x := fun x h => (hx x h).pl
      by_cases hn : xs = []
      · subst hn
        obtain ⟨x, W1, e1, c1, hxo⟩ := pick hW
        refine ⟨x, W1, ?_, c1, hxo⟩
        obtain ⟨_, _, rfl⟩ := hW
        obtain ⟨_, _, rfl⟩ := c1
        unfold S17 at e1
        simp [f__law_spoilt, eq_tnil _ hp, e1]
      · have hpos : 0 < xs.length := List.length_pos_iff.mpr hn
        have hne : xs.isEmpty = false := by simpa using hn
        obtain ⟨r, W1, e1, c1, r0, r5⟩ := roll (k + n + 2) hW (m := 5) (by omega) (by omega)
        by_cases hr : r = 0
        · obtain ⟨x, W2, e2, c2, hxo⟩ := pick c1
          refine ⟨x, W2, ?_, c2, hxo⟩
          obtain ⟨_, _, rfl⟩ := hW
          obtain ⟨_, _, rfl⟩ := c1
          obtain ⟨_, _, rfl⟩ := c2
          unfold S17 at e2
          subst hr
          simp [f__law_spoilt, eq_tnil _ hp, hne, e1, e2]
        · obtain ⟨at_, W2, e2, c2, a0, a1⟩ := roll (k + n + 2) c1 (m := xs.length) (by omega) (by omega)
          obtain ⟨way, W3, e3, c3, w0, w9⟩ := roll (k + n + 2) c2 (m := 9) (by omega) (by omega)
          have L1 := cut_len xs none (some at_)
          have L2 := cut_len xs (some (at_ + way)) none
          have L3 := cut_len xs (some at_) (some (at_ + 1))
          have L4 := cut_len xs (some (at_ + 1)) none
          by_cases h2 : way < 2
          · by_cases h0 : way = 0
            · subst h0
              refine ⟨.tup (cutD xs none (some at_) ++ (cutD xs (some (at_ + 0)) none ++ cutD xs (some at_) (some (at_ + 1)))), W3, ?_, c3, ok_tup (by simp only [List.length_append]; omega) fun x h => ?_⟩
              · obtain ⟨_, _, rfl⟩ := hW
                obtain ⟨_, _, rfl⟩ := c1
                obtain ⟨_, _, rfl⟩ := c2
                obtain ⟨_, _, rfl⟩ := c3
                have hA : (cutD xs none (some at_)).length + (cutD xs (some at_) none).length ≤ 16777216 := by simp at L2; omega
                have hB : (cutD xs none (some at_)).length + ((cutD xs (some at_) none).length + (cutD xs (some at_) (some (at_ + 1))).length) ≤ 16777216 := by simp at L2; omega
                have hB2 : (cutD xs none (some at_)).length + (cutD xs (some at_) none).length + (cutD xs (some at_) (some (at_ + 1))).length ≤ 16777216 := by omega
                simp [f__law_spoilt, eq_tnil _ hp, hne, e1, e2, e3, hr, sl_tup, hA, hB2]
              · rcases List.mem_append.mp h with h | h
                · exact hok x (cut_mem h)
                · rcases List.mem_append.mp h with h | h
                  · exact hok x (cut_mem h)
                  · exact hok x (cut_mem h)
            · refine ⟨.tup (cutD xs none (some at_) ++ cutD xs (some (at_ + way)) none), W3, ?_, c3, ok_tup (by simp only [List.length_append]; omega) fun x h => ?_⟩
              · obtain ⟨_, _, rfl⟩ := hW
                obtain ⟨_, _, rfl⟩ := c1
                obtain ⟨_, _, rfl⟩ := c2
                obtain ⟨_, _, rfl⟩ := c3
                have hA : (cutD xs none (some at_)).length + (cutD xs (some (at_ + way)) none).length ≤ 16777216 := by omega
                simp [f__law_spoilt, eq_tnil _ hp, hne, e1, e2, e3, hr, sl_tup, hA, h2, h0]
              · rcases List.mem_append.mp h with h | h
                · exact hok x (cut_mem h)
                · exact hok x (cut_mem h)
          · by_cases h3 : way = 2
            · refine ⟨.lst xs, W3, ?_, c3, ok_lst (by omega) hok⟩
              obtain ⟨_, _, rfl⟩ := hW
              obtain ⟨_, _, rfl⟩ := c1
              obtain ⟨_, _, rfl⟩ := c2
              obtain ⟨_, _, rfl⟩ := c3
              subst h3
              simp [f__law_spoilt, eq_tnil _ hp, hne, e1, e2, e3, hr]
            · obtain ⟨y, ey, hy⟩ := ix_tup W3 xs at_ a0 a1
              obtain ⟨y', W4, e4, c4, hy'⟩ := ih' y (hx y hy) c3
              refine ⟨.tup (cutD xs none (some at_) ++ (y' :: cutD xs (some (at_ + 1)) none)), W4, ?_, c4, ok_tup (by simp only [List.length_append, List.length_cons]; omega) fun x h => ?_⟩
              · obtain ⟨_, _, rfl⟩ := hW
                obtain ⟨_, _, rfl⟩ := c1
                obtain ⟨_, _, rfl⟩ := c2
                obtain ⟨_, _, rfl⟩ := c3
                obtain ⟨_, _, rfl⟩ := c4
                have hA : (cutD xs none (some at_)).length + 1 ≤ 16777216 := by omega
                have hB : (cutD xs none (some at_)).length + ((cutD xs (some (at_ + 1)) none).length + 1) ≤ 16777216 := by omega
                have hB2 : (cutD xs none (some at_)).length + 1 + (cutD xs (some (at_ + 1)) none).length ≤ 16777216 := by omega
                simp [f__law_spoilt, eq_tnil _ hp, hne, e1, e2, e3, hr, sl_tup, hA, hB, hB2, h2, h3, ey, e4]
              · rcases List.mem_append.mp h with h | h
                · exact hok x (cut_mem h)
                · rcases List.mem_cons.mp h with rfl | h
                  · exact hy'
                  · exact hok x (cut_mem h)
    | fn _ => simp [Pl, D.py] at hp
    | ref _ => simp [Pl, D.py] at hp
    | scr _ => simp [Pl, D.py] at hp
    | dct _ => simp [Pl, D.py] at hp
    | _ =>
      obtain ⟨x, W1, e1, c1, hx⟩ := pick hW
      refine ⟨x, W1, ?_, c1, hx⟩
      obtain ⟨_, _, rfl⟩ := hW
      obtain ⟨_, _, rfl⟩ := c1
      unfold S17 at e1
      simp [f__law_spoilt, e1]
end LW

namespace LW
open PySem PL
theorem lc_filt {α : Type} {asg : D → Wd → Option EnvD} {tst : EnvD → Wd → R Bool} {elt : EnvD → Wd → R D} {W : Wd} (h f : α → D) (p : α → Bool) : ∀ {xs : List α}, (∀ x ∈ xs, ∃ ρ, asg (h x) W = some ρ ∧ tst ρ W = .ok (p x) W ∧ (p x = true → elt ρ W = .ok (f x) W)) → lcLoop asg tst elt (xs.map h) W = .ok ((xs.filter p).map f) W
  | [], _ => rfl
  | x :: xs, hh => by
    obtain ⟨ρ, h1, h2, h3⟩ := hh x (by simp)
    have ih := lc_filt h f p (xs := xs) fun y hy => hh y (by simp [hy])
    cases hp : p x
    · rw [hp] at h2
      simp [lcLoop, h1, h2, ih, hp]
    · rw [hp] at h2
      simp [lcLoop, h1, h2, h3 hp, ih, hp]
structure En where
  row : List Int
  c : Cnd
def En.d (e : En) : D := .tup [.tup (e.row.map .int), e.c.d]
def gtD (n : Int) (es : List En) : D := .tup [.int n, .tup (es.map En.d)]
def fullK (g : Int → Int) (es : List En) : List (List Int) := (es.filter fun e => ev g e.c).map fun e => e.row.map g
theorem nums_ints (k : List Int) : nums (k.map .int) = some k := by
  induction k with
  | nil => rfl
  | cons a k ih => simp [nums, ih]
theorem tupsI_tup (ks : List (List Int)) : tupsI (ks.map tupD) = some ks := by
  induction ks with
  | nil => rfl
  | cons a ks ih =>
    show (match nums (a.map .int), tupsI (ks.map tupD) with
      | some k, some ks => some (k :: ks)
      | _, _ => none) = _
    rw [nums_ints, ih]
theorem sset_rows (n : Nat) {ks : List (List Int)} (hl : ks.length < 64) (hn : ∀ k ∈ ks, k.length = n) : dSset (.lst (ks.map tupD)) = some (.lst ((sortL ks).map tupD)) := by
  unfold dSset
  simp only [tupsI_tup]
  rw [if_pos]
  refine ⟨hl, ?_⟩
  by_cases h0 : n = 0
  · right
    simp only [List.all_eq_true]
    intro k hk
    have := hn k hk
    rw [h0] at this
    simp [List.length_eq_zero_iff.mp this]
  · left
    simp only [List.all_eq_true]
    intro k hk
    have := hn k hk
    cases k with
    | nil => simp at this; omega
    | cons _ _ => rfl
theorem rowby (k : Nat) (r : List Int) (hr : r.length ≤ 1000) {kvs : List (L2.Key × D)} {g : Int → Int} (hg : Worth kvs g) (W : Wd) : callK prg (k + 1) "row_by" [.tup (r.map .int), .dct kvs] W = .ok (.tup ((r.map g).map .int)) W := by
  have h1 : r.length ≤ 16777216 := by omega
  rw [c_row_by]
  simp [f_row_by, x_row_by_1]
  rw [lc_mapi D.int (fun i => .int (g i))]
  · simp [h1]
  · intro x hx
    exact ⟨_, rfl, rfl, by simp [hg x]⟩
theorem lput (k : Nat) (r : List Int) (hr : r.length ≤ 1000) {kvs : List (L2.Key × D)} {g : Int → Int} (hg : Worth kvs g) (W : Wd) : callK prg (k + 1) "_law_put" [.tup (r.map .int), .dct kvs] W = .ok (.tup ((r.map g).map .int)) W := by
  have h1 : r.length ≤ 16777216 := by omega
  rw [c__law_put]
  simp [f__law_put, x__law_put_1]
  rw [lc_mapi D.int (fun i => .int (g i))]
  · simp [h1]
  · intro x hx
    exact ⟨_, rfl, rfl, by simp [hg x]⟩
end LW

namespace LW
open PySem PL
theorem insL_len (x : List Int) (l : List (List Int)) : (insL x l).length ≤ l.length + 1 := by
  induction l with
  | nil => simp [insL]
  | cons y ys ih =>
    unfold insL
    split
    · simp
    · split
      · simp
      · simp; omega
theorem sortL_len (l : List (List Int)) : (sortL l).length ≤ l.length := by
  induction l with
  | nil => simp [sortL]
  | cons y ys ih =>
    have := insL_len y (sortL ys)
    simp [sortL]; omega
def ansD (g : Int → Int) (es : List En) : D := .tup ((sortL (fullK g es)).map tupD)
structure GoodE (u : List Int) (n : Nat) (e : En) : Prop where
  len : e.row.length = n
  row : ∀ a ∈ e.row, a ∈ cellsOf u
  c : Good u 2 e.c
theorem fullK_len (g : Int → Int) (es : List En) : (fullK g es).length ≤ es.length := by
  unfold fullK
  simp [List.length_filter_le]
theorem fullK_row (g : Int → Int) {u : List Int} {n : Nat} {es : List En} (h : ∀ e ∈ es, GoodE u n e) : ∀ k ∈ fullK g es, k.length = n := by
  intro k hk
  unfold fullK at hk
  obtain ⟨e, he, rfl⟩ := List.mem_map.mp hk
  simp [(h e (List.mem_filter.mp he).1).len]
theorem full (k : Nat) (u : List Int) (n : Nat) (hn : n ≤ 6) (es : List En) (he : es.length ≤ 4) (h : ∀ e ∈ es, GoodE u n e) {kvs : List (L2.Key × D)} {g : Int → Int} (hg : Worth kvs g) (W : Wd) : callK prg (k + 4) "_law_full" [gtD n es, .dct kvs] W = .ok (ansD g es) W := by
  have h1 := fullK_len g es
  have h2 := sortL_len (fullK g es)
  have h3 : (sortL (fullK g es)).length ≤ 16777216 := by omega
  have h5 : (fullK g es).length ≤ 16777216 := by omega
  have h4 := sset_rows n (ks := fullK g es) (by omega) (fullK_row g h)
  rw [c__law_full]
  simp [f__law_full, x__law_full_1, gtD]
  rw [lc_filt En.d (fun e => tupD (e.row.map g)) (fun e => ev g e.c)]
  · have e : (List.map (fun e : En => tupD (e.row.map g)) (List.filter (fun e => ev g e.c) es)) = (fullK g es).map tupD := by
      unfold fullK
      simp
    rw [e]
    simp [h4, h3, h5, ansD]
  · intro x hx
    have gx := h x hx
    refine ⟨_, rfl, ?_, fun _ => ?_⟩
    · have := truel u hg W (k) 2 x.c gx.c
      simp [this]
    · have := lput (k + 2) x.row (by rw [gx.len]; omega) hg W
      simp [this, tupD]
theorem rowsf (k : Nat) {α : Type} (f : α → List Int) (xs : List α) (n : Nat) (hn : n ≤ 6) (hx : xs.length ≤ 4) (h : ∀ e ∈ xs, (f e).length = n) {kvs : List (L2.Key × D)} {g : Int → Int} (hg : Worth kvs g) (W : Wd) : callK prg (k + 2) "rows_filled" [.lst (xs.map fun e => .tup ((f e).map .int)), .dct kvs] W = .ok (.tup ((sortL (xs.map fun e => (f e).map g)).map tupD)) W := by
  have h2 := sortL_len (xs.map fun e => (f e).map g)
  rw [List.length_map] at h2
  have h3 : (sortL (xs.map fun e => (f e).map g)).length ≤ 16777216 := by omega
  have h5 : xs.length ≤ 16777216 := by omega
  have h4 := sset_rows n (ks := xs.map fun e => (f e).map g) (by simp; omega) (by
    intro k hk
    obtain ⟨e, he, rfl⟩ := List.mem_map.mp hk
    simp [h e he])
  rw [c_rows_filled]
  simp [f_rows_filled, x_rows_filled_1]
  rw [lc_mapi (fun e : α => D.tup ((f e).map .int)) (fun e => tupD ((f e).map g))]
  · have e : (List.map (fun e : α => tupD ((f e).map g)) xs) = (xs.map fun e => (f e).map g).map tupD := by simp
    rw [e]
    have h6 : (xs.map fun e => (f e).map g).length ≤ 16777216 := by simp; omega
    generalize (xs.map fun e => (f e).map g) = ks at h3 h4 h6 ⊢
    simp [h4, h3, h6]
  · intro x hx
    have := rowby (k) (f x) (by rw [h x hx]; omega) hg W
    exact ⟨_, rfl, rfl, by simp [this, tupD]⟩
theorem filled (k : Nat) (u : List Int) (n : Nat) (hn : n ≤ 6) (es : List En) (he : es.length ≤ 4) (h : ∀ e ∈ es, GoodE u n e) {kvs : List (L2.Key × D)} {g : Int → Int} (hg : Worth kvs g) (W : Wd) : callK prg (k + 4) "filled_guarded" [gtD n es, .dct kvs] W = .ok (ansD g es) W := by
  have h1 : (es.filter fun e => ev g e.c).length ≤ es.length := List.length_filter_le _ _
  have h2 : (es.filter fun e => ev g e.c).length ≤ 16777216 := by omega
  have h3 := rowsf (k + 1) En.row (es.filter fun e => ev g e.c) n hn (by omega) (fun e hm => (h e (List.mem_filter.mp hm).1).len) hg W
  rw [c_filled_guarded]
  simp [f_filled_guarded, x_filled_guarded_1, gtD]
  rw [lc_filt En.d (fun e => .tup (e.row.map .int)) (fun e => ev g e.c)]
  · simp [h2, h3, ansD, fullK]
  · intro x hx
    have gx := h x hx
    refine ⟨_, rfl, ?_, fun _ => ?_⟩
    · have := holds u hg W (k) 2 x.c gx.c
      simp [this]
    · simp
end LW

namespace LW
open PySem PL
def fe (u : List Int) (c : Int) : D → Bool
  | .tup [.tup xs, cond] => decide ((xs.length : Int) = c) && xs.all (fc u) && decide (wt u cond 12 ≤ 1000)
  | _ => false
def fg (u : List Int) : D → Bool
  | .tup [.int n, .tup es] => isW (.int n) 0 6 && decide (es.length ≤ 200) && es.all (fe u n)
  | _ => false
theorem all_mapid {α : Type} (f : α → Bool) (xs : List α) : (xs.map f).all id = xs.all f := by
  induction xs with
  | nil => rfl
  | cons x xs ih => simp [ih]
theorem isT_eq (xs : List D) (c : Int) : isT (.tup xs) c c = decide ((xs.length : Int) = c) := by
  unfold isT
  by_cases h : (xs.length : Int) = c
  · simp [h]
  · simp [h]; omega
theorem isT_non {d : D} (h : ∀ xs, d ≠ .tup xs) (a b : Int) : isT d a b = false := by
  cases d with
  | tup xs => exact absurd rfl (h xs)
  | _ => rfl
theorem fite (k : Nat) (u : List Int) (c : Int) (hc : c ≤ 6) {d : D} (hd : Pl d) (W : Wd) : callK prg (k + 7) "fits_entry" [.tup (u.map .int), .int c, d] W = .ok (.bl (fe u c d)) W := by
  rw [c_fits_entry]
  cases d with
  | tup l =>
    match l, hd with
    | [], hd => simp [f_fits_entry, ist (k+5) hd, isT, fe]
    | [x], hd => simp [f_fits_entry, ist (k+5) hd, isT, fe]
    | x :: y :: z :: r, hd =>
      have e : isT (.tup (x :: y :: z :: r)) 2 2 = false := by rw [isT_eq]; simp; omega
      simp [f_fits_entry, ist (k+5) hd, e, fe]
    | [a, b], hd =>
      obtain ⟨ha, hb⟩ := hd.cons
      obtain ⟨hb, _⟩ := hb.cons
      have e : isT (.tup [a, b]) 2 2 = true := by rw [isT_eq]; simp
      by_cases hta : ∃ xs, a = .tup xs
      · obtain ⟨xs, rfl⟩ := hta
        by_cases hl : (xs.length : Int) = c
        · have e2 : isT (.tup xs) c c = true := by rw [isT_eq]; simp [hl]
          have h5 : xs.length ≤ 16777216 := by omega
          simp [f_fits_entry, ist (k+5) hd, ist (k+5) ha, e, e2, x_fits_entry_1]
          rw [lc_map (fun x => .bl (fc u x))]
          · cases ea : xs.all (fc u)
            · simp [bls_map, h5, all_mapid, ea, fe]
            · simp [bls_map, h5, all_mapid, ea, fe, fcd k u hb, hl]
          · intro x hx
            exact ⟨_, rfl, rfl, by simp [fcl (k + 3) (ha.mem hx)]⟩
        · have e2 : isT (.tup xs) c c = false := by rw [isT_eq]; simp [hl]
          simp [f_fits_entry, ist (k+5) hd, ist (k+5) ha, e, e2, fe, hl]
      · have hn : ∀ xs, a ≠ .tup xs := fun xs e => hta ⟨xs, e⟩
        have ef : fe u c (.tup [a, b]) = false := by
          cases a with
          | tup xs => exact absurd rfl (hn xs)
          | _ => rfl
        simp [f_fits_entry, ist (k+5) hd, ist (k+5) ha, e, isT_non hn, ef]
  | fn _ => simp [Pl, D.py] at hd
  | ref _ => simp [Pl, D.py] at hd
  | scr _ => simp [Pl, D.py] at hd
  | dct _ => simp [Pl, D.py] at hd
  | _ => simp [f_fits_entry, ist (k+5) hd, isT, fe]
theorem fitg (k : Nat) (u : List Int) {d : D} (hd : Pl d) (W : Wd) : callK prg (k + 8) "fits_guarded" [.tup (u.map .int), d] W = .ok (.bl (fg u d)) W := by
  rw [c_fits_guarded]
  cases d with
  | tup l =>
    match l, hd with
    | [], hd => simp [f_fits_guarded, ist (k+6) hd, isT, fg]
    | [x], hd => simp [f_fits_guarded, ist (k+6) hd, isT, fg]
    | x :: y :: z :: r, hd =>
      have e : isT (.tup (x :: y :: z :: r)) 2 2 = false := by rw [isT_eq]; simp; omega
      simp [f_fits_guarded, ist (k+6) hd, e, fg]
    | [a, b], hd =>
      obtain ⟨ha, hb⟩ := hd.cons
      obtain ⟨hb, _⟩ := hb.cons
      have e : isT (.tup [a, b]) 2 2 = true := by rw [isT_eq]; simp
      cases hw : isW a 0 6
      · have ef : fg u (.tup [a, b]) = false := by
          cases a with
          | int n => cases b <;> simp [fg, hw]
          | _ => rfl
        simp [f_fits_guarded, ist (k+6) hd, isw (k+6) ha, e, hw, ef]
      · cases a with
        | int n =>
          have hn : n ≤ 6 := by simp [isW] at hw; omega
          by_cases htb : ∃ es, b = .tup es
          · obtain ⟨es, rfl⟩ := htb
            by_cases hl : es.length ≤ 200
            · have e2 : isT (.tup es) 0 200 = true := by simp [isT]; omega
              have h5 : es.length ≤ 16777216 := by omega
              simp [f_fits_guarded, ist (k+6) hd, isw (k+6) ha, ist (k+6) hb, e, e2, hw, x_fits_guarded_1]
              rw [lc_map (fun x => .bl (fe u n x))]
              · simp [bls_map, h5, all_mapid, fg, hl, hw]
              · intro x hx
                exact ⟨_, rfl, rfl, by simp [fite k u n hn (hb.mem hx)]⟩
            · have e2 : isT (.tup es) 0 200 = false := by simp [isT]; omega
              simp [f_fits_guarded, ist (k+6) hd, isw (k+6) ha, ist (k+6) hb, e, e2, hw, fg, hl]
          · have hn : ∀ xs, b ≠ .tup xs := fun xs e => htb ⟨xs, e⟩
            have ef : fg u (.tup [.int n, b]) = false := by
              cases b with
              | tup xs => exact absurd rfl (hn xs)
              | _ => rfl
            simp [f_fits_guarded, ist (k+6) hd, isw (k+6) ha, ist (k+6) hb, e, hw, isT_non hn, ef]
        | _ => simp [isW] at hw
  | fn _ => simp [Pl, D.py] at hd
  | ref _ => simp [Pl, D.py] at hd
  | scr _ => simp [Pl, D.py] at hd
  | dct _ => simp [Pl, D.py] at hd
  | _ => simp [f_fits_guarded, ist (k+6) hd, isT, fg]
end LW

namespace LW
open PySem PL
theorem filt_nil {α : Type} (p : α → Bool) (xs : List α) : (xs.filter fun x => !p x).isEmpty = xs.all p := by
  induction xs with
  | nil => rfl
  | cons x xs ih => cases h : p x <;> simp_all [List.filter_cons]
theorem lc_filt1 {asg : D → Wd → Option EnvD} {tst : EnvD → Wd → R Bool} {elt : EnvD → Wd → R D} {W : Wd} (p : D → Bool) {xs : List D} (hh : ∀ x ∈ xs, ∃ ρ, asg x W = some ρ ∧ tst ρ W = .ok (p x) W ∧ (p x = true → elt ρ W = .ok x W)) : lcLoop asg tst elt xs W = .ok (xs.filter p) W := by
  have := lc_filt (asg := asg) (tst := tst) (elt := elt) (W := W) id id p (xs := xs) hh
  simpa using this
theorem lbody (k : Nat) (u : List Int) (c : Int) (es : List D) {x : D} (hx : Pl x) (hs : sm x = true) (W : Wd) :
    runSs (callK prg (k + 17)) b__law_fits_2 [some (.tup (u.map .int)), some (.tup [.int c, .tup es]), some x, none] W = if fe u c x = true then .nx [some (.tup (u.map .int)), some (.tup [.int c, .tup es]), some x, none] W else .rt (.bl false) W := by
  unfold b__law_fits_2 x__law_fits_1
  cases x with
  | tup l =>
    match l, hx, hs with
    | [], hx, hs => simp [fe]
    | [a], hx, hs => simp [fe]
    | a :: b :: z :: r, hx, hs =>
      have e : ¬ ((r.length : Int) + 1 + 1 + 1 = 2) := by omega
      simp [fe, e]
    | [a, b], hx, hs =>
      obtain ⟨ha, hb⟩ := hx.cons
      obtain ⟨hb, _⟩ := hb.cons
      have hsb : sm b = true := by simp [sm, sms] at hs; exact hs.2
      have hsa : sm a = true := by simp [sm, sms] at hs; exact hs.1
      have hw := wtl u W (k) 13 12 hb hsb (by omega)
      by_cases hta : ∃ xs, a = .tup xs
      · obtain ⟨xs, rfl⟩ := hta
        by_cases hl : (xs.length : Int) = c
        · have h5 : xs.length ≤ 16777216 := by simp [sm] at hsa; omega
          have h6 : (xs.filter fun x => !fc u x).length ≤ 16777216 := Nat.le_trans (List.length_filter_le _ _) h5
          have h7 := ne_nil W (xs := xs.filter fun x => !fc u x) (Pl.all fun y hy => ha.mem (List.mem_filter.mp hy).1)
          simp [hl]
          rw [lc_filt1 (fun x => !fc u x)]
          · rw [filt_nil] at h7
            cases ea : xs.all (fc u)
            · simp [h6, h7, ea, fe]
            · by_cases hg : 1000 < wt u b 12
              · simp [h6, h7, ea, fe, hw, hg, hl]
              · simp [h6, h7, ea, fe, hw, hg, hl]
          · intro y hy
            exact ⟨_, rfl, by simp [icl (k + 14) (ha.mem hy)], fun _ => by simp⟩
        · simp [hl, fe]
      · have hn : ∀ xs, a ≠ .tup xs := fun xs e => hta ⟨xs, e⟩
        cases a with
        | tup xs => exact absurd rfl (hn xs)
        | fn _ => simp [Pl, D.py] at ha
        | ref _ => simp [Pl, D.py] at ha
        | scr _ => simp [Pl, D.py] at ha
        | dct _ => simp [Pl, D.py] at ha
        | _ => simp [fe]
  | fn _ => simp [Pl, D.py] at hx
  | ref _ => simp [Pl, D.py] at hx
  | scr _ => simp [Pl, D.py] at hx
  | dct _ => simp [Pl, D.py] at hx
  | _ => simp [fe]
theorem lloop (k : Nat) (u : List Int) (c : Int) (es0 : List D) (W : Wd) : ∀ (es : List D) (w : Option D), (∀ e ∈ es, Pl e ∧ sm e = true) →
    (es.all (fe u c) = true ∧ ∃ w', forLoop (fun d ρ W => T.put W (.nm 2) d ρ) (runSs (callK prg (k + 17)) b__law_fits_2) es [some (.tup (u.map .int)), some (.tup [.int c, .tup es0]), w, none] W = .nx [some (.tup (u.map .int)), some (.tup [.int c, .tup es0]), w', none] W) ∨
    (es.all (fe u c) = false ∧ forLoop (fun d ρ W => T.put W (.nm 2) d ρ) (runSs (callK prg (k + 17)) b__law_fits_2) es [some (.tup (u.map .int)), some (.tup [.int c, .tup es0]), w, none] W = .rt (.bl false) W)
  | [], w, _ => Or.inl ⟨rfl, w, rfl⟩
  | e :: es, w, h => by
    have hb := lbody k u c es0 (h e (by simp)).1 (h e (by simp)).2 W
    have ih := lloop k u c es0 W es (some e) fun y hy => h y (by simp [hy])
    have e1 : T.put W (.nm 2) e [some (.tup (u.map .int)), some (.tup [.int c, .tup es0]), w, none] = some [some (.tup (u.map .int)), some (.tup [.int c, .tup es0]), some e, none] := rfl
    cases hf : fe u c e
    · right
      rw [hf] at hb
      refine ⟨by simp [hf], ?_⟩
      simp [forLoop, e1, hb]
    · rw [hf] at hb
      rcases ih with ⟨g1, w', g2⟩ | ⟨g1, g2⟩
      · left
        refine ⟨by rw [List.all_cons, hf, g1]; rfl, w', ?_⟩
        simp [forLoop, e1, hb, g2]; exact g2
      · right
        refine ⟨by rw [List.all_cons, hf, g1]; rfl, ?_⟩
        simp [forLoop, e1, hb, g2]; exact g2
theorem lfits (k : Nat) (u : List Int) {d : D} (hd : Pl d) (hs : sm d = true) (W : Wd) : callK prg (k + 18) "_law_fits" [.tup (u.map .int), d] W = .ok (.bl (fg u d)) W := by
  rw [c__law_fits]
  cases d with
  | tup l =>
    match l, hd, hs with
    | [], hd, hs => simp [f__law_fits, fg]
    | [x], hd, hs => simp [f__law_fits, fg]
    | x :: y :: z :: r, hd, hs =>
      have e : ¬ ((r.length : Int) + 1 + 1 + 1 = 2) := by omega
      simp [f__law_fits, fg, e]
    | [a, b], hd, hs =>
      obtain ⟨ha, hb⟩ := hd.cons
      obtain ⟨hb, _⟩ := hb.cons
      have hsb : sm b = true := by simp [sm, sms] at hs; exact hs.2
      cases hw : isW a 0 6
      · have ef : fg u (.tup [a, b]) = false := by
          cases a with
          | int n => cases b <;> simp [fg, hw]
          | _ => rfl
        simp [f__law_fits, num (k + 16) ha, hw, ef]
      · cases a with
        | int n =>
          by_cases htb : ∃ es, b = .tup es
          · obtain ⟨es, rfl⟩ := htb
            by_cases hl : es.length ≤ 200
            · have hl2 : ¬ 200 < (es.length : Int) := by omega
              have hsx : sms es = true := by simp [sm] at hsb; exact hsb.2
              have L := lloop k u n es W es none fun e he => ⟨hb.mem he, sms_mem hsx he⟩
              have hF : runS (callK prg (k + 17)) l__law_fits_3 [some (.tup (u.map .int)), some (.tup [.int n, .tup es]), none, none] W = forLoop (fun d ρ W => T.put W (.nm 2) d ρ) (runSs (callK prg (k + 17)) b__law_fits_2) es [some (.tup (u.map .int)), some (.tup [.int n, .tup es]), none, none] W := rfl
              unfold f__law_fits
              generalize l__law_fits_3 = sf at hF ⊢
              rcases L with ⟨g1, w', g2⟩ | ⟨g1, g2⟩
              · rw [g2] at hF
                simp [num (k + 16) ha, hw, hl2, hF, fg, hl, g1]
              · rw [g2] at hF
                simp [num (k + 16) ha, hw, hl2, hF, fg, hl, g1]
            · have hl2 : 200 < (es.length : Int) := by omega
              simp [f__law_fits, num (k + 16) ha, hw, hl2, fg, hl]
          · have hn : ∀ xs, b ≠ .tup xs := fun xs e => htb ⟨xs, e⟩
            cases b with
            | tup xs => exact absurd rfl (hn xs)
            | fn _ => simp [Pl, D.py] at hb
            | ref _ => simp [Pl, D.py] at hb
            | scr _ => simp [Pl, D.py] at hb
            | dct _ => simp [Pl, D.py] at hb
            | _ => simp [f__law_fits, num (k + 16) ha, hw, fg]
        | _ => simp [isW] at hw
  | fn _ => simp [Pl, D.py] at hd
  | ref _ => simp [Pl, D.py] at hd
  | scr _ => simp [Pl, D.py] at hd
  | dct _ => simp [Pl, D.py] at hd
  | _ => simp [f__law_fits, fg]
end LW

namespace LW
open PySem PL
theorem cells_of {u : List Int} {ys : List D} (h : ∀ y ∈ ys, ∃ n : Int, y = .int n ∧ n ∈ cellsOf u) : ∃ f : List Int, ys = f.map .int ∧ ∀ x ∈ f, x ∈ cellsOf u := by
  induction ys with
  | nil => exact ⟨[], rfl, by simp⟩
  | cons y ys ih =>
    obtain ⟨n, rfl, hn⟩ := h y (by simp)
    obtain ⟨f, rfl, hf⟩ := ih fun z hz => h z (by simp [hz])
    refine ⟨n :: f, rfl, fun z hz => ?_⟩
    rcases List.mem_cons.mp hz with rfl | hz
    · exact hn
    · exact hf z hz
theorem grow (k : Nat) (u : List Int) (hu : u.length ≤ 6) (n : Nat) (hn : n ≤ 6) {ρ : EnvD} (a4 a5 a6 a7 : Option D) (hρ : ρ = [some (.ref 0), some (.tup (u.map .int)), some (.int n), some (.int 4), a4, a5, a6, a7, none]) {W : Wd} (hW : Cup W) :
    ∃ (r : List Int) (W' : Wd), PL.run (callK prg (k + 6)) x__law_guarded_1 ρ W = .ok (.lst (r.map .int)) W' ∧ Cup W' ∧ r.length = n ∧ ∀ a ∈ r, a ∈ cellsOf u := by
  subst hρ
  obtain ⟨ys, W4, g1, c4, gl, gp⟩ := lc_ex (asg := fun d W => T.put W (.nm 8) d (wipeD [some (.ref 0), some (.tup (u.map .int)), some (.int n), some (.int 4), a4, a5, a6, a7, none] [8])) (tst := runT (callK prg (k + 6)) .nil) (elt := PL.run (callK prg (k + 6)) (.call ("_law_any_cell" : Str) (.cons (.var 0) (.cons (.var 1) .nil))))
    (fun y => ∃ m : Int, y = .int m ∧ m ∈ cellsOf u) (xs := (List.range n).map fun (i : Nat) => .int ((i : Int))) hW (fun x hx W hW => by
      obtain ⟨y, W', e, cW, hy⟩ := any_cell (k + 3) u hu hW
      exact ⟨_, .int y, W', rfl, rfl, by simp [e], cW, y, rfl, hy⟩)
  obtain ⟨r, rfl, hr⟩ := cells_of gp
  have hlen : r.length = n := by simpa using gl
  refine ⟨r, W4, ?_, c4, hlen, hr⟩
  have hI : runI (callK prg (k + 6)) (.rng1 (.var 2)) [some (.ref 0), some (.tup (u.map .int)), some (.int n), some (.int 4), a4, a5, a6, a7, none] W = .ok ((List.range n).map fun (i : Nat) => .int ((i : Int))) W := by
    have := rng_ok (n : Int) (by omega) (by omega)
    simp at this
    simp [this]
  have hl2 : (r.map D.int).length ≤ 16777216 := by simp; omega
  unfold x__law_guarded_1
  rw [run_lc, hI]
  show (lcLoop (fun d W => T.put W (.nm 8) d (wipeD [some (.ref 0), some (.tup (u.map .int)), some (.int n), some (.int 4), a4, a5, a6, a7, none] [8])) (runT (callK prg (k + 6)) .nil) (PL.run (callK prg (k + 6)) (.call ("_law_any_cell" : Str) (.cons (.var 0) (.cons (.var 1) .nil)))) _ W).bndX _ = _
  rw [g1]
  show (if (r.map D.int).length ≤ 16777216 then _ else _) = _
  rw [if_pos hl2]
theorem gbody (k : Nat) (u : List Int) (hu : u.length ≤ 6) (n : Nat) (hn : n ≤ 6) (es : List En) (he : es.length ≤ 100) (a5 a6 a7 : Option D) {W : Wd} (hW : Cup W) :
    ∃ (e : En) (b6 b7 : Option D) (W' : Wd), runSs (callK prg (k + 6)) b__law_guarded_2 [some (.ref 0), some (.tup (u.map .int)), some (.int n), some (.int 4), some (.tup (es.map En.d)), a5, a6, a7, none] W = .nx [some (.ref 0), some (.tup (u.map .int)), some (.int n), some (.int 4), some (.tup ((es ++ [e]).map En.d)), a5, b6, b7, none] W' ∧ Cup W' ∧ GoodE u n e := by
  obtain ⟨r, W1, e1, c1, hl, hr⟩ := grow k u hu n hn (some (.tup (es.map En.d))) a5 a6 a7 rfl hW
  obtain ⟨q, W2, e2, c2, q0, q3⟩ := roll (k + 5) c1 (m := 3) (by omega) (by omega)
  have h5 : r.length ≤ 16777216 := by omega
  have h6 : es.length + 1 ≤ 16777216 := by omega
  by_cases hq : q = 0
  · subst hq
    refine ⟨⟨r, .all []⟩, some (.tup (r.map .int)), some (Cnd.all []).d, W2, ?_, c2, ⟨hl, hr, by simp [Good]⟩⟩
    · unfold b__law_guarded_2
      generalize x__law_guarded_1 = cl at e1 ⊢
      simp [e1, e2, h5, h6, En.d, Cnd.d, Cnd.ds]
  · obtain ⟨c, W3, e3, c3, hc⟩ := condition u hu k 2 c2
    have e3 : callK prg (k + 6) "_law_condition" [.ref 0, .tup (u.map .int), .int 2] W2 = .ok c.d W3 := e3
    refine ⟨⟨r, c⟩, some (.tup (r.map .int)), some c.d, W3, ?_, c3, ⟨hl, hr, hc⟩⟩
    · unfold b__law_guarded_2
      generalize x__law_guarded_1 = cl at e1 ⊢
      simp [e1, e2, e3, hq, h5, h6, En.d]
def gEnv (u : List Int) (n : Nat) (es : List En) (a5 a6 a7 : Option D) : EnvD := [some (.ref 0), some (.tup (u.map .int)), some (.int n), some (.int 4), some (.tup (es.map En.d)), a5, a6, a7, none]
theorem gloop (u : List Int) (n : Nat) (body : EnvD → Wd → SR)
    (hb : ∀ (es : List En) (a5 a6 a7 : Option D) {W : Wd}, es.length ≤ 100 → Cup W → ∃ (e : En) (b6 b7 : Option D) (W' : Wd), body (gEnv u n es a5 a6 a7) W = .nx (gEnv u n (es ++ [e]) a5 b6 b7) W' ∧ Cup W' ∧ GoodE u n e) :
    ∀ (xs : List D) (es : List En) (a5 a6 a7 : Option D) {W : Wd}, Cup W → es.length + xs.length ≤ 100 → (∀ e ∈ es, GoodE u n e) →
    ∃ (es' : List En) (b5 b6 b7 : Option D) (W' : Wd), forLoop (fun d ρ W => T.put W (.nm 5) d ρ) body xs (gEnv u n es a5 a6 a7) W = .nx (gEnv u n es' b5 b6 b7) W' ∧ Cup W' ∧ es'.length = es.length + xs.length ∧ ∀ e ∈ es', GoodE u n e := by
  intro xs
  induction xs with
  | nil => exact fun es a5 a6 a7 W hW _ h => ⟨es, a5, a6, a7, W, rfl, hW, rfl, h⟩
  | cons x xs ih =>
    intro es a5 a6 a7 W hW hl h
    simp at hl
    obtain ⟨e, b6, b7, W1, g1, c1, ge⟩ := hb es (some x) a6 a7 (by omega) hW
    obtain ⟨es', d5, d6, d7, W2, g2, c2, l2, m2⟩ := ih (es ++ [e]) (some x) b6 b7 c1 (by simp; omega) (fun y hy => by
      rcases List.mem_append.mp hy with hy | hy
      · exact h y hy
      · rw [List.mem_singleton.mp hy]; exact ge)
    refine ⟨es', d5, d6, d7, W2, ?_, c2, by simp at l2 ⊢; omega, m2⟩
    have e1 : T.put W (.nm 5) x (gEnv u n es a5 a6 a7) = some (gEnv u n es (some x) a6 a7) := rfl
    simp only [forLoop, e1, g1, SR.thn]
    exact g2
theorem guarded (k : Nat) (u : List Int) (hu : u.length ≤ 6) (n : Nat) (hn : n ≤ 6) {W : Wd} (hW : Cup W) : ∃ (es : List En) (W' : Wd), callK prg (k + 7) "_law_guarded" [.ref 0, .tup (u.map .int), .int n, .int 4] W = .ok (gtD n es) W' ∧ Cup W' ∧ es.length ≤ 4 ∧ ∀ e ∈ es, GoodE u n e := by
  obtain ⟨q, W1, e1, c1, q0, q5⟩ := roll (k + 5) hW (m := 5) (by omega) (by omega)
  obtain ⟨es, b5, b6, b7, W2, g1, c2, l2, m2⟩ := gloop u n (runSs (callK prg (k + 6)) b__law_guarded_2) (fun es a5 a6 a7 W he hW => gbody k u hu n hn es he a5 a6 a7 hW) ((List.range q.toNat).map fun (i : Nat) => .int ((i : Int))) [] none none none c1 (by simp; omega) (by simp)
  have hF : runS (callK prg (k + 6)) l__law_guarded_3 [some (.ref 0), some (.tup (u.map .int)), some (.int n), some (.int 4), some (.tup []), none, none, none, none] W = .nx [some (.ref 0), some (.tup (u.map .int)), some (.int n), some (.int 4), some (.tup (es.map En.d)), b5, b6, b7, none] W2 := by
    have hI : runI (callK prg (k + 6)) (.rng1 (.call ("_law_roll" : Str) (.cons (.var 0) (.cons (.bin .Add (.var 3) (.cst (.int (1)))) .nil)))) [some (.ref 0), some (.tup (u.map .int)), some (.int n), some (.int 4), some (.tup []), none, none, none, none] W = .ok ((List.range q.toNat).map fun (i : Nat) => .int ((i : Int))) W1 := by
      simp [e1, rng_ok q q0 (by omega)]
    show (runI (callK prg (k + 6)) (.rng1 (.call ("_law_roll" : Str) (.cons (.var 0) (.cons (.bin .Add (.var 3) (.cst (.int (1)))) .nil)))) _ W).thnS _ = _
    rw [hI]
    exact g1
  refine ⟨es, W2, ?_, c2, by simp at l2; omega, m2⟩
  rw [c__law_guarded]
  unfold f__law_guarded
  generalize l__law_guarded_3 = sf at hF ⊢
  obtain ⟨_, _, rfl⟩ := hW
  obtain ⟨_, _, rfl⟩ := c2
  simp [hF, gtD]
end LW

namespace LW
open PySem PL
theorem isg (k : Nat) {u : List Int} (hu : u ∈ U6) {d : D} (hd : Pl d) {W : Wd} (hW : Cup W) : callK prg (k + 9) "is_guarded" [.tup (u.map .int), d] W = .ok (.bl (fg u d)) W := by
  have h1 := needU (k + 2) hu hW
  have h2 := fitg k u hd W
  rw [c_is_guarded]
  obtain ⟨_, _, rfl⟩ := hW
  simp [f_is_guarded, h1, h2]
theorem gt_sh {u : List Int} {n : Nat} (hn : n ≤ 4) {es : List En} (he : es.length ≤ 4) (h : ∀ e ∈ es, GoodE u n e) : Sh 8 (gtD n es) := by
  have hint : ∀ a : Int, Sh 0 (.int a) := fun a => ⟨rfl, rfl, fun xs e => by cases e⟩
  refine sh_tup (n := 7) (by simp) fun x hx => ?_
  simp only [List.mem_cons, List.not_mem_nil, or_false] at hx
  rcases hx with rfl | rfl
  · exact (hint _).ups (by omega)
  · refine sh_tup (n := 6) (by simpa using he) fun x hx => ?_
    obtain ⟨e, hm, rfl⟩ := List.mem_map.mp hx
    have ge := h e hm
    refine sh_tup (n := 5) (by simp) fun x hx => ?_
    simp only [List.mem_cons, List.not_mem_nil, or_false] at hx
    rcases hx with rfl | rfl
    · refine (sh_tup (n := 0) (by simp; have := ge.len; omega) fun x hx => ?_).ups (by omega)
      obtain ⟨a, _, rfl⟩ := List.mem_map.mp hx
      exact hint a
    · exact good_sh 2 e.c ge.c
theorem gt_fg {u : List Int} (hu : ∀ a ∈ u, -6 ≤ a ∧ a ≤ -1) {n : Nat} (hn : n ≤ 6) {es : List En} (he : es.length ≤ 4) (h : ∀ e ∈ es, GoodE u n e) : fg u (gtD n es) = true := by
  have h1 : es.length ≤ 200 := by omega
  simp [gtD, fg, isW, hn, h1]
  refine ⟨by omega, fun e hm => ?_⟩
  have ge := h e hm
  have hw : wt u e.c.d 12 ≤ 1000 := by
    have := good_wt hu 2 e.c 12 ge.c (by omega)
    simp [bd] at this; omega
  simp [En.d, fe, ge.len, hw]
  intro a ha
  exact fc_cell hu (ge.row a ha)
theorem gfl (k : Nat) {u : List Int} (hu : u ∈ U6) {n : Nat} (hn : n ≤ 4) {es : List En} (he : es.length ≤ 4) (h : ∀ e ∈ es, GoodE u n e) {f : List Int} (hf : f.length = u.length) (hv : ∀ x ∈ f, 0 ≤ x ∧ x ≤ 1000000) {g : Int → Int} (hg : Worth (kvsOf u f) g) {W : Wd} (hW : Cup W) : callK prg (k + 10) "guarded_filled" [.tup (u.map .int), gtD n es, .tup (f.map .int)] W = .ok (ansD g es) W := by
  have hul := U6_len hu
  have h1 := needU (k + 3) hu hW
  have h2 := fitg k u (gt_sh hn he h).pl.1 W
  have h3 := needF (k + 5) u f hf hul hv W
  have h4 := filled (k + 5) u n (by omega) es he h hg W
  have h5 := wby (k + 8) u f hul W
  rw [gt_fg (U6_in hu) (by omega) he h] at h2
  have h6 : callK prg (k + 9) "need_guarded" [.tup (u.map .int), gtD n es] W = .ok .non W := by
    rw [c_need_guarded]
    simp [f_need_guarded, h2]
  rw [c_guarded_filled]
  obtain ⟨_, _, rfl⟩ := hW
  simp [f_guarded_filled, h1, h3, h4, h5, h6]
end LW

namespace LW
open PySem PL
def rowP (k : List Int) : PyData := .tuple (k.map .int)
theorem pys_rows (ks : List (List Int)) : D.pys (ks.map tupD) = some (ks.map rowP) := by
  induction ks with
  | nil => rfl
  | cons k ks ih =>
    have h1 : D.py (tupD k) = some (rowP k) := by simp [tupD, rowP, D.py, pys_ints]
    simp [D.pys, h1, ih]
theorem depth_rows (ks : List (List Int)) : PyData.depthAll (ks.map rowP) ≤ 2 := by
  induction ks with
  | nil => simp [PyData.depthAll]
  | cons k ks ih =>
    have := depth_ints k
    have e : (rowP k).depth ≤ 2 := by simp [rowP, PyData.depth]; omega
    simp [PyData.depthAll]
    omega
theorem eqv_ints (k : List Int) : PyData.eqvAll (k.map .int) (k.map .int) = true := by
  induction k with
  | nil => rfl
  | cons a k ih =>
    simp only [List.map_cons, PyData.eqvAll, PyData.eqv, ih]
    simp
theorem eqv_rows (ks : List (List Int)) : PyData.eqvAll (ks.map rowP) (ks.map rowP) = true := by
  induction ks with
  | nil => rfl
  | cons k ks ih =>
    simp only [List.map_cons, PyData.eqvAll, ih]
    simp [rowP, PyData.eqv, eqv_ints]
theorem eq_rows (W : Wd) (ks : List (List Int)) : dEq W (.tup (ks.map tupD)) (.tup (ks.map tupD)) = some true := by
  have hd := depth_rows ks
  have hm : min (PyData.tuple (ks.map rowP)).depth (PyData.tuple (ks.map rowP)).depth ≤ 100 := by
    simp [PyData.depth]; omega
  unfold dEq
  simp only [pyW, D.py, pys_rows, Option.map_some]
  rw [if_pos hm]
  simp [PyData.eqv, eqv_rows]
end LW

namespace LW
open PySem PL
theorem for_cup {asg : D → EnvD → Wd → Option EnvD} {body : EnvD → Wd → SR} (I : EnvD → Prop) : ∀ {xs : List D} {ρ : EnvD} {W : Wd}, I ρ → Cup W → (∀ x ∈ xs, ∀ ρ W, I ρ → Cup W → ∃ ρ1 ρ2 W2, asg x ρ W = some ρ1 ∧ body ρ1 W = .nx ρ2 W2 ∧ I ρ2 ∧ Cup W2) →
    ∃ ρ' W', forLoop asg body xs ρ W = .nx ρ' W' ∧ I ρ' ∧ Cup W'
  | [], ρ, W, hI, hW, _ => ⟨ρ, W, rfl, hI, hW⟩
  | x :: xs, ρ, W, hI, hW, h => by
    obtain ⟨ρ1, ρ2, W2, h1, h2, h3, h4⟩ := h x (by simp) ρ W hI hW
    obtain ⟨ρ', W', g1, g2, g3⟩ := for_cup I (xs := xs) h3 h4 fun y hy => h y (by simp [hy])
    exact ⟨ρ', W', by simp [forLoop, h1, h2, g1], g2, g3⟩
theorem ints_of {ys : List D} (h : ∀ y ∈ ys, ∃ n : Int, y = .int n ∧ (0 ≤ n ∧ n ≤ 1000000)) : ∃ f : List Int, ys = f.map .int ∧ ∀ x ∈ f, 0 ≤ x ∧ x ≤ 1000000 := by
  induction ys with
  | nil => exact ⟨[], rfl, by simp⟩
  | cons y ys ih =>
    obtain ⟨n, rfl, hn⟩ := h y (by simp)
    obtain ⟨f, rfl, hf⟩ := ih fun z hz => h z (by simp [hz])
    refine ⟨n :: f, rfl, fun z hz => ?_⟩
    rcases List.mem_cons.mp hz with rfl | hz
    · exact hn
    · exact hf z hz
theorem rep_bl (W : Wd) (b : Bool) : dRepr W [.bl b] = some (.str (if b then "True" else "False")) := rfl
theorem fill (k : Nat) {u : List Int} (hul : u.length ≤ 6) (c : D) {W1 : Wd} (c1 : Cup W1) : ∃ (f : List Int) (W2 : Wd), PL.run (callK prg (k + 29)) x__law_right_3 [some (.ref 0), some (.tup (u.map .int)), some c, none, none, none, none] W1 = .ok (.lst (f.map .int)) W2 ∧ Cup W2 ∧ f.length = u.length ∧ ∀ x ∈ f, 0 ≤ x ∧ x ≤ 1000000 := by
  obtain ⟨ys, W2, g1, c2, gl, gp⟩ := lc_ex (asg := fun d W => T.put W (.nm 6) d (wipeD [some (.ref 0), some (.tup (u.map .int)), some c, none, none, none, none] [6])) (tst := runT (callK prg (k + 29)) .nil)
    (elt := PL.run (callK prg (k + 29)) (.call ("_law_some" : Str) (.cons (.var 0) (.cons (.lst (.cons (.cst (.int (1))) (.cons (.cst (.int (2))) (.cons (.cst (.int (3))) (.cons (.cst (.int (5))) .nil))))) .nil))))
    (fun y => ∃ n : Int, y = .int n ∧ (0 ≤ n ∧ n ≤ 1000000)) (xs := u.map .int) c1 (fun x hx W hW => by
      obtain ⟨y, W', e, cW, hy⟩ := some_of (k + 27) hW (xs := [.int 1, .int 2, .int 3, .int 5]) (by simp) (by simp)
      refine ⟨_, y, W', rfl, rfl, by simp [e], cW, ?_⟩
      simp only [List.mem_cons, List.not_mem_nil, or_false] at hy
      rcases hy with rfl | rfl | rfl | rfl
      · exact ⟨1, rfl, by omega, by omega⟩
      · exact ⟨2, rfl, by omega, by omega⟩
      · exact ⟨3, rfl, by omega, by omega⟩
      · exact ⟨5, rfl, by omega, by omega⟩)
  obtain ⟨f, rfl, hf⟩ := ints_of gp
  have hfl : f.length = u.length := by simpa using gl
  refine ⟨f, W2, ?_, c2, hfl, hf⟩
  have hl2 : (f.map D.int).length ≤ 16777216 := by simp; omega
  unfold x__law_right_3
  rw [run_lc]
  show (lcLoop (fun d W => T.put W (.nm 6) d (wipeD [some (.ref 0), some (.tup (u.map .int)), some c, none, none, none, none] [6])) (runT (callK prg (k + 29)) .nil) (PL.run (callK prg (k + 29)) (.call ("_law_some" : Str) (.cons (.var 0) (.cons (.lst (.cons (.cst (.int (1))) (.cons (.cst (.int (2))) (.cons (.cst (.int (3))) (.cons (.cst (.int (5))) .nil))))) .nil)))) (u.map .int) W1).bndX _ = _
  rw [g1]
  show (if (f.map D.int).length ≤ 16777216 then _ else _) = _
  rw [if_pos hl2]
end LW

namespace LW
open PySem PL
theorem rturn (k : Nat) {u : List Int} (hu : u ∈ U6) {d : D} (hsh : Sh 8 d) (f : D) (a5 : Option D) (x : D) {W : Wd} (hW : Cup W) : ∃ (v : D) (W' : Wd), runSs (callK prg (k + 29)) b__law_right_1 [some (.ref 0), some (.tup (u.map .int)), some d, some f, some x, a5, none] W = .nx [some (.ref 0), some (.tup (u.map .int)), some d, some f, some x, some v, none] W' ∧ Cup W' := by
  obtain ⟨v, W', e, cW, hv⟩ := spoilt (k + 18) 8 d hsh hW
  have e : callK prg (k + 29) "_law_spoilt" [.ref 0, d] W = .ok v W' := e
  have i1 := isg (k + 20) hu hv.1 cW
  have i2 := lfits (k + 11) u hv.1 hv.2 W'
  refine ⟨v, W', ?_, cW⟩
  cases hf : fg u v <;> rw [hf] at i1 i2 <;> simp [b__law_right_1, e, i1, i2, rep_bl]
theorem right (k : Nat) {u : List Int} (hu : u ∈ U6) {W : Wd} (hW : Cup W) : ∃ W', callK prg (k + 30) "_law_right" [.ref 0, .tup (u.map .int)] W = .ok (.bl true) W' ∧ Cup W' := by
  have hul := U6_len hu
  obtain ⟨y, W0, e0, c0, hy⟩ := some_of (k + 27) hW (xs := [.int 0, .int 1, .int 1, .int 2, .int 3]) (by simp) (by simp)
  have hn : ∃ n : Nat, n ≤ 3 ∧ y = .int n := by
    simp only [List.mem_cons, List.not_mem_nil, or_false] at hy
    rcases hy with rfl | rfl | rfl | rfl | rfl
    · exact ⟨0, by omega, rfl⟩
    · exact ⟨1, by omega, rfl⟩
    · exact ⟨1, by omega, rfl⟩
    · exact ⟨2, by omega, rfl⟩
    · exact ⟨3, by omega, rfl⟩
  obtain ⟨n, hn, rfl⟩ := hn
  obtain ⟨es, W1, e1, c1, hl, hes⟩ := guarded (k + 22) u hul n (by omega) c0
  have e1 : callK prg (k + 29) "_law_guarded" [.ref 0, .tup (u.map .int), .int n, .int 4] W0 = .ok (gtD n es) W1 := e1
  have hsh := gt_sh (by omega) hl hes
  obtain ⟨f, W2, hL, c2, hfl, hf⟩ := fill k hul (gtD n es) c1
  obtain ⟨g, hg⟩ := worth u f
  obtain ⟨ρ', W3, l1, ⟨a, b, hρ⟩, c3⟩ := for_cup (asg := fun d ρ W => T.put W (.nm 4) d ρ) (body := runSs (callK prg (k + 29)) b__law_right_1) (fun ρ => ∃ a b, ρ = [some (.ref 0), some (.tup (u.map .int)), some (gtD n es), some (.tup (f.map .int)), a, b, none])
    (xs := [.int 0, .int 1, .int 2]) (ρ := [some (.ref 0), some (.tup (u.map .int)), some (gtD n es), some (.tup (f.map .int)), none, none, none]) (W := W2) ⟨none, none, rfl⟩ c2 (fun x hx ρ W hρ hW => by
      obtain ⟨a, b, rfl⟩ := hρ
      obtain ⟨v, W', e, cW⟩ := rturn k hu hsh (.tup (f.map .int)) b x hW
      exact ⟨_, _, W', rfl, e, ⟨some x, some v, rfl⟩, cW⟩)
  refine ⟨W3, ?_, c3⟩
  have hF : runS (callK prg (k + 29)) l__law_right_2 [some (.ref 0), some (.tup (u.map .int)), some (gtD n es), some (.tup (f.map .int)), none, none, none] W2 = .nx ρ' W3 := l1
  have i1 := isg (k + 20) hu hsh.pl.1 c2
  rw [gt_fg (U6_in hu) (by omega) hl hes] at i1
  have i2 := gfl (k + 19) hu (by omega) hl hes hfl hf hg c2
  have i3 := full (k + 25) u n (by omega) es hl hes hg W2
  have i4 := lby (k + 28) u f hul W2
  have i5 : dEq W2 (ansD g es) (ansD g es) = some true := eq_rows W2 _
  have hl2 : f.length ≤ 16777216 := by omega
  rw [c__law_right]
  unfold f__law_right
  generalize l__law_right_2 = sf at hF ⊢
  generalize x__law_right_3 = cl at hL ⊢
  obtain ⟨_, _, rfl⟩ := hW
  obtain ⟨_, _, rfl⟩ := c0
  obtain ⟨_, _, rfl⟩ := c1
  obtain ⟨_, _, rfl⟩ := c2
  obtain ⟨_, _, rfl⟩ := c3
  simp [e0, e1, hL, i1, i2, i3, i4, i5, hF, hl2]
end LW

namespace LW
open PySem PL
def lwB : Ss := .cons (.ife (.not (.call ("_law_right" : Str) (.cons (.var 1) (.cons (.call ("_law_some_unknowns" : Str) (.cons (.var 1) .nil)) .nil)))) (.cons (.ret (.cst (.bl false))) .nil) (.nil)) .nil
def lwM : Ss := .cons (.asg (.nm 3) (.tup (.cons (.cst (.int (1))) (.cons (.tup (.cons (.tup (.cons (.tup (.cons (.cst (.int (1))) .nil)) (.cons (.tup (.cons (.cst (.str ("same" : Str))) (.cons (.neg (.cst (.int (1)))) (.cons (.cst (.int (1))) .nil)))) .nil))) (.cons (.tup (.cons (.tup (.cons (.neg (.cst (.int (1)))) .nil)) (.cons (.tup (.cons (.cst (.str ("not" : Str))) (.cons (.tup (.cons (.cst (.str ("same" : Str))) (.cons (.neg (.cst (.int (1)))) (.cons (.cst (.int (1))) .nil)))) .nil))) .nil))) .nil))) .nil)))) (.cons (.ife (.or (.cons (.cmp .NotEq (.call ("guarded_filled" : Str) (.cons (.tup (.cons (.neg (.cst (.int (1)))) .nil)) (.cons (.var 3) (.cons (.tup (.cons (.cst (.int (1))) .nil)) .nil)))) (.tup (.cons (.tup (.cons (.cst (.int (1))) .nil)) .nil))) (.cons (.cmp .NotEq (.call ("guarded_filled" : Str) (.cons (.tup (.cons (.neg (.cst (.int (1)))) .nil)) (.cons (.var 3) (.cons (.tup (.cons (.cst (.int (4))) .nil)) .nil)))) (.tup (.cons (.tup (.cons (.cst (.int (4))) .nil)) .nil))) (.cons (.cmp .IsNot (.call ("is_guarded" : Str) (.cons (.tup (.nil)) (.cons (.var 3) .nil))) (.cst (.bl false))) .nil)))) (.cons (.ret (.cst (.bl false))) .nil) (.nil)) (.cons (.asg (.nm 4) (.tup (.cons (.cst (.int (2))) (.cons (.tup (.cons (.tup (.cons (.tup (.cons (.neg (.cst (.int (1)))) (.cons (.cst (.int (3))) .nil))) (.cons (.tup (.cons (.cst (.str ("all" : Str))) (.cons (.tup (.nil)) .nil))) .nil))) (.cons (.tup (.cons (.tup (.cons (.cst (.int (3))) (.cons (.neg (.cst (.int (2)))) .nil))) (.cons (.tup (.cons (.cst (.str ("all" : Str))) (.cons (.tup (.nil)) .nil))) .nil))) (.cons (.tup (.cons (.tup (.cons (.neg (.cst (.int (2)))) (.cons (.neg (.cst (.int (1)))) .nil))) (.cons (.tup (.cons (.cst (.str ("same" : Str))) (.cons (.neg (.cst (.int (1)))) (.cons (.neg (.cst (.int (2)))) .nil)))) .nil))) .nil)))) .nil)))) (.cons (.ife (.or (.cons (.cmp .NotEq (.call ("guarded_filled" : Str) (.cons (.tup (.cons (.neg (.cst (.int (2)))) (.cons (.neg (.cst (.int (1)))) .nil))) (.cons (.var 4) (.cons (.tup (.cons (.cst (.int (3))) (.cons (.cst (.int (3))) .nil))) .nil)))) (.tup (.cons (.tup (.cons (.cst (.int (3))) (.cons (.cst (.int (3))) .nil))) .nil))) (.cons (.cmp .NotEq (.call ("guarded_filled" : Str) (.cons (.tup (.cons (.neg (.cst (.int (2)))) (.cons (.neg (.cst (.int (1)))) .nil))) (.cons (.var 4) (.cons (.tup (.cons (.cst (.int (4))) (.cons (.cst (.int (3))) .nil))) .nil)))) (.tup (.cons (.tup (.cons (.cst (.int (3))) (.cons (.cst (.int (3))) .nil))) (.cons (.tup (.cons (.cst (.int (3))) (.cons (.cst (.int (4))) .nil))) .nil)))) (.cons (.cmp .NotEq (.call ("guarded_filled" : Str) (.cons (.tup (.cons (.neg (.cst (.int (2)))) (.cons (.neg (.cst (.int (1)))) .nil))) (.cons (.var 4) (.cons (.tup (.cons (.cst (.int (2))) (.cons (.cst (.int (2))) .nil))) .nil)))) (.tup (.cons (.tup (.cons (.cst (.int (2))) (.cons (.cst (.int (2))) .nil))) (.cons (.tup (.cons (.cst (.int (2))) (.cons (.cst (.int (3))) .nil))) (.cons (.tup (.cons (.cst (.int (3))) (.cons (.cst (.int (2))) .nil))) .nil))))) .nil)))) (.cons (.ret (.cst (.bl false))) .nil) (.nil)) (.cons (.asg (.nm 5) (.tup (.cons (.cst (.int (0))) (.cons (.tup (.cons (.tup (.cons (.tup (.nil)) (.cons (.tup (.cons (.cst (.str ("some" : Str))) (.cons (.tup (.nil)) .nil))) .nil))) (.cons (.tup (.cons (.tup (.nil)) (.cons (.tup (.cons (.cst (.str ("same" : Str))) (.cons (.neg (.cst (.int (1)))) (.cons (.cst (.int (2))) .nil)))) .nil))) .nil))) .nil)))) (.cons (.ife (.or (.cons (.cmp .NotEq (.call ("guarded_filled" : Str) (.cons (.tup (.cons (.neg (.cst (.int (1)))) .nil)) (.cons (.var 5) (.cons (.tup (.cons (.cst (.int (2))) .nil)) .nil)))) (.tup (.cons (.tup (.nil)) .nil))) (.cons (.cmp .NotEq (.call ("guarded_filled" : Str) (.cons (.tup (.cons (.neg (.cst (.int (1)))) .nil)) (.cons (.var 5) (.cons (.tup (.cons (.cst (.int (3))) .nil)) .nil)))) (.tup (.nil))) (.cons (.cmp .NotEq (.call ("guarded_filled" : Str) (.cons (.tup (.nil)) (.cons (.tup (.cons (.cst (.int (4))) (.cons (.tup (.nil)) .nil))) (.cons (.tup (.nil)) .nil)))) (.tup (.nil))) .nil)))) (.cons (.ret (.cst (.bl false))) .nil) (.nil)) (.cons (.asg (.nm 6) (.tup (.cons (.tup (.nil)) (.cons (.tup (.cons (.cst (.str ("all" : Str))) (.cons (.tup (.nil)) .nil))) .nil)))) (.nil)))))))
def lwT : Ss := .cons (.ret (.and (.cons (.cmp .Is (.call ("is_guarded" : Str) (.cons (.tup (.nil)) (.cons (.tup (.cons (.cst (.int (0))) (.cons (.bin .Mult (.tup (.cons (.var 6) .nil)) (.cst (.int (200)))) .nil))) .nil))) (.cst (.bl true))) (.cons (.cmp .Is (.call ("is_guarded" : Str) (.cons (.tup (.nil)) (.cons (.tup (.cons (.cst (.int (0))) (.cons (.bin .Mult (.tup (.cons (.var 6) .nil)) (.cst (.int (201)))) .nil))) .nil))) (.cst (.bl false))) (.cons (.cmp .Is (.call ("is_guarded" : Str) (.cons (.tup (.cons (.neg (.cst (.int (1)))) .nil)) (.cons (.tup (.cons (.cst (.int (6))) (.cons (.tup (.cons (.tup (.cons (.bin .Mult (.tup (.cons (.neg (.cst (.int (1)))) .nil)) (.cst (.int (6)))) (.cons (.tup (.cons (.cst (.str ("all" : Str))) (.cons (.tup (.nil)) .nil))) .nil))) .nil)) .nil))) .nil))) (.cst (.bl true))) .nil))))) (.nil)
def lwR : Ss := .cons (.asg (.nm 3) (.tup (.cons (.cst (.int (1))) (.cons (.tup (.cons (.tup (.cons (.tup (.cons (.cst (.int (1))) .nil)) (.cons (.tup (.cons (.cst (.str ("same" : Str))) (.cons (.neg (.cst (.int (1)))) (.cons (.cst (.int (1))) .nil)))) .nil))) (.cons (.tup (.cons (.tup (.cons (.neg (.cst (.int (1)))) .nil)) (.cons (.tup (.cons (.cst (.str ("not" : Str))) (.cons (.tup (.cons (.cst (.str ("same" : Str))) (.cons (.neg (.cst (.int (1)))) (.cons (.cst (.int (1))) .nil)))) .nil))) .nil))) .nil))) .nil)))) (.cons (.ife (.or (.cons (.cmp .NotEq (.call ("guarded_filled" : Str) (.cons (.tup (.cons (.neg (.cst (.int (1)))) .nil)) (.cons (.var 3) (.cons (.tup (.cons (.cst (.int (1))) .nil)) .nil)))) (.tup (.cons (.tup (.cons (.cst (.int (1))) .nil)) .nil))) (.cons (.cmp .NotEq (.call ("guarded_filled" : Str) (.cons (.tup (.cons (.neg (.cst (.int (1)))) .nil)) (.cons (.var 3) (.cons (.tup (.cons (.cst (.int (4))) .nil)) .nil)))) (.tup (.cons (.tup (.cons (.cst (.int (4))) .nil)) .nil))) (.cons (.cmp .IsNot (.call ("is_guarded" : Str) (.cons (.tup (.nil)) (.cons (.var 3) .nil))) (.cst (.bl false))) .nil)))) (.cons (.ret (.cst (.bl false))) .nil) (.nil)) (.cons (.asg (.nm 4) (.tup (.cons (.cst (.int (2))) (.cons (.tup (.cons (.tup (.cons (.tup (.cons (.neg (.cst (.int (1)))) (.cons (.cst (.int (3))) .nil))) (.cons (.tup (.cons (.cst (.str ("all" : Str))) (.cons (.tup (.nil)) .nil))) .nil))) (.cons (.tup (.cons (.tup (.cons (.cst (.int (3))) (.cons (.neg (.cst (.int (2)))) .nil))) (.cons (.tup (.cons (.cst (.str ("all" : Str))) (.cons (.tup (.nil)) .nil))) .nil))) (.cons (.tup (.cons (.tup (.cons (.neg (.cst (.int (2)))) (.cons (.neg (.cst (.int (1)))) .nil))) (.cons (.tup (.cons (.cst (.str ("same" : Str))) (.cons (.neg (.cst (.int (1)))) (.cons (.neg (.cst (.int (2)))) .nil)))) .nil))) .nil)))) .nil)))) (.cons (.ife (.or (.cons (.cmp .NotEq (.call ("guarded_filled" : Str) (.cons (.tup (.cons (.neg (.cst (.int (2)))) (.cons (.neg (.cst (.int (1)))) .nil))) (.cons (.var 4) (.cons (.tup (.cons (.cst (.int (3))) (.cons (.cst (.int (3))) .nil))) .nil)))) (.tup (.cons (.tup (.cons (.cst (.int (3))) (.cons (.cst (.int (3))) .nil))) .nil))) (.cons (.cmp .NotEq (.call ("guarded_filled" : Str) (.cons (.tup (.cons (.neg (.cst (.int (2)))) (.cons (.neg (.cst (.int (1)))) .nil))) (.cons (.var 4) (.cons (.tup (.cons (.cst (.int (4))) (.cons (.cst (.int (3))) .nil))) .nil)))) (.tup (.cons (.tup (.cons (.cst (.int (3))) (.cons (.cst (.int (3))) .nil))) (.cons (.tup (.cons (.cst (.int (3))) (.cons (.cst (.int (4))) .nil))) .nil)))) (.cons (.cmp .NotEq (.call ("guarded_filled" : Str) (.cons (.tup (.cons (.neg (.cst (.int (2)))) (.cons (.neg (.cst (.int (1)))) .nil))) (.cons (.var 4) (.cons (.tup (.cons (.cst (.int (2))) (.cons (.cst (.int (2))) .nil))) .nil)))) (.tup (.cons (.tup (.cons (.cst (.int (2))) (.cons (.cst (.int (2))) .nil))) (.cons (.tup (.cons (.cst (.int (2))) (.cons (.cst (.int (3))) .nil))) (.cons (.tup (.cons (.cst (.int (3))) (.cons (.cst (.int (2))) .nil))) .nil))))) .nil)))) (.cons (.ret (.cst (.bl false))) .nil) (.nil)) (.cons (.asg (.nm 5) (.tup (.cons (.cst (.int (0))) (.cons (.tup (.cons (.tup (.cons (.tup (.nil)) (.cons (.tup (.cons (.cst (.str ("some" : Str))) (.cons (.tup (.nil)) .nil))) .nil))) (.cons (.tup (.cons (.tup (.nil)) (.cons (.tup (.cons (.cst (.str ("same" : Str))) (.cons (.neg (.cst (.int (1)))) (.cons (.cst (.int (2))) .nil)))) .nil))) .nil))) .nil)))) (.cons (.ife (.or (.cons (.cmp .NotEq (.call ("guarded_filled" : Str) (.cons (.tup (.cons (.neg (.cst (.int (1)))) .nil)) (.cons (.var 5) (.cons (.tup (.cons (.cst (.int (2))) .nil)) .nil)))) (.tup (.cons (.tup (.nil)) .nil))) (.cons (.cmp .NotEq (.call ("guarded_filled" : Str) (.cons (.tup (.cons (.neg (.cst (.int (1)))) .nil)) (.cons (.var 5) (.cons (.tup (.cons (.cst (.int (3))) .nil)) .nil)))) (.tup (.nil))) (.cons (.cmp .NotEq (.call ("guarded_filled" : Str) (.cons (.tup (.nil)) (.cons (.tup (.cons (.cst (.int (4))) (.cons (.tup (.nil)) .nil))) (.cons (.tup (.nil)) .nil)))) (.tup (.nil))) .nil)))) (.cons (.ret (.cst (.bl false))) .nil) (.nil)) (.cons (.asg (.nm 6) (.tup (.cons (.tup (.nil)) (.cons (.tup (.cons (.cst (.str ("all" : Str))) (.cons (.tup (.nil)) .nil))) .nil)))) (lwT)))))))
theorem law_f : f_law = ⟨1, 7, false, .cons (.asg (.nm 1) (.call ("_law_cup" : Str) (.cons (.var 0) .nil))) (.cons (.for_ (.nm 2) (.rng1 (.cst (.int (4)))) lwB) lwR)⟩ := rfl
def gtC : D := .tup [.int 1, .tup [.tup [.tup [.int 1], .tup [.str "same", .int (-1), .int 1]], .tup [.tup [.int (-1)], .tup [.str "not", .tup [.str "same", .int (-1), .int 1]]]]]
def allC : D := .tup [.str "all", .tup []]
def twoC : D := .tup [.int 2, .tup [.tup [.tup [.int (-1), .int 3], allC], .tup [.tup [.int 3, .int (-2)], allC], .tup [.tup [.int (-2), .int (-1)], .tup [.str "same", .int (-1), .int (-2)]]]]
def noneC : D := .tup [.int 0, .tup [.tup [.tup [], .tup [.str "some", .tup []]], .tup [.tup [], .tup [.str "same", .int (-1), .int 2]]]]
def entC : D := .tup [.tup [], allC]
theorem mid (k : Nat) (s x : Option D) (a b : Int) : runSs (callK prg (k + 40)) lwM [s, some (.ref 0), x, none, none, none, none] [[.int a, .int b]] = .nx [s, some (.ref 0), x, some gtC, some twoC, some noneC, some entC] [[.int a, .int b]] := by
  kernel_rfl
end LW

namespace LW
open PySem PL
theorem rep_flat (n : Nat) (d : D) : (List.replicate n [d]).flatten = List.replicate n d := by
  induction n with
  | zero => rfl
  | succ n ih => simp [List.replicate_succ, ih]
def bigD (n : Nat) : D := .tup [.int 0, .tup (List.replicate n entC)]
theorem big_pl (n : Nat) : Pl (bigD n) := by
  obtain ⟨ps, e⟩ := Pl.all (xs := List.replicate n entC) fun x hx => by
    rw [(List.mem_replicate.mp hx).2]; rfl
  simp [Pl, bigD, D.py, D.pys, e]
theorem ent_fe : fe [] 0 entC = true := by
  simp [fe, entC, allC, wt_tup, ns2, na1, wts]
theorem big_fg (n : Nat) : fg [] (bigD n) = decide (n ≤ 200) := by
  have h : (List.replicate n entC).all (fe [] 0) = true := by
    simp only [List.all_eq_true]
    intro x hx
    rw [(List.mem_replicate.mp hx).2]; exact ent_fe
  show (isW (.int 0) 0 6 && decide ((List.replicate n entC).length ≤ 200) && (List.replicate n entC).all (fe [] 0)) = _
  rw [h]
  simp [isW]
theorem tail (k : Nat) (s x g t o : Option D) {W : Wd} (hW : Cup W) : runSs (callK prg (k + 40)) lwT [s, some (.ref 0), x, g, t, o, some entC] W = .rt (.bl true) W := by
  have h0 : ([] : List Int) ∈ U6 := by simp [U6]
  have i1 := isg (k + 31) h0 (big_pl 200) hW
  have i2 := isg (k + 31) h0 (big_pl 201) hW
  rw [big_fg] at i1 i2
  have i3 : callK prg (k + 40) "is_guarded" [.tup [.int (-1)], .tup [.int 6, .tup [.tup [.tup [.int (-1), .int (-1), .int (-1), .int (-1), .int (-1), .int (-1)], .tup [.str "all", .tup []]]]]] W = .ok (.bl true) W := by
    obtain ⟨a, b, rfl⟩ := hW
    kernel_rfl
  unfold bigD at i1 i2
  simp only [List.map_nil] at i1 i2
  generalize entC = ec at i1 i2 ⊢
  simp [-List.reduceReplicate, lwT, rep_flat, i1, i2]
  simp [i3]
end LW

namespace LW
open PySem PL
theorem thn_assoc (r : SR) (f g : EnvD → Wd → SR) : (r.thn f).thn g = r.thn fun ρ W => (f ρ W).thn g := by cases r <;> rfl
theorem thn_nx (ρ : EnvD) (W : Wd) (f : EnvD → Wd → SR) : (SR.nx ρ W).thn f = f ρ W := rfl
theorem lwR_split (Δ : Tab) (ρ : EnvD) (W : Wd) : runSs Δ lwR ρ W = (runSs Δ lwM ρ W).thn (runSs Δ lwT) := by
  unfold lwR lwM
  generalize lwT = lt
  simp only [runSs, thn_assoc, thn_nx]
theorem some_unknowns (k : Nat) {W : Wd} (hW : Cup W) : ∃ (u : List Int) (W' : Wd), callK prg (k + 3) "_law_some_unknowns" [.ref 0] W = .ok (.tup (u.map .int)) W' ∧ Cup W' ∧ u ∈ U6 := by
  obtain ⟨x, W1, e1, c1, hx⟩ := some_of k hW (xs := [.tup [], .tup [.int (-1)], .tup [.int (-1)], .tup [.int (-2), .int (-1)], .tup [.int (-2), .int (-1)], .tup [.int (-5), .int (-1)], .tup [.int (-6), .int (-3)], .tup [.int (-3), .int (-2), .int (-1)]]) (by simp) (by simp)
  have hu : ∃ u : List Int, x = .tup (u.map .int) ∧ u ∈ U6 := by
    simp only [List.mem_cons, List.not_mem_nil, or_false] at hx
    rcases hx with rfl | rfl | rfl | rfl | rfl | rfl | rfl | rfl
    · exact ⟨[], rfl, by simp [U6]⟩
    · exact ⟨[-1], rfl, by simp [U6]⟩
    · exact ⟨[-1], rfl, by simp [U6]⟩
    · exact ⟨[-2, -1], rfl, by simp [U6]⟩
    · exact ⟨[-2, -1], rfl, by simp [U6]⟩
    · exact ⟨[-5, -1], rfl, by simp [U6]⟩
    · exact ⟨[-6, -3], rfl, by simp [U6]⟩
    · exact ⟨[-3, -2, -1], rfl, by simp [U6]⟩
  obtain ⟨u, rfl, hu⟩ := hu
  refine ⟨u, W1, ?_, c1, hu⟩
  rw [c__law_some_unknowns]
  obtain ⟨_, _, rfl⟩ := hW
  obtain ⟨_, _, rfl⟩ := c1
  simp [f__law_some_unknowns, e1]
theorem law_ok (ns : List Int) (hn : ns.length ≤ 63) : ∃ W, callK prg 60 "law" [.scr ns] [] = .ok (.bl true) W := by
  obtain ⟨W1, e1, c1⟩ := cup 58 ns hn
  have e1 : callK prg 59 "_law_cup" [.scr ns] [] = .ok (.ref 0) W1 := e1
  obtain ⟨ρ', W2, l1, ⟨x, hρ⟩, c2⟩ := for_cup (asg := fun d ρ W => T.put W (.nm 2) d ρ) (body := runSs (callK prg 59) lwB) (fun ρ => ∃ x, ρ = [some (.scr ns), some (.ref 0), x, none, none, none, none])
    (xs := [.int 0, .int 1, .int 2, .int 3]) (ρ := [some (.scr ns), some (.ref 0), none, none, none, none, none]) (W := W1) ⟨none, rfl⟩ c1 (fun y hy ρ W hρ hW => by
      obtain ⟨x, rfl⟩ := hρ
      obtain ⟨u, W', e, cW, hu⟩ := some_unknowns 56 hW
      obtain ⟨W'', e', cW'⟩ := right 29 hu cW
      have e : callK prg 59 "_law_some_unknowns" [.ref 0] W = .ok (.tup (u.map .int)) W' := e
      have e' : callK prg 59 "_law_right" [.ref 0, .tup (u.map .int)] W' = .ok (.bl true) W'' := e'
      refine ⟨_, [some (.scr ns), some (.ref 0), some y, none, none, none, none], W'', rfl, ?_, ⟨some y, rfl⟩, cW'⟩
      simp [lwB, e, e'])
  subst hρ
  have hF : runS (callK prg 59) (.for_ (.nm 2) (.rng1 (.cst (.int (4)))) lwB) [some (.scr ns), some (.ref 0), none, none, none, none, none] W1 = .nx [some (.scr ns), some (.ref 0), x, none, none, none, none] W2 := l1
  have hR : runSs (callK prg 59) lwR [some (.scr ns), some (.ref 0), x, none, none, none, none] W2 = .rt (.bl true) W2 := by
    rw [lwR_split]
    have ht : runSs (callK prg 59) lwT [some (.scr ns), some (.ref 0), x, some gtC, some twoC, some noneC, some entC] W2 = .rt (.bl true) W2 := tail 19 (some (.scr ns)) x _ _ _ c2
    obtain ⟨a, b, rfl⟩ := c2
    have hm : runSs (callK prg 59) lwM [some (.scr ns), some (.ref 0), x, none, none, none, none] [[.int a, .int b]] = .nx [some (.scr ns), some (.ref 0), x, some gtC, some twoC, some noneC, some entC] [[.int a, .int b]] := mid 19 (some (.scr ns)) x a b
    exact (congrArg (fun r => SR.thn r (runSs (callK prg 59) lwT)) hm).trans ((thn_nx _ _ _).trans ht)
  refine ⟨[], ?_⟩
  have hk : callK prg 60 "law" [.scr ns] [] = fnRun (callK prg 59) f_law [.scr ns] [] := c_law 59 _ _
  rw [hk, law_f]
  generalize S.for_ (.nm 2) (.rng1 (.cst (.int (4)))) lwB = sf at hF ⊢
  generalize lwR = sr at hR ⊢
  obtain ⟨_, _, rfl⟩ := c1
  obtain ⟨_, _, rfl⟩ := c2
  simp [e1, hF, hR]
end LW

set_option maxHeartbeats 0
namespace LW
open PySem PySem.Spec PyProof.Rows L2 PL
def loose : List PySem.Str := (["SureError", "InvalidFilling", "InvalidUnknowns", "InvalidGuarded", "GREATEST", "LEAST", "COLUMNS", "is_whole", "is_tuple_of", "fits_value", "does_ascend", "row_by", "UNKNOWNS", "PARTS", "DEEPEST", "fits_unknowns", "fits_cell", "parts_within", "fits_condition", "holds_by", "worths_by", "need_unknowns", "need_filling_of", "ENTRIES", "fits_entry", "fits_guarded", "rows_filled", "filled_guarded", "need_guarded", "is_guarded"] : List PySem.Str) ++ (["guarded_filled", "_law_cup", "_law_roll", "_law_some", "_law_put", "_law_some_unknowns", "_law_any_cell", "_law_condition", "_law_true", "_law_by", "_law_cells", "_law_worthy", "_law_number", "_law_is_cell", "_law_weight", "_law_guarded", "_law_full", "_law_spoilt", "_law_fits", "_law_right"] : List PySem.Str)
abbrev fa : List He.Fa := faOf (txts.map (·.nm)) G.frees G.gs
abbrev fn : List He.DefD := txts.map dOf
abbrev Rw : PySem.W.OpenRow := PySem.W.OpenLaw.row PySem.Challenge.rw_nearlysure_k48_whole_guarded_tables_fill
abbrev hk : PySem.W.Hook := He.hookD 4 fa fn
def ob (s : PySem.W.SharedT) : He.AlD := He.obsDG 4 fa fn (HandSHeadRun.getT s)
theorem ob_eq (s : PySem.W.SharedT) : ob s = hk.obs s.abs := He.obsDG_eq (HandSHeadRun.getT_eq s)
theorem run_eq (w : World) : HandSHeadRun.RunEq Rw (PySem.W.view Rw.prog [55]) hk ob 9000 loose w := by
  intro os
  kernel_rfl
end LW
open PySem PySem.W PySem.Calls PyProof.Rows
theorem PySem.Challenge.law_from (k : Nat) (hr : L2.Room k callerA) (H_ : ∀ ns : List Int, ns.length ≤ 63 → ∃ W, PL.callK LW.prg k ("law" : Str) [.scr ns] [] = .ok (.bl true) W) : PySem.Challenge.rw_nearlysure_k48_whole_guarded_tables_fill.Holds := by
  w_on; o_law
  refine HandSHeadRun.head_any (r := OpenLaw.row PySem.Challenge.rw_nearlysure_k48_whole_guarded_tables_fill) (q := view (OpenLaw.row PySem.Challenge.rw_nearlysure_k48_whole_guarded_tables_fill).prog [55]) (H := LW.hk) (ob := LW.ob) (M := 9000) (loose := LW.loose) (d := HandSHeadRun.topDef (OpenLaw.row PySem.Challenge.rw_nearlysure_k48_whole_guarded_tables_fill).prog 55) (kwd := []) LW.ob_eq
    (by kernel_rfl) (fun s => by kernel_rfl) LW.run_eq (by kernel_rfl) (by kernel_rfl) (by kernel_rfl) (by rfl) (by first | assumption | decide +kernel) (by decide +kernel) ⟨rfl, rfl, rfl, rfl, rfl, by decide +kernel⟩ ?hw ?hc
  case hw => w_witness2
  case hc =>
    refine L2.walk_ofE (l := PySem.Challenge.rw_nearlysure_k48_whole_guarded_tables_fill) (n := 63) (k := k) (x := "script") (CX := L2.CX0) rfl (by decide) (by kernel_rfl) hr ?F (fun _ _ _ _ z => z)
    intro w mg fa h Y G hmg0
    obtain ⟨K, KX, c⟩ := Y
    have hmg : mg ("law" : PySem.Str) = some (.ref fa) := by
      have e : (HandSHeadRun.topDef (OpenLaw.row PySem.Challenge.rw_nearlysure_k48_whole_guarded_tables_fill).prog 55).name = ("law" : PySem.Str) := by kernel_rfl
      rw [← e]
      exact hmg0
    obtain ⟨fd, hb, hF⟩ := PL.law_facts (P := (PySem.Challenge.rw_nearlysure_k48_whole_guarded_tables_fill).prog) (w := w) (k := k) (tl := LW.t_law) KX G hmg c LW.chk_ok LW.gs_ok' LW.bind_ok (by simp [LW.txts]) rfl rfl
    exact ⟨K, fd, fun vs H Q _ => PL.spD ⟨K, mg⟩ (PL.callK LW.prg k "law") vs H Q fun _ _ _ => False, KX, hb, fun H a ns hl _ hS => by
      obtain ⟨W, e⟩ := H_ ns hl
      exact PL.law_sp hS e, hF⟩

theorem PySem.Challenge.cw_nearlysure_k48_whole_guarded_tables_fill_holds : PySem.Challenge.rw_nearlysure_k48_whole_guarded_tables_fill.Holds :=
  PySem.Challenge.law_from 60 ⟨rfl, by decide, by decide⟩ LW.law_ok

