import PyProof.Rows.All
import Wide.All
import OpenK.AllK
import Wide.FinOn
import KE.KStateDown
import Lean
import HandS.ForMost
import HandS.More
import HandS.Strs
import HandS.Zip
import HandS.IsInst
import HandS.TupAny
import HandS.Wide
import HandS.Style
import HandS.Walk
import HandS.Defaults
import HandS.Head0
import HandS.Head1
import HandS.Head2
import HandS.HeadEnd
import HandS.HeadHook1
import HandS.HeadHook2
import PySem.Challenge.RW_fenlevel_k20_whole_lines_that_share_no_h
import KE.KRevSl
import HandS.SetFor
set_option Elab.async false
set_option linter.all false
set_option maxRecDepth 100000
set_option maxHeartbeats 0
/-! Plain mathematics of the fen: no program in sight. -/
namespace Fl

structure Rn where
  a : Nat
  b : Nat
  r : Int
  h : Int

/-! ### walks -/
def stepW (rs : List Rn) (st : Nat × Int) (i : Nat) : Option (Nat × Int) :=
  match rs[i]? with
  | none => none
  | some q => if st.1 = q.a then some (q.b, st.2 + q.r) else if st.1 = q.b then some (q.a, st.2 - q.r) else none
def walkG (rs : List Rn) : Nat × Int → List Nat → Option (Nat × Int)
  | st, [] => some st
  | st, i :: l => match stepW rs st i with
    | none => none
    | some st' => walkG rs st' l
def walkF (rs : List Rn) (m : Nat) (l : List Nat) : Option (Nat × Int) := walkG rs (m, 0) l

theorem walkG_append (rs : List Rn) : ∀ (st : Nat × Int) (l l' : List Nat), walkG rs st (l ++ l') = match walkG rs st l with | none => none | some st' => walkG rs st' l'
  | st, [], l' => rfl
  | st, i :: l, l' => by
    show (match stepW rs st i with | none => none | some st' => walkG rs st' (l ++ l')) = _
    show _ = match (match stepW rs st i with | none => none | some st' => walkG rs st' l) with | none => none | some st' => walkG rs st' l'
    cases stepW rs st i with
    | none => rfl
    | some s => exact walkG_append rs s l l'
theorem walkG_snoc {rs : List Rn} {st s : Nat × Int} {l : List Nat} {i : Nat} (h : walkG rs st l = some s) : walkG rs st (l ++ [i]) = stepW rs s i := by
  rw [walkG_append, h]
  show (match stepW rs s i with | none => none | some st' => some st') = _
  cases stepW rs s i <;> rfl
theorem walkG_split {rs : List Rn} {st s : Nat × Int} {l l' : List Nat} (h : walkG rs st (l ++ l') = some s) : ∃ s1, walkG rs st l = some s1 ∧ walkG rs s1 l' = some s := by
  rw [walkG_append] at h
  cases e : walkG rs st l with
  | none => rw [e] at h; cases h
  | some s1 => rw [e] at h; exact ⟨s1, rfl, h⟩
theorem stepW_shift {rs : List Rn} {m e : Nat} {c d : Int} {i : Nat} {h : Int} (k : stepW rs (m, c) i = some (e, h)) : stepW rs (m, c + d) i = some (e, h + d) := by
  unfold stepW at k ⊢
  cases eq : rs[i]? with
  | none => rw [eq] at k; cases k
  | some q =>
    rw [eq] at k
    simp only at k ⊢
    split
    · rename_i h1
      rw [if_pos h1] at k
      cases k
      simp only [Option.some.injEq, Prod.mk.injEq, true_and]
      omega
    · rename_i h1
      rw [if_neg h1] at k
      split
      · rename_i h2
        rw [if_pos h2] at k
        cases k
        simp only [Option.some.injEq, Prod.mk.injEq, true_and]
        omega
      · rename_i h2
        rw [if_neg h2] at k
        cases k
theorem walkG_shift {rs : List Rn} {d : Int} : ∀ {l : List Nat} {m e : Nat} {c h : Int}, walkG rs (m, c) l = some (e, h) → walkG rs (m, c + d) l = some (e, h + d)
  | [], m, e, c, h, k => by
    have k : some (m, c) = some (e, h) := k
    cases k
    rfl
  | i :: l, m, e, c, h, k => by
    have k : (match stepW rs (m, c) i with | none => none | some st' => walkG rs st' l) = some (e, h) := k
    show (match stepW rs (m, c + d) i with | none => none | some st' => walkG rs st' l) = some (e, h + d)
    cases s : stepW rs (m, c) i with
    | none => rw [s] at k; cases k
    | some st =>
      rw [s] at k
      obtain ⟨m1, c1⟩ := st
      rw [stepW_shift s]
      exact walkG_shift (l := l) k
theorem walkG_zero {rs : List Rn} {l : List Nat} {m e : Nat} {c h : Int} (k : walkG rs (m, c) l = some (e, h)) : walkF rs m l = some (e, h - c) := by
  have q := walkG_shift (d := -c) k
  have e1 : c + -c = 0 := by omega
  rw [e1] at q
  exact q
theorem walkG_of {rs : List Rn} {l : List Nat} {m e : Nat} {c h : Int} (k : walkF rs m l = some (e, h)) : walkG rs (m, c) l = some (e, h + c) := by
  have q := walkG_shift (d := c) k
  have e1 : (0 : Int) + c = c := by omega
  rw [e1] at q
  exact q
theorem walkF_append {rs : List Rn} {l l' : List Nat} {m e e' : Nat} {h h' : Int} (k : walkF rs m l = some (e, h)) (k' : walkF rs e l' = some (e', h')) : walkF rs m (l ++ l') = some (e', h + h') := by
  unfold walkF
  rw [walkG_append]
  have k : walkG rs (m, 0) l = some (e, h) := k
  rw [k]
  have q := walkG_of (c := h) k'
  show walkG rs (e, h) l' = _
  rw [q]
  simp only [Option.some.injEq, Prod.mk.injEq, true_and]
  omega
theorem walkF_split {rs : List Rn} {l l' : List Nat} {m e : Nat} {h : Int} (k : walkF rs m (l ++ l') = some (e, h)) : ∃ e1 h1, walkF rs m l = some (e1, h1) ∧ walkF rs e1 l' = some (e, h - h1) := by
  obtain ⟨⟨e1, h1⟩, a, b⟩ := walkG_split k
  exact ⟨e1, h1, a, walkG_zero b⟩
theorem walkF_one {rs : List Rn} {m : Nat} {i : Nat} {s : Nat × Int} (k : stepW rs (m, 0) i = some s) : walkF rs m [i] = some s := by
  show (match stepW rs (m, 0) i with | none => none | some st' => walkG rs st' []) = some s
  rw [k]
  rfl
theorem stepW_up {rs : List Rn} {i : Nat} {q : Rn} {c : Int} (e : rs[i]? = some q) : stepW rs (q.a, c) i = some (q.b, c + q.r) := by
  unfold stepW
  rw [e]
  simp
theorem stepW_down {rs : List Rn} {i : Nat} {q : Rn} {c : Int} (e : rs[i]? = some q) (ne : q.a ≠ q.b) : stepW rs (q.b, c) i = some (q.a, c - q.r) := by
  unfold stepW
  rw [e]
  simp [ne.symm]
theorem stepW_inv {rs : List Rn} {i : Nat} {s t : Nat × Int} (k : stepW rs s i = some t) : ∃ q, rs[i]? = some q ∧ ((s.1 = q.a ∧ t = (q.b, s.2 + q.r)) ∨ (s.1 ≠ q.a ∧ s.1 = q.b ∧ t = (q.a, s.2 - q.r))) := by
  unfold stepW at k
  cases e : rs[i]? with
  | none => rw [e] at k; cases k
  | some q =>
    rw [e] at k
    simp only at k
    refine ⟨q, rfl, ?_⟩
    by_cases h1 : s.1 = q.a
    · rw [if_pos h1] at k
      cases k
      exact .inl ⟨h1, rfl⟩
    · rw [if_neg h1] at k
      by_cases h2 : s.1 = q.b
      · rw [if_pos h2] at k
        cases k
        exact .inr ⟨h1, h2, rfl⟩
      · rw [if_neg h2] at k
        cases k

/-- no run with one mark alone -/
def Prop2 (rs : List Rn) : Prop := ∀ q ∈ rs, q.a ≠ q.b
theorem mem_of_get {rs : List Rn} {i : Nat} {q : Rn} (e : rs[i]? = some q) : q ∈ rs := List.mem_of_getElem? e
/-- back along one run -/
theorem stepW_back {rs : List Rn} (p2 : Prop2 rs) {m e : Nat} {h : Int} {i : Nat} (k : stepW rs (m, 0) i = some (e, h)) : stepW rs (e, 0) i = some (m, -h) := by
  obtain ⟨q, eq, c⟩ := stepW_inv k
  rcases c with ⟨h1, h2⟩ | ⟨h0, h1, h2⟩
  · cases h2
    have h1 : m = q.a := h1
    subst h1
    rw [stepW_down eq (p2 q (mem_of_get eq))]
    simp
  · cases h2
    have h1 : m = q.b := h1
    subst h1
    rw [stepW_up eq]
    simp
theorem walkF_back {rs : List Rn} (p2 : Prop2 rs) : ∀ {l : List Nat} {m e : Nat} {h : Int}, walkF rs m l = some (e, h) → walkF rs e l.reverse = some (m, -h)
  | [], m, e, h, k => by
    have k : some (m, (0 : Int)) = some (e, h) := k
    cases k
    rfl
  | i :: l, m, e, h, k => by
    obtain ⟨e1, h1, k1, k2⟩ := walkF_split (l := [i]) (l' := l) k
    have k3 := walkF_back p2 k2
    rw [List.reverse_cons]
    have s1 : stepW rs (m, 0) i = some (e1, h1) := by
      have k1 : (match stepW rs (m, 0) i with | none => none | some st' => some st') = some (e1, h1) := k1
      cases s : stepW rs (m, 0) i with
      | none => rw [s] at k1; cases k1
      | some t => rw [s] at k1; exact k1
    have s2 := walkF_one (stepW_back p2 s1)
    have := walkF_append k3 s2
    rw [this]
    simp only [Option.some.injEq, Prod.mk.injEq, true_and]
    omega

/-- all runs of a line are there and of no struck hand -/
def Free (rs : List Rn) (struck : List Int) (l : List Nat) : Prop := ∀ i ∈ l, ∃ q, rs[i]? = some q ∧ q.h ∉ struck
theorem Free.nil {rs : List Rn} {struck : List Int} : Free rs struck [] := fun _ h => nomatch h
theorem Free.append {rs : List Rn} {struck : List Int} {l l' : List Nat} (a : Free rs struck l) (b : Free rs struck l') : Free rs struck (l ++ l') := fun i h => (List.mem_append.mp h).elim (a i) (b i)
theorem Free.sub {rs : List Rn} {struck : List Int} {l l' : List Nat} (a : Free rs struck l) (h : ∀ i ∈ l', i ∈ l) : Free rs struck l' := fun i k => a i (h i k)

/-- a potential along a line -/
theorem walk_pot {rs : List Rn} {struck : List Int} {S : Nat → Prop} {p : Nat → Int} (cl : ∀ q ∈ rs, q.h ∉ struck → ((S q.a ↔ S q.b) ∧ (S q.a → p q.b = p q.a + q.r))) :
    ∀ {l : List Nat} {m e : Nat} {h : Int}, S m → Free rs struck l → walkF rs m l = some (e, h) → S e ∧ h = p e - p m
  | [], m, e, h, hm, _, k => by
    have k : some (m, (0 : Int)) = some (e, h) := k
    cases k
    exact ⟨hm, by omega⟩
  | i :: l, m, e, h, hm, fr, k => by
    obtain ⟨e1, h1, k1, k2⟩ := walkF_split (l := [i]) (l' := l) k
    have s1 : stepW rs (m, 0) i = some (e1, h1) := by
      have k1 : (match stepW rs (m, 0) i with | none => none | some st' => some st') = some (e1, h1) := k1
      cases s : stepW rs (m, 0) i with
      | none => rw [s] at k1; cases k1
      | some t => rw [s] at k1; exact k1
    obtain ⟨q, eq, c⟩ := stepW_inv s1
    obtain ⟨q', eq', nh⟩ := fr i List.mem_cons_self
    rw [eq] at eq'
    cases eq'
    have cq := cl q (mem_of_get eq) nh
    have st : S e1 ∧ h1 = p e1 - p m := by
      rcases c with ⟨c1, c2⟩ | ⟨c0, c1, c2⟩
      · have c1 : m = q.a := c1
        cases c2
        subst c1
        exact ⟨cq.1.mp hm, by have := cq.2 hm; omega⟩
      · have c1 : m = q.b := c1
        cases c2
        subst c1
        have := cq.1.mpr hm
        exact ⟨this, by have := cq.2 this; omega⟩
    have r := walk_pot cl st.1 (fr.sub fun j hj => List.mem_cons_of_mem _ hj) k2
    exact ⟨r.1, by omega⟩
/-- a height that is true along a line -/
theorem walk_true {rs : List Rn} {F : List Int} {T : Nat → Int} (tr : ∀ q ∈ rs, q.h ∉ F → T q.b - T q.a = q.r) {l : List Nat} {m e : Nat} {h : Int} (fr : Free rs F l) (k : walkF rs m l = some (e, h)) : h = T e - T m :=
  (walk_pot (S := fun _ => True) (p := T) (fun q hq nh => ⟨Iff.rfl, fun _ => by have := tr q hq nh; omega⟩) trivial fr k).2

theorem nodup_rev {l : List Nat} (h : l.Nodup) : l.reverse.Nodup := by
  rw [List.nodup_iff_pairwise_ne] at h ⊢
  rw [List.pairwise_reverse]
  exact h.imp fun a => a.symm
/-! ### ways -/
def ht (rs : List Rn) (root : Nat) (l : List Nat) : Int := ((walkF rs root l).map Prod.snd).getD 0
theorem ht_of {rs : List Rn} {root m : Nat} {l : List Nat} {h : Int} (k : walkF rs root l = some (m, h)) : ht rs root l = h := by
  unfold ht
  rw [k]
  rfl
structure WOk (rs : List Rn) (struck : List Int) (size root : Nat) (W : List (Nat × List Nat)) : Prop where
  nd : (W.map Prod.fst).Nodup
  zero : (root, []) ∈ W
  walk : ∀ m l, (m, l) ∈ W → ∃ h, walkF rs root l = some (m, h)
  free : ∀ m l, (m, l) ∈ W → ∀ i ∈ l, ∃ q, rs[i]? = some q ∧ q.h ∉ struck ∧ q.a ∈ W.map Prod.fst ∧ q.b ∈ W.map Prod.fst
  pre : ∀ m l m' l', (m, l) ∈ W → (m', l') ∈ W → ∀ x i y x' y', l = x ++ i :: y → l' = x' ++ i :: y' → x = x'
  tree : ∀ m l, (m, l) ∈ W → ∀ i ∈ l, ∀ q la lb, rs[i]? = some q → (q.a, la) ∈ W → (q.b, lb) ∈ W → ht rs root la + q.r = ht rs root lb
  small : ∀ m l, (m, l) ∈ W → m < size
theorem WOk.init {rs : List Rn} {struck : List Int} {size root : Nat} (h : root < size) : WOk rs struck size root [(root, [])] := by
  refine ⟨by simp, by simp, ?_, ?_, ?_, ?_, ?_⟩
  · intro m l hm
    simp at hm
    obtain ⟨rfl, rfl⟩ := hm
    exact ⟨0, rfl⟩
  · intro m l hm i hi
    simp at hm
    obtain ⟨rfl, rfl⟩ := hm
    cases hi
  · intro m l m' l' hm hm' x i y x' y' e e'
    simp at hm
    obtain ⟨rfl, rfl⟩ := hm
    simp at e
  · intro m l hm i hi
    simp at hm
    obtain ⟨rfl, rfl⟩ := hm
    cases hi
  · intro m l hm
    simp at hm
    omega
theorem key_inj {W : List (Nat × List Nat)} (nd : (W.map Prod.fst).Nodup) {m : Nat} {l l' : List Nat} (a : (m, l) ∈ W) (b : (m, l') ∈ W) : l = l' := by
  induction W with
  | nil => cases a
  | cons p W ih =>
    rw [List.map_cons, List.nodup_cons] at nd
    rcases List.mem_cons.mp a with a | a <;> rcases List.mem_cons.mp b with b | b
    · have := a.trans b.symm
      exact (Prod.mk.inj this).2
    · exact absurd (List.mem_map.mpr ⟨_, b, rfl⟩) (by rw [← a] at nd; exact nd.1)
    · exact absurd (List.mem_map.mpr ⟨_, a, rfl⟩) (by rw [← b] at nd; exact nd.1)
    · exact ih nd.2 a b
theorem WOk.nodup {rs : List Rn} {struck : List Int} {size root : Nat} {W : List (Nat × List Nat)} (w : WOk rs struck size root W) {m : Nat} {l : List Nat} (h : (m, l) ∈ W) : l.Nodup := by
  have key : ∀ x i y x' y', l = x ++ i :: y → l = x' ++ i :: y' → x = x' := fun x i y x' y' e e' => w.pre m l m l h h x i y x' y' e e'
  clear h w
  rw [List.nodup_iff_pairwise_ne]
  rw [List.pairwise_iff_getElem]
  intro i j hi hj lt e
  have e1 : l = l.take i ++ l[i] :: l.drop (i + 1) := by
    rw [List.getElem_cons_drop, List.take_append_drop]
  have e2 : l = l.take j ++ l[i] :: l.drop (j + 1) := by
    rw [e, List.getElem_cons_drop, List.take_append_drop]
  have := key _ _ _ _ _ e1 e2
  have q := congrArg List.length this
  rw [List.length_take, List.length_take] at q
  omega
/-- a new mark, one run further -/
theorem WOk.add {rs : List Rn} {struck : List Int} {size root : Nat} {W : List (Nat × List Nat)} (w : WOk rs struck size root W) (p2 : Prop2 rs) {mark there at_ : Nat} {l : List Nat} {q : Rn} (hm : (mark, l) ∈ W) (eq : rs[at_]? = some q) (nh : q.h ∉ struck)
    (hq : (mark = q.a ∧ there = q.b) ∨ (mark = q.b ∧ there = q.a)) (new : there ∉ W.map Prod.fst) (lt : there < size) : WOk rs struck size root (W ++ [(there, l ++ [at_])]) := by
  have keys : ∀ k, k ∈ (W ++ [(there, l ++ [at_])]).map Prod.fst ↔ k ∈ W.map Prod.fst ∨ k = there := by
    intro k
    rw [List.map_append, List.mem_append]
    simp
  have mk : mark ∈ W.map Prod.fst := List.mem_map.mpr ⟨_, hm, rfl⟩
  have mem : ∀ m l', (m, l') ∈ W ++ [(there, l ++ [at_])] ↔ (m, l') ∈ W ∨ (m = there ∧ l' = l ++ [at_]) := by
    intro m l'
    rw [List.mem_append]
    simp
  obtain ⟨hl, wl⟩ := w.walk mark l hm
  have ne := p2 q (mem_of_get eq)
  have wnew : ∃ h', walkF rs root (l ++ [at_]) = some (there, h') ∧ ∀ la lb, (q.a, la) ∈ W ++ [(there, l ++ [at_])] → (q.b, lb) ∈ W ++ [(there, l ++ [at_])] → ht rs root la + q.r = ht rs root lb := by
    rcases hq with ⟨rfl, rfl⟩ | ⟨rfl, rfl⟩
    · have s := walkF_append wl (walkF_one (stepW_up (c := 0) eq))
      refine ⟨_, s, fun la lb ha hb => ?_⟩
      rcases (mem _ _).mp ha with ha | ⟨ha, _⟩
      · rcases (mem _ _).mp hb with hb | ⟨_, hb⟩
        · exact absurd (List.mem_map.mpr ⟨_, hb, rfl⟩) new
        · rw [key_inj w.nd ha hm, hb, ht_of s, ht_of wl]
          omega
      · exact absurd ha ne
    · have s := walkF_append wl (walkF_one (stepW_down (c := 0) eq ne))
      refine ⟨_, s, fun la lb ha hb => ?_⟩
      rcases (mem _ _).mp hb with hb | ⟨hb, _⟩
      · rcases (mem _ _).mp ha with ha | ⟨_, ha⟩
        · exact absurd (List.mem_map.mpr ⟨_, ha, rfl⟩) new
        · rw [key_inj w.nd hb hm, ha, ht_of s, ht_of wl]
          omega
      · exact absurd hb ne.symm
  obtain ⟨h', wn, tr⟩ := wnew
  -- the run is in no line yet
  have out : ∀ m' l', (m', l') ∈ W → at_ ∉ l' := by
    intro m' l' h1 h2
    obtain ⟨q', e', _, ka, kb⟩ := w.free m' l' h1 at_ h2
    rw [eq] at e'
    cases e'
    rcases hq with ⟨_, e⟩ | ⟨_, e⟩
    · exact new (e ▸ kb)
    · exact new (e ▸ ka)
  refine ⟨?_, ?_, ?_, ?_, ?_, ?_, ?_⟩
  · rw [List.map_append, List.nodup_append]
    refine ⟨w.nd, by simp, ?_⟩
    intro x hx y hy e
    simp at hy
    subst hy e
    exact new hx
  · exact List.mem_append_left _ w.zero
  · intro m l' h1
    rcases (mem _ _).mp h1 with h1 | ⟨rfl, rfl⟩
    · exact w.walk m l' h1
    · exact ⟨h', wn⟩
  · intro m l' h1 i hi
    rcases (mem _ _).mp h1 with h1 | ⟨rfl, rfl⟩
    · obtain ⟨q', a, b, c, d⟩ := w.free m l' h1 i hi
      exact ⟨q', a, b, (keys _).mpr (.inl c), (keys _).mpr (.inl d)⟩
    · rcases List.mem_append.mp hi with hi | hi
      · obtain ⟨q', a, b, c, d⟩ := w.free mark l hm i hi
        exact ⟨q', a, b, (keys _).mpr (.inl c), (keys _).mpr (.inl d)⟩
      · simp at hi
        subst hi
        refine ⟨q, eq, nh, ?_, ?_⟩
        · rcases hq with ⟨e, _⟩ | ⟨_, e⟩
          · exact (keys _).mpr (.inl (e ▸ mk))
          · exact (keys _).mpr (.inr e.symm)
        · rcases hq with ⟨_, e⟩ | ⟨e, _⟩
          · exact (keys _).mpr (.inr e.symm)
          · exact (keys _).mpr (.inl (e ▸ mk))
  · -- prefixes
    have split : ∀ x (i : Nat) y, l ++ [at_] = x ++ i :: y → (i = at_ ∧ x = l ∧ y = []) ∨ ∃ y1, l = x ++ i :: y1 := by
      intro x i y e
      rcases List.eq_nil_or_concat y with rfl | ⟨y1, z, rfl⟩
      · have e : l ++ [at_] = x ++ [i] := e
        have := List.append_inj' e rfl
        exact .inl ⟨(List.cons.inj this.2).1.symm, this.1.symm, rfl⟩
      · rw [List.concat_eq_append] at e
        have e : l ++ [at_] = (x ++ i :: y1) ++ [z] := by rw [e]; simp
        have := List.append_inj' e rfl
        exact .inr ⟨y1, this.1⟩
    intro m l1 m' l2 h1 h2 x i y x' y' e e'
    rcases (mem _ _).mp h1 with g1 | ⟨rfl, rfl⟩ <;> rcases (mem _ _).mp h2 with g2 | ⟨rfl, rfl⟩
    · exact w.pre m l1 m' l2 g1 g2 x i y x' y' e e'
    · rcases split _ _ _ e' with ⟨rfl, _, _⟩ | ⟨y1, e'⟩
      · exact absurd (by rw [e]; simp) (out m l1 g1)
      · exact w.pre m l1 mark l g1 hm x i y x' y1 e e'
    · rcases split _ _ _ e with ⟨rfl, _, _⟩ | ⟨y1, e⟩
      · exact absurd (by rw [e']; simp) (out m' l2 g2)
      · exact w.pre mark l m' l2 hm g2 x i y1 x' y' e e'
    · rcases split _ _ _ e with ⟨rfl, rfl, _⟩ | ⟨y1, e1⟩ <;> rcases split _ _ _ e' with ⟨h3, h4, _⟩ | ⟨y2, e2⟩
      · exact h4.symm
      · exact absurd (by rw [e2]; simp) (out mark x hm)
      · subst h3
        exact absurd (by rw [e1]; simp) (out mark l hm)
      · exact w.pre mark l mark l hm hm x i y1 x' y2 e1 e2
  · intro m l1 h1 i hi q' la lb eq' ha hb
    have old : ∀ m' l', (m', l') ∈ W → i ∈ l' → ht rs root la + q'.r = ht rs root lb := by
      intro m' l' h2 h3
      obtain ⟨q2, e2, _, ka, kb⟩ := w.free m' l' h2 i h3
      rw [eq'] at e2
      cases e2
      have ha' : (q'.a, la) ∈ W := by
        rcases (mem _ _).mp ha with ha | ⟨ha, _⟩
        · exact ha
        · exact absurd (ha ▸ ka) new
      have hb' : (q'.b, lb) ∈ W := by
        rcases (mem _ _).mp hb with hb | ⟨hb, _⟩
        · exact hb
        · exact absurd (hb ▸ kb) new
      exact w.tree m' l' h2 i h3 q' la lb eq' ha' hb'
    rcases (mem _ _).mp h1 with h1 | ⟨rfl, rfl⟩
    · exact old m l1 h1 hi
    · rcases List.mem_append.mp hi with hi | hi
      · exact old mark l hm hi
      · simp at hi
        subst hi
        rw [eq] at eq'
        cases eq'
        exact tr la lb ha hb
  · intro m l' h1
    rcases (mem _ _).mp h1 with h1 | ⟨rfl, rfl⟩
    · exact w.small m l' h1
    · exact lt
/-! ### rings -/
structure RingOk (rs : List Rn) (struck : List Int) (size : Nat) (start : Nat) (l : List Nat) : Prop where
  lt : start < size
  ne : l ≠ []
  nd : l.Nodup
  free : Free rs struck l
  op : ∃ d, d ≠ 0 ∧ walkF rs start l = some (start, d)
theorem WOk.freeL {rs : List Rn} {struck : List Int} {size root : Nat} {W : List (Nat × List Nat)} (w : WOk rs struck size root W) {m : Nat} {l : List Nat} (h : (m, l) ∈ W) : Free rs struck l := fun i hi => by
  obtain ⟨q, a, b, _⟩ := w.free m l h i hi
  exact ⟨q, a, b⟩
/-- behind a beginning of a way one stands at a mark that was come to -/
theorem WOk.mid {rs : List Rn} {struck : List Int} {size root : Nat} {W : List (Nat × List Nat)} (w : WOk rs struck size root W) {m : Nat} {p u : List Nat} (h : (m, p ++ u) ∈ W) : ∃ e h', walkF rs root p = some (e, h') ∧ e < size := by
  obtain ⟨h0, k⟩ := w.walk m _ h
  obtain ⟨e, h1, k1, k2⟩ := walkF_split k
  refine ⟨e, h1, k1, ?_⟩
  have kl : ∀ k, k ∈ W.map Prod.fst → k < size := by
    intro k hk
    obtain ⟨⟨k', l'⟩, h2, e2⟩ := List.mem_map.mp hk
    cases e2
    exact w.small _ _ h2
  rcases List.eq_nil_or_concat p with rfl | ⟨p1, z, rfl⟩
  · have k1 : some (root, (0 : Int)) = some (e, h1) := k1
    cases k1
    exact w.small _ _ w.zero
  · rw [List.concat_eq_append] at k1 h
    obtain ⟨e2, h2, k3, k4⟩ := walkF_split k1
    obtain ⟨q, eq, _, ka, kb⟩ := w.free m _ h z (by simp)
    have s1 : stepW rs (e2, 0) z = some (e, h1 - h2) := by
      have k4 : (match stepW rs (e2, 0) z with | none => none | some st' => some st') = some (e, h1 - h2) := k4
      cases s : stepW rs (e2, 0) z with
      | none => rw [s] at k4; cases k4
      | some t => rw [s] at k4; exact k4
    obtain ⟨q', eq', c⟩ := stepW_inv s1
    rw [eq] at eq'
    cases eq'
    rcases c with ⟨_, c⟩ | ⟨_, _, c⟩
    · rw [(Prod.mk.inj c).1]; exact kl _ kb
    · rw [(Prod.mk.inj c).1]; exact kl _ ka
theorem ring_of {rs : List Rn} {struck : List Int} {size root : Nat} {W : List (Nat × List Nat)} (w : WOk rs struck size root W) (p2 : Prop2 rs) {at_ : Nat} {q : Rn} {p u v : List Nat} (eq : rs[at_]? = some q) (nh : q.h ∉ struck)
    (ha : (q.a, p ++ u) ∈ W) (hb : (q.b, p ++ v) ∈ W) (hd : ht rs root (p ++ u) + q.r ≠ ht rs root (p ++ v)) (part : ∀ c u' v', u = c :: u' → v = c :: v' → False) :
    ∃ start h0, walkF rs root p = some (start, h0) ∧ RingOk rs struck size start (u ++ [at_] ++ v.reverse) := by
  obtain ⟨start, h0, k0, lt⟩ := w.mid ha
  refine ⟨start, h0, k0, lt, ?_, ?_, ?_, ?_⟩
  · intro e
    have := congrArg List.length e
    simp at this
  · have nu := w.nodup ha
    have nv := w.nodup hb
    have n1 : at_ ∉ p ++ u := fun h => hd (w.tree _ _ ha at_ h q _ _ eq ha hb)
    have n2 : at_ ∉ p ++ v := fun h => hd (w.tree _ _ hb at_ h q _ _ eq ha hb)
    have dis : ∀ i, i ∈ u → i ∈ v → False := by
      intro i hi hj
      obtain ⟨u1, u2, eu⟩ := List.append_of_mem hi
      obtain ⟨v1, v2, ev⟩ := List.append_of_mem hj
      have := w.pre _ _ _ _ ha hb (p ++ u1) i u2 (p ++ v1) v2 (by rw [eu]; simp) (by rw [ev]; simp)
      have e1 := List.append_cancel_left this
      subst e1
      cases u1 with
      | nil => exact part i u2 v2 eu ev
      | cons c u1 => exact part c _ _ eu ev
    rw [List.nodup_append] at nu nv
    rw [List.append_assoc, List.nodup_append]
    refine ⟨nu.2.1, ?_, ?_⟩
    · rw [List.singleton_append, List.nodup_cons]
      refine ⟨fun h => n2 (List.mem_append_right _ (List.mem_reverse.mp h)), ?_⟩
      exact nodup_rev nv.2.1
    · intro x hx y hy e
      subst e
      rw [List.singleton_append, List.mem_cons] at hy
      rcases hy with rfl | hy
      · exact n1 (List.mem_append_right _ hx)
      · exact dis x hx (List.mem_reverse.mp hy)
  · refine ((Free.sub (w.freeL ha) fun i hi => List.mem_append_right _ hi).append ?_).append (Free.sub (w.freeL hb) fun i hi => List.mem_append_right _ (List.mem_reverse.mp hi))
    intro i hi
    simp at hi
    subst hi
    exact ⟨q, eq, nh⟩
  · obtain ⟨h1, k1⟩ := w.walk _ _ ha
    obtain ⟨h2, k2⟩ := w.walk _ _ hb
    have e1 := ht_of k1
    have e2 := ht_of k2
    obtain ⟨s1, g1, a1, a2⟩ := walkF_split k1
    obtain ⟨s2, g2, b1, b2⟩ := walkF_split k2
    rw [k0] at a1 b1
    cases a1
    cases b1
    have r1 := walkF_append a2 (walkF_one (stepW_up (c := 0) eq))
    have r2 := walkF_append r1 (walkF_back p2 b2)
    refine ⟨_, ?_, r2⟩
    rw [e1, e2] at hd
    intro z
    apply hd
    omega
end Fl
/-! Plain mathematics, second part: sorted lists, heights led along runs, lists of hands, the lines that are built. -/
namespace Fl
/-! ### growing lists -/
theorem lt_ext : ∀ {l m : List Int}, l.Pairwise (· < ·) → m.Pairwise (· < ·) → (∀ x, x ∈ l ↔ x ∈ m) → l = m
  | [], [], _, _, _ => rfl
  | [], y :: m, _, _, h => absurd ((h y).mpr List.mem_cons_self) (by simp)
  | x :: l, [], _, _, h => absurd ((h x).mp List.mem_cons_self) (by simp)
  | x :: l, y :: m, pl, pm, h => by
    obtain ⟨a1, a2⟩ := List.pairwise_cons.mp pl
    obtain ⟨b1, b2⟩ := List.pairwise_cons.mp pm
    have e : x = y := by
      rcases List.mem_cons.mp ((h x).mp List.mem_cons_self) with e | hx
      · exact e
      · rcases List.mem_cons.mp ((h y).mpr List.mem_cons_self) with e | hy
        · exact e.symm
        · have := b1 x hx
          have := a1 y hy
          omega
    subst e
    congr 1
    refine lt_ext a2 b2 fun z => ⟨fun hz => ?_, fun hz => ?_⟩
    · rcases List.mem_cons.mp ((h z).mp (List.mem_cons_of_mem _ hz)) with e | hm
      · have := a1 z hz
        omega
      · exact hm
    · rcases List.mem_cons.mp ((h z).mpr (List.mem_cons_of_mem _ hz)) with e | hm
      · have := b1 z hz
        omega
      · exact hm
theorem lt_nodup {l : List Int} (h : l.Pairwise (· < ·)) : l.Nodup := by
  rw [List.nodup_iff_pairwise_ne]
  exact h.imp fun a e => by omega
theorem le_lt {l : List Int} (h : l.Pairwise (· ≤ ·)) (nd : l.Nodup) : l.Pairwise (· < ·) := by
  rw [List.nodup_iff_pairwise_ne] at nd
  exact (h.and nd).imp fun a => by omega
theorem nodup_sub {l m : List Int} (nd : l.Nodup) (h : ∀ x ∈ l, x ∈ m) : l.length ≤ m.length := by
  induction l generalizing m with
  | nil => exact Nat.zero_le _
  | cons x l ih =>
    obtain ⟨a, b, rfl⟩ := List.append_of_mem (h x List.mem_cons_self)
    have nd' := List.nodup_cons.mp nd
    have := ih (m := a ++ b) nd'.2 fun y hy => by
      have hm := h y (List.mem_cons_of_mem _ hy)
      rw [List.mem_append, List.mem_cons] at hm
      rw [List.mem_append]
      rcases hm with hm | rfl | hm
      · exact .inl hm
      · exact absurd hy nd'.1
      · exact .inr hm
    rw [List.length_append] at this ⊢
    rw [List.length_cons, List.length_cons]
    omega
theorem nodup_subN {l m : List Nat} (nd : l.Nodup) (h : ∀ x ∈ l, x ∈ m) : l.length ≤ m.length := by
  induction l generalizing m with
  | nil => exact Nat.zero_le _
  | cons x l ih =>
    obtain ⟨a, b, rfl⟩ := List.append_of_mem (h x List.mem_cons_self)
    have nd' := List.nodup_cons.mp nd
    have := ih (m := a ++ b) nd'.2 fun y hy => by
      have hm := h y (List.mem_cons_of_mem _ hy)
      rw [List.mem_append, List.mem_cons] at hm
      rw [List.mem_append]
      rcases hm with hm | rfl | hm
      · exact .inl hm
      · exact absurd hy nd'.1
      · exact .inr hm
    rw [List.length_append] at this ⊢
    rw [List.length_cons, List.length_cons]
    omega
theorem nodup_range {l : List Nat} {n : Nat} (nd : l.Nodup) (h : ∀ x ∈ l, x < n) : l.length ≤ n := by
  have := nodup_subN nd (m := List.range n) fun x hx => List.mem_range.mpr (h x hx)
  rwa [List.length_range] at this
/-- of so many unlike hands one is not among fewer -/
theorem pigeon {l m : List Int} (nd : l.Nodup) (h : m.length < l.length) : ∃ x ∈ l, x ∉ m := by
  apply Classical.byContradiction
  intro no
  have := nodup_sub nd (m := m) fun x hx => Classical.byContradiction fun hn => no ⟨x, hx, hn⟩
  omega
/-- the hands of runs, growing -/
structure HandsOk (hs : List Int) (rs : List Rn) : Prop where
  inc : hs.Pairwise (· < ·)
  mem : ∀ h, h ∈ hs ↔ ∃ q ∈ rs, q.h = h
theorem HandsOk.uniq {hs hs' : List Int} {rs : List Rn} (a : HandsOk hs rs) (b : HandsOk hs' rs) : hs = hs' := lt_ext a.inc b.inc fun x => (a.mem x).trans (b.mem x).symm

/-! ### heights led along runs -/
abbrev Hts := List (Option Int)
inductive Grow (rs : List Rn) (h0 : Hts) : Hts → Prop
  | refl : Grow rs h0 h0
  | up {h : Hts} {q : Rn} {x : Int} : Grow rs h0 h → q ∈ rs → h[q.a]? = some (some x) → h[q.b]? = some none → Grow rs h0 (h.set q.b (some (x + q.r)))
  | down {h : Hts} {q : Rn} {x : Int} : Grow rs h0 h → q ∈ rs → h[q.a]? = some none → h[q.b]? = some (some x) → Grow rs h0 (h.set q.a (some (x - q.r)))
theorem Grow.trans {rs : List Rn} {a b c : Hts} (x : Grow rs a b) (y : Grow rs b c) : Grow rs a c := by
  induction y with
  | refl => exact x
  | up _ h1 h2 h3 ih => exact .up ih h1 h2 h3
  | down _ h1 h2 h3 ih => exact .down ih h1 h2 h3
theorem Grow.len {rs : List Rn} {a b : Hts} (g : Grow rs a b) : b.length = a.length := by
  induction g with
  | refl => rfl
  | up _ _ _ _ ih => rw [List.length_set, ih]
  | down _ _ _ _ ih => rw [List.length_set, ih]
theorem set_other {h : Hts} {i j : Nat} {v : Option Int} (ne : i ≠ j) : (h.set i v)[j]? = h[j]? := List.getElem?_set_ne ne
theorem Grow.stay {rs : List Rn} {a b : Hts} (g : Grow rs a b) {m : Nat} {x : Int} (h : a[m]? = some (some x)) : b[m]? = some (some x) := by
  induction g with
  | refl => exact h
  | up _ _ _ h3 ih => rw [set_other (fun e => by subst e; rw [h3] at ih; cases ih)]; exact ih
  | down _ _ h2 _ ih => rw [set_other (fun e => by subst e; rw [h2] at ih; cases ih)]; exact ih
/-- no run has one mark with a height and one without -/
def NoHalf (rs : List Rn) (h : Hts) : Prop := ∀ q ∈ rs, (∃ x, h[q.a]? = some (some x)) ↔ (∃ y, h[q.b]? = some (some y))
def nones : Hts → Nat
  | [] => 0
  | none :: h => nones h + 1
  | some _ :: h => nones h
theorem nones_set : ∀ {h : Hts} {i : Nat} {x : Int}, h[i]? = some none → nones (h.set i (some x)) < nones h
  | [], _, _, e => by simp at e
  | v :: h, 0, x, e => by
    simp at e
    subst e
    show nones h < nones h + 1
    omega
  | none :: h, i + 1, x, e => by
    have := nones_set (h := h) (i := i) (x := x) (by simpa using e)
    show nones (h.set i (some x)) + 1 < nones h + 1
    omega
  | some v :: h, i + 1, x, e => nones_set (h := h) (i := i) (x := x) (by simpa using e)

/-- marks that hang together -/
inductive Conn (rs : List Rn) : Nat → Nat → Prop
  | refl (m : Nat) : Conn rs m m
  | fwd {m : Nat} {q : Rn} : Conn rs m q.a → q ∈ rs → Conn rs m q.b
  | bwd {m : Nat} {q : Rn} : Conn rs m q.b → q ∈ rs → Conn rs m q.a
theorem Conn.trans {rs : List Rn} {a b c : Nat} (x : Conn rs a b) (y : Conn rs b c) : Conn rs a c := by
  induction y with
  | refl => exact x
  | fwd _ h ih => exact .fwd ih h
  | bwd _ h ih => exact .bwd ih h
theorem Conn.symm {rs : List Rn} {a b : Nat} (x : Conn rs a b) : Conn rs b a := by
  induction x with
  | refl => exact .refl _
  | fwd _ h ih => exact (Conn.bwd (.refl _) h).trans ih
  | bwd _ h ih => exact (Conn.fwd (.refl _) h).trans ih
theorem Conn.walk {rs : List Rn} : ∀ {l : List Nat} {m e : Nat} {h : Int}, walkF rs m l = some (e, h) → Conn rs m e
  | [], m, e, h, k => by
    have k : some (m, (0 : Int)) = some (e, h) := k
    cases k
    exact .refl _
  | i :: l, m, e, h, k => by
    obtain ⟨e1, h1, k1, k2⟩ := walkF_split (l := [i]) (l' := l) k
    have s1 : stepW rs (m, 0) i = some (e1, h1) := by
      have k1 : (match stepW rs (m, 0) i with | none => none | some st' => some st') = some (e1, h1) := k1
      cases s : stepW rs (m, 0) i with
      | none => rw [s] at k1; cases k1
      | some t => rw [s] at k1; exact k1
    obtain ⟨q, eq, c⟩ := stepW_inv s1
    have c1 : Conn rs m e1 := by
      rcases c with ⟨c1, c2⟩ | ⟨_, c1, c2⟩
      · have c1 : m = q.a := c1
        cases c2
        subst c1
        exact .fwd (.refl _) (mem_of_get eq)
      · have c1 : m = q.b := c1
        cases c2
        subst c1
        exact .bwd (.refl _) (mem_of_get eq)
    exact c1.trans (Conn.walk k2)
/-- where no run is half led, what is led is led as far as marks hang together -/
theorem NoHalf.conn {rs : List Rn} {h : Hts} (nh : NoHalf rs h) {a b : Nat} (c : Conn rs a b) : (∃ x, h[a]? = some (some x)) → ∃ y, h[b]? = some (some y) := by
  induction c with
  | refl => exact id
  | fwd _ hq ih => exact fun hx => (nh _ hq).mp (ih hx)
  | bwd _ hq ih => exact fun hx => (nh _ hq).mpr (ih hx)
/-- heights go with T on what hangs together -/
def Cons (rs : List Rn) (T : Nat → Int) (h : Hts) : Prop := ∀ m m' x y, Conn rs m m' → h[m]? = some (some x) → h[m']? = some (some y) → y - x = T m' - T m
def Truth (rs : List Rn) (T : Nat → Int) : Prop := ∀ q ∈ rs, T q.b - T q.a = q.r
theorem getset {h : Hts} {i j : Nat} {v : Int} {y : Int} (e : (h.set i (some v))[j]? = some (some y)) : (j = i ∧ y = v) ∨ (j ≠ i ∧ h[j]? = some (some y)) := by
  by_cases c : i = j
  · subst c
    rw [List.getElem?_set_self' ] at e
    cases k : h[i]? with
    | none => rw [k] at e; cases e
    | some z => rw [k] at e; cases e; exact .inl ⟨rfl, rfl⟩
  · rw [set_other c] at e
    exact .inr ⟨fun z => c z.symm, e⟩
theorem cons_set {rs : List Rn} {T : Nat → Int} {h : Hts} {i : Nat} {v : Int} (c : Cons rs T h) (new : ∀ m x, Conn rs m i → m ≠ i → h[m]? = some (some x) → v - x = T i - T m) : Cons rs T (h.set i (some v)) := by
  intro m m' x y cn hx hy
  rcases getset hx with ⟨e1, e2⟩ | ⟨n1, g1⟩ <;> rcases getset hy with ⟨e3, e4⟩ | ⟨n2, g2⟩
  · subst e1 e3
    omega
  · subst e1
    have := new m' y cn.symm n2 g2
    omega
  · subst e3
    have := new m x cn n1 g1
    omega
  · exact c m m' x y cn g1 g2
theorem Grow.cons {rs : List Rn} {T : Nat → Int} {a b : Hts} (tr : Truth rs T) (g : Grow rs a b) (c : Cons rs T a) : Cons rs T b := by
  induction g with
  | refl => exact c
  | up _ hq h2 h3 ih =>
    refine cons_set ih fun m z cn ne hz => ?_
    have := ih m _ z _ (.bwd cn hq) hz h2
    have := tr _ hq
    omega
  | down _ hq h2 h3 ih =>
    refine cons_set ih fun m z cn ne hz => ?_
    have := ih m _ z _ (.fwd cn hq) hz h3
    have := tr _ hq
    omega
/-- a mark that nothing hangs together with yet gets nought -/
theorem cons_start {rs : List Rn} {T : Nat → Int} {h : Hts} {i : Nat} (nh : NoHalf rs h) (c : Cons rs T h) (hi : h[i]? = some none) : Cons rs T (h.set i (some 0)) :=
  cons_set c fun m x cn ne hx => by
    obtain ⟨y, hy⟩ := nh.conn cn ⟨x, hx⟩
    rw [hi] at hy
    cases hy
theorem noHalf_nones (rs : List Rn) (n : Nat) : NoHalf rs (List.replicate n none) := fun q _ => by
  constructor
  · rintro ⟨x, hx⟩
    rw [List.getElem?_replicate] at hx
    split at hx <;> cases hx
  · rintro ⟨x, hx⟩
    rw [List.getElem?_replicate] at hx
    split at hx <;> cases hx
theorem cons_nones (rs : List Rn) (T : Nat → Int) (n : Nat) : Cons rs T (List.replicate n none) := fun m m' x y _ hx _ => by
  rw [List.getElem?_replicate] at hx
  split at hx <;> cases hx

/-! ### lists of hands -/
def okLast (one : List Int) (h : Int) : Bool := match one.getLast? with
  | none => true
  | some l => decide (l < h)
def grownF (some_ : List (List Int)) (hands : List Int) : List (List Int) := some_.flatMap fun one => (hands.filter (okLast one)).map fun h => one ++ [h]
def lev (hands : List Int) : Nat → List (List Int)
  | 0 => [[]]
  | k + 1 => grownF (lev hands k) hands
def foundF (hands : List Int) : Nat → List (List Int)
  | 0 => [[]]
  | k + 1 => foundF hands k ++ lev hands (k + 1)
theorem lev_len {hands : List Int} : ∀ {k : Nat} {l : List Int}, l ∈ lev hands k → l.length = k
  | 0, l, h => by
    have e : l = [] := by simpa [lev] using h
    rw [e]
    rfl
  | k + 1, l, h => by
    obtain ⟨one, h1, h2⟩ := List.mem_flatMap.mp h
    obtain ⟨x, _, rfl⟩ := List.mem_map.mp h2
    rw [List.length_append, lev_len h1]
    rfl
theorem found_len {hands : List Int} : ∀ {n : Nat} {l : List Int}, l ∈ foundF hands n → l.length ≤ n
  | 0, l, h => by
    have e : l = [] := by simpa [foundF] using h
    rw [e]
    exact Nat.le_refl _
  | n + 1, l, h => by
    rcases List.mem_append.mp h with h | h
    · exact Nat.le_succ_of_le (found_len h)
    · exact Nat.le_of_eq (lev_len h)
theorem lev_found {hands : List Int} : ∀ {n k : Nat} {l : List Int}, k ≤ n → l ∈ lev hands k → l ∈ foundF hands n
  | 0, k, l, hk, h => by
    have e : k = 0 := by omega
    subst e
    exact h
  | n + 1, k, l, hk, h => by
    by_cases e : k = n + 1
    · subst e
      exact List.mem_append_right _ h
    · exact List.mem_append_left _ (lev_found (by omega) h)
theorem lev_all {hands : List Int} : ∀ (k : Nat) (l : List Int), l.length = k → l.Pairwise (· < ·) → (∀ x ∈ l, x ∈ hands) → l ∈ lev hands k
  | 0, l, hl, _, _ => by
    have e : l = [] := List.length_eq_zero_iff.mp hl
    rw [e]
    exact List.mem_singleton.mpr rfl
  | k + 1, l, hl, pw, sub => by
    rcases List.eq_nil_or_concat l with rfl | ⟨one, x, e⟩
    · cases hl
    · rw [List.concat_eq_append] at e
      subst e
      rw [List.length_append] at hl
      obtain ⟨p1, _, p3⟩ := List.pairwise_append.mp pw
      have ih := lev_all k one (by simpa using hl) p1 fun y hy => sub y (List.mem_append_left _ hy)
      refine List.mem_flatMap.mpr ⟨one, ih, List.mem_map.mpr ⟨x, List.mem_filter.mpr ⟨sub x (by simp), ?_⟩, rfl⟩⟩
      unfold okLast
      cases g : one.getLast? with
      | none => rfl
      | some z => exact decide_eq_true (p3 z (List.mem_of_getLast? g) x (by simp))
theorem found_all {hands l : List Int} {n : Nat} (hl : l.length ≤ n) (pw : l.Pairwise (· < ·)) (sub : ∀ x ∈ l, x ∈ hands) : l ∈ foundF hands n := lev_found hl (lev_all _ l rfl pw sub)
theorem flatMap_len {α β : Type} {f : α → List β} {c : Nat} (h : ∀ x, (f x).length ≤ c) : ∀ l : List α, (l.flatMap f).length ≤ l.length * c
  | [] => by simp
  | x :: l => by
    rw [List.flatMap_cons, List.length_append, List.length_cons, Nat.succ_mul]
    have := flatMap_len h l
    have := h x
    omega
theorem grown_size (some_ : List (List Int)) (hands : List Int) : (grownF some_ hands).length ≤ some_.length * hands.length := by
  refine flatMap_len (fun one => ?_) _
  rw [List.length_map]
  exact List.length_filter_le _ _
theorem lev_size {hands : List Int} (h7 : hands.length ≤ 7) : ∀ k, (lev hands k).length ≤ 7 ^ k
  | 0 => Nat.le_refl _
  | k + 1 => by
    have := lev_size h7 k
    refine Nat.le_trans (grown_size _ _) ?_
    rw [Nat.pow_succ]
    exact Nat.mul_le_mul this h7
theorem found_size {hands : List Int} (h7 : hands.length ≤ 7) : ∀ n, (foundF hands n).length ≤ (n + 1) * 7 ^ n
  | 0 => Nat.le_refl _
  | n + 1 => by
    have h1 := found_size h7 n
    have h2 := lev_size h7 (n + 1)
    show (foundF hands n ++ lev hands (n + 1)).length ≤ _
    rw [List.length_append]
    have e : 7 ^ (n + 1) = 7 * 7 ^ n := by rw [Nat.pow_succ, Nat.mul_comm]
    rw [e] at h2 ⊢
    have e2 : (n + 1 + 1) * (7 * 7 ^ n) = (n + 1) * 7 ^ n + (6 * ((n + 1) * 7 ^ n) + 7 * 7 ^ n) := by
      generalize 7 ^ n = z
      rw [Nat.add_mul (n + 1) 1 (7 * z), Nat.one_mul, Nat.mul_left_comm]
      omega
    rw [e2]
    omega
theorem pow7 {k : Nat} (h : k ≤ 6) : 7 ^ k ≤ 117649 := Nat.pow_le_pow_right (by decide) h
theorem lev_small {hands : List Int} (h7 : hands.length ≤ 7) {k : Nat} (h : k ≤ 6) : (lev hands k).length ≤ 117649 := Nat.le_trans (lev_size h7 k) (pow7 h)
theorem found_small {hands : List Int} (h7 : hands.length ≤ 7) {n : Nat} (h : n ≤ 6) : (foundF hands n).length ≤ 823543 := by
  refine Nat.le_trans (found_size h7 n) ?_
  have := Nat.mul_le_mul (Nat.succ_le_succ h) (pow7 h)
  exact Nat.le_trans this (by decide)
end Fl
namespace Fl
open PySem PySem.Spec PyProof.Rows L2
/-! ### the text -/
def topS (i : Nat) : Stmt := PySem.Challenge.pw_fenlevel_k20_whole_lines_that_share_no_h.main.body.getD i (.Pass ⟨0, 0, 0, 0⟩)
abbrev FnP (K : PySem.W.Frag) (x : Str) (i : Nat) (f : Addr) (fd : FuncData) : Prop := FunD K x x (defArgs (topS i)) (defBody (topS i)) (defScope (topS i)) [] [] f fd
/-- the def x, the i-th of the top, stands where its name says -/
def Def (K : PySem.W.Frag) (mg : Str → Option Value) (x : Str) (i : Nat) : Prop := ∃ f fd, FnP K x i f fd ∧ mg x = some (.ref f)
/-- .. and keeps a promise -/
def Good (P : Program) (w : World) (K : PySem.W.Frag) (mg : Str → Option Value) (base : Heap) (k : Nat) (x : Str) (ps : List Str) (sp : Sp) : Prop :=
  ∃ f fd, PySem.W.keepIn K (.ref f) = true ∧ mg x = some (.ref f) ∧ Binds K fd ps [] ∧ FnOk P w K mg base CX0 k f fd ps sp
section
variable {X : Cx} {k : Nat} {x : Str} {ps : List Str} {sp : Sp} {p pos : Pos} {e : Expr} {es : List Expr} {t : TA}
theorem pe_callG (G : Good X.prog X.w X.K X.mg X.base k x ps sp) (hr : Room k X.A) (hg : Gl X x) (ha : PA X (e :: es) t) (hp : Passes CX0 X E0) (hdb : (x == ("__debug__" : Str)) = false := by decide) (he : starEach (e :: es) X.env = (false, eval e X.env) :: starEach es X.env := by rfl) (hpl : (backTo pos (starEach es X.env)).any (·.1) = false := by rfl) :
    PE X (.Call (.Name x p) (e :: es) [] pos) (tCall sp [] E0 t) := by
  obtain ⟨f, fd, kp, hm, hb, F⟩ := G
  exact pe_call F hr hg hm kp hb .nil hp ha hdb he hpl
end
theorem Good.imp {P : Program} {w : World} {K : PySem.W.Frag} {mg : Str → Option Value} {base : Heap} {k : Nat} {x : Str} {ps : List Str} {sp sp' : Sp} (G : Good P w K mg base k x ps sp) (h : ∀ vs H Q E, sp' vs H Q E → sp vs H Q E) : Good P w K mg base k x ps sp' := by
  obtain ⟨f, fd, kp, hm, hb, F⟩ := G
  exact ⟨f, fd, kp, hm, hb, F.imp h⟩
theorem Good.mono {P : Program} {w : World} {K : PySem.W.Frag} {mg : Str → Option Value} {base : Heap} {j k : Nat} {x : Str} {ps : List Str} {sp : Sp} (G : Good P w K mg base j x ps sp) (h : j ≤ k) : Good P w K mg base k x ps sp := by
  obtain ⟨f, fd, kp, hm, hb, F⟩ := G
  exact ⟨f, fd, kp, hm, hb, F.mono h⟩
/-! ### heaps -/
theorem same_upd {H : Hp} {p : Addr} {o : HO} (h : H p = none) : Same H (upd H p o) := fun b x e => by
  rw [upd_ne (ne_of_none e h)]
  exact e
/-- all that was tracked but what stands at a -/
def SameX (a : Addr) (H H' : Hp) : Prop := ∀ b o, b ≠ a → H b = some o → H' b = some o
theorem SameX.refl {a : Addr} {H : Hp} : SameX a H H := fun _ _ _ h => h
theorem SameX.trans {a : Addr} {H H1 H2 : Hp} (x : SameX a H H1) (y : SameX a H1 H2) : SameX a H H2 := fun b o n h => y b o n (x b o n h)
theorem SameX.upd {a : Addr} {H : Hp} {o : HO} : SameX a H (upd H a o) := fun b u n h => by rw [upd_ne n]; exact h
theorem same_x {a : Addr} {H H1 : Hp} (s : Same H H1) : SameX a H H1 := fun b o _ h => s b o h
theorem same_mutX {p : Addr} {H H1 H2 : Hp} (s : Same H H1) (x : SameX p H1 H2) (hp : H p = none) : Same H H2 := fun b o h => x b o (ne_of_none h hp) (s b o h)
theorem SameX.thenS {a : Addr} {H H1 H2 : Hp} (x : SameX a H H1) (s : Same H1 H2) : SameX a H H2 := fun b o n h => s b o (x b o n h)
theorem SameX.mutX {a p : Addr} {H H1 H2 : Hp} (s : SameX a H H1) (x : SameX p H1 H2) (hp : H p = none) : SameX a H H2 := fun b o n h => x b o (ne_of_none h hp) (s b o n h)
/-- a new object -/
theorem new_ {Q : V → Hp → Prop} {H : Hp} {o : HO} (h : ∀ p H1, H p = none → Same H H1 → H1 p = some o → Q (.ref p) H1) : ∀ p, H p = none → Q (.ref p) (upd H p o) := fun p hp => h p _ hp (same_upd hp) upd_same
/-- an object changed -/
theorem mut_ {Q : Hp → Prop} {H : Hp} {a : Addr} {o : HO} (h : ∀ H1, SameX a H H1 → H1 a = some o → Q H1) : Q (upd H a o) := h _ SameX.upd upd_same
/-! ### the data in the heap -/
abbrev ivs (ns : List Int) : List V := ns.map V.int
def rv (q : Rn) : List V := [.int q.a, .int q.b, .int q.r, .int q.h]
/-- at a the list of these runs, each a tuple at its address -/
def Runs (H : Hp) (a : Addr) (ps : List (Addr × Rn)) : Prop := H a = some (.lst (ps.map fun p => V.ref p.1)) ∧ ∀ p ∈ ps, H p.1 = some (.tup (rv p.2))
abbrev rsOf (ps : List (Addr × Rn)) : List Rn := ps.map Prod.snd
theorem Runs.mono {H H' : Hp} {a : Addr} {ps : List (Addr × Rn)} (s : Same H H') (h : Runs H a ps) : Runs H' a ps := ⟨s _ _ h.1, fun p hp => s _ _ (h.2 p hp)⟩
theorem inV_int (h : Int) : ∀ ns : List Int, inV (.int h) (ivs ns) = decide (h ∈ ns)
  | [] => rfl
  | n :: ns => by
    show (eqV (.int n) (.int h) || inV (.int h) (ivs ns)) = _
    rw [inV_int h ns]
    show ((n == h) || decide (h ∈ ns)) = _
    by_cases e : n = h
    · subst e; simp
    · have e' : ¬ h = n := fun z => e z.symm
      simp [e, e']
theorem flat_ivs : ∀ ns : List Int, (ivs ns).all flatV = true
  | [] => rfl
  | n :: ns => by
    show (true && (ivs ns).all flatV) = true
    rw [flat_ivs ns]
    rfl
theorem sz {n : Nat} (h : n ≤ 1000000) : n ≤ sizeLine := Nat.le_trans h (by decide)
theorem szl {n : Nat} (h : n < 1000000) : n < sizeLine := Nat.lt_of_lt_of_le h (by decide)
end Fl
/-! Rules that the layer lacks: xs[i] op= e of a list, t[::-1] of a tuple, len(set(t)) of a tuple of ints, set(xs) of a list of ints. -/
namespace Fl
open PySem PySem.Spec PyProof.Rows L2
section
variable {X : Cx}
theorem get_list : PGet X (rIxL X.K) := by
  intro pins s σ H o i ov iv Q I ro ri h
  obtain ⟨p, xs, k, z, rfl, rfl, hq, he, q⟩ := h
  cases ro
  obtain ⟨t, rfl⟩ := ri
  obtain ⟨its, r, pl, hz⟩ := I.list hq
  obtain ⟨j, g1, g2, g3, g4, g5⟩ := atI_get he
  obtain ⟨u, eu, ru⟩ := r.get g2
  have len := r.length
  have lim := line63
  have done : EP X pins σ Q u s := ⟨z, H, I, ru, q⟩
  by_cases up : 0 ≤ k
  · rw [seqIndex_of up g5] at g1
    have ej : k.toNat = j := Option.some.inj g1
    exact wpAny_getItem_list pl.isList up (by omega) (by rw [ej]; simpa using eu) done
  · rw [seqIndex_neg (by omega) g4] at g1
    have ej : (k + (its.toArray.size : Int)).toNat = j := by
      rw [List.size_toArray, ← len]
      exact Option.some.inj g1
    exact wpAny_getItem_list_neg pl.isList (by omega) (by rw [List.size_toArray, ← len]; exact g4) (by omega) (by rw [ej]; simpa using eu) done
end

/-! ### t[::-1] -/
section
variable {prog : Program} {w : World} {A : Around} {E : Value → Shared → Prop} {s : Shared}
theorem rev_adjust (n : Nat) : Builtin.Slice.sliceAdjust none none (-1) (n : Int) = ((n : Int) - 1, -1) := rfl
theorem rev_places (n : Nat) : Builtin.Slice.slicePlaces ((n : Int) - 1) (-1) (-1) = n := by
  unfold Builtin.Slice.slicePlaces
  rw [if_neg (by decide)]
  by_cases h : (n : Int) - 1 > -1
  · rw [if_pos h, show (-(-1) : Int) = 1 from rfl, Int.ediv_one]
    omega
  · rw [if_neg h]
    omega
theorem fm_congr {α β : Type} {f g : α → Option β} : ∀ {l : List α}, (∀ x ∈ l, f x = g x) → l.filterMap f = l.filterMap g
  | [], _ => rfl
  | x :: l, h => by
    rw [List.filterMap_cons, List.filterMap_cons, h x List.mem_cons_self, fm_congr fun y hy => h y (List.mem_cons_of_mem _ hy)]
theorem rev_pick (xs : Array Value) : ((List.range xs.size).filterMap fun (k : Nat) => xs[(((xs.size : Nat) : Int) - 1 + (k : Int) * -1).toNat]?).toArray = xs.toList.reverse.toArray := by
  have e := PySem.W.krv_pick xs
  unfold slicePick at e
  rw [PySem.W.krv_bounds] at e
  rw [← e]
  show _ = ((sliceRange ((xs.size : Int) - 1) (-1) (-1)).filterMap (xs[·]?)).toArray
  rw [PySem.W.krv_sliceRange, List.filterMap_map]
  congr 1
  apply fm_congr
  intro k hk
  have hk := List.mem_range.mp hk
  show xs[(((xs.size : Nat) : Int) - 1 + (k : Int) * -1).toNat]? = xs[xs.size - 1 - k]?
  congr 1
  omega
theorem rev_applied {sl : Addr} {vs : Value} {n : Nat} {Q : Int × Int × Nat → Shared → Prop} (hs : s.heap.IsSliceOf sl .none .none vs) (pv : IsPart vs (some (-1)))
    (h : Q ((n : Int) - 1, -1, n) s) : wpAny (model prog w) A (Builtin.Slice.sliceApplied (.ref sl) (pure (n : Int))) Q E s := by
  obtain ⟨ob, g1, g2, g3⟩ := id hs
  unfold Builtin.Slice.sliceApplied Builtin.Slice.sliceFields
  have f0 := fun (R : Value → Shared → Prop) (q : R .none s) => wpAny_field (M := model prog w) (A := A) (E := E) (Q := R) (i := 0) g1 g3 (x := .none) rfl q
  have f1 := fun (R : Value → Shared → Prop) (q : R .none s) => wpAny_field (M := model prog w) (A := A) (E := E) (Q := R) (i := 1) g1 g3 (x := .none) rfl q
  have f2 := fun (R : Value → Shared → Prop) (q : R vs s) => wpAny_field (M := model prog w) (A := A) (E := E) (Q := R) (i := 2) g1 g3 (x := vs) rfl q
  refine wpAny_bind (wpAny_bind (f0 _ (wpAny_bind (f1 _ (wpAny_bind (f2 _ (wpAny_pure ?_)))))))
  refine wpAny_bind (HT.slicePart_ pv ?_)
  show wpAny _ _ (if ((-1 : Int) == 0) = true then _ else _) _ _ s
  rw [if_neg (show ¬ ((-1 : Int) == 0) = true by decide)]
  refine wpAny_bind (slicePart_none (wpAny_bind (slicePart_none (wpAny_bind (wpAny_pure ?_)))))
  show wpAny _ _ (pure ((n : Int) - 1, (-1 : Int), Builtin.Slice.slicePlaces ((n : Int) - 1) (-1) (-1))) _ _ s
  rw [rev_places]
  exact wpAny_pure h
theorem getItem_tuple_rev {t sl : Addr} {items : Array Value} {vs : Value} {Q : Value → Shared → Prop} (ht : IsTup s.heap t items) (hs : s.heap.IsSliceOf sl .none .none vs) (pv : IsPart vs (some (-1)))
    (h : Q (.ref s.heap.objs.size) { s with heap := s.heap.push { cls := .type "tuple", data := .seq items.toList.reverse.toArray } }) (hz : items.size ≤ sizeLine) : wpAny (model prog w) A (getItem (.ref t) (.ref sl)) Q E s := by
  obtain ⟨ob, g1, g2, g3⟩ := id hs
  have ty : s.TypeIs (.ref sl) "slice" := ⟨ob, g1, g2⟩
  have fits : sizeOk (.seq items.toList.reverse.toArray) := by
    show items.toList.reverse.toArray.size ≤ sizeLine
    simpa using hz
  unfold getItem
  try with_reducible refine wpAny_holding ?_
  first | refine wpAny_bind (wpAny_pure ?_) | skip
  refine wpAny_bind (wpAny_sequenceKey ht.typeIs (by decide) ?_)
  refine wpAny_bind (wpAny_callSpecial?_slot (name := Str.ofString "__getitem__") ht.typeIs PyProof.Rows.slot_tuple_getitem (wpAny_call_entry PyProof.Rows.slot_tuple_getitem ht.typeIs
    PyProof.Rows.entry_tuple_getitem ?_ (PyProof.Rows.args_tuple_getitem _ _)))
  show wpAny _ _ (Builtin.Tuple.tupleItemsOf (.ref t) >>= _) _ _ s
  refine wpAny_bind (tupleItemsOf_ ht (wpAny_bind (wpAny_typeOf ty ?_)))
  rw [if_pos (by decide)]
  refine wpAny_bind (rev_applied hs pv ?_)
  show wpAny _ _ (if ((((items.size : Nat) : Int) - 1) == 0 && (-1 : Int) == 1 && items.size == items.size) = true then _ else _) _ _ s
  rw [if_neg (show ¬ (((((items.size : Nat) : Int) - 1) == 0 && (-1 : Int) == 1 && items.size == items.size) = true) by simp), rev_pick]
  first
    | exact wpAny_bind (m := Builtin.Tuple.tupleExact _) (wpAny_newObj_type (wpAny_pure ⟨_, rfl, wpAny_pure h⟩) fits)
    | exact wpAny_bind (m := Builtin.Tuple.tupleExact _) (wpAny_newObj_type (wpAny_bind (wpAny_pure (wpAny_pure ⟨_, rfl, wpAny_pure h⟩))) fits)
    | exact wpAny_bind (wpAny_bind (m := Builtin.Tuple.tupleExact _) (wpAny_newObj_type (wpAny_pure (wpAny_pure ⟨_, rfl, wpAny_pure h⟩)) fits))
end
section
variable {X : Cx}
def tRevT (K : PySem.W.Frag) (te : TE) : TE := fun σ H Q => te σ H fun x H1 => ∃ a xs, x = .ref a ∧ SqT K H1 a xs ∧ ∀ p, H1 p = none → Q (.ref p) (upd H1 p (.tup xs.reverse))
theorem pe_revT {e : Expr} {te : TE} {k : Nat} {p1 p2 p3 pos : Pos} (he : PE X e te) : PE X (.Subscript e (.Slice none none (some (.UnaryOp .USub (.Constant (.int 1) k p1) p2)) p3) pos) (tRevT X.K te) := by
  refine ⟨fun pins s σ H Q I h => Subscript_ (thn (he.run pins s σ H _ I h) fun v s1 ⟨x, H1, I1, r1, a, xs, ex, hx, q⟩ => ?_)⟩
  subst ex
  cases r1
  have one : PO X (some (.UnaryOp .USub (.Constant (.int 1) k p1) p2)) (tPart (tUn (rU fun i => .int (-i)) (tC (.int 1)))) := po_some (pe_un un_neg pe_int)
  have nn := fun (s' : Shared) (I' : Inv X pins σ H1 s') => po_none.run pins s' σ H1 (fun o G => o = none ∧ G = H1) I' ⟨rfl, rfl⟩
  refine wpAny_Slice (thn (nn s1 I1) fun vl s2 ⟨l, H2, I2, pl, el, e2⟩ => ?_)
  subst el e2
  refine thn (nn s2 I2) fun vu s3 ⟨u, H3, I3, pu, eu, e3⟩ => ?_
  subst eu e3
  refine thn (one.run pins s3 σ H3 (fun o G => o = some (-1) ∧ G = H3) I3 ⟨1, rfl, -1, rfl, rfl, rfl⟩) fun vs s4 ⟨o, H4, I4, pz, eo, e4⟩ => ?_
  subst eo e4
  cases pl
  cases pu
  have I5 : Inv X pins σ H4 { s4 with heap := s4.heap.push { cls := .type "slice", data := .fields #[.none, .none, vs] } } := I4.kept (t' := s4.toks) fun b ob z => Heap.get?_push_of_some _ z
  obtain ⟨its, r, ht, hz⟩ := I5.tuple hx
  have len := r.length
  refine tail_any (ops := [.ref a, .ref s4.heap.objs.size]) ht.typeIs PyProof.Rows.slot_tuple_getitem.lookup ?_ (by with_unfolding_all rfl)
  refine getItem_tuple_rev ht (Heap.IsSliceOf.new _ .none .none vs) pz ?_ (by rw [List.size_toArray]; omega)
  refine ⟨.ref _, _, I5.laid (t' := s4.toks) (o := .tup xs.reverse) (fun b ob z => Heap.get?_push_of_some _ z) (Nat.le_refl _) ?_, rfl, q _ (I5.hok.fresh (Nat.le_refl _))⟩
  exact ⟨by rw [List.length_reverse]; exact hz, _, r.reverse, IsTup.new _ _⟩
end
end Fl
/-! set(xs) of a list of ints; len(set(t)) of a tuple of ints. -/
namespace Fl
open PySem PySem.Spec PyProof.Rows L2
/-- the empty set just made -/
abbrev bare (w : World) : Obj := { cls := .type "set", dict := none, data := .set #[] 0 (.fresh 0 0 (!w.params.followText "set-order")) }
section
variable {P : Program} {w : World} {A : Around} {E : Value → Shared → Prop} {s : Shared}
/-- what set.__init__ leaves -/
def Filled (w : World) (s : Shared) (ns : List Int) (r : Value) (s2 : Shared) : Prop :=
  r = .none ∧ ∃ h' tk c, s2 = { s with heap := h', toks := tk } ∧ SetR w h' s.heap.objs.size (fun j => decide (j ∈ ns)) c ∧ (∀ b o, s.heap.get? b = some o → h'.get? b = some o)
set_option maxHeartbeats 6400000 in
theorem set_of_list {l : Addr} {xs : Array Value} (ns : List Int) {Q : Value → Shared → Prop} (calm : A.handled = none) (hl : s.heap.IsList l xs) (hx : IntsAre xs.toList ns) (few : ns.length + 1 < scanBound)
    (h : ∀ (h' : Heap) (tk c : Nat), SetR w h' s.heap.objs.size (fun j => decide (j ∈ ns)) c → (∀ b o, s.heap.get? b = some o → h'.get? b = some o) → Q (.ref s.heap.objs.size) { s with heap := h', toks := tk }) :
    wpAny (model P w) A (call (.type "set") [.ref l]) Q E s := by
  have size_eq : xs.size = ns.length := by
    have z := IntsAre.length hx
    rwa [Array.length_toList] at z
  obtain ⟨c0, tl0, _mro⟩ := F.called_set.mro
  have _made := F.called_set.made
  have _sub := F.called_set.sub
  refine wpAny_call (codeAny_of_tree ?_)
  show wpAny _ _ (callAny (.type "set") _) _ _ _
  refine wpAny_pure ⟨Code.quiet_builtin _ (by decide +kernel), codeAny_builtin F.entry_type_call ?_⟩
  rw [Around.under_plain (weight_type_call_type "set" [.ref l] []) rfl]
  have _nt := F.called_set.notType
  have _cc := F.called_set.canCreate
  have _tc := F.typeCall_set_1 (.ref l)
  repeat (any_goals (first | assumption | wp_step))
  refine codeAny_mono (code_set_led1 (.ref l) (E := E) (Q₁ := fun v z => v = .ref s.heap.objs.size ∧ z = { s with heap := s.heap.push (bare w) }) ⟨rfl, rfl⟩) fun r z hr => ?_
  cases r with
  | error e => exact hr
  | ok fl =>
    cases fl with
    | ret v =>
      obtain ⟨rfl, rfl⟩ := hr
      have own : (s.heap.push (bare w)).get? s.heap.objs.size = some (bare w) := Heap.get?_push_size _ rfl
      have tyS : Shared.TypeIs { s with heap := s.heap.push (bare w) } (.ref s.heap.objs.size) "set" := ⟨_, own, rfl⟩
      have _li := F.called_set.init.lookup
      have _bi := F.called_set.init.bind (.ref s.heap.objs.size)
      repeat (any_goals (first | assumption | wp_step))
      refine codeAny_mono (codeAny_call_builtin (R := wants (Filled w s ns) E) F.called_set.init.plain F.entry_set_init (check_set_init_1 tyS ?_)) fun r2 z2 hr2 => ?_
      · obtain ⟨ol, hol, hcl, nl, hdl⟩ := hl
        obtain ⟨k1, k2, k3, k4⟩ := ol
        simp only at hcl hdl
        subst hcl
        subst hdl
        have there : (s.heap.push (bare w)).get? l = some { cls := .type "list", dict := k2, data := .seq xs nl, slots := k4 } := Heap.get?_push_of_some _ hol
        have _s1 := F.sub_list_set
        have _s2 := F.sub_list_frozenset
        have _s3 : (Value.type "list" == Value.type "dict") = false := by decide
        have isL : (s.heap.push (bare w)).IsList l xs := ⟨_, there, rfl, nl, rfl⟩
        unfold Builtin.«set.__init__» noKeywords Builtin.Frozenset.updateFrom
        generalize hPI : pyIter = PI
        wp_walk
        subst hPI
        refine wpAny_pyIter_list isL (wpAny_bind (wpAny_runValue ?_))
        have lt_l : l < s.heap.objs.size := Heap.lt_size hol
        have calm3 : A.in1.in1.in1.handled = none := by simp [calm]
        have apart : l ≠ (s.heap.push (bare w)).objs.size := by
          rw [Heap.size_push]
          exact Nat.ne_of_lt (Nat.lt_trans lt_l (Nat.lt_succ_self _))
        have notIn : s.heap.objs.size ∉ [(s.heap.push (bare w)).objs.size, l] := by
          rw [Heap.size_push]
          simp only [List.mem_cons, List.not_mem_nil, or_false, not_or]
          exact ⟨Nat.ne_of_lt (Nat.lt_succ_self _), (Nat.ne_of_lt lt_l).symm⟩
        have vals : ∀ (i : Nat) (v : Value), xs[i]? = some v → ∃ k t, ns[i]? = some k ∧ v = .int k t := fun i v hv => by
          have lt : i < ns.length := by
            rw [← size_eq]
            exact (Array.getElem?_eq_some_iff.mp hv).1
          obtain ⟨t, et⟩ := PyProof.Rows.IntsAre.int_at hx i v (by rw [Array.getElem?_toList]; exact hv)
          exact ⟨ns[i], t, List.getElem?_eq_getElem lt, by rw [et, List.getD_eq_getElem?_getD, List.getElem?_eq_getElem lt] <;> rfl⟩
        refine set_update_ints ((Walks.list calm3 _ l apart xs).toS) s.heap.objs.size notIn ns size_eq few vals (xs.size - 0) 0 _ (by omega) (Nat.zero_le _) ⟨⟨_, Heap.get?_push_size _ rfl, rfl, rfl⟩, (isL.push _)⟩ ?begin ?finish
        case begin => exact ⟨0, Nat.le_refl 0, setR_new_at (Heap.get?_push_of_some _ own)⟩
        case finish =>
          intro z' c' mv _ R
          obtain ⟨h', g2, d', tk', os'⟩ := z'
          obtain rfl : g2 = s.gens := mv.gens
          obtain rfl : d' = s.drawn := mv.drawn
          obtain rfl : os' = s.os := mv.os
          show wpAny _ _ _ _ _ _
          refine wpAny_pure ?_
          show wpAny _ _ (ret Value.none) _ _ _
          refine wpAny_pure ⟨rfl, h', tk', c', rfl, R, fun b o e => mv.heap b o ?_ (Heap.get?_push_of_some _ (Heap.get?_push_of_some _ e))⟩
          have lt_b : b < s.heap.objs.size := Heap.lt_size e
          simp only [List.mem_cons, List.not_mem_nil, or_false, not_or, Heap.size_push]
          exact ⟨Nat.ne_of_lt lt_b, Nat.ne_of_lt (Nat.lt_trans lt_b (Nat.lt_succ_self _))⟩
      · cases r2 with
        | error e => exact hr2
        | ok f2 =>
          cases f2 with
          | ret r =>
            obtain ⟨rfl, h', tk, c, rfl, R, kp⟩ := hr2
            repeat (any_goals (first | assumption | wp_step))
            exact h _ _ c R kp
          | _ => exact hr2.elim
    | _ => exact hr.elim
end
section
variable {X : Cx}
/-- set(xs) of a list of ints -/
def rSetL1 (K : PySem.W.Frag) (w : World) : List V → Hp → VK → Prop := fun vs H Q => ∃ (a : Addr) (ns : List Int), vs = [V.ref a] ∧ SqL K H a (ns.map V.int) ∧ ns.length ≤ 1000 ∧
  ∀ (p : Addr) (c : Nat), H p = none → c ≤ ns.length → Q (.ref p) (upd H p (SetO w p (fun j => decide (j ∈ ns)) c))
theorem nodup_le {l m : List Int} (nd : l.Nodup) (h : ∀ x ∈ l, x ∈ m) : l.length ≤ m.length := by
  induction l generalizing m with
  | nil => exact Nat.zero_le _
  | cons x l ih =>
    have hx := h x List.mem_cons_self
    obtain ⟨a, b, rfl⟩ := List.append_of_mem hx
    have nd' := List.nodup_cons.mp nd
    have := ih (m := a ++ b) nd'.2 fun y hy => by
      have hm := h y (List.mem_cons_of_mem _ hy)
      rw [List.mem_append, List.mem_cons] at hm
      rw [List.mem_append]
      rcases hm with hm | rfl | hm
      · exact .inl hm
      · exact absurd hy nd'.1
      · exact .inr hm
    rw [List.length_append] at this ⊢
    rw [List.length_cons, List.length_cons]
    omega
theorem setR_count {w : World} {h : Heap} {a : Addr} {ns : List Int} {c : Nat} (R : SetR w h a (fun j => decide (j ∈ ns)) c) : c ≤ ns.length ∧ (ns.Nodup → c = ns.length) := by
  obtain ⟨o, es, ep, t, _, _, _, _, nd, hm, _, _, hn, _⟩ := R
  have l1 : (es.toList.map keyOf).length = c := by rw [List.length_map, Array.length_toList, hn]
  have le1 : (es.toList.map keyOf).length ≤ ns.length := nodup_le nd fun x hx => of_decide_eq_true ((hm x).mpr hx)
  refine ⟨by omega, fun nn => ?_⟩
  have le2 : ns.length ≤ (es.toList.map keyOf).length := nodup_le nn fun x hx => (hm x).mp (decide_eq_true hx)
  omega
theorem cr_setL : CallR X (.type "set") (fun vs H Q => X.calm = true ∧ rSetL1 X.K X.w vs H Q) := by
  intro pins s σ H vs us Q I r h
  obtain ⟨calm, a, ns, rfl, hq, few, q⟩ := h
  rw [Vals.ref1 r]
  obtain ⟨its, rv, pl, _⟩ := I.list hq
  refine set_of_list ns (I.ok.hd calm) pl.isList (by simpa using ints_of_vals rv) (by unfold scanBound; omega) fun h' tk c R kp => ?_
  have n0 : H s.heap.objs.size = none := I.hok.fresh (Nat.le_refl _)
  exact ⟨.ref s.heap.objs.size, _, I.laid (t' := tk) kp (Nat.le_refl _) (setO_new R), rfl, q _ c n0 (setR_count R).1⟩
/-- len(set(t)) of a tuple of ints, no two alike -/
def tLenSetT (K : PySem.W.Frag) (ta : TE) : TE := fun σ H Q => ta σ H fun x H1 => ∃ (l : Addr) (ns : List Int), x = .ref l ∧ SqT K H1 l (ns.map V.int) ∧ ns.Nodup ∧ ns.length ≤ 1000 ∧ Q (.int (ns.length : Nat)) H1
theorem pe_lenSetT {a : Expr} {ta : TE} {p p2 q pos : Pos} (hg : Gl X "len") (hm : X.mg "len" = none) (hg2 : Gl X "set") (hm2 : X.mg "set" = none) (ha : PE X a ta) (hc : X.calm = true := by rfl)
    (na : starEach [a] X.env = (false, eval a X.env) :: starEach [] X.env := by rfl) : PE X (.Call (.Name "len" p) [.Call (.Name "set" p2) [a] [] q] [] pos) (tLenSetT X.K ta) := by
  refine ⟨fun pins s σ H Q I h => Call_ (ld_blt I hg hm boot_len (PyProof.Rows.callWith_builtin1 (PyProof.Rows.args_cons ?_ rfl) rfl rfl))⟩
  refine Call_ (ld_blt I hg2 hm2 boot_set (PyProof.Rows.callWith_type1 (PyProof.Rows.args_cons ?_ na) na rfl))
  refine thn (ha.run pins s σ H _ I h) fun v s1 ⟨x, H1, I1, r1, l, ns, ex, hq, nd, few, k⟩ => PyProof.Rows.args_nil ?_
  subst ex
  cases r1
  obtain ⟨its, rv, pt, _⟩ := I1.tuple hq
  refine call_set_tupI ns (I1.ok.hd hc) (show s1.heap.IsTuple l its.toArray from pt) (by simpa using ints_of_vals rv) (by unfold scanBound; omega) fun h' tk c R _ kp => PyProof.Rows.args_nil ?_
  have ec := (setR_count R).2 nd
  subst ec
  obtain ⟨o, es, ep, t, ho, hex, hd, _, _, _, _, hf, hn, _⟩ := R
  have I2 : Inv X pins σ H1 { s1 with heap := h', toks := tk } := I1.kept kp
  exact call_len_set ho hex hd hf (by rw [hn]; omega) ⟨.int ns.length, H1, I2.tok _, ⟨_, by rw [hn]⟩, k⟩
end
end Fl
/-! Lemmas over the layer: comprehensions that leave all else as it was. -/
namespace Fl
open PySem PySem.Spec PyProof.Rows L2
theorem pr_snoc {α β : Type} {F : α → β → Prop} {x : α} {y : β} : ∀ {l : List α} {m : List β}, Paired F l m → F x y → Paired F (l ++ [x]) (m ++ [y])
  | _, _, .nil, h => .cons h .nil
  | _, _, .cons r t, h => .cons r (pr_snoc t h)
theorem pr_map_eq {α : Type} {e : α → V} : ∀ {l : List α} {m : List V}, Paired (fun x y => y = e x) l m → m = l.map e
  | _, _, .nil => rfl
  | _, _, .cons r t => by rw [r, pr_map_eq t, List.map_cons]
theorem pr_len {α β : Type} {F : α → β → Prop} : ∀ {l : List α} {m : List β}, Paired F l m → l.length = m.length
  | _, _, .nil => rfl
  | _, _, .cons _ t => by rw [List.length_cons, List.length_cons, pr_len t]
theorem pr_imp {α β : Type} {F G : α → β → Prop} (h : ∀ x y, F x y → G x y) : ∀ {l : List α} {m : List β}, Paired F l m → Paired G l m
  | _, _, .nil => .nil
  | _, _, .cons r t => .cons (h _ _ r) (pr_imp h t)
theorem pr_get {α β : Type} {F : α → β → Prop} : ∀ {l : List α} {m : List β} {i : Nat} {x : α}, Paired F l m → l[i]? = some x → ∃ y, m[i]? = some y ∧ F x y
  | _, _, _, _, .nil, h => by simp at h
  | _, _, 0, _, .cons r t, h => by simp at h; subst h; exact ⟨_, rfl, r⟩
  | _, _, i + 1, _, .cons r t, h => by simpa using pr_get t (by simpa using h)
theorem pr_get' {α β : Type} {F : α → β → Prop} : ∀ {l : List α} {m : List β} {i : Nat} {y : β}, Paired F l m → m[i]? = some y → ∃ x, l[i]? = some x ∧ F x y
  | _, _, _, _, .nil, h => by simp at h
  | _, _, 0, _, .cons r t, h => by simp at h; subst h; exact ⟨_, rfl, r⟩
  | _, _, i + 1, _, .cons r t, h => by simpa using pr_get' t (by simpa using h)
/-- tuples stay -/
def Tups (H H' : Hp) : Prop := ∀ b xs, H b = some (.tup xs) → H' b = some (.tup xs)
theorem tups_of {H H' : Hp} (s : Same H H') : Tups H H' := fun b xs h => s b _ h
theorem tups_upd {H : Hp} {a : Addr} {xs ys : List V} (h : H a = some (.lst xs)) : Tups H (upd H a (.lst ys)) := fun b zs hb => by
  rw [upd_ne (ne_of hb h (by intro z; cases z))]
  exact hb
theorem take_succ_filter {α : Type} {L : List α} {i : Nat} {x : α} (f : α → Bool) (h : L[i]? = some x) : (L.take (i + 1)).filter f = (L.take i).filter f ++ (if f x = true then [x] else []) := by
  rw [List.take_add_one, h, List.filter_append]
  congr 1
  show [x].filter f = _
  rw [List.filter_cons]
  split <;> rfl
section
variable {J : It} {n : Nat} {G : Hp → Prop} {Y : Nat → Hp → V → Hp → Prop}
/-- a comprehension that leaves all else as it was: R tells what is made of each item that is kept -/
theorem lc_pair {α : Type} (w : Walk J n G Y) {L : List α} (f : α → Bool) (R : α → V → Hp → Prop) {g : TG} {tt : TT} {te : TE} {vs : List Nat} {σ : L2.St} {H : Hp} {D : Addr} {Qd : Hp → Prop} (hn : L.length = n) (small : n ≤ 100000)
    (mono : ∀ x y H H', Tups H H' → R x y H → R x y H') (hD : H D = none) (hG : ∀ H', Same H H' → G H')
    (turn : ∀ i x v H1 H2, L[i]? = some x → Same H H1 → Y i H1 v H2 → ∀ (Kp : V → Hp → Prop) (Sk : Hp → Prop), (∀ y H5, Same H1 H5 → f x = true → R x y H5 → Kp y H5) → (∀ H5, Same H1 H5 → f x = false → Sk H5) →
      g v (wipe σ vs) H2 fun σ3 H3 => wipe σ3 vs = wipe σ vs ∧ tt σ3 H3 fun b H4 => if b = true then te σ3 H4 Kp else Sk H4)
    (k : ∀ H' acc, Same H H' → H' D = some (.lst acc) → Paired (fun x y => R x y H') (L.filter f) acc → Qd H') :
    ∃ W : Nat → Nat → Hp → Prop, (∃ m, W 0 m (upd H D (.lst []))) ∧ ∀ i m H, W i m H →
      (J.stop i H ∧ Qd H) ∨ (J.go i H ∧ ∃ Nx : Hp → Prop, (∀ H', Nx H' → ∃ m', m' < m ∧ W (i + 1) m' H') ∧ ∀ x H', J.yld i H x H' → g x (wipe σ vs) H' fun σ2 H2 => wipe σ2 vs = wipe σ vs ∧ tt σ2 H2 fun b H3 =>
        if b = true then te σ2 H3 fun y H4 => ∃ acc, H4 D = some (.lst acc) ∧ acc.length < sizeLine ∧ Nx (upd H4 D (.lst (acc ++ [y]))) else Nx H3) := by
  refine lc_it w (fun i H' => Same H H' ∧ ∃ acc, H' D = some (.lst acc) ∧ Paired (fun x y => R x y H') ((L.take i).filter f) acc) ⟨same_upd hD, [], upd_same, by simpa using Paired.nil⟩ (fun i H' _ p => hG H' p.1) (fun i v H1 H2 hi p y => ?_) (fun H' p => ?_)
  · obtain ⟨s1, acc, hd, pr⟩ := p
    have hL : L[i]? = some L[i] := List.getElem?_eq_getElem (by omega)
    refine turn i L[i] v H1 H2 hL s1 y _ _ (fun z H5 s5 ft r => ?_) (fun H5 s5 ff => ?_)
    · refine ⟨acc, s5 _ _ hd, ?_, ?_⟩
      · have l1 := pr_len pr
        have l2 := List.length_filter_le f (L.take i)
        rw [List.length_take] at l2
        exact szl (by omega)
      · have s6 : Same H (upd H5 D (.lst (acc ++ [z]))) := same_mutX (s1.trans s5) SameX.upd hD
        refine ⟨s6, _, upd_same, ?_⟩
        rw [take_succ_filter f hL, if_pos ft]
        have n5 : ∀ x y, R x y H5 → R x y (upd H5 D (.lst (acc ++ [z]))) := fun x y => mono x y _ _ (tups_upd (s5 _ _ hd))
        exact pr_snoc (pr_imp (fun x y r => n5 x y (mono x y _ _ (tups_of s5) r)) pr) (n5 _ _ r)
    · refine ⟨s1.trans s5, acc, s5 _ _ hd, ?_⟩
      rw [take_succ_filter f hL, if_neg (by rw [ff]; decide), List.append_nil]
      exact pr_imp (fun x y r => mono x y _ _ (tups_of s5) r) pr
  · obtain ⟨s1, acc, hd, pr⟩ := p
    rw [List.take_of_length_le (by omega)] at pr
    exact k H' acc s1 hd pr
end
end Fl
namespace Fl
open PySem PySem.Spec PyProof.Rows L2
/-! ### the keys of a dict made of pairs -/
theorem keys_putK {kvs : List (Key × V)} {ks : List Int} (e : kvs.map (·.1) = ks.map Sum.inl) (n : Int) (v : V) :
    (n ∈ ks ∧ (putK kvs (Sum.inl n) v).map (·.1) = ks.map Sum.inl) ∨ (n ∉ ks ∧ (putK kvs (Sum.inl n) v).map (·.1) = (ks ++ [n]).map Sum.inl) := by
  have any : (kvs.any fun kv => decide (kv.1 = Sum.inl n)) = decide (n ∈ ks) := by
    have h1 : (kvs.any fun kv => decide (kv.1 = (Sum.inl n : Key))) = (kvs.map (·.1)).any fun k => decide (k = Sum.inl n) := by
      rw [List.any_map]
      rfl
    rw [h1, e, List.any_map]
    rw [Bool.eq_iff_iff, List.any_eq_true, decide_eq_true_eq]
    constructor
    · rintro ⟨x, hx, h⟩
      have := Sum.inl.inj (of_decide_eq_true h)
      subst this
      exact hx
    · intro h
      exact ⟨n, h, decide_eq_true rfl⟩
  unfold putK
  by_cases h : n ∈ ks
  · refine .inl ⟨h, ?_⟩
    rw [if_pos (by rw [any]; exact decide_eq_true h), ← e, List.map_map]
    apply List.map_congr_left
    intro kv _
    show (if kv.1 = Sum.inl n then (kv.1, v) else kv).1 = kv.1
    split <;> rfl
  · refine .inr ⟨h, ?_⟩
    rw [if_neg (by rw [any]; simpa using h), List.map_append, e, List.map_append]
    rfl
theorem keys_merge : ∀ (ns ks : List Int) (kvs : List (Key × V)), kvs.map (·.1) = ks.map Sum.inl → ks.Nodup →
    ∃ ks' : List Int, (mergeK kvs (ns.map fun n => (Sum.inl n, V.bl true))).map (·.1) = ks'.map Sum.inl ∧ ks'.Nodup ∧ (∀ h, h ∈ ks' ↔ h ∈ ks ∨ h ∈ ns) ∧ ks'.length ≤ ks.length + ns.length
  | [], ks, kvs, e, nd => ⟨ks, e, nd, fun h => by simp, by simp⟩
  | n :: ns, ks, kvs, e, nd => by
    show ∃ ks' : List Int, (mergeK (putK kvs (Sum.inl n) (V.bl true)) (ns.map fun n => (Sum.inl n, V.bl true))).map (·.1) = _ ∧ _
    rcases keys_putK e n (V.bl true) with ⟨h1, h2⟩ | ⟨h1, h2⟩
    · obtain ⟨ks', a, b, c, d⟩ := keys_merge ns ks _ h2 nd
      refine ⟨ks', a, b, fun h => ?_, by rw [List.length_cons]; omega⟩
      rw [c, List.mem_cons]
      constructor
      · rintro (x | x)
        · exact .inl x
        · exact .inr (.inr x)
      · rintro (x | x | x)
        · exact .inl x
        · subst x; exact .inl h1
        · exact .inr x
    · have nd2 : (ks ++ [n]).Nodup := by
        rw [List.nodup_append]
        refine ⟨nd, by simp, fun x hx y hy z => ?_⟩
        rw [List.mem_singleton] at hy
        subst hy z
        exact h1 hx
      obtain ⟨ks', a, b, c, d⟩ := keys_merge ns (ks ++ [n]) _ h2 nd2
      refine ⟨ks', a, b, fun h => ?_, by rw [List.length_append, List.length_singleton] at d; rw [List.length_cons]; omega⟩
      rw [c, List.mem_append, List.mem_singleton, List.mem_cons]
      constructor
      · rintro ((x | x) | x)
        · exact .inl x
        · exact .inr (.inl x)
        · exact .inr (.inr x)
      · rintro (x | x | x)
        · exact .inl (.inl x)
        · exact .inl (.inr x)
        · exact .inr x
/-! ### answers -/
theorem deq_t {i j : Int} (e : decide (V.int i = V.int j) = true) : i = j := V.int.inj (of_decide_eq_true e)
theorem deq_f {i j : Int} (e : ¬ decide (V.int i = V.int j) = true) : i ≠ j := fun z => e (decide_eq_true (by rw [z]))
theorem dne_t {i j : Int} (e : (!decide (V.int i = V.int j)) = true) : i ≠ j := fun z => by
  rw [z] at e
  simp at e
theorem dne_f {i j : Int} (e : ¬ (!decide (V.int i = V.int j)) = true) : i = j := by
  apply Classical.byContradiction
  intro h
  apply e
  have : ¬ V.int i = V.int j := fun z => h (V.int.inj z)
  rw [decide_eq_false this]
  rfl
/-! ### heights, some not yet led -/
def hv : Option Int → V
  | none => .non
  | some x => .int x
theorem rep_flat (v : V) : ∀ n : Nat, (List.replicate n [v]).flatten = List.replicate n v
  | 0 => rfl
  | n + 1 => by
    rw [List.replicate_succ, List.flatten_cons, rep_flat v n, List.replicate_succ]
    rfl
theorem at_int {xs : List V} {n : Nat} {v : V} (h : xs[n]? = some v) : atI xs (n : Int) = some v := atI_nat h
theorem ix_int {n m : Nat} (h : n < m) : ixN m (n : Int) = some n := by
  unfold ixN
  rw [if_pos (by omega), if_pos (by omega), Int.toNat_natCast]
end Fl
namespace Fl
open PySem PySem.Spec PyProof.Rows L2
section
variable {P : Program} {w : World} {K : PySem.W.Frag} {mg : Str → Option Value} {base : Heap}
/-! ### left -/
abbrev keep (st : List Int) (ps : List (Addr × Rn)) : List (Addr × Rn) := ps.filter fun x => !decide (x.2.h ∈ st)
def spLeft (K : PySem.W.Frag) : Sp := fun vs H Q _ => ∃ (a b : Addr) (ps : List (Addr × Rn)) (st : List Int), vs = [.ref a, .ref b] ∧ Runs H a ps ∧ H b = some (.lst (ivs st)) ∧ ps.length ≤ 1000 ∧
  ∀ H' p, Same H H' → H p = none → Runs H' p (keep st ps) → Q (.ref p) H'
theorem scLeft : FnScope ["runs", "struck", "run"] ["runs", "struck"] (defScope (topS 2)) := ⟨rfl, rfl, rfl, by decide +kernel, rfl, by decide +kernel, by decide +kernel⟩
theorem ok_left (D : Def K mg "left" 2) : Good P w K mg base 1 "left" ["runs", "struck"] (spLeft K) := by
  obtain ⟨f, fd, F, hm⟩ := D
  refine ⟨f, fd, F.kp, hm, F.bindsN (fun _ _ _ _ _ _ us hl => match us, hl with | [_, _], _ => rfl), F.ok scLeft (fun vs H Q E h => ?_) (fun cdv A outer s H vs Q E hr h => ?_)⟩
  · obtain ⟨a, b, ps, st, rfl, _⟩ := h
    rfl
  obtain ⟨a, b, ps, st, rfl, ⟨hR, hT⟩, hS, hl, q⟩ := h
  refine ⟨_, PSs.nox (pss_one (ps_ret (pe_lc (own := [("run", 2)]) (g := gName 2) rfl scLeft.nd (pi_list (pv 0)) (blkOk_by (own := [("run", 2)]) (N := ["runs", "struck", "run"]) (sc := defScope (topS 2)) (by decide +kernel)) (fun _ _ _ _ _ => pg_name (i := 2) scLeft.nd rfl (Or.inl rfl))
    (fun _ _ _ _ _ => pts_one (pt_cmpR (r := rIn K true) op_notIn_seq (pe_ix (r := rIxT K) ix_tup (pv 2) pe_int (fun _ _ => rfl)) (pv 1) (by rfl))) (fun _ _ _ _ _ => pv 2)))), ?_⟩
  refine ⟨_, rfl, a, rfl, ⟨_, SqL.of hR⟩, fun D hD => ?_⟩
  refine lc_pair walk_list (L := ps) (fun x => !decide (x.2.h ∈ st)) (fun x y _ => y = V.ref x.1) (by simp) (by simp; omega) (fun _ _ _ _ _ r => r) hD (fun H' s => s.seq (SqL.of hR)) ?_ ?_
  · intro i x v H1 H2 hx s1 y Kp Sk hK hS'
    obtain ⟨rfl, hv⟩ := y
    rw [List.getElem?_map, hx] at hv
    cases hv
    have hx' := hT x (List.mem_of_getElem? hx)
    refine ⟨rfl, _, rfl, _, _, _, _, rfl, rfl, SqT.of (s1 _ _ hx'), rfl, _, rfl, _, _, rfl, .inl (SqL.of (s1 _ _ hS)), rfl, flat_ivs st, _, rfl, ?_⟩
    rw [if_pos rfl, inV_int]
    refine ite2 (fun e => ?_) (fun e => ?_)
    · exact ⟨_, rfl, hK _ _ (Same.refl _) e rfl⟩
    · exact hS' _ (Same.refl _) (by simpa using e)
  · intro H' acc s1 hd pr
    have e := pr_map_eq pr
    subst e
    refine q H' D s1 hD ⟨hd, fun p hp => s1 _ _ (hT p (List.mem_filter.mp hp).1)⟩
/-! ### hands_of -/
theorem perm_hands {ks ys : List Int} {ns : List Int} (pm : ys.Perm ks) (pw : ys.Pairwise (· ≤ ·)) (nd : ks.Nodup) (mem : ∀ h, h ∈ ks ↔ h ∈ ([] : List Int) ∨ h ∈ ns) : ys.Pairwise (· < ·) ∧ ∀ h, h ∈ ys ↔ h ∈ ns := by
  refine ⟨le_lt pw (pm.nodup_iff.mpr nd), fun h => ?_⟩
  rw [pm.mem_iff, mem]
  simp
def spHandsOf (K : PySem.W.Frag) : Sp := fun vs H Q _ => ∃ (a : Addr) (ps : List (Addr × Rn)), vs = [.ref a] ∧ Runs H a ps ∧ ps.length ≤ 50 ∧
  ∀ H' p hs, Same H H' → H p = none → H' p = some (.lst (ivs hs)) → HandsOk hs (rsOf ps) → Q (.ref p) H'
theorem scHandsOf : FnScope ["runs", "run"] ["runs"] (defScope (topS 1)) := ⟨rfl, rfl, rfl, by decide +kernel, rfl, by decide +kernel, by decide +kernel⟩
theorem ok_hands_of (D : Def K mg "hands_of" 1) (ms : mg "sorted" = none) (md : mg "dict" = none) : Good P w K mg base 1 "hands_of" ["runs"] (spHandsOf K) := by
  obtain ⟨f, fd, F, hm⟩ := D
  refine ⟨f, fd, F.kp, hm, F.bindsN (fun _ _ _ _ _ _ us hl => match us, hl with | [_], _ => rfl), F.ok scHandsOf (fun vs H Q E h => ?_) (fun cdv A outer s H vs Q E hr h => ?_)⟩
  · obtain ⟨a, ps, rfl, _⟩ := h
    rfl
  obtain ⟨a, ps, rfl, ⟨hR, hT⟩, hl, q⟩ := h
  refine ⟨_, PSs.nox (pss_one (ps_ret (pe_callB (call_sortedDI rfl) (by rfl) ms boot_sorted (pa_cons (pe_callTy (call_dictP rfl) (by rfl) md boot_dict (pa_cons
    (pe_lc (own := [("run", 1)]) (g := gName 1) (tt := tYes) rfl scHandsOf.nd (pi_list (pv 0)) (blkOk_by (own := [("run", 1)]) (N := ["runs", "run"]) (sc := defScope (topS 1)) (by decide +kernel)) (fun _ _ _ _ _ => pg_name (i := 1) scHandsOf.nd rfl (Or.inl rfl))
    (fun _ _ _ _ _ => pts_nil) (fun _ _ _ _ _ => pe_tup (pa_cons (pe_ix (r := rIxT K) ix_tup (pv 1) pe_int (fun _ _ => rfl)) (pa_cons pe_bl pa_nil)))) pa_nil)) pa_nil)))), ?_⟩
  refine ⟨_, rfl, a, rfl, ⟨_, SqL.of hR⟩, fun D hD => ?_⟩
  refine lc_pair walk_list (L := ps) (fun _ => true) (fun x y H => ∃ t, y = V.ref t ∧ H t = some (.tup [.int x.2.h, .bl true])) (by simp) (by simp; omega) (fun x y H H' ts r => by obtain ⟨t, e, h⟩ := r; exact ⟨t, e, ts _ _ h⟩) hD (fun H' s => s.seq (SqL.of hR)) ?_ ?_
  · intro i x v H1 H2 hx s1 y Kp Sk hK hS'
    obtain ⟨rfl, hv⟩ := y
    rw [List.getElem?_map, hx] at hv
    cases hv
    have hx' := hT x (List.mem_of_getElem? hx)
    refine ⟨rfl, ?_⟩
    refine iteT (B := True) ?_
    exact ⟨_, rfl, _, _, _, _, rfl, rfl, SqT.of (s1 _ _ hx'), rfl, by show 2 ≤ sizeLine; decide, fun t ht => hK _ _ (same_upd ht) rfl ⟨t, rfl, upd_same⟩⟩
  · intro H' acc s1 hd pr
    rw [List.filter_eq_self.mpr (fun _ _ => rfl)] at pr
    obtain ⟨ts, ets, prt⟩ : ∃ ts : List Addr, acc = ts.map V.ref ∧ Paired (fun p (kv : Key × V) => SqT K H' p [kV kv.1, kv.2]) ts (((rsOf ps).map Rn.h).map fun n => (Sum.inl n, V.bl true)) := by
      clear hl hR hT hd q
      induction pr with
      | nil => exact ⟨[], rfl, .nil⟩
      | cons r _ ih =>
        obtain ⟨ts, e1, e2⟩ := ih
        obtain ⟨t, e3, e4⟩ := r
        exact ⟨t :: ts, by rw [e3, e1]; rfl, .cons (SqT.of e4) e2⟩
    subst ets
    refine ⟨D, ts, _, rfl, SqL.of hd, prt, fun d hd2 => ?_⟩
    have s2 := same_upd (o := .dK (mergeK [] (((rsOf ps).map Rn.h).map fun n => (Sum.inl n, V.bl true)))) hd2
    obtain ⟨ks, k1, k2, k3, k4⟩ := keys_merge ((rsOf ps).map Rn.h) [] [] rfl List.nodup_nil
    refine ⟨d, _, ks, rfl, Rd.of upd_same, k1, ?_, fun ys p pm pw hp => ?_⟩
    · rw [List.length_map, List.length_map] at k4
      simp at k4
      omega
    · obtain ⟨g1, g2⟩ := perm_hands pm pw k2 k3
      refine q _ p ys ((s1.trans s2).trans (same_upd hp)) (Same.free (s1.trans s2) hp) upd_same ⟨g1, fun h => ?_⟩
      rw [g2 h, List.mem_map]
/-! ### holds -/
def HoldsF (rs : List Rn) (xs : List Int) : Prop := ∀ q ∈ rs, xs.getD q.b 0 - xs.getD q.a 0 = q.r
instance (rs : List Rn) (xs : List Int) : Decidable (HoldsF rs xs) := by unfold HoldsF; infer_instance
def Marks (size : Nat) (ps : List (Addr × Rn)) : Prop := ∀ p ∈ ps, p.2.a < size ∧ p.2.b < size ∧ p.2.a ≠ p.2.b
theorem getD_at {xs : List Int} {i : Nat} (h : i < xs.length) : (ivs xs)[i]? = some (.int (xs.getD i 0)) := by
  rw [List.getElem?_map, List.getElem?_eq_getElem h, List.getD_eq_getElem?_getD, List.getElem?_eq_getElem h]
  rfl
def spHolds (K : PySem.W.Frag) : Sp := fun vs H Q _ => ∃ (a b : Addr) (ps : List (Addr × Rn)) (xs : List Int), vs = [.ref a, .ref b] ∧ Runs H a ps ∧ H b = some (.lst (ivs xs)) ∧ Marks xs.length ps ∧ Q (.bl (decide (HoldsF (rsOf ps) xs))) H
theorem scHolds : FnScope ["runs", "heights", "one", "other", "rise", "hand"] ["runs", "heights"] (defScope (topS 3)) := ⟨rfl, rfl, rfl, by decide +kernel, rfl, by decide +kernel, by decide +kernel⟩
theorem ok_holds (D : Def K mg "holds" 3) : Good P w K mg base 1 "holds" ["runs", "heights"] (spHolds K) := by
  obtain ⟨f, fd, F, hm⟩ := D
  refine ⟨f, fd, F.kp, hm, F.bindsN (fun _ _ _ _ _ _ us hl => match us, hl with | [_, _], _ => rfl), F.ok scHolds (fun vs H Q E h => ?_) (fun cdv A outer s H vs Q E hr h => ?_)⟩
  · obtain ⟨a, b, ps, xs, rfl, _⟩ := h
    rfl
  obtain ⟨a, b, ps, xs, rfl, ⟨hR, hT⟩, hX, hM, q⟩ := h
  have nd := scHolds.nd
  refine ⟨_, PSs.nox (pss_cons (ps_for PassesOwn.never rfl (pi_list (pv 0)) (pg_tup rfl (pgs_cons (pg_name (i := 2) nd rfl (.inl rfl)) (pgs_cons (pg_name (i := 3) nd rfl (.inl rfl)) (pgs_cons (pg_name (i := 4) nd rfl (.inl rfl)) (pgs_cons (pg_name (i := 5) nd rfl (.inl rfl)) pgs_nil)))))
      (pss_one (ps_if (pt_cmpR op_ne (pe_op op_sub (pe_ix ix_list (pv 1) (pv 3) (fun _ _ => rfl)) (pe_ix ix_list (pv 1) (pv 2) (fun _ _ => rfl))) (pv 4) (nomark _)) (pss_one (ps_ret pe_bl)) pss_nil)))
    (pss_one (ps_ret pe_bl))), ?_⟩
  refine ⟨_, rfl, a, rfl, ⟨_, SqL.of hR⟩, ?_⟩
  refine for_list (K := K) (xs := ps.map fun p => V.ref p.1) (fun i σ H' => H' = H ∧ HoldsF (rsOf (ps.take i)) xs ∧ ∃ x2 x3 x4 x5, σ = [some (.ref a), some (.ref b), x2, x3, x4, x5])
    ⟨rfl, (by intro q hq; cases hq), _, _, _, _, rfl⟩ (fun i σ H' _ p => by rw [p.1]; exact SqL.of hR) ?_ ?_
  · rintro i v σ H' hv ⟨rfl, hh, x2, x3, x4, x5, rfl⟩
    rw [List.getElem?_map] at hv
    obtain ⟨x, hx, rfl⟩ := Option.map_eq_some_iff.mp hv
    have hm := List.mem_of_getElem? hx
    have hx' := hT x hm
    obtain ⟨m1, m2, _⟩ := hM x hm
    refine ⟨_, _, rfl, SqT.of hx', rfl, _, _, rfl, _, _, rfl, _, _, rfl, _, _, rfl, rfl, ?_⟩
    refine ⟨_, rfl, _, rfl, _, _, _, _, rfl, rfl, SqL.of hX, at_int (getD_at m2), _, rfl, _, rfl, _, _, _, _, rfl, rfl, SqL.of hX, at_int (getD_at m1), _, _, rfl, rfl, _, rfl, rfl, _, rfl, ?_⟩
    refine ite2 (fun e => ?_) (fun e => ?_)
    · have ne : ¬ HoldsF (rsOf ps) xs := fun all => by
        have := all x.2 (List.mem_map.mpr ⟨x, hm, rfl⟩)
        exact dne_t e this
      rw [decide_eq_false ne] at q
      exact q
    · have eq : xs.getD x.2.b 0 - xs.getD x.2.a 0 = x.2.r := dne_f e
      refine ⟨rfl, ?_, _, _, _, _, rfl⟩
      rw [List.take_add_one, hx]
      intro z hz
      rw [rsOf, List.map_append, List.mem_append] at hz
      rcases hz with hz | hz
      · exact hh z hz
      · simp at hz
        rw [hz]
        exact eq
  · rintro σ H' ⟨rfl, hh, x2, x3, x4, x5, rfl⟩
    rw [List.length_map, List.take_length] at hh
    rw [decide_eq_true hh] at q
    exact q
end
end Fl
namespace Fl
open PySem PySem.Spec PyProof.Rows L2
section
variable {P : Program} {w : World} {K : PySem.W.Frag} {mg : Str → Option Value} {base : Heap}
/-! ### spread -/
abbrev hvs (h : Hts) : List V := h.map hv
theorem hvs_at {h : Hts} {i : Nat} {v : Option Int} (e : h[i]? = some v) : atI (hvs h) (i : Int) = some (hv v) := at_int (by rw [List.getElem?_map, e]; rfl)
theorem hvs_set (h : Hts) (i : Nat) (v : Option Int) : (hvs h).set i (hv v) = hvs (h.set i v) := by rw [← List.map_set]
theorem sameX_runs {H H' : Hp} {a b : Addr} {ps : List (Addr × Rn)} {hs : Hts} (x : SameX b H H') (h : Runs H a ps) (hb : H b = some (.lst (hvs hs))) (ne : a ≠ b) : Runs H' a ps :=
  ⟨x _ _ ne h.1, fun p hp => x _ _ (ne_of (h.2 p hp) hb (by intro z; cases z)) (h.2 p hp)⟩
def spSpread (K : PySem.W.Frag) : Sp := fun vs H Q _ => ∃ (a b : Addr) (ps : List (Addr × Rn)) (hs : Hts), vs = [.ref a, .ref b] ∧ Runs H a ps ∧ H b = some (.lst (hvs hs)) ∧ a ≠ b ∧ Marks hs.length ps ∧
  ∀ H' hs' m, SameX b H H' → H' b = some (.lst (hvs hs')) → Grow (rsOf ps) hs hs' → (m = false → hs' = hs ∧ NoHalf (rsOf ps) hs) → (m = true → nones hs' < nones hs) → Q (.bl m) H'
theorem scSpread : FnScope ["runs", "heights", "more", "one", "other", "rise", "hand"] ["runs", "heights"] (defScope (topS 4)) := ⟨rfl, rfl, rfl, by decide +kernel, rfl, by decide +kernel, by decide +kernel⟩
theorem hv_some {h : Hts} {i : Nat} (lt : i < h.length) : ∃ v, h[i]? = some v := ⟨h[i], List.getElem?_eq_getElem lt⟩
/-- between two turns of the loop -/
structure SpreadAt (H : Hp) (b : Addr) (ps : List (Addr × Rn)) (hs : Hts) (i : Nat) (H' : Hp) (hs' : Hts) (m : Bool) : Prop where
  x : SameX b H H'
  at_ : H' b = some (.lst (hvs hs'))
  grow : Grow (rsOf ps) hs hs'
  no : m = false → hs' = hs ∧ NoHalf (rsOf (ps.take i)) hs
  yes : m = true → nones hs' < nones hs
theorem SpreadAt.step {H H' : Hp} {b : Addr} {ps : List (Addr × Rn)} {hs hs' : Hts} {i : Nat} {m : Bool} {x : Addr × Rn} (s : SpreadAt H b ps hs i H' hs' m) (hx : ps[i]? = some x)
    (h : (∃ y, hs'[x.2.a]? = some (some y)) ↔ (∃ y, hs'[x.2.b]? = some (some y))) : SpreadAt H b ps hs (i + 1) H' hs' m := by
  refine ⟨s.x, s.at_, s.grow, fun e => ?_, s.yes⟩
  obtain ⟨rfl, n⟩ := s.no e
  refine ⟨rfl, fun q hq => ?_⟩
  rw [List.take_add_one, hx, rsOf, List.map_append, List.mem_append] at hq
  rcases hq with hq | hq
  · exact n q hq
  · simp at hq
    rw [hq]
    exact h
theorem SpreadAt.led {H H' H2 : Hp} {b : Addr} {ps : List (Addr × Rn)} {hs hs' hs2 : Hts} {i : Nat} {m : Bool} (s : SpreadAt H b ps hs i H' hs' m) (g : Grow (rsOf ps) hs hs2) (lt : nones hs2 < nones hs') (x : SameX b H' H2) (h : H2 b = some (.lst (hvs hs2))) : SpreadAt H b ps hs (i + 1) H2 hs2 true := by
  refine ⟨s.x.trans x, h, g, fun e => (by cases e), fun _ => ?_⟩
  cases m with
  | true => exact Nat.lt_trans lt (s.yes rfl)
  | false => rw [← (s.no rfl).1]; exact lt
theorem ok_spread (D : Def K mg "spread" 4) : Good P w K mg base 1 "spread" ["runs", "heights"] (spSpread K) := by
  obtain ⟨f, fd, F, hm⟩ := D
  refine ⟨f, fd, F.kp, hm, F.bindsN (fun _ _ _ _ _ _ us hl => match us, hl with | [_, _], _ => rfl), F.ok scSpread (fun vs H Q E h => ?_) (fun cdv A outer s H vs Q E hr h => ?_)⟩
  · obtain ⟨a, b, ps, hs, rfl, _⟩ := h
    rfl
  obtain ⟨a, b, ps, hs, rfl, hR, hX, ne, hM, q⟩ := h
  have nd := scSpread.nd
  refine ⟨_, PSs.nox (pss_cons (ps_set (i := 2) nd rfl (.inl rfl) pe_bl) (pss_cons (ps_for PassesOwn.never rfl (pi_list (pv 0)) (pg_tup rfl (pgs_cons (pg_name (i := 3) nd rfl (.inl rfl)) (pgs_cons (pg_name (i := 4) nd rfl (.inl rfl)) (pgs_cons (pg_name (i := 5) nd rfl (.inl rfl)) (pgs_cons (pg_name (i := 6) nd rfl (.inl rfl)) pgs_nil)))))
      (pss_one (ps_if (PW.pt (pw_and (pt_cmpR op_notN (pe_ix ix_list (pv 1) (pv 3) (fun _ _ => rfl)) pe_non (nomark _)) (pw_and1 (pt_cmpR op_isN (pe_ix ix_list (pv 1) (pv 4) (fun _ _ => rfl)) pe_non (nomark _)))))
        (pss_cons (ps_asg (pe_op op_add (pe_ix ix_list (pv 1) (pv 3) (fun _ _ => rfl)) (pv 5)) (pg_sub (pv 1) (pv 4) set_list)) (pss_one (ps_set (i := 2) nd rfl (.inl rfl) pe_bl)))
        (pss_one (ps_if (PW.pt (pw_and (pt_cmpR op_isN (pe_ix ix_list (pv 1) (pv 3) (fun _ _ => rfl)) pe_non (nomark _)) (pw_and1 (pt_cmpR op_notN (pe_ix ix_list (pv 1) (pv 4) (fun _ _ => rfl)) pe_non (nomark _)))))
          (pss_cons (ps_asg (pe_op op_sub (pe_ix ix_list (pv 1) (pv 4) (fun _ _ => rfl)) (pv 5)) (pg_sub (pv 1) (pv 3) set_list)) (pss_one (ps_set (i := 2) nd rfl (.inl rfl) pe_bl)))
          pss_nil)))))
    (pss_one (ps_ret (pv 2))))), ?_⟩
  refine ⟨_, rfl, a, rfl, ⟨_, SqL.of hR.1⟩, ?_⟩
  refine for_list (K := K) (xs := ps.map fun p => V.ref p.1) (fun i σ H' => ∃ hs' m, SpreadAt H b ps hs i H' hs' m ∧ ∃ x3 x4 x5 x6, σ = [some (.ref a), some (.ref b), some (.bl m), x3, x4, x5, x6])
    ⟨hs, false, ⟨SameX.refl, hX, .refl, fun _ => ⟨rfl, fun q hq => by cases hq⟩, fun e => by cases e⟩, _, _, _, _, rfl⟩ (fun i σ H' _ p => by obtain ⟨hs', m, s, _⟩ := p; exact SqL.of (s.x _ _ ne hR.1)) ?_ ?_
  · rintro i v σ H' hv ⟨hs', m, s, x3, x4, x5, x6, rfl⟩
    rw [List.getElem?_map] at hv
    obtain ⟨x, hx, rfl⟩ := Option.map_eq_some_iff.mp hv
    have hm := List.mem_of_getElem? hx
    have hR' := sameX_runs s.x hR hX ne
    have hx' := hR'.2 x hm
    obtain ⟨m1, m2, _⟩ := hM x hm
    have hl := s.grow.len
    rw [← hl] at m1 m2
    obtain ⟨va, ea⟩ := hv_some m1
    obtain ⟨vb, eb⟩ := hv_some m2
    have hX' := s.at_
    have mq : x.2 ∈ rsOf ps := List.mem_map.mpr ⟨x, hm, rfl⟩
    refine ⟨_, _, rfl, SqT.of hx', rfl, _, _, rfl, _, _, rfl, _, _, rfl, _, _, rfl, rfl, ?_⟩
    refine ⟨_, rfl, _, rfl, _, _, _, _, rfl, rfl, SqL.of hX', hvs_at ea, rfl, _, rfl, ?_⟩
    cases va with
    | some ya =>
      refine iteT (B := True) ?_
      refine ⟨_, rfl, _, rfl, _, _, _, _, rfl, rfl, SqL.of hX', hvs_at eb, rfl, _, rfl, ?_⟩
      cases vb with
      | none =>
        refine iteT (B := True) ?_
        refine ⟨_, rfl, _, rfl, _, _, _, _, rfl, rfl, SqL.of hX', hvs_at ea, _, rfl, _, _, rfl, rfl, ?_⟩
        refine ⟨_, rfl, _, rfl, b, _, _, _, rfl, rfl, hX', ix_int (by rw [List.length_map]; exact m2), ?_⟩
        refine ⟨_, true, s.led (.up s.grow mq ea eb) (nones_set eb) SameX.upd ?_, _, _, _, _, rfl⟩
        rw [upd_same]
        exact congrArg (fun z => some (HO.lst z)) (hvs_set hs' x.2.b (some (ya + x.2.r)))
      | some yb =>
        refine iteF (A := True) ?_
        refine ⟨_, rfl, _, rfl, _, _, _, _, rfl, rfl, SqL.of hX', hvs_at ea, rfl, _, rfl, ?_⟩
        refine iteF (A := True) ?_
        exact ⟨_, m, s.step hx ⟨fun _ => ⟨yb, eb⟩, fun _ => ⟨ya, ea⟩⟩, _, _, _, _, rfl⟩
    | none =>
      refine iteF (A := True) ?_
      refine ⟨_, rfl, _, rfl, _, _, _, _, rfl, rfl, SqL.of hX', hvs_at ea, rfl, _, rfl, ?_⟩
      refine iteT (B := True) ?_
      refine ⟨_, rfl, _, rfl, _, _, _, _, rfl, rfl, SqL.of hX', hvs_at eb, rfl, _, rfl, ?_⟩
      cases vb with
      | some yb =>
        refine iteT (B := True) ?_
        refine ⟨_, rfl, _, rfl, _, _, _, _, rfl, rfl, SqL.of hX', hvs_at eb, _, rfl, _, _, rfl, rfl, ?_⟩
        refine ⟨_, rfl, _, rfl, b, _, _, _, rfl, rfl, hX', ix_int (by rw [List.length_map]; exact m1), ?_⟩
        refine ⟨_, true, s.led (.down s.grow mq ea eb) (nones_set ea) SameX.upd ?_, _, _, _, _, rfl⟩
        rw [upd_same]
        exact congrArg (fun z => some (HO.lst z)) (hvs_set hs' x.2.a (some (yb - x.2.r)))
      | none =>
        refine iteF (A := True) ?_
        exact ⟨_, m, s.step hx ⟨fun ⟨y, e⟩ => (by rw [ea] at e; cases e), fun ⟨y, e⟩ => (by rw [eb] at e; cases e)⟩, _, _, _, _, rfl⟩
  · rintro σ H' ⟨hs', m, s, x3, x4, x5, x6, rfl⟩
    refine ⟨_, rfl, ?_⟩
    refine q H' hs' m s.x s.at_ s.grow (fun e => ?_) s.yes
    have := s.no e
    rw [List.length_map, List.take_length] at this
    exact this
end
end Fl
namespace Fl
open PySem PySem.Spec PyProof.Rows L2
section
variable {P : Program} {w : World} {K : PySem.W.Frag} {mg : Str → Option Value} {base : Heap}
/-! ### fill -/
def spFill (K : PySem.W.Frag) : Sp := fun vs H Q _ => ∃ (a b : Addr) (ps : List (Addr × Rn)) (hs : Hts), vs = [.ref a, .ref b] ∧ Runs H a ps ∧ H b = some (.lst (hvs hs)) ∧ a ≠ b ∧ Marks hs.length ps ∧
  ∀ H' hs', SameX b H H' → H' b = some (.lst (hvs hs')) → Grow (rsOf ps) hs hs' → NoHalf (rsOf ps) hs' → Q .non H'
theorem scFill : FnScope ["runs", "heights", "more"] ["runs", "heights"] (defScope (topS 5)) := ⟨rfl, rfl, rfl, by decide +kernel, rfl, by decide +kernel, by decide +kernel⟩
theorem ok_fill (D : Def K mg "fill" 5) (GS : Good P w K mg base 1 "spread" ["runs", "heights"] (spSpread K)) : Good P w K mg base 2 "fill" ["runs", "heights"] (spFill K) := by
  obtain ⟨f, fd, F, hm⟩ := D
  refine ⟨f, fd, F.kp, hm, F.bindsN (fun _ _ _ _ _ _ us hl => match us, hl with | [_, _], _ => rfl), F.ok scFill (fun vs H Q E h => ?_) (fun cdv A outer s H vs Q E hr h => ?_)⟩
  · obtain ⟨a, b, ps, hs, rfl, _⟩ := h
    rfl
  obtain ⟨a, b, ps, hs, rfl, hR, hX, ne, hM, q⟩ := h
  have nd := scFill.nd
  refine ⟨_, PSs.nox (pss_cons (ps_set (i := 2) nd rfl (.inl rfl) pe_bl) (pss_one (ps_while PassesOwn.never (pt_val (pv 2)) (pss_one (ps_set (i := 2) nd rfl (.inl rfl) (pe_callG GS hr (by rfl) (pa_cons (pv 0) (pa_cons (pv 1) pa_nil)) pass0)))))), ?_⟩
  refine ⟨fun m σ H' => ∃ hs' mo, SameX b H H' ∧ H' b = some (.lst (hvs hs')) ∧ Grow (rsOf ps) hs hs' ∧ (mo = false → NoHalf (rsOf ps) hs') ∧ m = nones hs' + (if mo = true then 1 else 0) ∧ σ = [some (.ref a), some (.ref b), some (.bl mo)],
    ⟨_, hs, true, SameX.refl, hX, .refl, fun e => (by cases e), rfl, rfl⟩, ?_⟩
  rintro m σ H' ⟨hs', mo, sx, hX', g, nh, rfl, rfl⟩
  refine ⟨_, rfl, mo, rfl, ?_⟩
  have ml := g.len
  cases mo with
  | true =>
    refine iteT (B := True) ?_
    refine ⟨_, fun σ' H2 p => p, ?_⟩
    refine ⟨_, rfl, _, rfl, a, b, ps, hs', rfl, sameX_runs sx hR hX ne, hX', ne, by rw [ml]; exact hM, fun H2 hs2 m2 sx2 hX2 g2 no yes => ?_⟩
    refine ⟨nones hs2 + (if m2 = true then 1 else 0), ?_, hs2, m2, sx.trans sx2, hX2, g.trans g2, fun e => ?_, rfl, rfl⟩
    · cases m2 with
      | true =>
        have := yes rfl
        simp
        omega
      | false =>
        rw [(no rfl).1]
        simp
    · have := no e
      rw [this.1]
      exact this.2
  | false =>
    refine iteF (A := True) ?_
    exact q H' hs' sx hX' g (nh rfl)
/-! ### reached -/
def ledB (hs : Hts) (i : Nat) : Bool := match hs[i]? with
  | some (some _) => true
  | _ => false
abbrev ledL (hs : Hts) (size : Nat) : List Nat := (List.range size).filter (ledB hs)
abbrev nvs (l : List Nat) : List V := l.map fun (n : Nat) => V.int (n : Int)
theorem ledB_iff {hs : Hts} {i : Nat} : ledB hs i = true ↔ ∃ x, hs[i]? = some (some x) := by
  unfold ledB
  cases e : hs[i]? with
  | none => simp
  | some v => cases v <;> simp
theorem rep_hvs (n : Nat) : List.replicate n V.non = hvs (List.replicate n none) := by
  show _ = List.map hv (List.replicate n none)
  rw [List.map_replicate]
  rfl
def spReached (K : PySem.W.Frag) : Sp := fun vs H Q _ => ∃ (a : Addr) (ps : List (Addr × Rn)) (size mark : Nat), vs = [.int size, .ref a, .int mark] ∧ Runs H a ps ∧ Marks size ps ∧ mark < size ∧ size ≤ 1000 ∧
  ∀ H' p hs', Same H H' → H p = none → Grow (rsOf ps) ((List.replicate size none).set mark (some 0)) hs' → NoHalf (rsOf ps) hs' → H' p = some (.lst (nvs (ledL hs' size))) → Q (.ref p) H'
theorem scReached : FnScope ["size", "runs", "mark", "heights", "at"] ["size", "runs", "mark"] (defScope (topS 6)) := ⟨rfl, rfl, rfl, by decide +kernel, rfl, by decide +kernel, by decide +kernel⟩
theorem ok_reached (D : Def K mg "reached" 6) (mr : mg "range" = none) (GF : Good P w K mg base 2 "fill" ["runs", "heights"] (spFill K)) : Good P w K mg base 3 "reached" ["size", "runs", "mark"] (spReached K) := by
  obtain ⟨f, fd, F, hm⟩ := D
  refine ⟨f, fd, F.kp, hm, F.bindsN (fun _ _ _ _ _ _ us hl => match us, hl with | [_, _, _], _ => rfl), F.ok scReached (fun vs H Q E h => ?_) (fun cdv A outer s H vs Q E hr h => ?_)⟩
  · obtain ⟨a, ps, size, mark, rfl, _⟩ := h
    rfl
  obtain ⟨a, ps, size, mark, rfl, hR, hM, lt, small, q⟩ := h
  have nd := scReached.nd
  refine ⟨_, PSs.nox (pss_cons (ps_set (i := 3) nd rfl (.inr rfl) (pe_op op_rep (pe_lst (pa_cons pe_non pa_nil)) (pv 0)))
    (pss_cons (ps_asg pe_int (pg_sub (pv 3) (pv 2) set_list))
    (pss_cons (ps_expr (pe_callG GF hr (by rfl) (pa_cons (pv 1) (pa_cons (pv 3) pa_nil)) pass0))
    (pss_one (ps_ret (pe_lc (own := [("at", 4)]) (g := gName 4) rfl nd (pi_range1 (by rfl) mr (pa_cons (pv 0) pa_nil)) (blkOk_by (own := [("at", 4)]) (N := ["size", "runs", "mark", "heights", "at"]) (sc := defScope (topS 6)) (by decide +kernel)) (fun _ _ _ _ _ => pg_name (i := 4) nd rfl (Or.inl rfl))
      (fun _ _ _ _ _ => pts_one (pt_cmpR op_notN (pe_ix (r := rIxL K) ix_list (pv 3) (pv 4) (fun _ _ => rfl)) pe_non (nomark _))) (fun _ _ _ _ _ => pv 4))))))), ?_⟩
  refine ⟨by show 1 ≤ sizeLine; decide, fun l0 hl0 => ?_⟩
  refine ⟨_, rfl, l0, _, _, rfl, rfl, upd_same, by omega, by omega, by simp; exact sz (by omega), fun l hl => ?_⟩
  have s1 := same_upd (o := .lst [V.non]) hl0
  have s2 := s1.trans (same_upd (o := .lst (List.replicate ((size : Int)).toNat [V.non]).flatten) hl)
  have e2 : (upd (upd H l0 (.lst [V.non])) l (.lst (List.replicate ((size : Int)).toNat [V.non]).flatten)) l = some (.lst (hvs (List.replicate size none))) := by
    rw [upd_same, rep_flat, rep_hvs, Int.toNat_natCast]
  have nl : H l = none := Same.free s1 hl
  revert e2 s2
  generalize upd (upd H l0 (.lst [V.non])) l (.lst (List.replicate ((size : Int)).toNat [V.non]).flatten) = H2
  intro s2 e2
  refine ⟨_, rfl, _, rfl, l, _, _, _, rfl, rfl, e2, ix_int (by rw [List.length_map, List.length_replicate]; exact lt), ?_⟩
  have s3 : Same H (upd H2 l (.lst ((hvs (List.replicate size none)).set mark (.int 0)))) := same_mutX s2 SameX.upd nl
  have e3 : (upd H2 l (.lst ((hvs (List.replicate size none)).set mark (.int 0)))) l = some (.lst (hvs ((List.replicate size none).set mark (some 0)))) := by
    rw [upd_same]
    exact congrArg (fun z => some (HO.lst z)) (hvs_set (List.replicate size none) mark (some 0))
  revert e3 s3
  generalize upd H2 l (.lst ((hvs (List.replicate size none)).set mark (.int 0))) = H3
  intro s3 e3
  have ll : ((List.replicate size (none : Option Int)).set mark (some 0)).length = size := by rw [List.length_set, List.length_replicate]
  refine ⟨_, rfl, _, rfl, a, l, ps, _, rfl, hR.mono s3, e3, ne_of_none hR.1 nl, by rw [ll]; exact hM, fun H4 hs4 x4 e4 g4 nh => ?_⟩
  have s4 : Same H H4 := same_mutX s3 x4 nl
  have l4 : hs4.length = size := by rw [g4.len, ll]
  refine ⟨_, rfl, _, rfl, by omega, by omega, fun D hD => ?_⟩
  rw [Int.toNat_natCast]
  refine lc_pair walk_range (L := List.range size) (ledB hs4) (fun x y _ => y = V.int (x : Int)) (by simp) (by omega) (fun _ _ _ _ _ r => r) hD (fun _ _ => trivial) ?_ ?_
  · intro i x v H5 H6 hx s5 y Kp Sk hK hS'
    obtain ⟨rfl, rfl⟩ := y
    obtain ⟨hi, rfl⟩ := List.getElem?_eq_some_iff.mp hx
    rw [List.getElem_range] at hK hS'
    have hi' : i < hs4.length := by rw [l4]; rw [List.length_range] at hi; exact hi
    obtain ⟨vi, ei⟩ := hv_some hi'
    refine ⟨rfl, _, rfl, _, rfl, _, _, _, _, rfl, rfl, SqL.of (s5 _ _ e4), (by rw [Int.zero_add]; exact hvs_at ei), rfl, _, rfl, ?_⟩
    cases vi with
    | none =>
      refine iteF (A := True) ?_
      refine hS' _ (Same.refl _) ?_
      unfold ledB
      rw [ei]
    | some z =>
      refine iteT (B := True) ?_
      refine ⟨_, rfl, hK _ _ (Same.refl _) ?_ ?_⟩
      · unfold ledB
        rw [ei]
      · show V.int (0 + (i : Int)) = V.int (i : Int)
        rw [Int.zero_add]
  · intro H5 acc s5 hd pr
    have e := pr_map_eq pr
    subst e
    exact q H5 D hs4 (s4.trans s5) (Same.free s4 hD) g4 nh hd
/-! ### flat -/
def spFlat (K : PySem.W.Frag) : Sp := fun vs H Q _ => ∃ (a : Addr) (ps : List (Addr × Rn)) (size : Nat), vs = [.int size, .ref a] ∧ Runs H a ps ∧ Marks size ps ∧ size ≤ 1000 ∧
  (∀ H' p xs, Same H H' → H p = none → H' p = some (.lst (ivs xs)) → xs.length = size → HoldsF (rsOf ps) xs → Q (.ref p) H') ∧ (∀ H', Same H H' → (∀ T, ¬ Truth (rsOf ps) T) → Q .non H')
theorem scFlat : FnScope ["size", "runs", "heights", "mark"] ["size", "runs"] (defScope (topS 7)) := ⟨rfl, rfl, rfl, by decide +kernel, rfl, by decide +kernel, by decide +kernel⟩
structure FlatAt (H : Hp) (l : Addr) (ps : List (Addr × Rn)) (size i : Nat) (H' : Hp) (hs : Hts) : Prop where
  s : Same H H'
  at_ : H' l = some (.lst (hvs hs))
  len : hs.length = size
  nh : NoHalf (rsOf ps) hs
  led : ∀ j, j < i → ∃ x, hs[j]? = some (some x)
  cons : ∀ T, Truth (rsOf ps) T → Cons (rsOf ps) T hs
theorem all_led {hs : Hts} (h : ∀ j, j < hs.length → ∃ x, hs[j]? = some (some x)) : ∃ xs : List Int, hs = xs.map some := by
  induction hs with
  | nil => exact ⟨[], rfl⟩
  | cons v hs ih =>
    obtain ⟨x, hx⟩ := h 0 (by simp)
    obtain ⟨xs, e⟩ := ih fun j hj => by
      obtain ⟨y, hy⟩ := h (j + 1) (by simpa using hj)
      exact ⟨y, by simpa using hy⟩
    have e0 : v = some x := by simpa using hx
    exact ⟨x :: xs, by rw [e0, e]; rfl⟩
theorem getD_some {xs : List Int} {i : Nat} (h : i < xs.length) : (xs.map some)[i]? = some (some (xs.getD i 0)) := by
  rw [List.getElem?_map, List.getElem?_eq_getElem h, List.getD_eq_getElem?_getD, List.getElem?_eq_getElem h]
  rfl
theorem ok_flat (D : Def K mg "flat" 7) (mr : mg "range" = none) (GF : Good P w K mg base 2 "fill" ["runs", "heights"] (spFill K)) (GH : Good P w K mg base 1 "holds" ["runs", "heights"] (spHolds K)) : Good P w K mg base 3 "flat" ["size", "runs"] (spFlat K) := by
  obtain ⟨f, fd, F, hm⟩ := D
  refine ⟨f, fd, F.kp, hm, F.bindsN (fun _ _ _ _ _ _ us hl => match us, hl with | [_, _], _ => rfl), F.ok scFlat (fun vs H Q E h => ?_) (fun cdv A outer s H vs Q E hr h => ?_)⟩
  · obtain ⟨a, ps, size, rfl, _⟩ := h
    rfl
  obtain ⟨a, ps, size, rfl, hR, hM, small, q1, q2⟩ := h
  have nd := scFlat.nd
  refine ⟨_, PSs.nox (pss_cons (ps_set (i := 2) nd rfl (.inl rfl) (pe_op op_rep (pe_lst (pa_cons pe_non pa_nil)) (pv 0)))
    (pss_cons (ps_for PassesOwn.never rfl (pi_range1 (by rfl) mr (pa_cons (pv 0) pa_nil)) (pg_name (i := 3) nd rfl (.inl rfl))
      (pss_one (ps_if (pt_cmpR op_isN (pe_ix ix_list (pv 2) (pv 3) (fun _ _ => rfl)) pe_non (nomark _))
        (pss_cons (ps_asg pe_int (pg_sub (pv 2) (pv 3) set_list)) (pss_one (ps_expr (pe_callG GF hr (by rfl) (pa_cons (pv 1) (pa_cons (pv 2) pa_nil)) pass0)))) pss_nil)))
    (pss_cons (ps_if (pt_not (pt_val (pe_callG GH (hr.mono (by decide)) (by rfl) (pa_cons (pv 1) (pa_cons (pv 2) pa_nil)) pass0))) (pss_one (ps_ret pe_non)) pss_nil)
    (pss_one (ps_ret (pv 2)))))), ?_⟩
  refine ⟨by show 1 ≤ sizeLine; decide, fun l0 hl0 => ?_⟩
  refine ⟨_, rfl, l0, _, _, rfl, rfl, upd_same, by omega, by omega, by simp; exact sz (by omega), fun l hl => ?_⟩
  have s1 := same_upd (o := .lst [V.non]) hl0
  have s2 := s1.trans (same_upd (o := .lst (List.replicate ((size : Int)).toNat [V.non]).flatten) hl)
  have e2 : (upd (upd H l0 (.lst [V.non])) l (.lst (List.replicate ((size : Int)).toNat [V.non]).flatten)) l = some (.lst (hvs (List.replicate size none))) := by
    rw [upd_same, rep_flat, rep_hvs, Int.toNat_natCast]
  have nl : H l = none := Same.free s1 hl
  revert s2 e2
  generalize upd (upd H l0 (.lst [V.non])) l (.lst (List.replicate ((size : Int)).toNat [V.non]).flatten) = H2
  intro s2 e2
  refine ⟨_, rfl, _, rfl, by omega, by omega, ?_⟩
  rw [Int.toNat_natCast]
  refine for_range (fun i σ H' => ∃ hs, FlatAt H l ps size i H' hs ∧ ∃ x3, σ = [some (.int size), some (.ref a), some (.ref l), x3])
    ⟨_, ⟨s2, e2, List.length_replicate, noHalf_nones _ _, fun j hj => by omega, fun T _ => cons_nones _ _ _⟩, _, rfl⟩ ?_ ?_
  · rintro i σ H' hi ⟨hs, A', x3, rfl⟩
    obtain ⟨sa, at_, len, nh, led, cons⟩ := A'
    obtain ⟨vi, ei⟩ := hv_some (h := hs) (i := i) (by omega)
    have ea : atI (hvs hs) (0 + (i : Int)) = some (hv vi) := by rw [Int.zero_add]; exact hvs_at ei
    refine ⟨_, rfl, _, rfl, _, _, _, _, rfl, rfl, SqL.of at_, ea, rfl, _, rfl, ?_⟩
    cases vi with
    | some z =>
      refine iteF (A := True) ?_
      refine ⟨hs, ⟨sa, at_, len, nh, fun j hj => ?_, cons⟩, _, rfl⟩
      by_cases e : j = i
      · subst e; exact ⟨z, ei⟩
      · exact led j (by omega)
    | none =>
      refine iteT (B := True) ?_
      refine ⟨_, rfl, _, rfl, l, _, _, _, rfl, rfl, at_, (by rw [Int.zero_add]; exact ix_int (by rw [List.length_map]; omega)), ?_⟩
      have e3 : (upd H' l (.lst ((hvs hs).set i (.int 0)))) l = some (.lst (hvs (hs.set i (some 0)))) := by
        rw [upd_same]
        exact congrArg (fun z => some (HO.lst z)) (hvs_set hs i (some 0))
      have s3 : Same H (upd H' l (.lst ((hvs hs).set i (.int 0)))) := same_mutX sa SameX.upd nl
      revert s3 e3
      generalize upd H' l (.lst ((hvs hs).set i (.int 0))) = H3
      intro e3 s3
      have l3 : (hs.set i (some 0)).length = size := by rw [List.length_set, len]
      refine ⟨_, rfl, _, rfl, a, l, ps, _, rfl, hR.mono s3, e3, ne_of_none hR.1 nl, by rw [l3]; exact hM, fun H4 hs4 x4 e4 g4 nh4 => ?_⟩
      have ii : (hs.set i (some 0))[i]? = some (some 0) := by rw [List.getElem?_set_self (by omega)]
      refine ⟨hs4, ⟨same_mutX s3 x4 nl, e4, by rw [g4.len, l3], nh4, fun j hj => ?_, fun T tr => g4.cons tr (cons_start nh (cons T tr) ei)⟩, _, rfl⟩
      by_cases e : j = i
      · subst e; exact ⟨0, g4.stay ii⟩
      · obtain ⟨y, hy⟩ := led j (by omega)
        exact ⟨y, g4.stay (by rw [set_other (Ne.symm e)]; exact hy)⟩
  · rintro σ H' ⟨hs, ⟨sa, at_, len, nh, led, cons⟩, x3, rfl⟩
    obtain ⟨xs, rfl⟩ := all_led (hs := hs) fun j hj => led j (by omega)
    rw [List.length_map] at len
    have e5 : hvs (xs.map some) = ivs xs := by
      show List.map hv (List.map some xs) = _
      rw [List.map_map]
      rfl
    rw [e5] at at_
    refine ⟨_, rfl, _, rfl, a, l, ps, xs, rfl, hR.mono sa, at_, by rw [len]; exact hM, _, rfl, ?_⟩
    by_cases hh : HoldsF (rsOf ps) xs
    · rw [decide_eq_true hh]
      refine iteF (A := True) ?_
      exact ⟨_, rfl, q1 H' l xs sa nl at_ len hh⟩
    · rw [decide_eq_false hh]
      refine iteT (B := True) ?_
      refine q2 H' sa fun T tr => hh fun q hq => ?_
      obtain ⟨p, hp, rfl⟩ := List.mem_map.mp hq
      obtain ⟨m1, m2, _⟩ := hM p hp
      have := cons T tr p.2.a p.2.b _ _ (.fwd (.refl _) hq) (getD_some (by rw [len]; exact m1)) (getD_some (by rw [len]; exact m2))
      rw [this]
      exact tr _ hq
end
end Fl
namespace Fl
open PySem PySem.Spec PyProof.Rows L2
/-! ### data of ints -/
theorem dp_ivs {K : PySem.W.Frag} {H : Hp} : ∀ ns : List Int, DpAll K H (ivs ns) (ns.map PyData.int)
  | [] => .nil
  | n :: ns => .cons (.int n) (dp_ivs ns)
theorem lay_ivs : ∀ ns : List Int, PyData.canLayAll0 (ns.map PyData.int) = true
  | [] => rfl
  | n :: ns => by
    show (PyData.canLay0 (.int n) && PyData.canLayAll0 (ns.map PyData.int)) = true
    rw [lay_ivs ns]
    rfl
theorem deep_ivs : ∀ ns : List Int, PyData.depthAll (ns.map PyData.int) = 0
  | [] => rfl
  | n :: ns => by
    show max (PyData.depth (.int n)) (PyData.depthAll (ns.map PyData.int)) = 0
    rw [deep_ivs ns]
    rfl
theorem shaped_l (ns : List Int) : SeqAt.shaped (.list (ns.map PyData.int)) = true := by
  unfold SeqAt.shaped
  rw [Bool.and_eq_true]
  refine ⟨lay_ivs ns, decide_eq_true ?_⟩
  show PyData.depthAll (ns.map PyData.int) + 1 ≤ 64
  rw [deep_ivs]
  decide
theorem shaped_t (ns : List Int) : SeqAt.shaped (.tuple (ns.map PyData.int)) = true := by
  unfold SeqAt.shaped
  rw [Bool.and_eq_true]
  refine ⟨lay_ivs ns, decide_eq_true ?_⟩
  show PyData.depthAll (ns.map PyData.int) + 1 ≤ 64
  rw [deep_ivs]
  decide
theorem eqv_ivs : ∀ ns ms : List Int, PyData.eqvAll (ns.map PyData.int) (ms.map PyData.int) = decide (ns = ms)
  | [], [] => rfl
  | [], _ :: _ => rfl
  | _ :: _, [] => rfl
  | n :: ns, m :: ms => by
    show ((n == m) && PyData.eqvAll (ns.map PyData.int) (ms.map PyData.int)) = _
    rw [eqv_ivs ns ms]
    by_cases h : n = m
    · subst h
      simp
    · simp [h]
theorem dpl {K : PySem.W.Frag} {H : Hp} {a : Addr} {ns : List Int} (h : H a = some (.lst (ivs ns))) : Dp K H (.ref a) (.list (ns.map PyData.int)) := .lst (SqL.of h) (dp_ivs ns)
/-! ### lists of lists -/
def LLs (H : Hp) (a : Addr) (L : List (List Int)) : Prop := ∃ as : List Addr, H a = some (.lst (as.map V.ref)) ∧ Paired (fun x l => x ≠ a ∧ H x = some (.lst (ivs l))) as L
theorem LLs.mono {H H' : Hp} {a : Addr} {L : List (List Int)} (s : Same H H') (h : LLs H a L) : LLs H' a L := by
  obtain ⟨as, e, pr⟩ := h
  exact ⟨as, s _ _ e, pr_imp (fun x l r => ⟨r.1, s _ _ r.2⟩) pr⟩
theorem LLs.nil {H : Hp} {a : Addr} : H a = some (.lst []) → LLs H a [] := fun h => ⟨[], h, .nil⟩
/-- one more -/
theorem LLs.push {H : Hp} {a x : Addr} {as : List Addr} {L : List (List Int)} {l : List Int} (e : H a = some (.lst (as.map V.ref))) (pr : Paired (fun x l => x ≠ a ∧ H x = some (.lst (ivs l))) as L) (ne : x ≠ a) (hx : H x = some (.lst (ivs l))) :
    LLs (upd H a (.lst (as.map V.ref ++ [V.ref x]))) a (L ++ [l]) := by
  refine ⟨as ++ [x], by rw [upd_same, List.map_append]; rfl, pr_snoc (pr_imp (fun y m r => ⟨r.1, by rw [upd_ne r.1]; exact r.2⟩) pr) ⟨ne, by rw [upd_ne ne]; exact hx⟩⟩
theorem ne_ll {H : Hp} {x f : Addr} {l : List Int} {as : List Addr} (hx : H x = some (.lst (ivs l))) (hf : H f = some (.lst (as.map V.ref))) (ne : as ≠ []) : x ≠ f := by
  refine ne_of hx hf fun e => ?_
  have e := HO.lst.inj e
  cases as with
  | nil => exact ne rfl
  | cons a as =>
    cases l with
    | nil => cases e
    | cons n l => cases e
theorem LLs.get {H : Hp} {a : Addr} {as : List Addr} {L : List (List Int)} {i : Nat} {v : V} (pr : Paired (fun x l => x ≠ a ∧ H x = some (.lst (ivs l))) as L) (h : (as.map V.ref)[i]? = some v) :
    ∃ x l, v = V.ref x ∧ L[i]? = some l ∧ x ≠ a ∧ H x = some (.lst (ivs l)) := by
  rw [List.getElem?_map] at h
  obtain ⟨x, hx, rfl⟩ := Option.map_eq_some_iff.mp h
  obtain ⟨l, hl, r⟩ := pr_get pr hx
  exact ⟨x, l, rfl, hl, r⟩
section
variable {P : Program} {w : World} {K : PySem.W.Frag} {mg : Str → Option Value} {base : Heap}
/-! ### grown -/
theorem grown_app (A B : List (List Int)) (hands : List Int) : grownF (A ++ B) hands = grownF A hands ++ grownF B hands := List.flatMap_append
theorem grown_one (l : List Int) (hands : List Int) : grownF [l] hands = (hands.filter (okLast l)).map fun h => l ++ [h] := by
  unfold grownF
  rw [List.flatMap_cons, List.flatMap_nil, List.append_nil]
theorem grown_part {L : List (List Int)} {hands : List Int} {i j : Nat} {l : List Int} (h : L[i]? = some l) : (grownF (L.take i) hands ++ ((hands.take j).filter (okLast l)).map fun x => l ++ [x]).length ≤ (grownF L hands).length := by
  have e : L = L.take i ++ [l] ++ L.drop (i + 1) := by
    have := List.take_append_drop (i + 1) L
    rw [List.take_add_one, h] at this
    exact this.symm
  have e2 : (grownF L hands).length = (grownF (L.take i) hands).length + (hands.filter (okLast l)).length + (grownF (L.drop (i + 1)) hands).length := by
    conv => lhs; rw [e]
    rw [grown_app, grown_app, grown_one, List.length_append, List.length_append, List.length_map]
  have e3 : ((hands.take j).filter (okLast l)).length ≤ (hands.filter (okLast l)).length := by
    have := congrArg (fun z => (z.filter (okLast l)).length) (List.take_append_drop j hands)
    simp only [List.filter_append, List.length_append] at this
    omega
  rw [List.length_append, List.length_map, e2]
  omega
def spGrown (K : PySem.W.Frag) : Sp := fun vs H Q _ => ∃ (a b : Addr) (L : List (List Int)) (hands : List Int), vs = [.ref a, .ref b] ∧ LLs H a L ∧ H b = some (.lst (ivs hands)) ∧ (grownF L hands).length ≤ 900000 ∧ (∀ l ∈ L, l.length ≤ 1000) ∧
  ∀ H' p, Same H H' → H p = none → LLs H' p (grownF L hands) → Q (.ref p) H'
theorem scGrown : FnScope ["some", "hands", "found", "one", "hand"] ["some", "hands"] (defScope (topS 9)) := ⟨rfl, rfl, rfl, by decide +kernel, rfl, by decide +kernel, by decide +kernel⟩
theorem ok_grown (D : Def K mg "grown" 9) : Good P w K mg base 1 "grown" ["some", "hands"] (spGrown K) := by
  obtain ⟨f, fd, F, hm⟩ := D
  refine ⟨f, fd, F.kp, hm, F.bindsN (fun _ _ _ _ _ _ us hl => match us, hl with | [_, _], _ => rfl), F.ok scGrown (fun vs H Q E h => ?_) (fun cdv A outer s H vs Q E hr h => ?_)⟩
  · obtain ⟨a, b, L, hands, rfl, _⟩ := h
    rfl
  obtain ⟨a, b, L, hands, rfl, hL, hB, hz, hw, q⟩ := h
  have nd := scGrown.nd
  refine ⟨_, PSs.nox (pss_cons (ps_set (i := 2) nd rfl (.inl rfl) (pe_lst pa_nil)) (pss_cons (ps_for PassesOwn.never rfl (pi_list (pv 0)) (pg_name (i := 3) nd rfl (.inl rfl))
      (pss_one (ps_for PassesOwn.never rfl (pi_list (pv 1)) (pg_name (i := 4) nd rfl (.inl rfl))
        (pss_one (ps_if (PW.pt (pw_or (pt_cmpR (op_eqD hr.units) (pv 3) (pe_lst pa_nil) (nomark _)) (pw_or1 (pt_cmpR op_gt (pv 4) (pe_ix ix_list (pv 3) (pe_un un_neg pe_int) (fun _ _ => rfl)) (nomark _)))))
          (pss_one (ps_expr (pe_bm PySem.F.plainAttrs_list PySem.F.slot_list_append PySem.F.type_list_append mt_append (pv 2) (pa_cons (pe_op op_cat (pv 3) (pe_lst (pa_cons (pv 4) pa_nil))) pa_nil)))) pss_nil)))))
    (pss_one (ps_ret (pv 2))))), ?_⟩
  refine ⟨by show 0 ≤ sizeLine; decide, fun o no => ?_⟩
  obtain ⟨as, eA, prA⟩ := hL
  have s0 := same_upd (o := .lst []) no
  refine ⟨_, rfl, a, rfl, ⟨_, SqL.of (s0 _ _ eA)⟩, ?_⟩
  refine for_list (K := K) (xs := as.map V.ref) (fun i σ H' => Same H H' ∧ LLs H' o (grownF (L.take i) hands) ∧ ∃ x3 x4, σ = [some (.ref a), some (.ref b), some (.ref o), x3, x4])
    ⟨s0, LLs.nil upd_same, _, _, rfl⟩ (fun i σ H' _ p => SqL.of (p.1 _ _ eA)) ?_ ?_
  · rintro i v σ H' hv ⟨s1, ll, x3, x4, rfl⟩
    obtain ⟨x, l, rfl, hl, _, hx⟩ := LLs.get prA hv
    refine ⟨_, rfl, b, rfl, ⟨_, SqL.of (s1 _ _ hB)⟩, ?_⟩
    refine for_list (K := K) (xs := ivs hands) (fun j σ H' => Same H H' ∧ LLs H' o (grownF (L.take i) hands ++ ((hands.take j).filter (okLast l)).map fun h => l ++ [h]) ∧ ∃ x4, σ = [some (.ref a), some (.ref b), some (.ref o), some (.ref x), x4])
      ⟨s1, by rw [List.take_zero, List.filter_nil, List.map_nil, List.append_nil]; exact ll, _, rfl⟩ (fun j σ H' _ p => SqL.of (p.1 _ _ hB)) ?_ ?_
    · rintro j v σ H2 hv ⟨s2, ll2, y4, rfl⟩
      rw [List.getElem?_map] at hv
      obtain ⟨n, hn, rfl⟩ := Option.map_eq_some_iff.mp hv
      have hx2 := s2 _ _ hx
      have addIt : okLast l n = true → ∀ H3, Same H2 H3 → LLs H3 o (grownF (L.take i) hands ++ ((hands.take j).filter (okLast l)).map fun h => l ++ [h]) →
          tDrop (tBM K "list" rAppend (tVar 2) (tCons (tOp rCat (tVar 3) (tLst (tCons (tVar 4) tNil))) tNil)) { nx := fun σ' H' => Same H H' ∧ LLs H' o (grownF (L.take i) hands ++ ((hands.take (j + 1)).filter (okLast l)).map fun h => l ++ [h]) ∧ ∃ x4, σ' = [some (.ref a), some (.ref b), some (.ref o), some (.ref x), x4], rt := Q }
            [some (.ref a), some (.ref b), some (.ref o), some (.ref x), some (.int n)] H3 := by
        intro ok H3 s3 ll3
        obtain ⟨bs, eB, prB⟩ := ll3
        refine ⟨_, rfl, .inl ⟨rfl, _, SqL.of eB⟩, _, rfl, _, rfl, by show 1 ≤ sizeLine; decide, fun p1 n1 => ?_⟩
        have s4 := same_upd (o := .lst [V.int n]) n1
        have hx3 : (upd H3 p1 (.lst [V.int n])) x = some (.lst (ivs l)) := s4 _ _ (s3 _ _ hx2)
        have small : (ivs l).length + ([V.int n] : List V).length ≤ sizeLine := by
          have := hw l (List.mem_of_getElem? hl)
          rw [List.length_map]
          exact sz (by rw [List.length_singleton]; omega)
        refine ⟨x, p1, _, _, rfl, rfl, hx3, upd_same, small, fun p2 n2 => ?_⟩
        have s5 := same_upd (o := .lst (ivs l ++ [V.int n])) n2
        have eB5 := s5 _ _ (s4 _ _ eB)
        refine ⟨o, _, _, rfl, rfl, eB5, ?_, ?_⟩
        · have := pr_len prB
          have := grown_part (hands := hands) (j := j) hl
          rw [List.length_map]
          exact szl (by omega)
        · have ne2 : p2 ≠ o := fun e => by
            subst e
            rw [s4 _ _ eB] at n2
            cases n2
          refine ⟨same_mutX (((s2.trans s3).trans s4).trans s5) SameX.upd no, ?_, _, rfl⟩
          rw [take_succ_filter _ hn, if_pos ok, List.map_append, ← List.append_assoc]
          refine LLs.push eB5 (pr_imp (fun y m r => ⟨r.1, s5 _ _ (s4 _ _ r.2)⟩) prB) ne2 ?_
          rw [upd_same]
          show _ = some (HO.lst (List.map V.int (l ++ [n])))
          rw [List.map_append]
          rfl
      have skip : okLast l n = false → ∀ H3, Same H2 H3 → LLs H3 o (grownF (L.take i) hands ++ ((hands.take j).filter (okLast l)).map fun h => l ++ [h]) →
          LLs H3 o (grownF (L.take i) hands ++ ((hands.take (j + 1)).filter (okLast l)).map fun h => l ++ [h]) := by
        intro no H3 s3 ll3
        rw [take_succ_filter _ hn, if_neg (by rw [no]; decide), List.append_nil]
        exact ll3
      -- one == []
      refine ⟨_, rfl, by show 0 ≤ sizeLine; decide, fun e0 ne0 => ?_⟩
      have s3 := same_upd (o := .lst []) ne0
      refine ⟨_, _, dpl (s3 _ _ hx2), dpl (ns := []) upd_same, shaped_l _, shaped_l [], _, rfl, ?_⟩
      have ev : PyData.eqv (.list (l.map PyData.int)) (.list (([] : List Int).map PyData.int)) = decide (l = []) := by
        rw [PyData.eqv]
        exact eqv_ivs l []
      rw [ev]
      by_cases hlnil : l = []
      · rw [decide_eq_true hlnil]
        refine iteT (B := True) ?_
        refine iteT (B := True) ?_
        refine addIt (by rw [hlnil]; rfl) _ s3 (ll2.mono s3)
      · rw [decide_eq_false hlnil]
        refine iteF (A := True) ?_
        obtain ⟨l1, z, rfl⟩ : ∃ l1 z, l = l1 ++ [z] := by
          rcases List.eq_nil_or_concat l with h | ⟨l1, z, h⟩
          · exact absurd h hlnil
          · exact ⟨l1, z, by rw [h, List.concat_eq_append]⟩
        have okz : okLast (l1 ++ [z]) n = decide (z < n) := by
          unfold okLast
          rw [List.getLast?_append]
          rfl
        have ez : (ivs (l1 ++ [z])) = ivs l1 ++ [V.int z] := by
          show List.map V.int (l1 ++ [z]) = _
          rw [List.map_append]
          rfl
        refine ⟨_, rfl, _, rfl, _, rfl, _, _, _, _, rfl, rfl, SqL.of (s3 _ _ hx2), (by rw [ez]; exact atI_last _ _), _, _, rfl, rfl, _, rfl, ?_⟩
        by_cases hz : z < n
        · rw [decide_eq_true hz]
          refine iteT (B := True) ?_
          exact addIt (by rw [okz]; exact decide_eq_true hz) _ s3 (ll2.mono s3)
        · rw [decide_eq_false hz]
          refine iteF (A := True) ?_
          exact ⟨s2.trans s3, skip (by rw [okz]; exact decide_eq_false hz) _ s3 (ll2.mono s3), _, rfl⟩
    · rintro σ H2 ⟨s2, ll2, y4, rfl⟩
      refine ⟨s2, ?_, _, _, rfl⟩
      rw [List.length_map, List.take_length, ← grown_one, ← grown_app] at ll2
      rw [List.take_add_one, hl]
      exact ll2
  · rintro σ H' ⟨s1, ll, x3, x4, rfl⟩
    rw [List.length_map, pr_len prA, List.take_length] at ll
    exact ⟨_, rfl, q H' o s1 no ll⟩
/-! ### lists_of -/
theorem LLs.extend {H : Hp} {a : Addr} {as bs : List Addr} {L M : List (List Int)} (pa : Paired (fun x l => x ≠ a ∧ H x = some (.lst (ivs l))) as L) (pb : Paired (fun x l => x ≠ a ∧ H x = some (.lst (ivs l))) bs M) :
    LLs (upd H a (.lst (as.map V.ref ++ bs.map V.ref))) a (L ++ M) := by
  refine ⟨as ++ bs, by rw [upd_same, List.map_append], ?_⟩
  have st : ∀ {cs : List Addr} {N : List (List Int)}, Paired (fun x l => x ≠ a ∧ H x = some (.lst (ivs l))) cs N → Paired (fun x l => x ≠ a ∧ (upd H a (.lst (as.map V.ref ++ bs.map V.ref))) x = some (.lst (ivs l))) cs N :=
    fun p => pr_imp (fun y m r => ⟨r.1, by rw [upd_ne r.1]; exact r.2⟩) p
  have ap : ∀ {F : Addr → List Int → Prop} {cs ds : List Addr} {N O : List (List Int)}, Paired F cs N → Paired F ds O → Paired F (cs ++ ds) (N ++ O) := by
    intro F cs ds N O p1 p2
    induction p1 with
    | nil => exact p2
    | cons r _ ih => exact .cons r ih
  exact ap (st pa) (st pb)
def spListsOf (K : PySem.W.Frag) : Sp := fun vs H Q _ => ∃ (b : Addr) (hands : List Int) (many : Nat), vs = [.ref b, .int many] ∧ H b = some (.lst (ivs hands)) ∧ hands.length ≤ 7 ∧ many ≤ 6 ∧
  ∀ H' p, Same H H' → H p = none → LLs H' p (foundF hands (min many hands.length)) → Q (.ref p) H'
theorem scListsOf : FnScope ["hands", "many", "found", "some", "step"] ["hands", "many"] (defScope (topS 10)) := ⟨rfl, rfl, rfl, by decide +kernel, rfl, by decide +kernel, by decide +kernel⟩
theorem found_ne (hands : List Int) : ∀ n, foundF hands n ≠ []
  | 0 => by simp [foundF]
  | n + 1 => fun e => found_ne hands n (List.append_eq_nil_iff.mp e).1
theorem ok_lists_of (D : Def K mg "lists_of" 10) (mr : mg "range" = none) (mm : mg "min" = none) (ml : mg "len" = none) (GG : Good P w K mg base 1 "grown" ["some", "hands"] (spGrown K)) : Good P w K mg base 2 "lists_of" ["hands", "many"] (spListsOf K) := by
  obtain ⟨f, fd, F, hm⟩ := D
  refine ⟨f, fd, F.kp, hm, F.bindsN (fun _ _ _ _ _ _ us hl => match us, hl with | [_, _], _ => rfl), F.ok scListsOf (fun vs H Q E h => ?_) (fun cdv A outer s H vs Q E hr h => ?_)⟩
  · obtain ⟨b, hands, many, rfl, _⟩ := h
    rfl
  obtain ⟨b, hands, many, rfl, hB, h7, h6, q⟩ := h
  have nd := scListsOf.nd
  refine ⟨_, PSs.nox (pss_cons (ps_set (i := 2) nd rfl (.inl rfl) (pe_lst (pa_cons (pe_lst pa_nil) pa_nil))) (pss_cons (ps_set (i := 3) nd rfl (.inl rfl) (pe_lst (pa_cons (pe_lst pa_nil) pa_nil)))
    (pss_cons (ps_for PassesOwn.never rfl (pi_range1 (by rfl) mr (pa_cons (pe_callB (call_min2 rfl) (by rfl) mm boot_min (pa_cons (pv 1) (pa_cons (pe_callB call_len_seq (by rfl) ml PySem.boot_len (pa_cons (pv 0) pa_nil)) pa_nil))) pa_nil)) (pg_name (i := 4) nd rfl (.inl rfl))
      (pss_cons (ps_set (i := 3) nd rfl (.inl rfl) (pe_callG GG hr (by rfl) (pa_cons (pv 3) (pa_cons (pv 0) pa_nil)) pass0))
      (pss_one (ps_expr (pe_bm PySem.F.plainAttrs_list PySem.F.slot_list_extend PySem.F.type_list_extend mt_extend (pv 2) (pa_cons (pv 3) pa_nil))))))
    (pss_one (ps_ret (pv 2)))))), ?_⟩
  refine ⟨by show 0 ≤ sizeLine; decide, fun x1 n1 => ⟨by show 1 ≤ sizeLine; decide, fun o no => ?_⟩⟩
  have s1 := same_upd (o := .lst []) n1
  have s2 := same_upd (o := .lst [V.ref x1]) no
  refine ⟨by show 0 ≤ sizeLine; decide, fun x3 n3 => ⟨by show 1 ≤ sizeLine; decide, fun t nt => ?_⟩⟩
  have s3 := same_upd (o := .lst []) n3
  have s4 := same_upd (o := .lst [V.ref x3]) nt
  have e1 := s4 _ _ (s3 _ _ (s2 _ _ (upd_same (H := H) (a := x1) (o := .lst []))))
  have eo := s4 _ _ (s3 _ _ (upd_same (H := upd H x1 (.lst [])) (a := o) (o := .lst [V.ref x1])))
  have e3 := s4 _ _ (upd_same (H := upd (upd H x1 (.lst [])) o (.lst [V.ref x1])) (a := x3) (o := .lst []))
  have et := upd_same (H := upd (upd (upd H x1 (.lst [])) o (.lst [V.ref x1])) x3 (.lst [])) (a := t) (o := .lst [V.ref x3])
  have so := (s1.trans s2).trans (s3.trans s4)
  have nO : H o = none := Same.free s1 no
  revert e1 eo e3 et so
  generalize upd (upd (upd (upd H x1 (.lst [])) o (.lst [V.ref x1])) x3 (.lst [])) t (.lst [V.ref x3]) = H4
  intro e1 eo e3 et so
  have n_1o : x1 ≠ o := ne_ll (l := []) (as := [x1]) e1 eo (by simp)
  have n_3t : x3 ≠ t := ne_ll (l := []) (as := [x3]) e3 et (by simp)
  have n_to : t ≠ o := fun e => by
    subst e
    rw [(s3 _ _ upd_same)] at nt
    cases nt
  refine ⟨_, rfl, _, rfl, b, _, rfl, .inl (SqL.of (so _ _ hB)), _, _, rfl, ?_⟩
  have hl : (ivs hands).length = hands.length := List.length_map _
  have em : (if (((ivs hands).length : Nat) : Int) < (many : Int) then (((ivs hands).length : Nat) : Int) else (many : Int)) = ((min many hands.length : Nat) : Int) := by
    rw [hl]
    split <;> omega
  refine ⟨_, by rw [em], by omega, by omega, ?_⟩
  rw [Int.toNat_natCast]
  have iv0 : LLs H4 o (foundF hands 0) := ⟨[x1], eo, .cons ⟨n_1o, e1⟩ .nil⟩
  have iv1 : LLs H4 t (lev hands 0) := ⟨[x3], et, .cons ⟨n_3t, e3⟩ .nil⟩
  refine for_range (fun i σ H' => Same H H' ∧ LLs H' o (foundF hands i) ∧ ∃ t', t' ≠ o ∧ LLs H' t' (lev hands i) ∧ ∃ x4, σ = [some (.ref b), some (.int many), some (.ref o), some (.ref t'), x4])
    ⟨so, iv0, t, n_to, iv1, _, rfl⟩ ?_ ?_
  · rintro i σ H' hi ⟨sa, lo, t', ne, lt, x4, rfl⟩
    have i6 : i + 1 ≤ 6 := by omega
    refine ⟨_, rfl, _, rfl, t', b, lev hands i, hands, rfl, lt, sa _ _ hB, Nat.le_trans (lev_small h7 (k := i + 1) i6) (by decide), fun l hl => ?_, fun H2 p s5 np lp => ?_⟩
    · rw [lev_len hl]
      omega
    · obtain ⟨as, ea0, pa0⟩ := lo
      have ea := s5 _ _ ea0
      have pa := pr_imp (G := fun x l => x ≠ o ∧ H2 x = some (.lst (ivs l))) (fun x l r => ⟨r.1, s5 _ _ r.2⟩) pa0
      obtain ⟨bs, eb, pb⟩ := lp
      have ane : as ≠ [] := fun e => by
        have l0 := pr_len pa0
        rw [e] at l0
        exact found_ne hands i (List.length_eq_zero_iff.mp l0.symm)
      have npo : p ≠ o := fun e => by
        subst e
        rw [ea0] at np
        cases np
      refine ⟨_, rfl, .inl ⟨rfl, _, SqL.of ea⟩, _, rfl, o, p, _, _, rfl, rfl, ea, eb, ?_, ?_⟩
      · have l1 := pr_len pa
        have l2 := pr_len pb
        have := found_small h7 (n := i + 1) i6
        show (as.map V.ref).length + (bs.map V.ref).length ≤ sizeLine
        have e2 : (foundF hands (i + 1)).length = (foundF hands i).length + (lev hands (i + 1)).length := by
          show (foundF hands i ++ lev hands (i + 1)).length = _
          rw [List.length_append]
        rw [List.length_map, List.length_map]
        refine sz ?_
        have e3 : (lev hands (i + 1)).length = (grownF (lev hands i) hands).length := rfl
        omega
      · have pb' := pr_imp (G := fun x l => x ≠ o ∧ H2 x = some (.lst (ivs l))) (fun x l r => ⟨ne_ll r.2 ea ane, r.2⟩) pb
        refine ⟨same_mutX (sa.trans s5) SameX.upd nO, LLs.extend pa pb', p, npo, ⟨bs, ?_, ?_⟩, _, rfl⟩
        · rw [upd_ne npo]
          exact eb
        · refine pr_imp (fun x l r => ⟨r.1, ?_⟩) pb
          rw [upd_ne (ne_ll r.2 ea ane)]
          exact r.2
  · rintro σ H' ⟨sa, lo, t', ne, lt, x4, rfl⟩
    exact ⟨_, rfl, q H' o sa nO lo⟩
/-! ### reading -/
def spReading (K : PySem.W.Frag) : Sp := fun vs H Q _ => ∃ (a : Addr) (ps : List (Addr × Rn)) (size many : Nat), vs = [.int size, .ref a, .int many] ∧ Runs H a ps ∧ Marks size ps ∧ size ≤ 1000 ∧ ps.length ≤ 50 ∧ many ≤ 6 ∧
  (∀ hs, HandsOk hs (rsOf ps) → hs.length ≤ 7) ∧ (∃ (F : List Int) (T : Nat → Int), F.Pairwise (· < ·) ∧ F.length ≤ many ∧ (∀ h ∈ F, ∃ q ∈ rsOf ps, q.h = h) ∧ Truth (rsOf (keep F ps)) T) ∧
  ∀ H' p x y one xs, Same H H' → H' p = some (.tup [.ref x, .ref y]) → H' x = some (.lst (ivs one)) → H' y = some (.lst (ivs xs)) → one.length ≤ many → xs.length = size → HoldsF (rsOf (keep one ps)) xs → Q (.ref p) H'
theorem scReading : FnScope ["size", "runs", "many", "one", "heights"] ["size", "runs", "many"] (defScope (topS 11)) := ⟨rfl, rfl, rfl, by decide +kernel, rfl, by decide +kernel, by decide +kernel⟩
theorem marks_keep {size : Nat} {ps : List (Addr × Rn)} {st : List Int} (h : Marks size ps) : Marks size (keep st ps) := fun p hp => h p (List.mem_filter.mp hp).1
theorem ok_reading (D : Def K mg "reading" 11) (GH : Good P w K mg base 1 "hands_of" ["runs"] (spHandsOf K)) (GL : Good P w K mg base 2 "lists_of" ["hands", "many"] (spListsOf K)) (GF : Good P w K mg base 3 "flat" ["size", "runs"] (spFlat K))
    (GK : Good P w K mg base 1 "left" ["runs", "struck"] (spLeft K)) : Good P w K mg base 4 "reading" ["size", "runs", "many"] (spReading K) := by
  obtain ⟨f, fd, F, hm⟩ := D
  refine ⟨f, fd, F.kp, hm, F.bindsN (fun _ _ _ _ _ _ us hl => match us, hl with | [_, _, _], _ => rfl), F.ok scReading (fun vs H Q E h => ?_) (fun cdv A outer s H vs Q E hr h => ?_)⟩
  · obtain ⟨a, ps, size, many, rfl, _⟩ := h
    rfl
  obtain ⟨a, ps, size, many, rfl, hR, hM, small, few, h6, h7, ⟨Fs, T, f1, f2, f3, f4⟩, q⟩ := h
  have nd := scReading.nd
  refine ⟨_, PSs.nox (pss_cons (ps_for PassesOwn.never rfl (pi_list (pe_callG GL (hr.mono (by decide)) (by rfl) (pa_cons (pe_callG GH (hr.mono (by decide)) (by rfl) (pa_cons (pv 1) pa_nil) pass0) (pa_cons (pv 2) pa_nil)) pass0)) (pg_name (i := 3) nd rfl (.inl rfl))
      (pss_cons (ps_set (i := 4) nd rfl (.inl rfl) (pe_callG GF hr (by rfl) (pa_cons (pv 0) (pa_cons (pe_callG GK (hr.mono (by decide)) (by rfl) (pa_cons (pv 1) (pa_cons (pv 3) pa_nil)) pass0) pa_nil)) pass0))
      (pss_one (ps_if (pt_cmpR op_notN (pv 4) pe_non (nomark _)) (pss_one (ps_ret (pe_tup (pa_cons (pv 3) (pa_cons (pv 4) pa_nil))))) pss_nil))))
    (pss_one (ps_ret pe_non))), ?_⟩
  refine ⟨_, rfl, a, ps, rfl, hR, few, fun H1 b hs s1 _ eb hh => ?_⟩
  have h7' := h7 hs hh
  refine ⟨_, rfl, b, hs, many, rfl, eb, h7', h6, fun H2 l s2 nl ll => ?_⟩
  obtain ⟨as, ea, pr⟩ := ll
  have s12 := s1.trans s2
  have inF : Fs ∈ foundF hs (min many hs.length) := by
    have sub : ∀ x ∈ Fs, x ∈ hs := fun x hx => (hh.mem x).mpr (f3 x hx)
    refine found_all ?_ f1 sub
    have := nodup_sub (lt_nodup f1) sub
    omega
  refine ⟨l, rfl, ⟨_, SqL.of ea⟩, ?_⟩
  refine for_list (K := K) (xs := as.map V.ref) (fun i σ H' => Same H2 H' ∧ (Fs ∉ (foundF hs (min many hs.length)).take i) ∧ ∃ x3 x4, σ = [some (.int size), some (.ref a), some (.int many), x3, x4])
    ⟨Same.refl _, by simp, _, _, rfl⟩ (fun i σ H' _ p => SqL.of (p.1 _ _ ea)) ?_ ?_
  · rintro i v σ H' hv ⟨s3, no, x3, x4, rfl⟩
    obtain ⟨x, one, rfl, ho, _, hx⟩ := LLs.get pr hv
    have hx' := s3 _ _ hx
    have s13 := s12.trans s3
    refine ⟨_, rfl, _, rfl, _, rfl, a, x, ps, one, rfl, hR.mono s13, hx', by omega, fun H4 r s4 nr hr4 => ?_⟩
    refine ⟨r, keep one ps, size, rfl, hr4, marks_keep hM, small, fun H5 y xs s5 ny ey ly hol => ?_, fun H5 s5 nt => ?_⟩
    · refine ⟨_, rfl, rfl, _, rfl, ?_⟩
      refine iteT (B := True) ?_
      refine ⟨_, rfl, _, rfl, by show 2 ≤ sizeLine; decide, fun p np => ?_⟩
      have s6 := same_upd (o := .tup [V.ref x, V.ref y]) np
      refine q _ p x y one xs ((s13.trans s4).trans (s5.trans s6)) upd_same (s6 _ _ (s5 _ _ (s4 _ _ hx'))) (s6 _ _ ey) ?_ ly hol
      have := found_len (List.mem_of_getElem? ho)
      omega
    · refine ⟨_, rfl, rfl, _, rfl, ?_⟩
      refine iteF (A := True) ?_
      refine ⟨(s3.trans s4).trans s5, fun hmem => ?_, _, _, rfl⟩
      rw [List.take_add_one, ho] at hmem
      rcases List.mem_append.mp hmem with hmem | hmem
      · exact no hmem
      · simp at hmem
        subst hmem
        exact nt T f4
  · rintro σ H' ⟨s3, no, x3, x4, rfl⟩
    rw [List.length_map, pr_len pr, List.take_length] at no
    exact absurd inF no
end
end Fl
namespace Fl
open PySem PySem.Spec PyProof.Rows L2
section
variable {P : Program} {w : World} {K : PySem.W.Frag} {mg : Str → Option Value} {base : Heap}
/-! ### parts -/
theorem inV_nvs (o : Nat) : ∀ l : List Nat, inV (.int (o : Int)) (nvs l) = decide (o ∈ l)
  | [] => rfl
  | n :: l => by
    show (eqV (.int (n : Int)) (.int (o : Int)) || inV (.int (o : Int)) (nvs l)) = _
    rw [inV_nvs o l]
    show (((n : Int) == (o : Int)) || decide (o ∈ l)) = _
    by_cases e : n = o
    · subst e; simp
    · have e' : ¬ o = n := fun z => e z.symm
      have e2 : ¬ (n : Int) = (o : Int) := by omega
      simp [e', e2]
theorem flat_nvs : ∀ l : List Nat, (nvs l).all flatV = true
  | [] => rfl
  | n :: l => by
    show (true && (nvs l).all flatV) = true
    rw [flat_nvs l]
    rfl
theorem grow_nil {a b : Hts} (g : Grow [] a b) : b = a := by
  induction g with
  | refl => rfl
  | up _ h _ _ _ => cases h
  | down _ h _ _ _ => cases h
def spParts (K : PySem.W.Frag) : Sp := fun vs H Q _ => ∃ (a b : Addr) (ps : List (Addr × Rn)) (st : List Int) (size one other : Nat), vs = [.int size, .ref a, .ref b, .int one, .int other] ∧ Runs H a ps ∧ H b = some (.lst (ivs st)) ∧ Marks size ps ∧ size ≤ 1000 ∧ ps.length ≤ 1000 ∧ one < size ∧ other < size ∧
  ∀ H' r, Same H H' → (Conn (rsOf (keep st ps)) one other → r = false) → (keep st ps = [] → one ≠ other → r = true) → Q (.bl r) H'
theorem scParts : FnScope ["size", "runs", "struck", "one", "other"] ["size", "runs", "struck", "one", "other"] (defScope (topS 13)) := ⟨rfl, rfl, rfl, by decide +kernel, rfl, by decide +kernel, by decide +kernel⟩
theorem ok_parts (D : Def K mg "parts" 13) (GR : Good P w K mg base 3 "reached" ["size", "runs", "mark"] (spReached K)) (GK : Good P w K mg base 1 "left" ["runs", "struck"] (spLeft K)) : Good P w K mg base 4 "parts" ["size", "runs", "struck", "one", "other"] (spParts K) := by
  obtain ⟨f, fd, F, hm⟩ := D
  refine ⟨f, fd, F.kp, hm, F.bindsN (fun _ _ _ _ _ _ us hl => match us, hl with | [_, _, _, _, _], _ => rfl), F.ok scParts (fun vs H Q E h => ?_) (fun cdv A outer s H vs Q E hr h => ?_)⟩
  · obtain ⟨a, b, ps, st, size, one, other, rfl, _⟩ := h
    rfl
  obtain ⟨a, b, ps, st, size, one, other, rfl, hR, hS, hM, small, few, l1, l2, q⟩ := h
  refine ⟨_, PSs.nox (pss_one (ps_ret (pe_cmpR op_notIn_seq (pv 4) (pe_callG GR hr (by rfl) (pa_cons (pv 0) (pa_cons (pe_callG GK (hr.mono (by decide)) (by rfl) (pa_cons (pv 1) (pa_cons (pv 2) pa_nil)) pass0) (pa_cons (pv 3) pa_nil))) pass0) (by rfl)))), ?_⟩
  refine ⟨_, rfl, _, rfl, _, rfl, _, rfl, a, b, ps, st, rfl, hR, hS, few, fun H1 r s1 _ hr1 => ?_⟩
  refine ⟨_, rfl, r, keep st ps, size, one, rfl, hr1, marks_keep hM, l1, small, fun H2 p hs s2 _ g nh ep => ?_⟩
  refine ⟨p, _, rfl, .inl (SqL.of ep), rfl, flat_nvs _, ?_⟩
  rw [if_pos rfl, inV_nvs]
  have e0 : ((List.replicate size (none : Option Int)).set one (some 0))[one]? = some (some 0) := by
    rw [List.getElem?_set_self (by rw [List.length_replicate]; exact l1)]
  refine q H2 _ (s1.trans s2) (fun c => ?_) (fun e ne => ?_)
  · obtain ⟨y, hy⟩ := nh.conn c ⟨_, g.stay e0⟩
    have : other ∈ ledL hs size := List.mem_filter.mpr ⟨List.mem_range.mpr l2, ledB_iff.mpr ⟨y, hy⟩⟩
    rw [decide_eq_true this]
    rfl
  · rw [e] at g
    have eg := grow_nil g
    subst eg
    have : ¬ other ∈ ledL ((List.replicate size (none : Option Int)).set one (some 0)) size := fun hm => by
      obtain ⟨x, hx⟩ := ledB_iff.mp (List.mem_filter.mp hm).2
      rw [set_other ne, List.getElem?_replicate] at hx
      split at hx <;> cases hx
    rw [decide_eq_false this]
    rfl
/-! ### parting -/
def spParting (K : PySem.W.Frag) : Sp := fun vs H Q _ => ∃ (a : Addr) (ps : List (Addr × Rn)) (size many one other : Nat), vs = [.int size, .ref a, .int many, .int one, .int other] ∧ Runs H a ps ∧ Marks size ps ∧ size ≤ 1000 ∧ ps.length ≤ 50 ∧ one < size ∧ other < size ∧ one ≠ other ∧ many ≤ 6 ∧
  (∀ hs, HandsOk hs (rsOf ps) → hs.length ≤ 7) ∧ (∀ H' p l, Same H H' → H' p = some (.lst (ivs l)) → l.length ≤ many → ¬ Conn (rsOf (keep l ps)) one other → Q (.ref p) H') ∧
  (∀ H', Same H H' → (∀ hs, HandsOk hs (rsOf ps) → many < hs.length) → Q .non H')
theorem scParting : FnScope ["size", "runs", "many", "one", "other", "some"] ["size", "runs", "many", "one", "other"] (defScope (topS 14)) := ⟨rfl, rfl, rfl, by decide +kernel, rfl, by decide +kernel, by decide +kernel⟩
theorem keep_all {hs : List Int} {ps : List (Addr × Rn)} (h : HandsOk hs (rsOf ps)) : keep hs ps = [] := by
  apply List.filter_eq_nil_iff.mpr
  intro p hp
  have : p.2.h ∈ hs := (h.mem _).mpr ⟨p.2, List.mem_map.mpr ⟨p, hp, rfl⟩, rfl⟩
  simp [this]
theorem ok_parting (D : Def K mg "parting" 14) (GH : Good P w K mg base 1 "hands_of" ["runs"] (spHandsOf K)) (GL : Good P w K mg base 2 "lists_of" ["hands", "many"] (spListsOf K)) (GP : Good P w K mg base 4 "parts" ["size", "runs", "struck", "one", "other"] (spParts K)) :
    Good P w K mg base 5 "parting" ["size", "runs", "many", "one", "other"] (spParting K) := by
  obtain ⟨f, fd, F, hm⟩ := D
  refine ⟨f, fd, F.kp, hm, F.bindsN (fun _ _ _ _ _ _ us hl => match us, hl with | [_, _, _, _, _], _ => rfl), F.ok scParting (fun vs H Q E h => ?_) (fun cdv A outer s H vs Q E hr h => ?_)⟩
  · obtain ⟨a, ps, size, many, one, other, rfl, _⟩ := h
    rfl
  obtain ⟨a, ps, size, many, one, other, rfl, hR, hM, small, few, l1, l2, ne, h6, h7, q1, q2⟩ := h
  have nd := scParting.nd
  refine ⟨_, PSs.nox (pss_cons (ps_for PassesOwn.never rfl (pi_list (pe_callG GL (hr.mono (by decide)) (by rfl) (pa_cons (pe_callG GH (hr.mono (by decide)) (by rfl) (pa_cons (pv 1) pa_nil) pass0) (pa_cons (pv 2) pa_nil)) pass0)) (pg_name (i := 5) nd rfl (.inl rfl))
      (pss_one (ps_if (pt_val (pe_callG GP hr (by rfl) (pa_cons (pv 0) (pa_cons (pv 1) (pa_cons (pv 5) (pa_cons (pv 3) (pa_cons (pv 4) pa_nil))))) pass0)) (pss_one (ps_ret (pv 5))) pss_nil)))
    (pss_one (ps_ret pe_non))), ?_⟩
  refine ⟨_, rfl, a, ps, rfl, hR, few, fun H1 b hs s1 _ eb hh => ?_⟩
  have h7' := h7 hs hh
  refine ⟨_, rfl, b, hs, many, rfl, eb, h7', h6, fun H2 l s2 nl ll => ?_⟩
  obtain ⟨as, ea, pr⟩ := ll
  have s12 := s1.trans s2
  refine ⟨l, rfl, ⟨_, SqL.of ea⟩, ?_⟩
  refine for_list (K := K) (xs := as.map V.ref) (fun i σ H' => Same H2 H' ∧ (hs ∉ (foundF hs (min many hs.length)).take i) ∧ ∃ x5, σ = [some (.int size), some (.ref a), some (.int many), some (.int one), some (.int other), x5])
    ⟨Same.refl _, by simp, _, rfl⟩ (fun i σ H' _ p => SqL.of (p.1 _ _ ea)) ?_ ?_
  · rintro i v σ H' hv ⟨s3, no, x5, rfl⟩
    obtain ⟨x, st, rfl, ho, _, hx⟩ := LLs.get pr hv
    have hx' := s3 _ _ hx
    have s13 := s12.trans s3
    refine ⟨_, rfl, _, rfl, _, rfl, _, rfl, _, rfl, a, x, ps, st, size, one, other, rfl, hR.mono s13, hx', hM, small, by omega, l1, l2, fun H4 r s4 c1 c2 => ?_⟩
    refine ⟨r, rfl, ?_⟩
    cases r with
    | true =>
      refine iteT (B := True) ?_
      refine ⟨_, rfl, q1 H4 x st (s13.trans s4) (s4 _ _ hx') ?_ fun c => by have := c1 c; cases this⟩
      have := found_len (List.mem_of_getElem? ho)
      omega
    | false =>
      refine iteF (A := True) ?_
      refine ⟨s3.trans s4, fun hmem => ?_, _, rfl⟩
      rw [List.take_add_one, ho] at hmem
      rcases List.mem_append.mp hmem with hmem | hmem
      · exact no hmem
      · simp at hmem
        subst hmem
        have := c2 (keep_all hh) ne
        cases this
  · rintro σ H' ⟨s3, no, x5, rfl⟩
    rw [List.length_map, pr_len pr, List.take_length] at no
    refine q2 H' (s12.trans s3) fun hs' hh' => ?_
    have e := hh'.uniq hh
    subst e
    apply Classical.byContradiction
    intro c
    exact no (found_all (by omega) hh.inc fun x hx => hx)
/-! ### foe -/
theorem cut_ivs (l : List Int) (lo hi : Option Int) : ∃ m : List Int, cutV (ivs l) lo hi = ivs m := by
  unfold cutV
  rw [← List.map_drop, ← List.map_take]
  exact ⟨_, rfl⟩
theorem b01 (c : Prop) [Decidable c] : -(2 ^ 64) < (if c then (1 : Int) else 0) ∧ (if c then (1 : Int) else 0) < 2 ^ 64 := by
  split <;> exact ⟨by decide, by decide⟩
theorem pr_ints {α : Type} : ∀ {L : List α} {acc : List V}, Paired (fun _ y => ∃ n : Int, y = .int n) L acc → ∃ ns : List Int, acc = ivs ns ∧ ns.length = L.length
  | _, _, .nil => ⟨[], rfl, rfl⟩
  | _, _, .cons ⟨n, e⟩ t => by
    obtain ⟨ns, e1, e2⟩ := pr_ints t
    exact ⟨n :: ns, by rw [e, e1]; rfl, by rw [List.length_cons, List.length_cons, e2]⟩
def spFoe (K : PySem.W.Frag) : Sp := fun vs H Q _ => ∃ (a : Addr) (ps : List (Addr × Rn)) (size many one other : Nat), vs = [.int size, .ref a, .int many, .int one, .int other] ∧ Runs H a ps ∧ Marks size ps ∧ size ≤ 1000 ∧ ps.length ≤ 50 ∧ one < size ∧ other < size ∧ one ≠ other ∧ many ≤ 3 ∧
  (∀ hs, HandsOk hs (rsOf ps) → hs.length ≤ 7) ∧ (∀ H' p l, Same H H' → List.length l ≤ 2 * many → ¬ Conn (rsOf (keep l ps)) one other → Q (.ref p) H') ∧
  (∀ H', Same H H' → (∀ hs, HandsOk hs (rsOf ps) → 2 * many < hs.length) → Q .non H')
theorem scFoe : FnScope ["size", "runs", "many", "one", "other", "found", "half", "here", "heights", "rises", "run", "at"] ["size", "runs", "many", "one", "other"] (defScope (topS 15)) := ⟨rfl, rfl, rfl, by decide +kernel, rfl, by decide +kernel, by decide +kernel⟩
theorem ok_foe (D : Def K mg "foe" 15) (ml : mg "len" = none) (mr : mg "range" = none) (mi : mg "int" = none) (GP : Good P w K mg base 5 "parting" ["size", "runs", "many", "one", "other"] (spParting K))
    (GR : Good P w K mg base 3 "reached" ["size", "runs", "mark"] (spReached K)) (GK : Good P w K mg base 1 "left" ["runs", "struck"] (spLeft K)) : Good P w K mg base 6 "foe" ["size", "runs", "many", "one", "other"] (spFoe K) := by
  obtain ⟨f, fd, F, hm⟩ := D
  refine ⟨f, fd, F.kp, hm, F.bindsN (fun _ _ _ _ _ _ us hl => match us, hl with | [_, _, _, _, _], _ => rfl), F.ok scFoe (fun vs H Q E h => ?_) (fun cdv A outer s H vs Q E hr h => ?_)⟩
  · obtain ⟨a, ps, size, many, one, other, rfl, _⟩ := h
    rfl
  obtain ⟨a, ps, size, many, one, other, rfl, hR, hM, small, few, l1, l2, ne, h3, h7, q1, q2⟩ := h
  have nd := scFoe.nd
  refine ⟨_, PSs.nox (pss_cons (ps_set (i := 5) nd rfl (.inl rfl) (pe_callG GP hr (by rfl) (pa_cons (pv 0) (pa_cons (pv 1) (pa_cons (pe_op op_mul pe_int (pv 2)) (pa_cons (pv 3) (pa_cons (pv 4) pa_nil))))) pass0))
    (pss_cons (ps_if (pt_cmpR op_isN (pv 5) pe_non (nomark _)) (pss_one (ps_ret pe_non)) pss_nil)
    (pss_cons (ps_set (i := 6) nd rfl (.inl rfl) (pe_op op_fdiv (pe_op op_add (pe_callB call_len_seq (by rfl) ml PySem.boot_len (pa_cons (pv 5) pa_nil)) pe_int) pe_int))
    (pss_cons (ps_set (i := 7) nd rfl (.inr rfl) (pe_callG GR (hr.mono (by decide)) (by rfl) (pa_cons (pv 0) (pa_cons (pe_callG GK (hr.mono (by decide)) (by rfl) (pa_cons (pv 1) (pa_cons (pv 5) pa_nil)) pass0) (pa_cons (pv 3) pa_nil))) pass0))
    (pss_cons (ps_setLc (i := 8) (own := [("at", 11)]) (g := gName 11) (tt := tYes) rfl nd rfl rfl (sw_true rfl rfl rfl (by decide +kernel)) (pi_range1 (by rfl) mr (pa_cons (pv 0) pa_nil)) (blkOk_by (own := [("at", 11)]) (N := ["size", "runs", "many", "one", "other", "found", "half", "here", "heights", "rises", "run", "at"]) (sc := defScope (topS 15)) (by decide +kernel))
      (fun _ _ _ _ _ => pg_name (i := 11) nd rfl (Or.inl rfl)) (fun _ _ _ _ _ => pts_nil) (fun _ _ _ _ _ => pe_callTy (r := fun xs H Q => (∃ i, xs = [.int i] ∧ Q (.int i) H) ∨ ∃ k, xs = [.bl k] ∧ Q (.int (if k then 1 else 0)) H) call_int1 (by rfl) mi boot_int (pa_cons (pe_cmpR (r := rIn K true) op_notIn_seq (pv 11) (pv 7) (by rfl)) pa_nil)))
    (pss_cons (ps_set (i := 9) nd rfl (.inl rfl) (pe_lst pa_nil))
    (pss_cons (ps_for PassesOwn.never rfl (pi_list (pv 1)) (pg_name (i := 10) nd rfl (.inl rfl))
      (pss_one (ps_expr (pe_bm PySem.F.plainAttrs_list PySem.F.slot_list_append PySem.F.type_list_append mt_append (pv 9) (pa_cons
        (pe_op op_mul (pe_op op_sub (pe_ix ix_list (pv 8) (pe_ix ix_tup (pv 10) pe_int (fun _ _ => rfl)) (fun _ _ => rfl)) (pe_ix ix_list (pv 8) (pe_ix ix_tup (pv 10) pe_int (fun _ _ => rfl)) (fun _ _ => rfl)))
          (pe_callTy call_int1 (by rfl) mi boot_int (pa_cons (pe_cmpR op_in_seq (pe_ix ix_tup (pv 10) pe_int (fun _ _ => rfl)) (pe_slice sl_list (pv 5) po_none (po_some (pv 6))) (by rfl)) pa_nil))) pa_nil)))))
    (pss_one (ps_ret (pe_tup (pa_cons (pv 9) (pa_cons (pe_tup (pa_cons (pe_slice sl_list (pv 5) po_none (po_some (pv 6))) (pa_cons (pe_op op_rep (pe_lst (pa_cons pe_int pa_nil)) (pv 0)) pa_nil)))
      (pa_cons (pe_tup (pa_cons (pe_slice sl_list (pv 5) (po_some (pv 6)) po_none) (pa_cons (pv 8) pa_nil))) pa_nil))))))))))))), ?_⟩
  refine ⟨_, rfl, _, rfl, _, rfl, _, _, rfl, rfl, .inl ⟨by decide, by decide⟩, _, rfl, _, rfl, a, ps, size, 2 * many, one, other, by simp, hR, hM, small, few, l1, l2, ne, by omega, h7, fun H1 p l s1 ep hl nc => ?_, fun H1 s1 no => ?_⟩
  · -- hands that part the two
    refine ⟨_, rfl, rfl, _, rfl, ?_⟩
    refine iteF (A := True) ?_
    refine ⟨_, rfl, p, _, rfl, .inl (SqL.of ep), _, _, rfl, rfl, _, _, rfl, rfl, ⟨by decide, by decide⟩, ?_⟩
    generalize (((ivs l).length : Nat) : Int) + 1 = hz
    have r1 := hR.mono s1
    refine ⟨_, rfl, _, rfl, _, rfl, a, p, ps, l, rfl, r1, ep, by omega, fun H2 r s2 _ hr2 => ?_⟩
    refine ⟨_, rfl, r, keep l ps, size, one, rfl, hr2, marks_keep hM, l1, small, fun H3 he hs s3 _ _ _ eh => ?_⟩
    have s13 := s1.trans (s2.trans s3)
    refine ⟨_, rfl, _, rfl, by omega, by omega, fun D hD => ?_⟩
    rw [Int.toNat_natCast]
    refine lc_pair walk_range (L := List.range size) (fun _ => true) (fun x y _ => ∃ n : Int, y = .int n) (by simp) (by omega) (fun _ _ _ _ _ r => r) hD (fun _ _ => trivial) ?_ ?_
    · intro i x v H5 H6 hx s5 y Kp Sk hK hS'
      obtain ⟨rfl, rfl⟩ := y
      refine ⟨rfl, ?_⟩
      refine iteT (B := True) ?_
      refine ⟨_, rfl, _, rfl, he, _, rfl, .inl (SqL.of (s5 _ _ eh)), rfl, flat_nvs _, .inr ⟨_, rfl, hK _ _ (Same.refl _) rfl ⟨_, rfl⟩⟩⟩
    · intro H5 acc s5 hd pr
      rw [List.filter_eq_self.mpr (fun _ _ => rfl)] at pr
      obtain ⟨ns, rfl, len⟩ := pr_ints pr
      rw [List.length_range] at len
      refine ⟨by show 0 ≤ sizeLine; decide, fun o no => ?_⟩
      have s6 := same_upd (o := .lst []) no
      have s16 := s13.trans (s5.trans s6)
      refine ⟨_, rfl, a, rfl, ⟨_, SqL.of (hR.mono s16).1⟩, ?_⟩
      have s56 := s3.trans (s5.trans s6)
      have ep6 := (s2.trans s56) _ _ ep
      have hd6 := s6 _ _ hd
      have nO : H o = none := Same.free (s13.trans s5) no
      have noD : D ≠ o := fun e => by
        subst e
        rw [hd] at no
        cases no
      have nop : p ≠ o := fun e => by
        subst e
        rw [(s2.trans (s3.trans s5)) _ _ ep] at no
        cases no
      refine for_list (K := K) (xs := ps.map fun p => V.ref p.1) (fun i σ H' => Same H H' ∧ H' p = some (.lst (ivs l)) ∧ H' D = some (.lst (ivs ns)) ∧ (∃ xs, H' o = some (.lst xs) ∧ xs.length = i) ∧
        ∃ x10, σ = [some (.int size), some (.ref a), some (.int many), some (.int one), some (.int other), some (.ref p), some (.int (hz / 2)), some (.ref he), some (.ref D), some (.ref o), x10, none])
        ⟨s16, ep6, hd6, ⟨[], upd_same, rfl⟩, _, rfl⟩ (fun i σ H' _ p => SqL.of (p.1 _ _ hR.1)) ?_ ?_
      · rintro i v σ H' hv ⟨sa, ep', hd', ⟨xs, eo, lx⟩, x10, rfl⟩
        rw [List.getElem?_map] at hv
        obtain ⟨x, hx, rfl⟩ := Option.map_eq_some_iff.mp hv
        have hm := List.mem_of_getElem? hx
        have hx' := sa _ _ (hR.2 x hm)
        obtain ⟨m1, m2, _⟩ := hM x hm
        have il := (List.getElem?_eq_some_iff.mp hx).1
        refine ⟨_, rfl, .inl ⟨rfl, _, SqL.of eo⟩, ?_⟩
        refine ⟨_, rfl, _, rfl, _, _, _, _, rfl, rfl, SqT.of hx', rfl, _, _, _, _, rfl, rfl, SqL.of hd', at_int (getD_at (by rw [len]; exact m2)), ?_⟩
        refine ⟨_, rfl, _, rfl, _, _, _, _, rfl, rfl, SqT.of hx', rfl, _, _, _, _, rfl, rfl, SqL.of hd', at_int (getD_at (by rw [len]; exact m1)), _, _, rfl, rfl, ?_⟩
        refine ⟨_, rfl, _, _, _, _, rfl, rfl, SqT.of hx', rfl, _, rfl, _, rfl, hz / 2, rfl, p, _, rfl, SqL.of ep', fun c nc => ?_⟩
        obtain ⟨m, em⟩ := cut_ivs l none (some (hz / 2))
        rw [em]
        have s7 := same_upd (o := .lst (ivs m)) nc
        refine ⟨c, _, rfl, .inl (SqL.of upd_same), rfl, flat_ivs m, .inr ⟨_, rfl, ?_⟩⟩
        refine ⟨_, _, rfl, rfl, .inr (b01 _), ?_⟩
        refine ⟨o, xs, _, rfl, rfl, s7 _ _ eo, szl (by omega), ?_⟩
        refine ⟨same_mutX (sa.trans s7) SameX.upd nO, ?_, ?_, ⟨_, upd_same, by rw [List.length_append, lx]; rfl⟩, _, rfl⟩
        · rw [upd_ne nop]
          exact s7 _ _ ep'
        · rw [upd_ne noD]
          exact s7 _ _ hd'
      · rintro σ H' ⟨sa, ep', hd', ⟨xs, eo, lx⟩, x10, rfl⟩
        refine ⟨_, rfl, _, rfl, _, rfl, hz / 2, rfl, p, _, rfl, SqL.of ep', fun c1 n1 => ?_⟩
        have t1 := same_upd (o := .lst (cutV (ivs l) none (some (hz / 2)))) n1
        refine ⟨by show 1 ≤ sizeLine; decide, fun z1 nz1 => ?_⟩
        have t2 := same_upd (o := .lst [V.int 0]) nz1
        refine ⟨_, rfl, z1, _, _, rfl, rfl, upd_same, by omega, by omega, by simp; exact sz (by omega), fun z2 nz2 => ?_⟩
        have t3 := same_upd (o := .lst (List.replicate ((size : Int)).toNat [V.int 0]).flatten) nz2
        refine ⟨by show 2 ≤ sizeLine; decide, fun u1 nu1 => ?_⟩
        have t4 := same_upd (o := .tup [V.ref c1, V.ref z2]) nu1
        have ep4 := (((t1.trans t2).trans t3).trans t4) _ _ ep'
        refine ⟨_, rfl, _, rfl, hz / 2, rfl, p, _, rfl, SqL.of ep4, fun c2 n2 => ?_⟩
        have t5 := same_upd (o := .lst (cutV (ivs l) (some (hz / 2)) none)) n2
        refine ⟨_, rfl, by show 2 ≤ sizeLine; decide, fun u2 nu2 => ?_⟩
        have t6 := same_upd (o := .tup [V.ref c2, V.ref D]) nu2
        refine ⟨by show 3 ≤ sizeLine; decide, fun u3 nu3 => ?_⟩
        have t7 := same_upd (o := .tup [V.ref o, V.ref u1, V.ref u2]) nu3
        exact q1 _ u3 l (sa.trans ((((t1.trans t2).trans t3).trans t4).trans ((t5.trans t6).trans t7))) hl nc
  · refine ⟨_, rfl, rfl, _, rfl, ?_⟩
    refine iteT (B := True) ?_
    exact q2 H1 s1 no
end
end Fl
namespace Fl
open PySem PySem.Spec PyProof.Rows L2
/-! ### dicts by their keys -/
theorem key_mem {kvs : List (Key × V)} {ks : List Int} (e : kvs.map (·.1) = ks.map Sum.inl) (n : Int) : (valV kvs (Sum.inl n)).isSome = decide (n ∈ ks) := by
  rw [← valV_any]
  have h1 : (kvs.any fun kv => decide (kv.1 = (Sum.inl n : Key))) = (kvs.map (·.1)).any fun k => decide (k = Sum.inl n) := by
    rw [List.any_map]
    rfl
  rw [h1, e, List.any_map, Bool.eq_iff_iff, List.any_eq_true, decide_eq_true_eq]
  constructor
  · rintro ⟨x, hx, h⟩
    have := Sum.inl.inj (of_decide_eq_true h)
    subst this
    exact hx
  · intro h
    exact ⟨n, h, decide_eq_true rfl⟩
/-- at d a dict whose keys are these ints -/
def Keys (H : Hp) (d : Addr) (ks : List Int) : Prop := ∃ kvs : List (Key × V), H d = some (.dK kvs) ∧ kvs.map (·.1) = ks.map Sum.inl
theorem Keys.mono {H H' : Hp} {d : Addr} {ks : List Int} (s : Same H H') (h : Keys H d ks) : Keys H' d ks := by
  obtain ⟨kvs, a, b⟩ := h
  exact ⟨kvs, s _ _ a, b⟩
theorem hu1 {k : Nat} {A : Around} (hr : Room k A) : A.units + 1 < cLine := hu_of hr
abbrev ints_ (l : List Nat) : List Int := l.map fun (n : Nat) => (n : Int)
theorem nvs_ivs (l : List Nat) : nvs l = ivs (ints_ l) := by
  show _ = List.map V.int (List.map _ l)
  rw [List.map_map]
  rfl
theorem not_before {line : List Nat} (nd : line.Nodup) {i n : Nat} (h : line[i]? = some n) : n ∉ line.take i := fun hm => by
  obtain ⟨j, hj, e2⟩ := List.getElem_of_mem hm
  rw [List.length_take] at hj
  rw [List.getElem_take] at e2
  obtain ⟨h1, h2⟩ := List.getElem?_eq_some_iff.mp h
  have := (List.getElem_inj nd).mp (e2.trans h2.symm)
  omega
section
variable {P : Program} {w : World} {K : PySem.W.Frag} {mg : Str → Option Value} {base : Heap}
/-! ### walked -/
def spWalked (K : PySem.W.Frag) : Sp := fun vs H Q _ => ∃ (a t : Addr) (ps : List (Addr × Rn)) (mark : Nat) (line : List Nat) (e : Nat) (h : Int), vs = [.ref a, .int mark, .ref t] ∧ Runs H a ps ∧ H t = some (.tup (nvs line)) ∧ Marks 1000 ps ∧ line.Nodup ∧ line.length ≤ 1000 ∧
  walkF (rsOf ps) mark line = some (e, h) ∧ ∀ H' p, Same H H' → H p = none → H' p = some (.tup [.int e, .int h]) → Q (.ref p) H'
theorem scWalked : FnScope ["runs", "mark", "line", "here", "height", "had", "at", "one", "other", "rise", "hand"] ["runs", "mark", "line"] (defScope (topS 17)) := ⟨rfl, rfl, rfl, by decide +kernel, rfl, by decide +kernel, by decide +kernel⟩
theorem ok_walked (D : Def K mg "walked" 17) (ml : mg "len" = none) : Good P w K mg base 1 "walked" ["runs", "mark", "line"] (spWalked K) := by
  obtain ⟨f, fd, F, hm⟩ := D
  refine ⟨f, fd, F.kp, hm, F.bindsN (fun _ _ _ _ _ _ us hl => match us, hl with | [_, _, _], _ => rfl), F.ok scWalked (fun vs H Q E h => ?_) (fun cdv A outer s H vs Q E hr h => ?_)⟩
  · obtain ⟨a, t, ps, mark, line, e, h, rfl, _⟩ := h
    rfl
  obtain ⟨a, t, ps, mark, line, e, h, rfl, hR, hT, hM, nodup, short, hw, q⟩ := h
  have nd := scWalked.nd
  refine ⟨_, PSs.nox (pss_cons (ps_set (i := 3) nd rfl (.inl rfl) (pv 1)) (pss_cons (ps_set (i := 4) nd rfl (.inl rfl) pe_int) (pss_cons (ps_set (i := 5) nd rfl (.inl rfl) pe_dnewK)
    (pss_cons (ps_for PassesOwn.never rfl (pi_tup (pv 2)) (pg_name (i := 6) nd rfl (.inl rfl))
      (pss_cons (ps_if (PW.pt (pw_or (pt_not (pt_chain op_le op_lt pe_int (pv 6) (pe_callB call_len_seq (by rfl) ml PySem.boot_len (pa_cons (pv 0) pa_nil)))) (pw_or1 (pt_cmp (pc_din (hu1 hr) (pv 6) (pv 5)))))) (pss_one (ps_ret pe_non)) pss_nil)
      (pss_cons (ps_dput (hu1 hr) (pv 5) (pv 6) pe_bl rfl)
      (pss_cons (ps_asg (pe_ix ix_list (pv 0) (pv 6) (fun _ _ => rfl)) (pg_tup rfl (pgs_cons (pg_name (i := 7) nd rfl (.inl rfl)) (pgs_cons (pg_name (i := 8) nd rfl (.inl rfl)) (pgs_cons (pg_name (i := 9) nd rfl (.inl rfl)) (pgs_cons (pg_name (i := 10) nd rfl (.inl rfl)) pgs_nil))))))
      (pss_one (ps_if (pt_cmpR op_eq (pv 3) (pv 7) (nomark _)) (pss_cons (ps_set (i := 3) nd rfl (.inl rfl) (pv 8)) (pss_one (ps_aug (i := 4) nd rfl (.inl rfl) (pv 9) ip_add)))
        (pss_one (ps_if (pt_cmpR op_eq (pv 3) (pv 8) (nomark _)) (pss_cons (ps_set (i := 3) nd rfl (.inl rfl) (pv 7)) (pss_one (ps_aug (i := 4) nd rfl (.inl rfl) (pv 9) ip_sub))) (pss_one (ps_ret pe_non))))))))))
    (pss_one (ps_ret (pe_tup (pa_cons (pv 3) (pa_cons (pv 4) pa_nil))))))))), ?_⟩
  refine ⟨_, rfl, fun d nd0 => ?_⟩
  have s0 := same_upd (o := .dK []) nd0
  refine ⟨_, rfl, t, rfl, ⟨_, SqT.of (s0 _ _ hT)⟩, ?_⟩
  have part : ∀ i, ∃ st, walkG (rsOf ps) (mark, 0) (line.take i) = some st := fun i => by
    have h2 : walkG (rsOf ps) (mark, 0) (line.take i ++ line.drop i) = some (e, h) := by
      rw [List.take_append_drop]
      exact hw
    obtain ⟨s1, a1, _⟩ := walkG_split h2
    exact ⟨s1, a1⟩
  refine for_tup (K := K) (xs := nvs line) (fun i σ H' => Same H H' ∧ Keys H' d (ints_ (line.take i)) ∧ ∃ here height, walkG (rsOf ps) (mark, 0) (line.take i) = some (here, height) ∧
      ∃ x6 x7 x8 x9 x10, σ = [some (.ref a), some (.int mark), some (.ref t), some (.int here), some (.int height), some (.ref d), x6, x7, x8, x9, x10])
    ⟨s0, ⟨[], upd_same, by simp⟩, mark, 0, rfl, _, _, _, _, _, rfl⟩ (fun i σ H' _ p => SqT.of (p.1 _ _ hT)) ?_ ?_
  · rintro i v σ H' hv ⟨s1, ⟨kvs, ed, ek⟩, here, height, hg, x6, x7, x8, x9, x10, rfl⟩
    rw [List.getElem?_map] at hv
    obtain ⟨n, hn, rfl⟩ := Option.map_eq_some_iff.mp hv
    have hi := (List.getElem?_eq_some_iff.mp hn).1
    obtain ⟨st, hst⟩ := part (i + 1)
    have hst2 := hst
    rw [List.take_add_one, hn] at hst
    have hs : stepW (rsOf ps) (here, height) n = some st := by
      have := walkG_snoc (i := n) hg
      rw [← this]
      exact hst
    obtain ⟨qr, eq, cs⟩ := stepW_inv hs
    have en : n < ps.length := by
      have := (List.getElem?_eq_some_iff.mp eq).1
      rwa [List.length_map] at this
    have hp : ps[n]? = some ps[n] := List.getElem?_eq_getElem en
    have eqr : ps[n].2 = qr := by
      rw [List.getElem?_map, hp] at eq
      exact Option.some.inj eq
    have hR' := hR.mono s1
    have hx := hR'.2 ps[n] (List.getElem_mem _)
    rw [eqr] at hx
    have notin : ¬ (n : Int) ∈ ints_ (line.take i) := fun hm => by
      obtain ⟨m, hm2, e⟩ := List.mem_map.mp hm
      have e : m = n := by omega
      rw [e] at hm2
      exact not_before nodup hn hm2
    refine ⟨_, rfl, _, _, rfl, rfl, true, ?_, ?_⟩
    · exact congrArg V.bl (decide_eq_true (by omega))
    refine iteT (B := True) ?_
    refine ⟨_, rfl, a, _, rfl, .inl (SqL.of hR'.1), _, _, rfl, rfl, true, ?_, ?_⟩
    · exact congrArg V.bl (decide_eq_true (by rw [List.length_map]; omega))
    refine iteF (A := True) ?_
    refine ⟨_, rfl, _, rfl, d, _, rfl, DGet.k (k := Sum.inl (n : Int)) ed, _, rfl, ?_⟩
    rw [key_mem ek, decide_eq_false notin]
    refine iteF (A := True) ?_
    have kl : kvs.length = (line.take i).length := by
      have := congrArg List.length ek
      simpa using this
    refine ⟨_, rfl, _, rfl, d, _, rfl, DPut.k (k := Sum.inl (n : Int)) ed (by rw [kl, List.length_take]; exact szl (by omega)), ?_⟩
    have nD : H d = none := nd0
    have s2 : Same H (upd H' d (.dK (putK kvs (Sum.inl (n : Int)) (V.bl true)))) := same_mutX s1 SameX.upd nD
    have k2 : Keys (upd H' d (.dK (putK kvs (Sum.inl (n : Int)) (V.bl true)))) d (ints_ (line.take (i + 1))) := by
      refine ⟨_, upd_same, ?_⟩
      rcases keys_putK ek (n : Int) (V.bl true) with ⟨h1, _⟩ | ⟨_, h2⟩
      · exact absurd h1 notin
      · rw [h2, List.take_add_one, hn]
        show _ = List.map Sum.inl (List.map _ (line.take i ++ [n]))
        rw [List.map_append, List.map_append, List.map_append]
        rfl
    have r2 := hR.mono s2
    have hx2 := r2.2 ps[n] (List.getElem_mem _)
    rw [eqr] at hx2
    refine ⟨_, rfl, _, rfl, a, _, _, _, rfl, rfl, SqL.of r2.1, at_int (v := V.ref ps[n].1) (by rw [List.getElem?_map, hp]; rfl), ?_⟩
    refine ⟨_, _, rfl, SqT.of hx2, rfl, _, _, rfl, _, _, rfl, _, _, rfl, _, _, rfl, rfl, ?_⟩
    refine ⟨_, rfl, _, rfl, rfl, _, rfl, ?_⟩
    have p2 : qr.a ≠ qr.b := by
      rw [← eqr]
      exact (hM ps[n] (List.getElem_mem _)).2.2
    rcases cs with ⟨c1, rfl⟩ | ⟨c0, c1, rfl⟩
    · have c1 : here = qr.a := c1
      subst c1
      rw [decide_eq_true rfl]
      refine iteT (B := True) ?_
      refine ⟨_, rfl, _, rfl, _, rfl, _, _, rfl, rfl, ?_⟩
      exact ⟨s2, k2, _, _, hst2, _, _, _, _, _, rfl⟩
    · have c0 : ¬ V.int (here : Int) = V.int (qr.a : Int) := fun z => c0 (by have := V.int.inj z; show here = qr.a; omega)
      have c1 : here = qr.b := c1
      rw [decide_eq_false c0]
      refine iteF (A := True) ?_
      subst c1
      refine ⟨_, rfl, _, rfl, rfl, _, rfl, ?_⟩
      rw [decide_eq_true rfl]
      refine iteT (B := True) ?_
      refine ⟨_, rfl, _, rfl, _, rfl, _, _, rfl, rfl, ?_⟩
      exact ⟨s2, k2, _, _, hst2, _, _, _, _, _, rfl⟩
  · rintro σ H' ⟨s1, _, here, height, hg, x6, x7, x8, x9, x10, rfl⟩
    rw [List.length_map, List.take_length] at hg
    have hg2 : some (here, height) = some (e, h) := hg.symm.trans hw
    cases hg2
    refine ⟨_, rfl, _, rfl, by show 2 ≤ sizeLine; decide, fun p np => ?_⟩
    exact q _ p (s1.trans (same_upd np)) (Same.free s1 np) upd_same
end
end Fl
namespace Fl
open PySem PySem.Spec PyProof.Rows L2
/-! ### tuples put together and cut -/
theorem catA_ok {K : PySem.W.Frag} {H : Hp} {a b : Addr} {xs ys : List V} {Q : VK} (ha : H a = some (.tup xs)) (hb : H b = some (.tup ys)) (hz : xs.length + ys.length ≤ 1000000) (k : ∀ p H', Same H H' → H' p = some (.tup (xs ++ ys)) → Q (.ref p) H') : rCatA K (.ref a) (.ref b) H Q := by
  refine ⟨a, b, xs, ys, rfl, rfl, SqT.of ha, SqT.of hb, sz hz, fun e => ?_, fun _ e => ?_, fun _ _ p np => ?_⟩
  · subst e
    exact k b H (Same.refl H) hb
  · subst e
    exact k a H (Same.refl H) (by rw [List.append_nil]; exact ha)
  · exact k p _ (same_upd np) upd_same
theorem slA_ok {K : PySem.W.Frag} {H : Hp} {a : Addr} {xs : List V} {lo hi : Option Int} {Q : VK} (ha : H a = some (.tup xs)) (k : ∀ p H', Same H H' → H' p = some (.tup (cutV xs lo hi)) → Q (.ref p) H') : rSlA K (.ref a) lo hi H Q := by
  refine ⟨a, xs, rfl, SqT.of ha, fun e => ?_, fun _ p np => k p _ (same_upd np) upd_same⟩
  refine k a H (Same.refl H) ?_
  unfold cutV
  rw [e.1, e.2, List.drop_zero, Nat.sub_zero, List.take_length]
  exact ha
theorem cut_from (xs : List V) (n : Nat) : cutV xs (some (n : Int)) none = xs.drop n := by
  unfold cutV
  rw [HT.sIx_nat, HT.sIx_none, List.take_of_length_le (by rw [List.length_drop]; omega)]
  rcases Nat.le_total n xs.length with h | h
  · rw [Nat.min_eq_left h]
  · rw [Nat.min_eq_right h, List.drop_eq_nil_of_le (Nat.le_refl _), List.drop_eq_nil_of_le h]
theorem cut_to (xs : List V) (n : Nat) : cutV xs none (some (n : Int)) = xs.take n := by
  unfold cutV
  rw [HT.sIx_nat, HT.sIx_none, List.drop_zero, Nat.sub_zero]
  rcases Nat.le_total n xs.length with h | h
  · rw [Nat.min_eq_left h]
  · rw [Nat.min_eq_right h, List.take_of_length_le (Nat.le_refl _), List.take_of_length_le h]
section
variable {P : Program} {w : World} {K : PySem.W.Frag} {mg : Str → Option Value} {base : Heap}
/-! ### line_hands -/
abbrev lineRs (rs : List Rn) (line : List Nat) : List Rn := line.filterMap fun i => rs[i]?
def There (rs : List Rn) (line : List Nat) : Prop := ∀ i ∈ line, ∃ q, rs[i]? = some q
theorem lineRs_map {rs : List Rn} : ∀ {line : List Nat}, There rs line → ∃ qs : List Rn, lineRs rs line = qs ∧ qs.length = line.length ∧ ∀ j i : Nat, line[j]? = some i → qs[j]? = rs[i]?
  | [], _ => ⟨[], rfl, rfl, fun j i h => by simp at h⟩
  | i :: line, h => by
    obtain ⟨qs, e1, e2, e3⟩ := lineRs_map (line := line) fun j hj => h j (List.mem_cons_of_mem _ hj)
    obtain ⟨q, hq⟩ := h i List.mem_cons_self
    refine ⟨q :: qs, ?_, by rw [List.length_cons, List.length_cons, e2], fun j k hk => ?_⟩
    · show List.filterMap (fun i => rs[i]?) (i :: line) = _
      rw [List.filterMap_cons, hq]
      show q :: lineRs rs line = _
      rw [e1]
    · cases j with
      | zero =>
        have e : i = k := by simpa using hk
        subst e
        exact hq.symm
      | succ j => exact e3 j k (by simpa using hk)
def spLineHands (K : PySem.W.Frag) : Sp := fun vs H Q _ => ∃ (a t : Addr) (ps : List (Addr × Rn)) (line : List Nat), vs = [.ref a, .ref t] ∧ Runs H a ps ∧ H t = some (.tup (nvs line)) ∧ There (rsOf ps) line ∧ line.length ≤ 50 ∧
  ∀ H' p hs, Same H H' → H p = none → H' p = some (.lst (ivs hs)) → HandsOk hs (lineRs (rsOf ps) line) → Q (.ref p) H'
theorem scLineHands : FnScope ["runs", "line", "at"] ["runs", "line"] (defScope (topS 18)) := ⟨rfl, rfl, rfl, by decide +kernel, rfl, by decide +kernel, by decide +kernel⟩
theorem pairs_of {H : Hp} {ns : List Int} : ∀ {acc : List V}, Paired (fun (n : Int) y => ∃ t, y = V.ref t ∧ H t = some (.tup [.int n, .bl true])) ns acc →
    ∃ ts : List Addr, acc = ts.map V.ref ∧ Paired (fun p (kv : Key × V) => SqT K H p [kV kv.1, kv.2]) ts (ns.map fun n => (Sum.inl n, V.bl true))
  | _, .nil => ⟨[], rfl, .nil⟩
  | _, .cons ⟨t, e, h⟩ tl => by
    obtain ⟨ts, e1, e2⟩ := pairs_of tl
    exact ⟨t :: ts, by rw [e, e1]; rfl, .cons (SqT.of h) e2⟩
theorem pr_map {α β γ : Type} {F : β → γ → Prop} {f : α → β} : ∀ {l : List α} {m : List γ}, Paired (fun x y => F (f x) y) l m → Paired F (l.map f) m
  | _, _, .nil => .nil
  | _, _, .cons r t => .cons r (pr_map t)
theorem ok_line_hands (D : Def K mg "line_hands" 18) (ms : mg "sorted" = none) (md : mg "dict" = none) : Good P w K mg base 1 "line_hands" ["runs", "line"] (spLineHands K) := by
  obtain ⟨f, fd, F, hm⟩ := D
  refine ⟨f, fd, F.kp, hm, F.bindsN (fun _ _ _ _ _ _ us hl => match us, hl with | [_, _], _ => rfl), F.ok scLineHands (fun vs H Q E h => ?_) (fun cdv A outer s H vs Q E hr h => ?_)⟩
  · obtain ⟨a, t, ps, line, rfl, _⟩ := h
    rfl
  obtain ⟨a, t, ps, line, rfl, hR, hT, th, hl, q⟩ := h
  have nd := scLineHands.nd
  refine ⟨_, PSs.nox (pss_one (ps_ret (pe_callB (call_sortedDI rfl) (by rfl) ms boot_sorted (pa_cons (pe_callTy (call_dictP rfl) (by rfl) md boot_dict (pa_cons
    (pe_lc (own := [("at", 2)]) (g := gName 2) (tt := tYes) rfl nd (pi_tup (pv 1)) (blkOk_by (own := [("at", 2)]) (N := ["runs", "line", "at"]) (sc := defScope (topS 18)) (by decide +kernel)) (fun _ _ _ _ _ => pg_name (i := 2) nd rfl (Or.inl rfl))
    (fun _ _ _ _ _ => pts_nil) (fun _ _ _ _ _ => pe_tup (pa_cons (pe_ix (r := rIxT K) ix_tup (pe_ix (r := rIxL K) ix_list (pv 0) (pv 2) (fun _ _ => rfl)) pe_int (fun _ _ => rfl)) (pa_cons pe_bl pa_nil)))) pa_nil)) pa_nil)))), ?_⟩
  obtain ⟨qs, eqs, lqs, gqs⟩ := lineRs_map th
  refine ⟨_, rfl, t, rfl, ⟨_, SqT.of hT⟩, fun D hD => ?_⟩
  refine lc_pair walk_tup (L := qs) (fun _ => true) (fun x y H => ∃ t, y = V.ref t ∧ H t = some (.tup [.int x.h, .bl true])) (by rw [List.length_map, lqs]) (by rw [List.length_map]; omega) (fun x y H H' ts r => by obtain ⟨t, e, h⟩ := r; exact ⟨t, e, ts _ _ h⟩) hD (fun H' s => SqT.of (s _ _ hT)) ?_ ?_
  · intro i x v H1 H2 hx s1 y Kp Sk hK hS'
    obtain ⟨rfl, hv⟩ := y
    rw [List.getElem?_map] at hv
    obtain ⟨n, hn, rfl⟩ := Option.map_eq_some_iff.mp hv
    have hxn := gqs i n hn
    rw [hx] at hxn
    have hxn := hxn.symm
    rw [List.getElem?_map] at hxn
    obtain ⟨p, hp, rfl⟩ := Option.map_eq_some_iff.mp hxn
    have hR1 := hR.mono s1
    have hp' := hR1.2 p (List.mem_of_getElem? hp)
    refine ⟨rfl, ?_⟩
    refine iteT (B := True) ?_
    refine ⟨_, rfl, _, rfl, _, _, _, _, rfl, rfl, SqL.of hR1.1, at_int (v := V.ref p.1) (by rw [List.getElem?_map, hp]; rfl), _, _, _, _, rfl, rfl, SqT.of hp', rfl, by show 2 ≤ sizeLine; decide, fun t ht => hK _ _ (same_upd ht) rfl ⟨t, rfl, upd_same⟩⟩
  · intro H' acc s1 hd pr
    rw [List.filter_eq_self.mpr (fun _ _ => rfl)] at pr
    obtain ⟨ts, ets, prt⟩ := pairs_of (K := K) (pr_map (f := Rn.h) (F := fun (n : Int) y => ∃ t, y = V.ref t ∧ H' t = some (.tup [.int n, .bl true])) pr)
    subst ets
    refine ⟨D, ts, _, rfl, SqL.of hd, prt, fun d hd2 => ?_⟩
    have s2 := same_upd (o := .dK (mergeK [] ((qs.map Rn.h).map fun n => (Sum.inl n, V.bl true)))) hd2
    obtain ⟨ks, k1, k2, k3, k4⟩ := keys_merge (qs.map Rn.h) [] [] rfl List.nodup_nil
    refine ⟨d, _, ks, rfl, Rd.of upd_same, k1, ?_, fun ys p pm pw hp => ?_⟩
    · rw [List.length_map, lqs] at k4
      simp at k4
      omega
    · obtain ⟨g1, g2⟩ := perm_hands pm pw k2 k3
      refine q _ p ys ((s1.trans s2).trans (same_upd hp)) (Same.free (s1.trans s2) hp) upd_same ⟨g1, fun h => ?_⟩
      rw [g2 h, List.mem_map, eqs]
/-! ### ways in the heap -/
def WaysH (H : Hp) (d : Addr) (W : List (Nat × List Nat)) : Prop := ∃ kvs : List (Key × V), H d = some (.dK kvs) ∧ Paired (fun (kv : Key × V) (e : Nat × List Nat) => kv.1 = Sum.inl (e.1 : Int) ∧ ∃ t, kv.2 = .ref t ∧ H t = some (.tup (nvs e.2))) kvs W
theorem WaysH.mono {H H' : Hp} {d : Addr} {W : List (Nat × List Nat)} (s : Same H H') (h : WaysH H d W) : WaysH H' d W := by
  obtain ⟨kvs, a, b⟩ := h
  exact ⟨kvs, s _ _ a, pr_imp (fun x y r => ⟨r.1, by obtain ⟨t, e1, e2⟩ := r.2; exact ⟨t, e1, s _ _ e2⟩⟩) b⟩
theorem ways_find {H : Hp} {kvs : List (Key × V)} {W : List (Nat × List Nat)} (pr : Paired (fun (kv : Key × V) (e : Nat × List Nat) => kv.1 = Sum.inl (e.1 : Int) ∧ ∃ t, kv.2 = .ref t ∧ H t = some (.tup (nvs e.2))) kvs W) (m : Nat) :
    (m ∉ W.map Prod.fst ∧ valV kvs (Sum.inl (m : Int)) = none) ∨ (∃ l t, (m, l) ∈ W ∧ valV kvs (Sum.inl (m : Int)) = some (.ref t) ∧ H t = some (.tup (nvs l))) := by
  induction pr with
  | nil => exact .inl ⟨by simp, rfl⟩
  | @cons kv e kvs W r _ ih =>
    obtain ⟨r1, t, r2, r3⟩ := r
    by_cases c : e.1 = m
    · refine .inr ⟨e.2, t, ?_, ?_, r3⟩
      · rw [← c]
        exact List.mem_cons_self
      · rw [valV_pos (by rw [r1, c]), r2]
    · have c' : ¬ kv.1 = Sum.inl (m : Int) := fun z => c (by rw [r1] at z; have := Sum.inl.inj z; omega)
      rcases ih with ⟨h1, h2⟩ | ⟨l, t', h1, h2, h3⟩
      · refine .inl ⟨?_, by rw [valV_neg c', h2]⟩
        rw [List.map_cons, List.mem_cons]
        rintro (z | z)
        · exact c z.symm
        · exact h1 z
      · exact .inr ⟨l, t', List.mem_cons_of_mem _ h1, by rw [valV_neg c', h2], h3⟩
theorem ways_get {H : Hp} {d : Addr} {W : List (Nat × List Nat)} {m : Nat} {l : List Nat} (h : WaysH H d W) (nd : (W.map Prod.fst).Nodup) (hm : (m, l) ∈ W) : ∃ t, DGet H d (.int (m : Int)) (some (.ref t)) ∧ H t = some (.tup (nvs l)) := by
  obtain ⟨kvs, e, pr⟩ := h
  rcases ways_find pr m with ⟨h1, _⟩ | ⟨l', t, h1, h2, h3⟩
  · exact absurd (List.mem_map.mpr ⟨_, hm, rfl⟩) h1
  · have el := key_inj nd hm h1
    subst el
    refine ⟨t, ?_, h3⟩
    rw [← h2]
    exact DGet.k (k := Sum.inl (m : Int)) e
theorem ways_in {H : Hp} {d : Addr} {W : List (Nat × List Nat)} (h : WaysH H d W) (m : Nat) : ∃ o, DGet H d (.int (m : Int)) o ∧ o.isSome = decide (m ∈ W.map Prod.fst) := by
  obtain ⟨kvs, e, pr⟩ := h
  refine ⟨_, DGet.k (k := Sum.inl (m : Int)) e, ?_⟩
  rcases ways_find pr m with ⟨h1, h2⟩ | ⟨l', t, h1, h2, h3⟩
  · rw [h2, decide_eq_false h1]
    rfl
  · rw [h2, decide_eq_true (List.mem_map.mpr ⟨_, h1, rfl⟩)]
    rfl
/-- one more way -/
theorem ways_put {H : Hp} {d t : Addr} {W : List (Nat × List Nat)} {m : Nat} {l : List Nat} (h : WaysH H d W) (new : m ∉ W.map Prod.fst) (ht : H t = some (.tup (nvs l))) :
    ∃ kvs, H d = some (.dK kvs) ∧ kvs.length = W.length ∧ WaysH (upd H d (.dK (putK kvs (Sum.inl (m : Int)) (.ref t)))) d (W ++ [(m, l)]) := by
  obtain ⟨kvs, e, pr⟩ := h
  refine ⟨kvs, e, pr_len pr, ?_⟩
  rcases ways_find pr m with ⟨h1, h2⟩ | ⟨l', t', h1, _⟩
  · rw [putK_new _ h2]
    have keep : ∀ {a : Addr} {xs : List V}, H a = some (.tup xs) → (upd H d (.dK (kvs ++ [(Sum.inl (m : Int), .ref t)]))) a = some (.tup xs) := fun {a xs} ha => by
      rw [upd_ne (ne_of ha e (by intro z; cases z))]
      exact ha
    refine ⟨_, upd_same, ?_⟩
    exact pr_snoc (pr_imp (fun x y r => ⟨r.1, by obtain ⟨z, e1, e2⟩ := r.2; exact ⟨z, e1, keep e2⟩⟩) pr) ⟨rfl, t, rfl, keep ht⟩
  · exact absurd (List.mem_map.mpr ⟨_, h1, rfl⟩) new
end
end Fl
namespace Fl
open PySem PySem.Spec PyProof.Rows L2
/-! ### next_ways -/
theorem runs_x {H H' : Hp} {a d : Addr} {ps : List (Addr × Rn)} {kvs : List (Key × V)} (x : SameX d H H') (hd : H d = some (.dK kvs)) (h : Runs H a ps) : Runs H' a ps :=
  ⟨x _ _ (ne_of h.1 hd (by intro z; cases z)) h.1, fun p hp => x _ _ (ne_of (h.2 p hp) hd (by intro z; cases z)) (h.2 p hp)⟩
theorem lst_x {H H' : Hp} {a d : Addr} {xs : List V} {kvs : List (Key × V)} (x : SameX d H H') (hd : H d = some (.dK kvs)) (h : H a = some (.lst xs)) : H' a = some (.lst xs) := x _ _ (ne_of h hd (by intro z; cases z)) h
theorem ways_x {H H' : Hp} {d o : Addr} {W : List (Nat × List Nat)} {xs : List V} (h : WaysH H d W) (x : SameX o H H') (ho : H o = some (.lst xs)) : WaysH H' d W := by
  obtain ⟨kvs, a, b⟩ := h
  exact ⟨kvs, x _ _ (ne_of a ho (by intro z; cases z)) a, pr_imp (fun k e r => ⟨r.1, by obtain ⟨t, e1, e2⟩ := r.2; exact ⟨t, e1, x _ _ (ne_of e2 ho (by intro z; cases z)) e2⟩⟩) b⟩
abbrev ks (W : List (Nat × List Nat)) : List Nat := W.map Prod.fst
/-- all unstruck runs at a mark lead to marks that were come to -/
def Done (rs : List Rn) (st : List Int) (W : List (Nat × List Nat)) (n : Nat) (m : Nat) : Prop := ∀ j q, j < n → rs[j]? = some q → q.h ∉ st → (m = q.a ∨ m = q.b) → q.a ∈ ks W ∧ q.b ∈ ks W
theorem WOk.few {rs : List Rn} {st : List Int} {size root : Nat} {W : List (Nat × List Nat)} (w : WOk rs st size root W) : W.length ≤ size := by
  have := nodup_range w.nd (n := size) fun x hx => by
    obtain ⟨⟨m, l⟩, h, e⟩ := List.mem_map.mp hx
    subst e
    exact w.small _ _ h
  rwa [List.length_map] at this
theorem WOk.short {rs : List Rn} {st : List Int} {size root : Nat} {W : List (Nat × List Nat)} (w : WOk rs st size root W) {m : Nat} {l : List Nat} (h : (m, l) ∈ W) : l.length ≤ rs.length :=
  nodup_range (w.nodup h) fun i hi => by
    obtain ⟨q, hq, _⟩ := w.free m l h i hi
    exact (List.getElem?_eq_some_iff.mp hq).1
theorem prop2_of {size : Nat} {ps : List (Addr × Rn)} (h : Marks size ps) : Prop2 (rsOf ps) := fun q hq => by
  obtain ⟨p, hp, rfl⟩ := List.mem_map.mp hq
  exact (h p hp).2.2
section
variable {P : Program} {w : World} {K : PySem.W.Frag} {mg : Str → Option Value} {base : Heap}
def spNextWays (K : PySem.W.Frag) : Sp := fun vs H Q _ => ∃ (a b d : Addr) (ps : List (Addr × Rn)) (st : List Int) (size root mark : Nat) (l : List Nat) (W : List (Nat × List Nat)), vs = [.ref a, .ref b, .ref d, .int mark] ∧ Runs H a ps ∧ H b = some (.lst (ivs st)) ∧ WaysH H d W ∧
  WOk (rsOf ps) st size root W ∧ (mark, l) ∈ W ∧ Marks size ps ∧ ps.length ≤ 50 ∧ size ≤ 1000 ∧
  ∀ H' p ext, SameX d H H' → H p = none → H' p = some (.lst (nvs (ks ext))) → WaysH H' d (W ++ ext) → WOk (rsOf ps) st size root (W ++ ext) → Done (rsOf ps) st (W ++ ext) ps.length mark → Q (.ref p) H'
theorem scNextWays : FnScope ["runs", "struck", "ways", "mark", "found", "at", "run", "there"] ["runs", "struck", "ways", "mark"] (defScope (topS 19)) := ⟨rfl, rfl, rfl, by decide +kernel, rfl, by decide +kernel, by decide +kernel⟩
structure NextAt (H : Hp) (d o : Addr) (ps : List (Addr × Rn)) (st : List Int) (size root mark : Nat) (W : List (Nat × List Nat)) (i : Nat) (H' : Hp) (ext : List (Nat × List Nat)) : Prop where
  x : SameX d H H'
  at_ : H' o = some (.lst (nvs (ks ext)))
  ways : WaysH H' d (W ++ ext)
  ok : WOk (rsOf ps) st size root (W ++ ext)
  done : Done (rsOf ps) st (W ++ ext) i mark
theorem NextAt.go {H H' H2 : Hp} {d o : Addr} {ps : List (Addr × Rn)} {st : List Int} {size root mark : Nat} {W : List (Nat × List Nat)} {i : Nat} {ext : List (Nat × List Nat)} {q : Rn} (n : NextAt H d o ps st size root mark W i H' ext) (s : Same H' H2) (hq : (rsOf ps)[i]? = some q)
    (h : q.h ∉ st → (mark = q.a ∨ mark = q.b) → q.a ∈ ks (W ++ ext) ∧ q.b ∈ ks (W ++ ext)) : NextAt H d o ps st size root mark W (i + 1) H2 ext := by
  refine ⟨n.x.thenS s, s _ _ n.at_, n.ways.mono s, n.ok, fun j q' hj hq' nh hm => ?_⟩
  by_cases e : j = i
  · subst e
    rw [hq] at hq'
    cases hq'
    exact h nh hm
  · exact n.done j q' (by omega) hq' nh hm
theorem ok_next_ways (D : Def K mg "next_ways" 19) (me : mg "enumerate" = none) : Good P w K mg base 1 "next_ways" ["runs", "struck", "ways", "mark"] (spNextWays K) := by
  obtain ⟨f, fd, F, hm⟩ := D
  refine ⟨f, fd, F.kp, hm, F.bindsN (fun _ _ _ _ _ _ us hl => match us, hl with | [_, _, _, _], _ => rfl), F.ok scNextWays (fun vs H Q E h => ?_) (fun cdv A outer s H vs Q E hr h => ?_)⟩
  · obtain ⟨a, b, d, ps, st, size, root, mark, l, W, rfl, _⟩ := h
    rfl
  obtain ⟨a, b, d, ps, st, size, root, mark, l, W, rfl, hR, hS, hW, ok0, hml, hM, few, small, q⟩ := h
  have nd := scNextWays.nd
  refine ⟨_, PSs.nox (pss_cons (ps_set (i := 4) nd rfl (.inl rfl) (pe_lst pa_nil))
    (pss_cons (ps_for PassesOwn.never rfl (pi_enum (by rfl) me (pa_cons (pv 0) pa_nil)) (pg_tup rfl (pgs_cons (pg_name (i := 5) nd rfl (.inl rfl)) (pgs_cons (pg_name (i := 6) nd rfl (.inl rfl)) pgs_nil)))
      (pss_one (ps_if (PW.pt (pw_and (pt_cmpR op_notIn_seq (pe_ix ix_tup (pv 6) pe_int (fun _ _ => rfl)) (pv 1) (by rfl)) (pw_and1 (pt_cmpR op_in_seq (pv 3) (pe_slice sl_tupA (pv 6) po_none (po_some pe_int)) (by rfl)))))
        (pss_cons (ps_set (i := 7) nd rfl (.inl rfl) (pe_op op_sub (pe_op op_add (pe_ix ix_tup (pv 6) pe_int (fun _ _ => rfl)) (pe_ix ix_tup (pv 6) pe_int (fun _ _ => rfl))) (pv 3)))
        (pss_one (ps_if (pt_cmp (pc_dnotin (hu1 hr) (pv 7) (pv 2)))
          (pss_cons (ps_dput (hu1 hr) (pv 2) (pv 7) (pe_op op_catA (pe_dget (hu1 hr) (pv 2) (pv 3) (fun _ _ => rfl)) (pe_tup (pa_cons (pv 5) pa_nil))) rfl)
          (pss_one (ps_expr (pe_bm PySem.F.plainAttrs_list PySem.F.slot_list_append PySem.F.type_list_append mt_append (pv 4) (pa_cons (pv 7) pa_nil)))))
          pss_nil)))
        pss_nil)))
    (pss_one (ps_ret (pv 4))))), ?_⟩
  refine ⟨by show 0 ≤ sizeLine; decide, fun o no => ?_⟩
  have s0 := same_upd (o := .lst []) no
  obtain ⟨kvs0, hd0, _⟩ := id hW
  have nod : o ≠ d := fun e => by
    subst e
    rw [hd0] at no
    cases no
  refine ⟨_, rfl, a, _, rfl, SqL.of (s0 _ _ hR.1), ?_⟩
  refine for_it walk_enum (fun i σ H' => ∃ ext, NextAt H d o ps st size root mark W i H' ext ∧ ∃ x5 x6 x7, σ = [some (.ref a), some (.ref b), some (.ref d), some (.int mark), some (.ref o), x5, x6, x7])
    ⟨[], ⟨same_x s0, upd_same, by rw [List.append_nil]; exact hW.mono s0, by rw [List.append_nil]; exact ok0, fun j q' hj => by omega⟩, _, _, _, rfl⟩ (fun i σ H' _ p => by obtain ⟨ext, n, _⟩ := p; exact SqL.of (runs_x n.x hd0 hR).1) ?_ ?_
  · rintro i v σ H' H1 hi ⟨ext, n, x5, x6, x7, rfl⟩ ⟨T, v1, v2, rfl, nT, rfl, e1, e2⟩
    cases e1
    have e2 : (ps.map fun p => V.ref p.1)[i]? = some v2 := e2
    rw [List.getElem?_map] at e2
    obtain ⟨pr, hp, rfl⟩ := Option.map_eq_some_iff.mp e2
    have hp2 : (rsOf ps)[i]? = some pr.2 := by rw [List.getElem?_map, hp]; rfl
    have hmem := List.mem_of_getElem? hp
    obtain ⟨qr, eqr⟩ : ∃ qr, qr = pr.2 := ⟨_, rfl⟩
    have s1 := same_upd (o := .tup [V.int (i : Int), V.ref pr.1]) nT
    have hR1 := (runs_x n.x hd0 hR).mono s1
    have hS1 := s1 _ _ (lst_x n.x hd0 hS)
    have hx1 := hR1.2 pr hmem
    rw [← eqr] at hx1 hp2
    have mab := hM pr hmem
    rw [← eqr] at mab
    refine ⟨T, _, rfl, SqT.of upd_same, rfl, _, _, rfl, _, _, rfl, rfl, ?_⟩
    refine ⟨_, rfl, _, _, _, _, rfl, rfl, SqT.of hx1, rfl, _, rfl, b, _, rfl, .inl (SqL.of hS1), rfl, flat_ivs st, _, rfl, ?_⟩
    rw [if_pos rfl, inV_int]
    by_cases hst : qr.h ∈ st
    · rw [decide_eq_true hst]
      refine iteF (A := True) ?_
      refine iteF (A := True) ?_
      exact ⟨ext, n.go s1 hp2 fun nh => absurd hst nh, _, _, _, rfl⟩
    · rw [decide_eq_false hst]
      refine iteT (B := True) ?_
      refine ⟨_, rfl, _, rfl, 2, rfl, slA_ok hx1 fun c H2 s2 ec => ?_⟩
      have ec2 : H2 c = some (.tup [V.int (qr.a : Int), V.int (qr.b : Int)]) := ec
      refine ⟨c, _, rfl, .inr (SqT.of ec2), rfl, rfl, _, rfl, ?_⟩
      rw [if_neg Bool.false_ne_true]
      have s12 := s1.trans s2
      by_cases hend : mark = qr.a ∨ mark = qr.b
      · have et : inV (.int (mark : Int)) [V.int (qr.a : Int), V.int (qr.b : Int)] = true := by
          show ((((qr.a : Int) == (mark : Int))) || (((qr.b : Int) == (mark : Int)) || false)) = true
          rcases hend with e | e
          · rw [e]; simp
          · rw [e]; simp
        rw [et]
        refine iteT (B := True) ?_
        obtain ⟨th, hz, hth⟩ : ∃ th : Nat, (qr.a : Int) + (qr.b : Int) - (mark : Int) = (th : Int) ∧ ((mark = qr.a ∧ th = qr.b) ∨ (mark = qr.b ∧ th = qr.a)) := by
          rcases hend with e | e
          · exact ⟨qr.b, by omega, .inl ⟨e, rfl⟩⟩
          · exact ⟨qr.a, by omega, .inr ⟨e, rfl⟩⟩
        have hx2 := s2 _ _ hx1
        have n2 := n.ways.mono s12
        refine ⟨_, rfl, _, _, _, _, rfl, rfl, SqT.of hx2, rfl, _, rfl, _, _, _, _, rfl, rfl, SqT.of hx2, rfl, _, _, rfl, rfl, _, rfl, _, _, rfl, rfl, ?_⟩
        have gi : ∃ r, DGet H2 d (.int ((qr.a : Int) + (qr.b : Int) - (mark : Int))) r ∧ r.isSome = decide (th ∈ ks (W ++ ext)) := by
          rw [hz]
          exact ways_in n2 th
        obtain ⟨r, g1, g2⟩ := gi
        refine ⟨_, rfl, _, rfl, d, r, rfl, g1, _, rfl, ?_⟩
        rw [g2]
        have mk : mark ∈ ks (W ++ ext) := List.mem_map.mpr ⟨_, List.mem_append_left _ hml, rfl⟩
        by_cases hin : th ∈ ks (W ++ ext)
        · rw [decide_eq_true hin]
          refine iteF (A := True) ?_
          refine ⟨ext, n.go s12 hp2 fun _ _ => ?_, _, _, _, rfl⟩
          rcases hth with ⟨e3, e4⟩ | ⟨e3, e4⟩
          · subst e3 e4
            exact ⟨mk, hin⟩
          · subst e3 e4
            exact ⟨hin, mk⟩
        · rw [decide_eq_false hin]
          refine iteT (B := True) ?_
          obtain ⟨t, g3, ht⟩ := ways_get n2 n.ok.nd (List.mem_append_left ext hml)
          refine ⟨_, rfl, _, rfl, d, _, rfl, g3, _, rfl, by show 1 ≤ sizeLine; decide, fun u nu => ?_⟩
          have s3 := same_upd (o := .tup [V.int (i : Int)]) nu
          have short := ok0.short hml
          refine catA_ok (s3 _ _ ht) upd_same ?_ fun r2 H4 s4 e4 => ?_
          · show (nvs l).length + 1 ≤ 1000000
            rw [List.length_map]
            rw [List.length_map] at short
            omega
          have e4' : H4 r2 = some (.tup (nvs (l ++ [i]))) := by
            rw [e4]
            show _ = some (HO.tup (List.map _ (l ++ [i])))
            rw [List.map_append]
            rfl
          have s14 := s12.trans (s3.trans s4)
          obtain ⟨kvs, ed, kl, wp⟩ := ways_put (n.ways.mono s14) hin e4'
          have few2 := n.ok.few
          rw [← hz] at wp
          refine ⟨_, rfl, _, rfl, d, _, rfl, DPut.k (k := Sum.inl ((qr.a : Int) + (qr.b : Int) - (mark : Int))) ed (by rw [kl]; exact szl (by omega)), ?_⟩
          have eo5 : (upd H4 d (.dK (putK kvs (Sum.inl ((qr.a : Int) + (qr.b : Int) - (mark : Int))) (.ref r2)))) o = some (.lst (nvs (ks ext))) := by
            rw [upd_ne nod]
            exact s14 _ _ n.at_
          have x5 : SameX d H (upd H4 d (.dK (putK kvs (Sum.inl ((qr.a : Int) + (qr.b : Int) - (mark : Int))) (.ref r2)))) := (n.x.thenS s14).trans SameX.upd
          revert eo5 x5 wp
          generalize upd H4 d (.dK (putK kvs (Sum.inl ((qr.a : Int) + (qr.b : Int) - (mark : Int))) (.ref r2))) = H5
          intro wp eo5 x5
          refine ⟨_, rfl, .inl ⟨rfl, _, SqL.of eo5⟩, _, rfl, o, _, _, rfl, rfl, eo5, ?_, ?_⟩
          · rw [List.length_map, List.length_map]
            rw [List.length_append] at few2
            exact szl (by omega)
          · have okn := n.ok.add (prop2_of hM) (List.mem_append_left ext hml) hp2 hst hth hin (by rcases hth with ⟨_, e⟩ | ⟨_, e⟩ <;> rw [e]; exact mab.2.1; exact mab.1)
            have okn2 : WOk (rsOf ps) st size root (W ++ (ext ++ [(th, l ++ [i])])) := by
              rw [← List.append_assoc]
              exact okn
            refine ⟨ext ++ [(th, l ++ [i])], ⟨x5.mutX SameX.upd no, ?_, ?_, okn2, ?_⟩, _, _, _, rfl⟩
            · rw [upd_same]
              show some (HO.lst (nvs (ks ext) ++ [V.int ((qr.a : Int) + (qr.b : Int) - (mark : Int))])) = some (HO.lst (List.map _ (List.map Prod.fst (ext ++ [(th, l ++ [i])]))))
              rw [hz, List.map_append, List.map_append]
              rfl
            · rw [← List.append_assoc]
              rw [hz] at *
              exact ways_x wp SameX.upd eo5
            · intro j q' hj hq' nh hmm
              have up : ∀ z, z ∈ ks (W ++ ext) → z ∈ ks (W ++ (ext ++ [(th, l ++ [i])])) := fun z h => by
                rw [← List.append_assoc, ks, List.map_append, List.mem_append]
                exact .inl h
              have tt : th ∈ ks (W ++ (ext ++ [(th, l ++ [i])])) := by
                rw [← List.append_assoc, ks, List.map_append, List.mem_append]
                exact .inr (by simp)
              by_cases e : j = i
              · subst e
                rw [hp2] at hq'
                cases hq'
                rcases hth with ⟨e3, e4⟩ | ⟨e3, e4⟩
                · rw [← e3, ← e4]
                  exact ⟨up _ mk, tt⟩
                · rw [← e3, ← e4]
                  exact ⟨tt, up _ mk⟩
              · have := n.done j q' (by omega) hq' nh hmm
                exact ⟨up _ this.1, up _ this.2⟩
      · have et : inV (.int (mark : Int)) [V.int (qr.a : Int), V.int (qr.b : Int)] = false := by
          show ((((qr.a : Int) == (mark : Int))) || (((qr.b : Int) == (mark : Int)) || false)) = false
          have c1 : ¬ (qr.a : Int) = (mark : Int) := fun z => hend (.inl (by omega))
          have c2 : ¬ (qr.b : Int) = (mark : Int) := fun z => hend (.inr (by omega))
          simp [c1, c2]
        rw [et]
        refine iteF (A := True) ?_
        exact ⟨ext, n.go s12 hp2 fun _ h => absurd h hend, _, _, _, rfl⟩
  · rintro σ H' ⟨ext, n, x5, x6, x7, rfl⟩
    rw [List.length_map] at n
    exact ⟨_, rfl, q H' o ext n.x no n.at_ n.ways n.ok n.done⟩
end
end Fl
namespace Fl
open PySem PySem.Spec PyProof.Rows L2
section
variable {P : Program} {w : World} {K : PySem.W.Frag} {mg : Str → Option Value} {base : Heap}
/-! ### ways_from -/
def Closed (rs : List Rn) (st : List Int) (W : List (Nat × List Nat)) : Prop := ∀ q ∈ rs, q.h ∉ st → (q.a ∈ ks W ↔ q.b ∈ ks W)
theorem Done.more {rs : List Rn} {st : List Int} {W ext : List (Nat × List Nat)} {n m : Nat} (h : Done rs st W n m) : Done rs st (W ++ ext) n m := fun j q hj hq nh hm => by
  obtain ⟨a, b⟩ := h j q hj hq nh hm
  rw [ks, List.map_append]
  exact ⟨List.mem_append_left _ a, List.mem_append_left _ b⟩
theorem closed_of {rs : List Rn} {st : List Int} {W : List (Nat × List Nat)} (h : ∀ x ∈ ks W, Done rs st W rs.length x) : Closed rs st W := fun q hq nh => by
  obtain ⟨j, hj, e⟩ := List.getElem_of_mem hq
  have e2 : rs[j]? = some q := by rw [List.getElem?_eq_getElem hj, e]
  exact ⟨fun ha => (h _ ha j q hj e2 nh (.inl rfl)).2, fun hb => (h _ hb j q hj e2 nh (.inr rfl)).1⟩
def spWaysFrom (K : PySem.W.Frag) : Sp := fun vs H Q _ => ∃ (a b : Addr) (ps : List (Addr × Rn)) (st : List Int) (size mark : Nat), vs = [.ref a, .ref b, .int mark] ∧ Runs H a ps ∧ H b = some (.lst (ivs st)) ∧ Marks size ps ∧ ps.length ≤ 50 ∧ size ≤ 1000 ∧ mark < size ∧
  ∀ H' d W, Same H H' → H d = none → WaysH H' d W → WOk (rsOf ps) st size mark W → Closed (rsOf ps) st W → Q (.ref d) H'
theorem scWaysFrom : FnScope ["runs", "struck", "mark", "ways", "some", "later", "here"] ["runs", "struck", "mark"] (defScope (topS 20)) := ⟨rfl, rfl, rfl, by decide +kernel, rfl, by decide +kernel, by decide +kernel⟩
/-- between two turns of the while -/
structure FromAt (H : Hp) (d s : Addr) (ps : List (Addr × Rn)) (st : List Int) (size mark : Nat) (H' : Hp) (W : List (Nat × List Nat)) (fs : List Nat) : Prop where
  sm : Same H H'
  ways : WaysH H' d W
  ok : WOk (rsOf ps) st size mark W
  at_ : H' s = some (.lst (nvs fs))
  sub : ∀ x ∈ fs, x ∈ ks W
  done : ∀ x ∈ ks W, x ∉ fs → Done (rsOf ps) st W ps.length x
/-- between two turns of the for -/
structure LaterAt (H : Hp) (d s o : Addr) (ps : List (Addr × Rn)) (st : List Int) (size mark : Nat) (W0 : List (Nat × List Nat)) (fs : List Nat) (i : Nat) (H' : Hp) (W : List (Nat × List Nat)) (ls : List Nat) : Prop where
  sm : Same H H'
  ways : WaysH H' d W
  ok : WOk (rsOf ps) st size mark W
  at_ : H' s = some (.lst (nvs fs))
  lat : H' o = some (.lst (nvs ls))
  sub : ∀ x ∈ fs, x ∈ ks W
  sub2 : ∀ x ∈ ls, x ∈ ks W
  done : ∀ x ∈ ks W, x ∈ fs.drop i ∨ x ∈ ls ∨ Done (rsOf ps) st W ps.length x
  count : W.length = W0.length + ls.length
theorem ok_ways_from (D : Def K mg "ways_from" 20) (GN : Good P w K mg base 1 "next_ways" ["runs", "struck", "ways", "mark"] (spNextWays K)) : Good P w K mg base 2 "ways_from" ["runs", "struck", "mark"] (spWaysFrom K) := by
  obtain ⟨f, fd, F, hm⟩ := D
  refine ⟨f, fd, F.kp, hm, F.bindsN (fun _ _ _ _ _ _ us hl => match us, hl with | [_, _, _], _ => rfl), F.ok scWaysFrom (fun vs H Q E h => ?_) (fun cdv A outer s H vs Q E hr h => ?_)⟩
  · obtain ⟨a, b, ps, st, size, mark, rfl, _⟩ := h
    rfl
  obtain ⟨a, b, ps, st, size, mark, rfl, hR, hS, hM, few, small, lt, q⟩ := h
  have nd := scWaysFrom.nd
  refine ⟨_, PSs.nox (pss_cons (ps_set (i := 3) nd rfl (.inl rfl) (pe_disp (pps_cons (pv 2) (pe_tup pa_nil) pps_nil) (by rfl) (by rfl) (fun z => by cases z) (by decide)))
    (pss_cons (ps_set (i := 4) nd rfl (.inl rfl) (pe_lst (pa_cons (pv 2) pa_nil)))
    (pss_cons (ps_while PassesOwn.never (pt_truth (pv 4) (by intro _; rfl))
      (pss_cons (ps_set (i := 5) nd rfl (.inl rfl) (pe_lst pa_nil))
      (pss_cons (ps_for PassesOwn.never rfl (pi_list (pv 4)) (pg_name (i := 6) nd rfl (.inl rfl))
        (pss_one (ps_expr (pe_bm PySem.F.plainAttrs_list PySem.F.slot_list_extend PySem.F.type_list_extend mt_extend (pv 5) (pa_cons (pe_callG GN hr (by rfl) (pa_cons (pv 0) (pa_cons (pv 1) (pa_cons (pv 3) (pa_cons (pv 6) pa_nil)))) pass0) pa_nil)))))
      (pss_one (ps_set (i := 4) nd rfl (.inl rfl) (pv 5))))))
    (pss_one (ps_ret (pv 3)))))), ?_⟩
  intro d nD
  have s1 := same_upd (o := .dK []) nD
  refine ⟨_, rfl, by show 0 ≤ sizeLine; decide, fun t nt => ?_⟩
  have s2 := same_upd (o := .tup []) nt
  refine ⟨s2 _ _ upd_same, [(Sum.inl (mark : Int), .ref t)], rfl, (by show 1 ≤ 15; decide), ?_⟩
  have ntd : t ≠ d := fun e => by
    subst e
    rw [upd_same] at nt
    cases nt
  have wy0 : WaysH (upd (upd (upd H d (.dK [])) t (.tup [])) d (.dK (mergeK [] [(Sum.inl (mark : Int), .ref t)]))) d [(mark, [])] :=
    ⟨_, upd_same, .cons ⟨rfl, t, rfl, by rw [upd_ne ntd, upd_same]; rfl⟩ .nil⟩
  have s3 : Same H (upd (upd (upd H d (.dK [])) t (.tup [])) d (.dK (mergeK [] [(Sum.inl (mark : Int), .ref t)]))) := same_mutX (s1.trans s2) SameX.upd nD
  revert wy0 s3
  generalize upd (upd (upd H d (.dK [])) t (.tup [])) d (.dK (mergeK [] [(Sum.inl (mark : Int), .ref t)])) = H3
  intro wy0 s3
  refine ⟨_, rfl, by show 1 ≤ sizeLine; decide, fun so nso => ?_⟩
  have s4 := same_upd (o := .lst [V.int (mark : Int)]) nso
  refine ⟨fun m σ H' => ∃ W fs s', FromAt H d s' ps st size mark H' W fs ∧ m = 2 * (size - W.length) + (if fs = [] then 0 else 1) ∧ ∃ x5 x6, σ = [some (.ref a), some (.ref b), some (.int mark), some (.ref d), some (.ref s'), x5, x6],
    ⟨_, [(mark, [])], [mark], so, ⟨s3.trans s4, wy0.mono s4, WOk.init lt, upd_same, fun x hx => by simpa using hx, fun x hx hn => absurd (by simpa using hx) hn⟩, rfl, _, _, rfl⟩, ?_⟩
  rintro m σ H' ⟨W, fs, s', fa, rfl, x5, x6, rfl⟩
  refine ⟨_, rfl, _, .inl ⟨_, SqL.of fa.at_, rfl⟩, ?_⟩
  have wfew := fa.ok.few
  cases fs with
  | nil =>
    refine iteF (A := True) ?_
    refine ⟨_, rfl, q H' d W fa.sm nD fa.ways fa.ok (closed_of fun x hx => ?_)⟩
    have := fa.done x hx (by simp)
    rw [List.length_map]
    exact this
  | cons m0 fs0 =>
    refine iteT (B := True) ?_
    refine ⟨_, fun σ' H2 p => p, ?_⟩
    refine ⟨by show 0 ≤ sizeLine; decide, fun o no => ?_⟩
    have s5 := same_upd (o := .lst []) no
    have nO : H o = none := Same.free fa.sm no
    have noS : s' ≠ o := ne_of_none fa.at_ no
    refine ⟨_, rfl, s', rfl, ⟨_, SqL.of (s5 _ _ fa.at_)⟩, ?_⟩
    refine for_list (K := K) (xs := nvs (m0 :: fs0)) (fun i σ H' => ∃ W2 ls, LaterAt H d s' o ps st size mark W (m0 :: fs0) i H' W2 ls ∧ ∃ x6, σ = [some (.ref a), some (.ref b), some (.int mark), some (.ref d), some (.ref s'), some (.ref o), x6])
      ⟨W, [], ⟨fa.sm.trans s5, fa.ways.mono s5, fa.ok, s5 _ _ fa.at_, upd_same, fa.sub, fun x hx => (by cases hx), fun x hx => ?_, rfl⟩, _, rfl⟩ (fun i σ H' _ p => by obtain ⟨W2, ls, la, _⟩ := p; exact SqL.of la.at_) ?_ ?_
    · by_cases h : x ∈ m0 :: fs0
      · exact .inl h
      · exact .inr (.inr (fa.done x hx h))
    · rintro i v σ H2 hv ⟨W2, ls, la, y6, rfl⟩
      rw [List.getElem?_map] at hv
      obtain ⟨m, hmi, rfl⟩ := Option.map_eq_some_iff.mp hv
      obtain ⟨⟨m', l⟩, hml, e⟩ := List.mem_map.mp (la.sub m (List.mem_of_getElem? hmi))
      have e : m' = m := e
      subst e
      refine ⟨_, rfl, .inl ⟨rfl, _, SqL.of la.lat⟩, _, rfl, _, rfl, _, rfl, _, rfl, a, b, d, ps, st, size, mark, m', l, W2, rfl, hR.mono la.sm, la.sm _ _ hS, la.ways, la.ok, hml, hM, few, small, fun H3' p ext x3 np ep wp okp dn => ?_⟩
      obtain ⟨kvs, hd2, _⟩ := id la.ways
      have lat3 := lst_x x3 hd2 la.lat
      have at3 := lst_x x3 hd2 la.at_
      have npo : p ≠ o := fun e => by
        subst e
        rw [la.lat] at np
        cases np
      have few2 := okp.few
      rw [List.length_append] at few2
      refine ⟨o, p, _, _, rfl, rfl, lat3, ep, ?_, ?_⟩
      · rw [List.length_map, List.length_map, List.length_map]
        have := la.count
        exact sz (by omega)
      · refine ⟨W2 ++ ext, ls ++ ks ext, ⟨same_mutX (same_mutX la.sm x3 nD) SameX.upd nO, ways_x wp SameX.upd lat3, okp, ?_, ?_, fun x hx => ?_, fun x hx => ?_, fun x hx => ?_, ?_⟩, _, rfl⟩
        · rw [upd_ne noS]
          exact at3
        · rw [upd_same]
          show some (HO.lst (nvs ls ++ nvs (ks ext))) = some (HO.lst (List.map _ (ls ++ ks ext)))
          rw [List.map_append]
        · rw [ks, List.map_append]
          exact List.mem_append_left _ (la.sub x hx)
        · rw [ks, List.map_append]
          rcases List.mem_append.mp hx with hx | hx
          · exact List.mem_append_left _ (la.sub2 x hx)
          · exact List.mem_append_right _ hx
        · rw [ks, List.map_append] at hx
          rcases List.mem_append.mp hx with hx | hx
          · rcases la.done x hx with h | h | h
            · have ed : (m0 :: fs0).drop i = m' :: (m0 :: fs0).drop (i + 1) := by
                obtain ⟨h1, h2⟩ := List.getElem?_eq_some_iff.mp hmi
                rw [← h2]
                exact List.drop_eq_getElem_cons h1
              rw [ed] at h
              rcases List.mem_cons.mp h with h | h
              · subst h
                exact .inr (.inr dn)
              · exact .inl h
            · exact .inr (.inl (List.mem_append_left _ h))
            · exact .inr (.inr h.more)
          · exact .inr (.inl (List.mem_append_right _ hx))
        · rw [List.length_append, List.length_append, List.length_map, la.count]
          omega
    · rintro σ H2 ⟨W2, ls, la, y6, rfl⟩
      have few2 := la.ok.few
      have cnt := la.count
      refine ⟨_, rfl, ?_⟩
      refine ⟨2 * (size - W2.length) + (if ls = [] then 0 else 1), ?_, W2, ls, o, ⟨la.sm, la.ways, la.ok, la.lat, la.sub2, fun x hx hn => ?_⟩, rfl, _, _, rfl⟩
      · rw [if_neg (show ¬ (m0 :: fs0 = []) by simp)]
        cases ls with
        | nil =>
          rw [if_pos rfl]
          simp at cnt
          omega
        | cons _ _ =>
          rw [if_neg (by simp)]
          rw [List.length_cons] at cnt
          omega
      · rcases la.done x hx with h | h | h
        · rw [List.length_map, List.drop_length] at h
          cases h
        · exact absurd h hn
        · exact h
/-! ### some_line -/
def spSomeLine (K : PySem.W.Frag) : Sp := fun vs H Q _ => ∃ (a b : Addr) (ps : List (Addr × Rn)) (st : List Int) (size one other : Nat) (sv : V), vs = [sv, .ref a, .ref b, .int one, .int other] ∧ Runs H a ps ∧ H b = some (.lst (ivs st)) ∧ Marks size ps ∧ ps.length ≤ 50 ∧ size ≤ 1000 ∧ one < size ∧
  (∀ H' t l h, Same H H' → H' t = some (.tup (nvs l)) → l.Nodup → Free (rsOf ps) st l → walkF (rsOf ps) one l = some (other, h) → Q (.ref t) H') ∧
  (∀ H', Same H H' → (∀ l h, Free (rsOf ps) st l → walkF (rsOf ps) one l ≠ some (other, h)) → Q .non H')
theorem scSomeLine : FnScope ["size", "runs", "struck", "one", "other"] ["size", "runs", "struck", "one", "other"] (defScope (topS 21)) := ⟨rfl, rfl, rfl, by decide +kernel, rfl, by decide +kernel, by decide +kernel⟩
theorem ok_some_line (D : Def K mg "some_line" 21) (GW : Good P w K mg base 2 "ways_from" ["runs", "struck", "mark"] (spWaysFrom K)) : Good P w K mg base 3 "some_line" ["size", "runs", "struck", "one", "other"] (spSomeLine K) := by
  obtain ⟨f, fd, F, hm⟩ := D
  refine ⟨f, fd, F.kp, hm, F.bindsN (fun _ _ _ _ _ _ us hl => match us, hl with | [_, _, _, _, _], _ => rfl), F.ok scSomeLine (fun vs H Q E h => ?_) (fun cdv A outer s H vs Q E hr h => ?_)⟩
  · obtain ⟨a, b, ps, st, size, one, other, sv, rfl, _⟩ := h
    rfl
  obtain ⟨a, b, ps, st, size, one, other, sv, rfl, hR, hS, hM, few, small, lt, q1, q2⟩ := h
  refine ⟨_, PSs.nox (pss_one (ps_ret (pe_dget2 (hu1 hr) (pe_callG GW hr (by rfl) (pa_cons (pv 1) (pa_cons (pv 2) (pa_cons (pv 3) pa_nil))) pass0) (pv 4) pe_non ⟨by rfl, by rfl, by rfl, by rfl⟩))), ?_⟩
  refine ⟨_, rfl, _, rfl, _, rfl, a, b, ps, st, size, one, rfl, hR, hS, hM, few, small, lt, fun H1 d W s1 nD wy ok cl => ?_⟩
  obtain ⟨kvs, ed, pr⟩ := id wy
  refine ⟨d, rfl, .inl ⟨kvs, Rd.of ed⟩, _, rfl, ?_⟩
  by_cases hin : other ∈ ks W
  · obtain ⟨⟨m, l⟩, hml, e⟩ := List.mem_map.mp hin
    have e : m = other := e
    subst e
    obtain ⟨t, g, ht⟩ := ways_get wy ok.nd hml
    obtain ⟨h, hw⟩ := ok.walk m l hml
    exact ⟨_, g, q1 H1 t l h s1 ht (ok.nodup hml) (ok.freeL hml) hw⟩
  · refine ⟨none, ?_, ?_⟩
    · rcases ways_find pr other with ⟨_, h2⟩ | ⟨l, t, h1, _⟩
      · rw [← h2]
        exact DGet.k (k := Sum.inl (other : Int)) ed
      · exact absurd (List.mem_map.mpr ⟨_, h1, rfl⟩) hin
    · refine q2 H1 s1 fun l h fr hw => hin ?_
      have z : one ∈ ks W := List.mem_map.mpr ⟨_, ok.zero, rfl⟩
      -- along the line one stays among the marks that were come to
      have go : ∀ (l : List Nat) (m e : Nat) (h : Int), m ∈ ks W → Free (rsOf ps) st l → walkF (rsOf ps) m l = some (e, h) → e ∈ ks W := by
        intro l
        induction l with
        | nil =>
          intro m e h hm _ k
          have k : some (m, (0 : Int)) = some (e, h) := k
          cases k
          exact hm
        | cons i l ih =>
          intro m e h hm fr k
          obtain ⟨e1, h1, k1, k2⟩ := walkF_split (l := [i]) (l' := l) k
          have s1 : stepW (rsOf ps) (m, 0) i = some (e1, h1) := by
            have k1 : (match stepW (rsOf ps) (m, 0) i with | none => none | some st' => some st') = some (e1, h1) := k1
            cases s : stepW (rsOf ps) (m, 0) i with
            | none => rw [s] at k1; cases k1
            | some t => rw [s] at k1; exact k1
          obtain ⟨qr, eq, c⟩ := stepW_inv s1
          obtain ⟨q', eq', nh⟩ := fr i List.mem_cons_self
          rw [eq] at eq'
          cases eq'
          have cq := cl qr (mem_of_get eq) nh
          refine ih e1 e _ ?_ (fr.sub fun j hj => List.mem_cons_of_mem _ hj) k2
          rcases c with ⟨c1, c2⟩ | ⟨_, c1, c2⟩
          · rw [(Prod.mk.inj c2).1]
            exact cq.mp (by rw [← show m = qr.a from c1]; exact hm)
          · rw [(Prod.mk.inj c2).1]
            exact cq.mpr (by rw [← show m = qr.b from c1]; exact hm)
      exact go l one other h z fr hw
end
end Fl
namespace Fl
open PySem PySem.Spec PyProof.Rows L2
section
variable {P : Program} {w : World} {K : PySem.W.Frag} {mg : Str → Option Value} {base : Heap}
theorem marks_up {size n : Nat} {ps : List (Addr × Rn)} (h : Marks size ps) (le : size ≤ n) : Marks n ps := fun p hp => by
  obtain ⟨a, b, c⟩ := h p hp
  exact ⟨by omega, by omega, c⟩
/-! ### ring_by -/
def spRingBy (K : PySem.W.Frag) : Sp := fun vs H Q _ => ∃ (a d : Addr) (ps : List (Addr × Rn)) (st : List Int) (size mark at_ : Nat) (W : List (Nat × List Nat)) (q0 : Rn) (la lb : List Nat), vs = [.ref a, .ref d, .int mark, .int at_] ∧ Runs H a ps ∧ WaysH H d W ∧ WOk (rsOf ps) st size mark W ∧
  (rsOf ps)[at_]? = some q0 ∧ q0.h ∉ st ∧ (q0.a, la) ∈ W ∧ (q0.b, lb) ∈ W ∧ ht (rsOf ps) mark la + q0.r ≠ ht (rsOf ps) mark lb ∧ Marks size ps ∧ ps.length ≤ 50 ∧ size ≤ 1000 ∧
  ∀ H' p r start l, Same H H' → H' p = some (.tup [.int (start : Nat), .ref r]) → H' r = some (.tup (nvs l)) → RingOk (rsOf ps) st size start l → Q (.ref p) H'
theorem scRingBy : FnScope ["runs", "ways", "mark", "at", "here", "there", "same", "start"] ["runs", "ways", "mark", "at"] (defScope (topS 22)) := ⟨rfl, rfl, rfl, by decide +kernel, rfl, by decide +kernel, by decide +kernel⟩
theorem ok_ring_by (D : Def K mg "ring_by" 22) (ml : mg "len" = none) (mm : mg "min" = none) (GK : Good P w K mg base 1 "walked" ["runs", "mark", "line"] (spWalked K)) : Good P w K mg base 2 "ring_by" ["runs", "ways", "mark", "at"] (spRingBy K) := by
  obtain ⟨f, fd, F, hm⟩ := D
  refine ⟨f, fd, F.kp, hm, F.bindsN (fun _ _ _ _ _ _ us hl => match us, hl with | [_, _, _, _], _ => rfl), F.ok scRingBy (fun vs H Q E h => ?_) (fun cdv A outer s H vs Q E hr h => ?_)⟩
  · obtain ⟨a, d, ps, st, size, mark, at_, W, q0, la, lb, rfl, _⟩ := h
    rfl
  obtain ⟨a, d, ps, st, size, mark, at_, W, q0, la, lb, rfl, hR, hW, ok, hq, nh, ha, hb, hne, hM, few, small, q⟩ := h
  have nd := scRingBy.nd
  refine ⟨_, PSs.nox (pss_cons (ps_set (i := 4) nd rfl (.inl rfl) (pe_dget (hu1 hr) (pv 1) (pe_ix ix_tup (pe_ix ix_list (pv 0) (pv 3) (fun _ _ => rfl)) pe_int (fun _ _ => rfl)) (fun _ _ => rfl)))
    (pss_cons (ps_set (i := 5) nd rfl (.inl rfl) (pe_dget (hu1 hr) (pv 1) (pe_ix ix_tup (pe_ix ix_list (pv 0) (pv 3) (fun _ _ => rfl)) pe_int (fun _ _ => rfl)) (fun _ _ => rfl)))
    (pss_cons (ps_set (i := 6) nd rfl (.inl rfl) pe_int)
    (pss_cons (ps_while PassesOwn.never (PW.pt (pw_and (pt_cmpR op_lt (pv 6) (pe_callB (call_min2 rfl) (by rfl) mm boot_min (pa_cons (pe_callB call_len_seq (by rfl) ml PySem.boot_len (pa_cons (pv 4) pa_nil)) (pa_cons (pe_callB call_len_seq (by rfl) ml PySem.boot_len (pa_cons (pv 5) pa_nil)) pa_nil))) (nomark _))
        (pw_and1 (pt_cmpR op_eq (pe_ix ix_tup (pv 4) (pv 6) (fun _ _ => rfl)) (pe_ix ix_tup (pv 5) (pv 6) (fun _ _ => rfl)) (nomark _))))) (pss_one (ps_aug (i := 6) nd rfl (.inl rfl) pe_int ip_add)))
    (pss_cons (ps_set (i := 7) nd rfl (.inl rfl) (pe_ix ix_tup (pe_callG GK hr (by rfl) (pa_cons (pv 0) (pa_cons (pv 2) (pa_cons (pe_slice sl_tupA (pv 4) po_none (po_some (pv 6))) pa_nil))) pass0) pe_int (fun _ _ => rfl)))
    (pss_one (ps_ret (pe_tup (pa_cons (pv 7) (pa_cons (pe_op op_catA (pe_op op_catA (pe_slice sl_tupA (pv 4) (po_some (pv 6)) po_none) (pe_tup (pa_cons (pv 3) pa_nil))) (pe_revT (pe_slice sl_tupA (pv 5) (po_some (pv 6)) po_none))) pa_nil)))))))))), ?_⟩
  obtain ⟨p, hp, rfl⟩ := Option.map_eq_some_iff.mp (by rw [List.getElem?_map] at hq; exact hq)
  have hx := hR.2 p (List.mem_of_getElem? hp)
  have hat : atI (ps.map fun p => V.ref p.1) (at_ : Int) = some (V.ref p.1) := at_int (by rw [List.getElem?_map, hp]; rfl)
  obtain ⟨ta, ga, ea⟩ := ways_get hW ok.nd ha
  obtain ⟨tb, gb, eb⟩ := ways_get hW ok.nd hb
  have p2 := prop2_of hM
  refine ⟨_, rfl, _, rfl, _, rfl, _, _, _, _, rfl, rfl, SqL.of hR.1, hat, _, _, _, _, rfl, rfl, SqT.of hx, rfl, d, _, rfl, ga, ?_⟩
  refine ⟨_, rfl, _, rfl, _, rfl, _, _, _, _, rfl, rfl, SqL.of hR.1, hat, _, _, _, _, rfl, rfl, SqT.of hx, rfl, d, _, rfl, gb, ?_⟩
  refine ⟨fun m σ H' => ∃ same : Nat, H' = H ∧ same ≤ la.length ∧ same ≤ lb.length ∧ la.take same = lb.take same ∧ m = la.length - same ∧
      ∃ x7, σ = [some (.ref a), some (.ref d), some (.int mark), some (.int at_), some (.ref ta), some (.ref tb), some (.int same), x7],
    ⟨_, 0, rfl, Nat.zero_le _, Nat.zero_le _, by rw [List.take_zero, List.take_zero], rfl, _, rfl⟩, ?_⟩
  rintro m σ H' ⟨same, rfl, l1, l2, et, rfl, x7, rfl⟩
  have lla : (nvs la).length = la.length := List.length_map _
  have llb : (nvs lb).length = lb.length := List.length_map _
  have em : (if (((nvs lb).length : Nat) : Int) < (((nvs la).length : Nat) : Int) then (((nvs lb).length : Nat) : Int) else (((nvs la).length : Nat) : Int)) = ((min la.length lb.length : Nat) : Int) := by
    rw [lla, llb]
    split <;> omega
  -- what stands behind the loop
  have after : (∀ c u' v', la.drop same = c :: u' → lb.drop same = c :: v' → False) →
      tSeq (tAsg (tOp (rIxT K) (tCall (spWalked K) [] E0 (tCons (tVar 0) (tCons (tVar 2) (tCons (tSl (rSlA K) (tVar 4) tNoPart (tPart (tVar 6))) tNil)))) (tC (.int 0))) (gName 7))
        (tRet (tTup (tCons (tVar 7) (tCons (tOp (rCatA K) (tOp (rCatA K) (tSl (rSlA K) (tVar 4) (tPart (tVar 6)) tNoPart) (tTup (tCons (tVar 3) tNil))) (tRevT K (tSl (rSlA K) (tVar 5) (tPart (tVar 6)) tNoPart))) tNil))))
        { nx := fun _ H' => Q .non H', rt := Q } [some (.ref a), some (.ref d), some (.int mark), some (.int at_), some (.ref ta), some (.ref tb), some (.int same), x7] H' := by
    intro part
    have sa : la = la.take same ++ la.drop same := (List.take_append_drop _ _).symm
    have sb : lb = la.take same ++ lb.drop same := by rw [et]; exact (List.take_append_drop _ _).symm
    have ha2 : (p.2.a, la.take same ++ la.drop same) ∈ W := by rw [← sa]; exact ha
    have hb2 : (p.2.b, la.take same ++ lb.drop same) ∈ W := by rw [← sb]; exact hb
    obtain ⟨start, h0, kw, ring⟩ := ring_of ok p2 hq nh ha2 hb2 (by rw [← sa, ← sb]; exact hne) part
    have sha := ok.short ha
    have shb := ok.short hb
    rw [List.length_map] at sha shb
    refine ⟨_, rfl, _, rfl, _, rfl, _, rfl, _, rfl, slA_ok ea fun c H2 s2 ec => ?_⟩
    rw [cut_to, ← List.map_take] at ec
    refine ⟨a, c, ps, mark, la.take same, start, h0, rfl, hR.mono s2, ec, marks_up hM small, (ok.nodup ha).sublist (List.take_sublist _ _), (by rw [List.length_take]; omega), kw, fun H3 z s3 nz ez => ?_⟩
    refine ⟨_, _, _, _, rfl, rfl, SqT.of ez, rfl, ?_⟩
    have s23 := s2.trans s3
    refine ⟨_, rfl, _, rfl, _, rfl, _, rfl, ?_⟩
    delta tNoPart
    refine slA_ok (s23 _ _ ea) fun c2 H4 s4 ec2 => ?_
    rw [cut_from, ← List.map_drop] at ec2
    refine ⟨_, rfl, by show 1 ≤ sizeLine; decide, fun u nu => ?_⟩
    have s5 := same_upd (o := .tup [V.int (at_ : Int)]) nu
    refine catA_ok (s5 _ _ ec2) upd_same (by rw [List.length_map, List.length_drop, List.length_singleton]; omega) fun c3 H6 s6 ec3 => ?_
    have s36 := (s4.trans s5).trans s6
    refine ⟨_, rfl, _, rfl, _, rfl, ?_⟩
    refine slA_ok ((s23.trans s36) _ _ eb) fun c4 H7 s7 ec4 => ?_
    rw [cut_from, ← List.map_drop] at ec4
    refine ⟨c4, _, rfl, SqT.of ec4, fun c5 n5 => ?_⟩
    have s8 := same_upd (o := .tup (nvs (lb.drop same)).reverse) n5
    refine catA_ok (s8 _ _ (s7 _ _ ec3)) upd_same (by rw [List.length_append, List.length_map, List.length_reverse, List.length_map, List.length_drop, List.length_drop, List.length_singleton]; omega) fun c6 H9 s9 ec6 => ?_
    refine ⟨by show 2 ≤ sizeLine; decide, fun r nr => ?_⟩
    have s10 := same_upd (o := .tup [V.int (start : Int), V.ref c6]) nr
    refine q _ r c6 start _ ((s23.trans s36).trans ((s7.trans s8).trans (s9.trans s10))) upd_same ?_ ring
    rw [s10 _ _ ec6]
    show _ = some (HO.tup (List.map _ (la.drop same ++ [at_] ++ (lb.drop same).reverse)))
    rw [List.map_append, List.map_append, List.map_reverse]
    rfl
  refine ⟨_, rfl, _, rfl, ta, _, rfl, .inr (SqT.of ea), _, rfl, tb, _, rfl, .inr (SqT.of eb), _, _, rfl, _, _, rfl, rfl, _, rfl, ?_⟩
  rw [em]
  by_cases lt : (same : Int) < ((min la.length lb.length : Nat) : Int)
  · rw [decide_eq_true lt]
    refine iteT (B := True) ?_
    have la' : same < la.length := by omega
    have lb' : same < lb.length := by omega
    have ga2 : (nvs la)[same]? = some (.int (la[same] : Nat)) := by rw [List.getElem?_map, List.getElem?_eq_getElem la']; rfl
    have gb2 : (nvs lb)[same]? = some (.int (lb[same] : Nat)) := by rw [List.getElem?_map, List.getElem?_eq_getElem lb']; rfl
    refine ⟨_, rfl, _, rfl, _, _, _, _, rfl, rfl, SqT.of ea, at_int ga2, _, rfl, _, rfl, _, _, _, _, rfl, rfl, SqT.of eb, at_int gb2, rfl, _, rfl, ?_⟩
    by_cases e : la[same] = lb[same]
    · rw [decide_eq_true (by rw [e])]
      refine iteT (B := True) ?_
      refine ⟨_, fun σ' H2 p => p, ?_⟩
      refine ⟨_, rfl, _, _, rfl, rfl, ?_⟩
      refine ⟨la.length - (same + 1), by omega, same + 1, rfl, la', lb', ?_, rfl, x7, rfl⟩
      rw [List.take_add_one, List.take_add_one, et, List.getElem?_eq_getElem la', List.getElem?_eq_getElem lb', e]
    · have e' : ¬ V.int (la[same] : Nat) = V.int (lb[same] : Nat) := fun z => e (by have := V.int.inj z; omega)
      rw [decide_eq_false e']
      refine iteF (A := True) ?_
      refine after fun c u' v' h1 h2 => ?_
      rw [List.drop_eq_getElem_cons la'] at h1
      rw [List.drop_eq_getElem_cons lb'] at h2
      exact e ((List.cons.inj h1).1.trans (List.cons.inj h2).1.symm)
  · rw [decide_eq_false lt]
    refine iteF (A := True) ?_
    refine iteF (A := True) ?_
    refine after fun c u' v' h1 h2 => ?_
    have d1 := congrArg List.length h1
    have d2 := congrArg List.length h2
    rw [List.length_drop, List.length_cons] at d1 d2
    omega
end
end Fl
namespace Fl
open PySem PySem.Spec PyProof.Rows L2
/-- a potential on all that hangs together with a mark by unstruck runs -/
def Pot (rs : List Rn) (st : List Int) (root : Nat) : Prop := ∃ (S : Nat → Prop) (p : Nat → Int), S root ∧ ∀ q ∈ rs, q.h ∉ st → ((S q.a ↔ S q.b) ∧ (S q.a → p q.b = p q.a + q.r))
theorem pot_of {rs : List Rn} {st : List Int} {size root : Nat} {W : List (Nat × List Nat)} (w : WOk rs st size root W) (cl : Closed rs st W)
    (con : ∀ q ∈ rs, q.h ∉ st → ∀ la lb, (q.a, la) ∈ W → (q.b, lb) ∈ W → ht rs root la + q.r = ht rs root lb) : Pot rs st root := by
  have pick : ∀ m, ∃ z : Int, ∀ l, (m, l) ∈ W → z = ht rs root l := fun m => by
    by_cases h : ∃ l, (m, l) ∈ W
    · obtain ⟨l, hl⟩ := h
      exact ⟨ht rs root l, fun l' hl' => by rw [key_inj w.nd hl hl']⟩
    · exact ⟨0, fun l hl => absurd ⟨l, hl⟩ h⟩
  refine ⟨fun m => m ∈ ks W, fun m => Classical.choose (pick m), List.mem_map.mpr ⟨_, w.zero, rfl⟩, fun q hq nh => ⟨cl q hq nh, fun ha => ?_⟩⟩
  have hb := (cl q hq nh).mp ha
  obtain ⟨⟨ma, la⟩, h1, e1⟩ := List.mem_map.mp ha
  obtain ⟨⟨mb, lb⟩, h2, e2⟩ := List.mem_map.mp hb
  have e1 : ma = q.a := e1
  have e2 : mb = q.b := e2
  subst e1 e2
  show Classical.choose (pick q.b) = Classical.choose (pick q.a) + q.r
  rw [Classical.choose_spec (pick q.a) la h1, Classical.choose_spec (pick q.b) lb h2]
  exact (con q hq nh la lb h1 h2).symm
section
variable {P : Program} {w : World} {K : PySem.W.Frag} {mg : Str → Option Value} {base : Heap}
/-! ### open_from -/
def spOpenFrom (K : PySem.W.Frag) : Sp := fun vs H Q _ => ∃ (a b d : Addr) (ps : List (Addr × Rn)) (st : List Int) (size mark : Nat) (W : List (Nat × List Nat)), vs = [.ref a, .ref b, .ref d, .int mark] ∧ Runs H a ps ∧ H b = some (.lst (ivs st)) ∧ WaysH H d W ∧ WOk (rsOf ps) st size mark W ∧ Closed (rsOf ps) st W ∧
  Marks size ps ∧ ps.length ≤ 50 ∧ size ≤ 1000 ∧
  (∀ H' p r start l, Same H H' → H' p = some (.tup [.int (start : Nat), .ref r]) → H' r = some (.tup (nvs l)) → RingOk (rsOf ps) st size start l → Q (.ref p) H') ∧
  (∀ H', Same H H' → Pot (rsOf ps) st mark → Q .non H')
theorem scOpenFrom : FnScope ["runs", "struck", "ways", "mark", "at", "run", "here", "there"] ["runs", "struck", "ways", "mark"] (defScope (topS 23)) := ⟨rfl, rfl, rfl, by decide +kernel, rfl, by decide +kernel, by decide +kernel⟩
theorem ok_open_from (D : Def K mg "open_from" 23) (me : mg "enumerate" = none) (GK : Good P w K mg base 1 "walked" ["runs", "mark", "line"] (spWalked K)) (GR : Good P w K mg base 2 "ring_by" ["runs", "ways", "mark", "at"] (spRingBy K)) : Good P w K mg base 3 "open_from" ["runs", "struck", "ways", "mark"] (spOpenFrom K) := by
  obtain ⟨f, fd, F, hm⟩ := D
  refine ⟨f, fd, F.kp, hm, F.bindsN (fun _ _ _ _ _ _ us hl => match us, hl with | [_, _, _, _], _ => rfl), F.ok scOpenFrom (fun vs H Q E h => ?_) (fun cdv A outer s H vs Q E hr h => ?_)⟩
  · obtain ⟨a, b, d, ps, st, size, mark, W, rfl, _⟩ := h
    rfl
  obtain ⟨a, b, d, ps, st, size, mark, W, rfl, hR, hS, hW, ok, cl, hM, few, small, q1, q2⟩ := h
  have nd := scOpenFrom.nd
  have hr1 : Room 1 _ := hr.mono (by decide)
  refine ⟨_, PSs.nox (pss_cons (ps_for PassesOwn.never rfl (pi_enum (by rfl) me (pa_cons (pv 0) pa_nil)) (pg_tup rfl (pgs_cons (pg_name (i := 4) nd rfl (.inl rfl)) (pgs_cons (pg_name (i := 5) nd rfl (.inl rfl)) pgs_nil)))
      (pss_one (ps_if (PW.pt (pw_and (pt_cmpR op_notIn_seq (pe_ix ix_tup (pv 5) pe_int (fun _ _ => rfl)) (pv 1) (by rfl)) (pw_and1 (pt_cmp (pc_din (hu1 hr) (pe_ix ix_tup (pv 5) pe_int (fun _ _ => rfl)) (pv 2))))))
        (pss_cons (ps_set (i := 6) nd rfl (.inl rfl) (pe_ix ix_tup (pe_callG GK hr1 (by rfl) (pa_cons (pv 0) (pa_cons (pv 3) (pa_cons (pe_dget (hu1 hr) (pv 2) (pe_ix ix_tup (pv 5) pe_int (fun _ _ => rfl)) (fun _ _ => rfl)) pa_nil))) pass0) pe_int (fun _ _ => rfl)))
        (pss_cons (ps_set (i := 7) nd rfl (.inl rfl) (pe_ix ix_tup (pe_callG GK hr1 (by rfl) (pa_cons (pv 0) (pa_cons (pv 3) (pa_cons (pe_dget (hu1 hr) (pv 2) (pe_ix ix_tup (pv 5) pe_int (fun _ _ => rfl)) (fun _ _ => rfl)) pa_nil))) pass0) pe_int (fun _ _ => rfl)))
        (pss_one (ps_if (pt_cmpR op_ne (pe_op op_add (pv 6) (pe_ix ix_tup (pv 5) pe_int (fun _ _ => rfl))) (pv 7) (nomark _)) (pss_one (ps_ret (pe_callG GR hr (by rfl) (pa_cons (pv 0) (pa_cons (pv 2) (pa_cons (pv 3) (pa_cons (pv 4) pa_nil)))) pass0))) pss_nil))))
        pss_nil)))
    (pss_one (ps_ret pe_non))), ?_⟩
  refine ⟨_, rfl, a, _, rfl, SqL.of hR.1, ?_⟩
  refine for_it walk_enum (fun i σ H' => Same H H' ∧ (∀ j q, j < i → (rsOf ps)[j]? = some q → q.h ∉ st → ∀ la lb, (q.a, la) ∈ W → (q.b, lb) ∈ W → ht (rsOf ps) mark la + q.r = ht (rsOf ps) mark lb) ∧
      ∃ x4 x5 x6 x7, σ = [some (.ref a), some (.ref b), some (.ref d), some (.int mark), x4, x5, x6, x7])
    ⟨Same.refl H, fun j q hj => by omega, _, _, _, _, rfl⟩ (fun i σ H' _ p => SqL.of (hR.mono p.1).1) ?_ ?_
  · rintro i v σ H' H1 hi ⟨s0, dn, x4, x5, x6, x7, rfl⟩ ⟨T, v1, v2, rfl, nT, rfl, e1, e2⟩
    cases e1
    have e2 : (ps.map fun p => V.ref p.1)[i]? = some v2 := e2
    rw [List.getElem?_map] at e2
    obtain ⟨pr, hp, rfl⟩ := Option.map_eq_some_iff.mp e2
    have hp2 : (rsOf ps)[i]? = some pr.2 := by rw [List.getElem?_map, hp]; rfl
    have hmem := List.mem_of_getElem? hp
    obtain ⟨qr, eqr⟩ : ∃ qr, qr = pr.2 := ⟨_, rfl⟩
    have s1 := s0.trans (same_upd (o := .tup [V.int (i : Int), V.ref pr.1]) nT)
    have hR1 := hR.mono s1
    have hx1 := hR1.2 pr hmem
    rw [← eqr] at hx1 hp2
    have mab := hM pr hmem
    rw [← eqr] at mab
    have step : ∀ {H2 : Hp}, Same H H2 → (qr.h ∉ st → ∀ la lb, (qr.a, la) ∈ W → (qr.b, lb) ∈ W → ht (rsOf ps) mark la + qr.r = ht (rsOf ps) mark lb) → Same H H2 ∧ (∀ j q, j < i + 1 → (rsOf ps)[j]? = some q → q.h ∉ st → ∀ la lb, (q.a, la) ∈ W → (q.b, lb) ∈ W → ht (rsOf ps) mark la + q.r = ht (rsOf ps) mark lb) := by
      intro H2 s2 h
      refine ⟨s2, fun j q' hj hq' => ?_⟩
      by_cases e : j = i
      · subst e
        rw [hp2] at hq'
        cases hq'
        exact h
      · exact dn j q' (by omega) hq'
    refine ⟨T, _, rfl, SqT.of upd_same, rfl, _, _, rfl, _, _, rfl, rfl, ?_⟩
    refine ⟨_, rfl, _, _, _, _, rfl, rfl, SqT.of hx1, rfl, _, rfl, b, _, rfl, .inl (SqL.of (s1 _ _ hS)), rfl, flat_ivs st, _, rfl, ?_⟩
    rw [if_pos rfl, inV_int]
    by_cases hst : qr.h ∈ st
    · rw [decide_eq_true hst]
      refine iteF (A := True) ?_
      refine iteF (A := True) ?_
      obtain ⟨g1, g2⟩ := step s1 fun nh => absurd hst nh
      exact ⟨g1, g2, _, _, _, _, rfl⟩
    · rw [decide_eq_false hst]
      refine iteT (B := True) ?_
      obtain ⟨r, g1, g2⟩ := ways_in (hW.mono s1) qr.a
      refine ⟨_, rfl, _, _, _, _, rfl, rfl, SqT.of hx1, rfl, _, rfl, d, r, rfl, g1, _, rfl, ?_⟩
      rw [g2]
      by_cases hin : qr.a ∈ ks W
      · rw [decide_eq_true hin]
        refine iteT (B := True) ?_
        have hin2 := (cl qr (mem_of_get hp2) hst).mp hin
        obtain ⟨⟨ma, la⟩, h1, z1⟩ := List.mem_map.mp hin
        obtain ⟨⟨mb, lb⟩, h2, z2⟩ := List.mem_map.mp hin2
        have z1 : ma = qr.a := z1
        have z2 : mb = qr.b := z2
        subst z1 z2
        obtain ⟨ta, ga, ea⟩ := ways_get (hW.mono s1) ok.nd h1
        obtain ⟨ha, wa⟩ := ok.walk _ _ h1
        obtain ⟨hb, wb⟩ := ok.walk _ _ h2
        have sha := ok.short h1
        have shb := ok.short h2
        rw [List.length_map] at sha shb
        refine ⟨_, rfl, _, rfl, _, rfl, _, rfl, _, _, _, _, rfl, rfl, SqT.of hx1, rfl, d, _, rfl, ga, ?_⟩
        refine ⟨a, ta, ps, mark, la, qr.a, ha, rfl, hR1, ea, marks_up hM small, ok.nodup h1, by omega, wa, fun H2 z s2 nz ez => ?_⟩
        have s12 := s1.trans s2
        refine ⟨_, _, _, _, rfl, rfl, SqT.of ez, rfl, ?_⟩
        obtain ⟨tb, gb, eb⟩ := ways_get (hW.mono s12) ok.nd h2
        refine ⟨_, rfl, _, rfl, _, rfl, _, rfl, _, _, _, _, rfl, rfl, SqT.of (s2 _ _ hx1), rfl, d, _, rfl, gb, ?_⟩
        refine ⟨a, tb, ps, mark, lb, qr.b, hb, rfl, hR.mono s12, eb, marks_up hM small, ok.nodup h2, by omega, wb, fun H3 z' s3 nz' ez' => ?_⟩
        have s13 := s12.trans s3
        refine ⟨_, _, _, _, rfl, rfl, SqT.of ez', rfl, ?_⟩
        refine ⟨_, rfl, _, rfl, _, _, _, _, rfl, rfl, SqT.of ((s2.trans s3) _ _ hx1), rfl, _, _, rfl, rfl, _, rfl, rfl, _, rfl, ?_⟩
        refine ite2 (fun e => ?_) (fun e => ?_)
        · have ne : ha + qr.r ≠ hb := dne_t e
          refine ⟨_, rfl, _, rfl, _, rfl, _, rfl, a, d, ps, st, size, mark, i, W, qr, la, lb, rfl, hR.mono s13, hW.mono s13, ok, hp2, hst, h1, h2, by rw [ht_of wa, ht_of wb]; exact ne, hM, few, small, fun H4 p r start l s4 ep er ro => ?_⟩
          exact q1 H4 p r start l (s13.trans s4) ep er ro
        · have eq : ha + qr.r = hb := dne_f e
          obtain ⟨k1, k2⟩ := step s13 fun _ la' lb' h1' h2' => by
            rw [key_inj ok.nd h1' h1, key_inj ok.nd h2' h2, ht_of wa, ht_of wb]
            exact eq
          exact ⟨k1, k2, _, _, _, _, rfl⟩
      · rw [decide_eq_false hin]
        refine iteF (A := True) ?_
        obtain ⟨k1, k2⟩ := step s1 fun _ la lb h1 _ => absurd (List.mem_map.mpr ⟨_, h1, rfl⟩) hin
        exact ⟨k1, k2, _, _, _, _, rfl⟩
  · rintro σ H' ⟨s0, dn, x4, x5, x6, x7, rfl⟩
    rw [List.length_map] at dn
    refine q2 H' s0 (pot_of ok cl fun q hq nh => ?_)
    obtain ⟨j, hj, e⟩ := List.getElem_of_mem hq
    rw [List.length_map] at hj
    exact dn j q hj (by rw [List.getElem?_eq_getElem (by rw [List.length_map]; exact hj), e]) nh
/-! ### open_ring -/
def spOpenRing (K : PySem.W.Frag) : Sp := fun vs H Q _ => ∃ (a b : Addr) (ps : List (Addr × Rn)) (st : List Int) (size : Nat), vs = [.int size, .ref a, .ref b] ∧ Runs H a ps ∧ H b = some (.lst (ivs st)) ∧ Marks size ps ∧ ps.length ≤ 50 ∧ size ≤ 100 ∧ 1 ≤ size ∧
  (∀ H' p r start l, Same H H' → H' p = some (.tup [.int (start : Nat), .ref r]) → H' r = some (.tup (nvs l)) → RingOk (rsOf ps) st size start l → Q (.ref p) H') ∧
  (∀ H', Same H H' → Pot (rsOf ps) st 0 → Q .non H')
theorem scOpenRing : FnScope ["size", "runs", "struck", "had", "mark", "ways", "found", "one"] ["size", "runs", "struck"] (defScope (topS 24)) := ⟨rfl, rfl, rfl, by decide +kernel, rfl, by decide +kernel, by decide +kernel⟩
theorem ok_open_ring (D : Def K mg "open_ring" 24) (mr : mg "range" = none) (GW : Good P w K mg base 2 "ways_from" ["runs", "struck", "mark"] (spWaysFrom K)) (GO : Good P w K mg base 3 "open_from" ["runs", "struck", "ways", "mark"] (spOpenFrom K)) : Good P w K mg base 4 "open_ring" ["size", "runs", "struck"] (spOpenRing K) := by
  obtain ⟨f, fd, F, hm⟩ := D
  refine ⟨f, fd, F.kp, hm, F.bindsN (fun _ _ _ _ _ _ us hl => match us, hl with | [_, _, _], _ => rfl), F.ok scOpenRing (fun vs H Q E h => ?_) (fun cdv A outer s H vs Q E hr h => ?_)⟩
  · obtain ⟨a, b, ps, st, size, rfl, _⟩ := h
    rfl
  obtain ⟨a, b, ps, st, size, rfl, hR, hS, hM, few, small, one, q1, q2⟩ := h
  have nd := scOpenRing.nd
  refine ⟨_, PSs.nox (pss_cons (ps_set (i := 3) nd rfl (.inl rfl) pe_dnewK)
    (pss_cons (ps_for PassesOwn.never rfl (pi_range1 (by rfl) mr (pa_cons (pv 0) pa_nil)) (pg_name (i := 4) nd rfl (.inl rfl))
      (pss_one (ps_if (pt_cmp (pc_dnotin (hu1 hr) (pv 4) (pv 3)))
        (pss_cons (ps_set (i := 5) nd rfl (.inl rfl) (pe_callG GW (hr.mono (by decide)) (by rfl) (pa_cons (pv 1) (pa_cons (pv 2) (pa_cons (pv 4) pa_nil))) pass0))
        (pss_cons (ps_set (i := 6) nd rfl (.inl rfl) (pe_callG GO hr (by rfl) (pa_cons (pv 1) (pa_cons (pv 2) (pa_cons (pv 5) (pa_cons (pv 4) pa_nil)))) pass0))
        (pss_cons (ps_if (pt_cmpR op_notN (pv 6) pe_non (nomark _)) (pss_one (ps_ret (pv 6))) pss_nil)
        (pss_one (ps_lock (ps_for PassesOwn.never rfl (pi_keys (pv 5)) (pg_name (i := 7) nd rfl (.inl rfl)) (pss_one (ps_dput (hu1 hr) (pv 3) (pv 7) pe_bl rfl))))))))
        pss_nil)))
    (pss_one (ps_ret pe_non)))), ?_⟩
  intro e nE
  have s0 := same_upd (o := .dK []) nE
  refine ⟨_, rfl, _, rfl, by omega, by omega, ?_⟩
  rw [Int.toNat_natCast]
  refine for_range (fun i σ H' => Same H H' ∧ (∃ kk : List Int, Keys H' e kk ∧ kk.length ≤ i * size) ∧ (0 < i → Pot (rsOf ps) st 0) ∧ ∃ x4 x5 x6 x7, σ = [some (.int size), some (.ref a), some (.ref b), some (.ref e), x4, x5, x6, x7])
    ⟨s0, ⟨[], ⟨[], upd_same, rfl⟩, Nat.zero_le _⟩, fun h => by omega, _, _, _, _, rfl⟩ ?_ ?_
  · rintro i σ H' hi ⟨s1, ⟨kk, ⟨kvs, ed, ek⟩, lk⟩, pot, x4, x5, x6, x7, rfl⟩
    have ez : (0 : Int) + (i : Int) = (i : Int) := Int.zero_add _
    have g1 : DGet H' e (.int ((0 : Int) + (i : Int))) (valV kvs (Sum.inl ((0 : Int) + (i : Int)))) := DGet.k (k := Sum.inl ((0 : Int) + (i : Int))) ed
    refine ⟨_, rfl, _, rfl, e, _, rfl, g1, _, rfl, ?_⟩
    rw [key_mem ek]
    have kl : kvs.length = kk.length := by
      have := congrArg List.length ek
      simpa using this
    have i2 : (i + 1) * size = i * size + size := Nat.succ_mul i size
    have i3 : i * size ≤ 100 * 100 := Nat.mul_le_mul (by omega) small
    by_cases hin : (0 : Int) + (i : Int) ∈ kk
    · rw [decide_eq_true hin]
      refine iteF (A := True) ?_
      refine ⟨s1, ⟨kk, ⟨kvs, ed, ek⟩, by omega⟩, fun _ => pot ?_, _, _, _, _, rfl⟩
      have : 0 < kk.length := List.length_pos_of_mem hin
      apply Classical.byContradiction
      intro h0
      have : i = 0 := by omega
      subst this
      omega
    · rw [decide_eq_false hin]
      refine iteT (B := True) ?_
      refine ⟨_, rfl, _, rfl, _, rfl, a, b, ps, st, size, i, by rw [ez]; rfl, hR.mono s1, s1 _ _ hS, hM, few, by omega, hi, fun H2 d W s2 nD wy ok cl => ?_⟩
      have s12 := s1.trans s2
      refine ⟨_, rfl, _, rfl, _, rfl, _, rfl, a, b, d, ps, st, size, i, W, by rw [ez]; rfl, hR.mono s12, s12 _ _ hS, wy, ok, cl, hM, few, by omega, fun H3 p r start l s3 ep er ro => ?_, fun H3 s3 pt => ?_⟩
      · refine ⟨_, rfl, rfl, _, rfl, ?_⟩
        refine iteT (B := True) ?_
        exact ⟨_, rfl, q1 H3 p r start l (s12.trans s3) ep er ro⟩
      · refine ⟨_, rfl, rfl, _, rfl, ?_⟩
        refine iteF (A := True) ?_
        obtain ⟨wvs, wd, wpr⟩ := wy
        have wd3 := s3 _ _ wd
        have wl := pr_len wpr
        have wfew := ok.few
        have ned : e ≠ d := fun z => by
          subst z
          rw [ed] at nD
          cases nD
        have nDH : H d = none := Same.free s1 nD
        refine ⟨d, _, wd3, trivial, fun od => ?_⟩
        refine ⟨_, rfl, d, od, rfl, .inl ⟨wvs, upd_same, ?_⟩⟩
        refine for_it walk_keys (fun j σ H' => H' d = some (.frz od (.dK wvs)) ∧ Same H H' ∧ (∃ kk : List Int, Keys H' e kk ∧ kk.length ≤ i * size + j) ∧ ∃ x7, σ = [some (.int size), some (.ref a), some (.ref b), some (.ref e), some (.int ((0 : Int) + (i : Int))), some (.ref d), some .non, x7])
          ⟨upd_same, same_mutX (s12.trans s3) SameX.upd nDH, ⟨kk, ⟨kvs, by rw [upd_ne ned]; exact s3 _ _ (s2 _ _ ed), ek⟩, by omega⟩, _, rfl⟩ (fun j σ H' _ p => p.1) ?_ ?_
        · rintro j v σ H4 H5 hj ⟨fz, s4, ⟨k2, ⟨kvs2, ed2, ek2⟩, lk2⟩, x7, rfl⟩ ⟨rfl, k, v2, hkv, rfl⟩
          obtain ⟨⟨m, l⟩, _, rk, _⟩ := pr_get wpr hkv
          have rk : k = Sum.inl (m : Int) := rk
          subst rk
          have kl2 : kvs2.length = k2.length := by
            have := congrArg List.length ek2
            simpa using this
          refine ⟨_, rfl, _, rfl, e, _, rfl, DPut.k (k := Sum.inl (m : Int)) ed2 (by rw [kl2]; exact szl (by omega)), ?_⟩
          refine ⟨by rw [upd_ne ned.symm]; exact fz, same_mutX s4 SameX.upd nE, ?_, _, rfl⟩
          rcases keys_putK ek2 (m : Int) (V.bl true) with ⟨_, h2⟩ | ⟨_, h2⟩
          · exact ⟨k2, ⟨_, upd_same, h2⟩, by omega⟩
          · exact ⟨k2 ++ [(m : Int)], ⟨_, upd_same, h2⟩, by rw [List.length_append, List.length_singleton]; omega⟩
        · rintro σ H4 ⟨fz, s4, ⟨k2, ⟨kvs2, ed2, ek2⟩, lk2⟩, x7, rfl⟩
          refine ⟨fz, same_mutX s4 SameX.upd nDH, ⟨k2, ⟨kvs2, by rw [upd_ne ned]; exact ed2, ek2⟩, by omega⟩, fun _ => ?_, _, _, _, _, rfl⟩
          by_cases h0 : i = 0
          · subst h0
            exact pt
          · exact pot (by omega)
  · rintro σ H' ⟨s1, _, pot, x4, x5, x6, x7, rfl⟩
    exact q2 H' s1 (pot (by omega))
end
end Fl
namespace Fl
open PySem PySem.Spec PyProof.Rows L2
structure LineOk (rs : List Rn) (st : List Int) (rise : Int) (l : List Nat) : Prop where
  nd : l.Nodup
  free : Free rs st l
  walk : walkF rs 0 l = some (1, rise)
/-- what is wished for: rings (none), or lines from 0 to 1 of a rise -/
def WishV (H : Hp) (v : V) : Option Int → Prop
  | none => v = .str "ring"
  | some r => ∃ t, v = .ref t ∧ H t = some (.tup [.int 0, .int 1, .int r])
theorem WishV.tups {H H' : Hp} {v : V} {w : Option Int} (s : Tups H H') (h : WishV H v w) : WishV H' v w := by
  cases w with
  | none => exact h
  | some r =>
    obtain ⟨t, e, ht⟩ := h
    exact ⟨t, e, s _ _ ht⟩
theorem shaped_ring : SeqAt.shaped (.str "ring") = true := by decide +kernel
theorem eqv_ring : PyData.eqv (.str "ring") (.str "ring") = true := by
  rw [PyData.eqv]
  exact beq_self_eq_true _
theorem dp_wish {K : PySem.W.Frag} {H : Hp} {v : V} {w : Option Int} (h : WishV H v w) : ∃ d, Dp K H v d ∧ SeqAt.shaped d = true ∧ PyData.eqv d (.str "ring") = decide (w = none) := by
  cases w with
  | none =>
    have h : v = .str "ring" := h
    subst h
    exact ⟨_, .str _, shaped_ring, by rw [eqv_ring]; rfl⟩
  | some r =>
    obtain ⟨t, rfl, ht⟩ := h
    refine ⟨.tuple ([0, 1, r].map PyData.int), .tup (SqT.of ht) (dp_ivs [0, 1, r]), shaped_t [0, 1, r], ?_⟩
    rw [PyData.eqv]
    rfl
section
variable {P : Program} {w : World} {K : PySem.W.Frag} {mg : Str → Option Value} {base : Heap}
/-! ### thing_of -/
def spThing (K : PySem.W.Frag) : Sp := fun vs H Q _ => ∃ (a b : Addr) (ps : List (Addr × Rn)) (st : List Int) (size : Nat) (wv : V) (wish : Option Int), vs = [.int size, .ref a, .ref b, wv] ∧ Runs H a ps ∧ H b = some (.lst (ivs st)) ∧ WishV H wv wish ∧ Marks size ps ∧ ps.length ≤ 50 ∧ size ≤ 100 ∧ 2 ≤ size ∧
  (∀ H' p r start l, Same H H' → H' p = some (.tup [.str "ring", .int (start : Nat), .ref r]) → H' r = some (.tup (nvs l)) → RingOk (rsOf ps) st size start l → Q (.ref p) H') ∧
  (∀ H' p r l rise, wish = some rise → Same H H' → H' p = some (.tup [.str "line", .int 0, .ref r]) → H' r = some (.tup (nvs l)) → LineOk (rsOf ps) st rise l → Q (.ref p) H') ∧
  (∀ H', Same H H' → (∀ rise, wish = some rise → ∀ l, Free (rsOf ps) st l → walkF (rsOf ps) 0 l ≠ some (1, rise)) → Q .non H')
theorem scThing : FnScope ["size", "runs", "struck", "wish", "ring", "line"] ["size", "runs", "struck", "wish"] (defScope (topS 26)) := ⟨rfl, rfl, rfl, by decide +kernel, rfl, by decide +kernel, by decide +kernel⟩
theorem ok_thing_of (D : Def K mg "thing_of" 26) (GO : Good P w K mg base 4 "open_ring" ["size", "runs", "struck"] (spOpenRing K)) (GS : Good P w K mg base 3 "some_line" ["size", "runs", "struck", "one", "other"] (spSomeLine K))
    (GK : Good P w K mg base 1 "walked" ["runs", "mark", "line"] (spWalked K)) : Good P w K mg base 5 "thing_of" ["size", "runs", "struck", "wish"] (spThing K) := by
  obtain ⟨f, fd, F, hm⟩ := D
  refine ⟨f, fd, F.kp, hm, F.bindsN (fun _ _ _ _ _ _ us hl => match us, hl with | [_, _, _, _], _ => rfl), F.ok scThing (fun vs H Q E h => ?_) (fun cdv A outer s H vs Q E hr h => ?_)⟩
  · obtain ⟨a, b, ps, st, size, wv, wish, rfl, _⟩ := h
    rfl
  obtain ⟨a, b, ps, st, size, wv, wish, rfl, hR, hS, hW, hM, few, small, two, q1, q2, q3⟩ := h
  have nd := scThing.nd
  refine ⟨_, PSs.nox (pss_cons (ps_set (i := 4) nd rfl (.inl rfl) (pe_callG GO hr (by rfl) (pa_cons (pv 0) (pa_cons (pv 1) (pa_cons (pv 2) pa_nil))) pass0))
    (pss_cons (ps_if (pt_cmpR op_notN (pv 4) pe_non (nomark _)) (pss_one (ps_ret (pe_tup (pa_cons pe_str (pa_cons (pe_ix ix_tup (pv 4) pe_int (fun _ _ => rfl)) (pa_cons (pe_ix ix_tup (pv 4) pe_int (fun _ _ => rfl)) pa_nil)))))) pss_nil)
    (pss_cons (ps_if (pt_cmpR (op_eqD hr.units) (pv 3) pe_str (nomark _)) (pss_one (ps_ret pe_non)) pss_nil)
    (pss_cons (ps_set (i := 5) nd rfl (.inl rfl) (pe_callG GS (hr.mono (by decide)) (by rfl) (pa_cons (pv 0) (pa_cons (pv 1) (pa_cons (pv 2) (pa_cons (pe_ix ix_tup (pv 3) pe_int (fun _ _ => rfl)) (pa_cons (pe_ix ix_tup (pv 3) pe_int (fun _ _ => rfl)) pa_nil))))) pass0))
    (pss_cons (ps_if (PW.pt (pw_or (pt_cmpR op_isN (pv 5) pe_non (nomark _)) (pw_or1 (pt_cmpR op_ne (pe_ix ix_tup (pe_callG GK (hr.mono (by decide)) (by rfl) (pa_cons (pv 1) (pa_cons (pe_ix ix_tup (pv 3) pe_int (fun _ _ => rfl)) (pa_cons (pv 5) pa_nil))) pass0) pe_int (fun _ _ => rfl)) (pe_ix ix_tup (pv 3) pe_int (fun _ _ => rfl)) (nomark _))))) (pss_one (ps_ret pe_non)) pss_nil)
    (pss_one (ps_ret (pe_tup (pa_cons pe_str (pa_cons (pe_ix ix_tup (pv 3) pe_int (fun _ _ => rfl)) (pa_cons (pv 5) pa_nil))))))))))), ?_⟩
  refine ⟨_, rfl, _, rfl, _, rfl, a, b, ps, st, size, rfl, hR, hS, hM, few, small, by omega, fun H1 p r start l s1 ep er ro => ?_, fun H1 s1 pot => ?_⟩
  · refine ⟨_, rfl, rfl, _, rfl, ?_⟩
    refine iteT (B := True) ?_
    refine ⟨_, rfl, _, _, _, _, rfl, rfl, SqT.of ep, rfl, _, rfl, _, _, _, _, rfl, rfl, SqT.of ep, rfl, by show 3 ≤ sizeLine; decide, fun z nz => ?_⟩
    have s2 := same_upd (o := .tup [V.str "ring", V.int (start : Int), V.ref r]) nz
    exact q1 _ z r start l (s1.trans s2) upd_same (s2 _ _ er) ro
  · refine ⟨_, rfl, rfl, _, rfl, ?_⟩
    refine iteF (A := True) ?_
    obtain ⟨d, dd, sd, ev⟩ := dp_wish (K := K) (hW.tups (tups_of s1))
    refine ⟨_, rfl, d, _, dd, .str _, sd, shaped_ring, _, rfl, ?_⟩
    rw [ev]
    cases wish with
    | none =>
      refine iteT (B := True) ?_
      exact q3 H1 s1 fun rise e => by cases e
    | some rise =>
      refine iteF (A := True) ?_
      obtain ⟨t, rfl, ht⟩ := hW
      have ht1 := s1 _ _ ht
      refine ⟨_, rfl, _, rfl, _, rfl, _, rfl, _, _, _, _, rfl, rfl, SqT.of ht1, rfl, _, rfl, _, _, _, _, rfl, rfl, SqT.of ht1, rfl, ?_⟩
      refine ⟨a, b, ps, st, size, 0, 1, _, rfl, hR.mono s1, s1 _ _ hS, hM, few, by omega, by omega, fun H2 u l h s2 eu nodup fr wk => ?_, fun H2 s2 no => ?_⟩
      · have s12 := s1.trans s2
        have ht2 := s2 _ _ ht1
        have sl : l.length ≤ 50 := by
          have := nodup_range nodup (n := (rsOf ps).length) fun i hi => by
            obtain ⟨q, hq, _⟩ := fr i hi
            exact (List.getElem?_eq_some_iff.mp hq).1
          rw [List.length_map] at this
          omega
        refine ⟨_, rfl, rfl, _, rfl, ?_⟩
        refine iteF (A := True) ?_
        refine ⟨_, rfl, _, rfl, _, _, _, _, rfl, rfl, SqT.of ht2, rfl, _, rfl, a, u, ps, 0, l, 1, h, rfl, hR.mono s12, eu, marks_up hM (by omega), nodup, by omega, wk, fun H3 z s3 nz ez => ?_⟩
        refine ⟨_, _, _, _, rfl, rfl, SqT.of ez, rfl, _, rfl, _, _, _, _, rfl, rfl, SqT.of (s3 _ _ ht2), rfl, rfl, _, rfl, ?_⟩
        refine ite2 (fun e => ?_) (fun e => ?_)
        · have ne : h ≠ rise := dne_t e
          refine q3 H3 (s12.trans s3) fun rise' er l' fr' wk' => ?_
          cases er
          obtain ⟨S, pt, s0, cl⟩ := pot
          have e1 := (walk_pot cl s0 fr wk).2
          have e2 := (walk_pot cl s0 fr' wk').2
          omega
        · have eq : h = rise := dne_f e
          subst eq
          refine ⟨_, rfl, _, _, _, _, rfl, rfl, SqT.of (s3 _ _ ht2), rfl, _, rfl, by show 3 ≤ sizeLine; decide, fun z2 nz2 => ?_⟩
          have s4 := same_upd (o := .tup [V.str "line", V.int 0, V.ref u]) nz2
          exact q2 _ z2 u l h rfl ((s12.trans s3).trans s4) upd_same (s4 _ _ (s3 _ _ eu)) ⟨nodup, fr, wk⟩
      · refine ⟨_, rfl, rfl, _, rfl, ?_⟩
        refine iteT (B := True) ?_
        refine iteT (B := True) ?_
        refine q3 H2 (s1.trans s2) fun rise' er l fr wk => ?_
        cases er
        exact no l _ fr wk
end
end Fl
namespace Fl
open PySem PySem.Spec PyProof.Rows L2
/-! ### papers -/
/-- the beginning of a paper -/
def Piece (rs : List Rn) (size : Nat) (wish : Option Int) (st : List Int) (k : Str) (mark : Nat) (l : List Nat) : Prop :=
  (k = "ring" ∧ RingOk rs st size mark l) ∨ (∃ rise, wish = some rise ∧ k = "line" ∧ mark = 0 ∧ LineOk rs st rise l)
/-- a paper in the heap: for so many more false hands, some struck -/
def PaperAt (rs : List Rn) (size : Nat) (wish : Option Int) : Nat → List Int → Hp → V → Prop
  | 0, st, H, v => ∃ (p l r : Addr) (k : Str) (mark : Nat) (line : List Nat), v = .ref p ∧ H p = some (.tup [.str k, .int (mark : Nat), .ref l, .ref r]) ∧ H l = some (.tup (nvs line)) ∧ Piece rs size wish st k mark line ∧ H r = some (.tup [])
  | n + 1, st, H, v => ∃ (p l r : Addr) (k : Str) (mark : Nat) (line : List Nat), v = .ref p ∧ H p = some (.tup [.str k, .int (mark : Nat), .ref l, .ref r]) ∧ H l = some (.tup (nvs line)) ∧ Piece rs size wish st k mark line ∧
      ∃ (hs : List Int) (qs : List Addr), H r = some (.tup (qs.map V.ref)) ∧ HandsOk hs (lineRs rs line) ∧ Paired (fun h q => ∃ z, H q = some (.tup [.int h, z]) ∧ PaperAt rs size wish n (st ++ [h]) H z) hs qs
theorem PaperAt.tups {rs : List Rn} {size : Nat} {wish : Option Int} : ∀ {n : Nat} {st : List Int} {H H' : Hp} {v : V}, Tups H H' → PaperAt rs size wish n st H v → PaperAt rs size wish n st H' v
  | 0, st, H, H', v, s, h => by
    obtain ⟨p, l, r, k, mark, line, e, e1, e2, pc, e3⟩ := h
    exact ⟨p, l, r, k, mark, line, e, s _ _ e1, s _ _ e2, pc, s _ _ e3⟩
  | n + 1, st, H, H', v, s, h => by
    obtain ⟨p, l, r, k, mark, line, e, e1, e2, pc, hs, qs, e3, ho, pr⟩ := h
    exact ⟨p, l, r, k, mark, line, e, s _ _ e1, s _ _ e2, pc, hs, qs, s _ _ e3, ho, pr_imp (fun h q r => by obtain ⟨z, a, b⟩ := r; exact ⟨z, s _ _ a, PaperAt.tups s b⟩) pr⟩
theorem PaperAt.ref {rs : List Rn} {size : Nat} {wish : Option Int} {n : Nat} {st : List Int} {H : Hp} {v : V} (h : PaperAt rs size wish n st H v) : ∃ p, v = .ref p := by
  cases n with
  | zero => obtain ⟨p, _, _, _, _, _, e, _⟩ := h; exact ⟨p, e⟩
  | succ n => obtain ⟨p, _, _, _, _, _, e, _⟩ := h; exact ⟨p, e⟩
/-- there is a reading with so many false hands beyond those struck -/
def Lies (rs : List Rn) (st : List Int) (many : Nat) : Prop := ∃ (F : List Int) (T : Nat → Int) (G : List Int), (∀ q ∈ rs, q.h ∉ F → T q.b - T q.a = q.r) ∧ G.length ≤ many ∧ ∀ h ∈ F, h ∈ st ∨ h ∈ G
theorem mem_lineRs {rs : List Rn} {l : List Nat} {i : Nat} {q : Rn} (hi : i ∈ l) (hq : rs[i]? = some q) : q ∈ lineRs rs l := List.mem_filterMap.mpr ⟨i, hi, hq⟩
/-- a paper of rings alone: no reading -/
theorem paper_none {rs : List Rn} {size : Nat} : ∀ {n : Nat} {st : List Int} {H : Hp} {v : V}, PaperAt rs size none n st H v → ¬ Lies rs st n := by
  -- an open ring has a false hand that is not struck
  have ring : ∀ {st : List Int} {start : Nat} {l : List Nat} {F : List Int} {T : Nat → Int}, RingOk rs st size start l → (∀ q ∈ rs, q.h ∉ F → T q.b - T q.a = q.r) → ∃ i ∈ l, ∃ q, rs[i]? = some q ∧ q.h ∉ st ∧ q.h ∈ F := by
    intro st start l F T ro tr
    apply Classical.byContradiction
    intro no
    obtain ⟨d, dn, wk⟩ := ro.op
    have fr : Free rs F l := fun i hi => by
      obtain ⟨q, hq, nh⟩ := ro.free i hi
      exact ⟨q, hq, fun hf => no ⟨i, hi, q, hq, nh, hf⟩⟩
    have := walk_true tr fr wk
    omega
  intro n
  induction n with
  | zero =>
    intro st H v h ⟨F, T, G, tr, gl, fg⟩
    obtain ⟨p, l, r, k, mark, line, e, e1, e2, pc, e3⟩ := h
    rcases pc with ⟨_, ro⟩ | ⟨rise, e, _⟩
    · obtain ⟨i, hi, q, hq, nh, hf⟩ := ring ro tr
      have : G = [] := List.length_eq_zero_iff.mp (by omega)
      rcases fg _ hf with h | h
      · exact nh h
      · rw [this] at h; cases h
    · cases e
  | succ n ih =>
    intro st H v h ⟨F, T, G, tr, gl, fg⟩
    obtain ⟨p, l, r, k, mark, line, e, e1, e2, pc, hs, qs, e3, ho, pr⟩ := h
    rcases pc with ⟨_, ro⟩ | ⟨rise, e, _⟩
    · obtain ⟨i, hi, q, hq, nh, hf⟩ := ring ro tr
      have hg : q.h ∈ G := (fg _ hf).resolve_left nh
      have hh : q.h ∈ hs := (ho.mem _).mpr ⟨q, mem_lineRs hi hq, rfl⟩
      obtain ⟨j, hj, ej⟩ := List.getElem_of_mem hh
      obtain ⟨y, _, z, _, pz⟩ := pr_get pr (show hs[j]? = some q.h by rw [List.getElem?_eq_getElem hj, ej])
      refine ih pz ⟨F, T, G.erase q.h, tr, ?_, fun h hF => ?_⟩
      · have := List.length_erase_of_mem hg
        omega
      · rcases fg h hF with h1 | h1
        · exact .inl (List.mem_append_left _ h1)
        · by_cases e : h = q.h
          · subst e
            exact .inl (by simp)
          · exact .inr ((List.mem_erase_of_ne e).mpr h1)
    · cases e
/-- whatever so many are struck, a true line is left -/
def Reach (rs : List Rn) (n : Nat) (rise : Int) : Prop := ∀ st : List Int, st.length ≤ n → ∃ l, Free rs st l ∧ walkF rs 0 l = some (1, rise)
section
variable {P : Program} {w : World} {K : PySem.W.Frag} {mg : Str → Option Value} {base : Heap}
/-! ### made -/
def spMade (K : PySem.W.Frag) (n : Nat) : Sp := fun vs H Q _ => ∃ (a b : Addr) (ps : List (Addr × Rn)) (st : List Int) (size many : Nat) (wv : V) (wish : Option Int), vs = [.int size, .ref a, .int many, .ref b, wv] ∧ many < n ∧ Runs H a ps ∧ H b = some (.lst (ivs st)) ∧ WishV H wv wish ∧
  Marks size ps ∧ ps.length ≤ 50 ∧ size ≤ 100 ∧ 2 ≤ size ∧ st.length + many ≤ 10 ∧
  (∀ H' p y, Same H H' → H' p = some (.tup [.non, y]) → (∀ rise, wish = some rise → ¬ Reach (rsOf ps) (st.length + many) rise) → Q (.ref p) H') ∧
  (∀ H' p v, Same H H' → H' p = some (.tup [v, .non]) → PaperAt (rsOf ps) size wish many st H' v → Q (.ref p) H')
theorem scMade : FnScope ["size", "runs", "many", "struck", "wish", "begun", "rest", "hand", "later", "gone"] ["size", "runs", "many", "struck", "wish"] (defScope (topS 27)) := ⟨rfl, rfl, rfl, by decide +kernel, rfl, by decide +kernel, by decide +kernel⟩
theorem made_none (D : Def K mg "made" 27) : Good P w K mg base 5 "made" ["size", "runs", "many", "struck", "wish"] (spMade K 0) := by
  obtain ⟨f, fd, F, hm⟩ := D
  have no : ∀ vs H Q E, ¬ spMade K 0 vs H Q E := fun vs H Q E h => by
    obtain ⟨_, _, _, _, _, _, _, _, _, h, _⟩ := h
    omega
  exact ⟨f, fd, F.kp, hm, F.bindsN (fun _ _ _ _ _ _ us hl => match us, hl with | [_, _, _, _, _], _ => rfl), ⟨fun vs H Q E h => absurd h (no vs H Q E), fun A outer s H args us vs Q E _ _ _ _ h => absurd h (no vs H Q E)⟩⟩
theorem piece_there {rs : List Rn} {size : Nat} {wish : Option Int} {st : List Int} {k : Str} {mark : Nat} {l : List Nat} (h : Piece rs size wish st k mark l) : There rs l ∧ l.Nodup := by
  rcases h with ⟨_, ro⟩ | ⟨_, _, _, _, lo⟩
  · exact ⟨fun i hi => by obtain ⟨q, hq, _⟩ := ro.free i hi; exact ⟨q, hq⟩, ro.nd⟩
  · exact ⟨fun i hi => by obtain ⟨q, hq, _⟩ := lo.free i hi; exact ⟨q, hq⟩, lo.nd⟩
theorem there_len {rs : List Rn} {l : List Nat} (h : There rs l) (nd : l.Nodup) : l.length ≤ rs.length := nodup_range nd fun i hi => by
  obtain ⟨q, hq⟩ := h i hi
  exact (List.getElem?_eq_some_iff.mp hq).1
theorem made_step {n : Nat} (D : Def K mg "made" 27) (mt : mg "tuple" = none) (GT : Good P w K mg base 5 "thing_of" ["size", "runs", "struck", "wish"] (spThing K)) (GL : Good P w K mg base 1 "line_hands" ["runs", "line"] (spLineHands K))
    (GM : Good P w K mg base (5 + n) "made" ["size", "runs", "many", "struck", "wish"] (spMade K n)) : Good P w K mg base (5 + (n + 1)) "made" ["size", "runs", "many", "struck", "wish"] (spMade K (n + 1)) := by
  obtain ⟨f, fd, F, hm⟩ := D
  refine ⟨f, fd, F.kp, hm, F.bindsN (fun _ _ _ _ _ _ us hl => match us, hl with | [_, _, _, _, _], _ => rfl), F.ok (k := 5 + n) scMade (fun vs H Q E h => ?_) (fun cdv A outer s H vs Q E hr h => ?_)⟩
  · obtain ⟨a, b, ps, st, size, many, wv, wish, rfl, _⟩ := h
    rfl
  obtain ⟨a, b, ps, st, size, many, wv, wish, rfl, lt, hR, hS, hW, hM, few, small, two, ten, q1, q2⟩ := h
  have nd := scMade.nd
  refine ⟨_, PSs.nox (pss_cons (ps_set (i := 5) nd rfl (.inl rfl) (pe_callG GT (hr.mono (by omega)) (by rfl) (pa_cons (pv 0) (pa_cons (pv 1) (pa_cons (pv 3) (pa_cons (pv 4) pa_nil)))) pass0))
    (pss_cons (ps_if (pt_cmpR op_isN (pv 5) pe_non (nomark _)) (pss_one (ps_ret (pe_tup (pa_cons pe_non (pa_cons (pv 3) pa_nil))))) pss_nil)
    (pss_cons (ps_set (i := 6) nd rfl (.inl rfl) (pe_lst pa_nil))
    (pss_cons (ps_if (pt_cmpR op_gt (pv 2) pe_int (nomark _))
      (pss_one (ps_for PassesOwn.never rfl (pi_list (pe_callG GL (hr.mono (by omega)) (by rfl) (pa_cons (pv 1) (pa_cons (pe_ix ix_tup (pv 5) pe_int (fun _ _ => rfl)) pa_nil)) pass0)) (pg_name (i := 7) nd rfl (.inl rfl))
        (pss_cons (ps_asg (pe_callG GM hr (by rfl) (pa_cons (pv 0) (pa_cons (pv 1) (pa_cons (pe_op op_sub (pv 2) pe_int) (pa_cons (pe_op op_cat (pv 3) (pe_lst (pa_cons (pv 7) pa_nil))) (pa_cons (pv 4) pa_nil))))) pass0) (pg_tup rfl (pgs_cons (pg_name (i := 8) nd rfl (.inl rfl)) (pgs_cons (pg_name (i := 9) nd rfl (.inl rfl)) pgs_nil))))
        (pss_cons (ps_if (pt_cmpR op_isN (pv 8) pe_non (nomark _)) (pss_one (ps_ret (pe_tup (pa_cons pe_non (pa_cons (pv 9) pa_nil))))) pss_nil)
        (pss_one (ps_expr (pe_bm PySem.F.plainAttrs_list PySem.F.slot_list_append PySem.F.type_list_append mt_append (pv 6) (pa_cons (pe_tup (pa_cons (pv 7) (pa_cons (pv 8) pa_nil))) pa_nil)))))))) pss_nil)
    (pss_one (ps_ret (pe_tup (pa_cons (pe_op op_catA (pv 5) (pe_tup (pa_cons (pe_callTy call_tuple_of (by rfl) mt boot_tuple (pa_cons (pv 6) pa_nil)) pa_nil))) (pa_cons pe_non pa_nil))))))))), ?_⟩
  refine ⟨_, rfl, _, rfl, _, rfl, _, rfl, ?_⟩
  -- behind the beginning
  have go : ∀ H1 (p r : Addr) (k : Str) (mark : Nat) (l : List Nat), Same H H1 → H1 p = some (.tup [.str k, .int (mark : Nat), .ref r]) → H1 r = some (.tup (nvs l)) → Piece (rsOf ps) size wish st k mark l →
      tSeq (tAsg (tLst tNil) (gName 6)) (tSeq (tIfS (tTest (tOp (rI0 fun i j => .bl (decide (j < i))) (tVar 2) (tC (.int 0))))
        (tFor (iList K (tCall (spLineHands K) [] E0 (tCons (tVar 1) (tCons (tOp (rIxT K) (tVar 5) (tC (.int 2))) tNil)))) (gName 7)
          (tSeq (tAsg (tCall (spMade K n) [] E0 (tCons (tVar 0) (tCons (tVar 1) (tCons (tOp (rI0 fun i j => .int (i - j)) (tVar 2) (tC (.int 1))) (tCons (tOp rCat (tVar 3) (tLst (tCons (tVar 7) tNil))) (tCons (tVar 4) tNil)))))) (gTup K 2 (gCons (gName 8) (gCons (gName 9) gNil))))
          (tSeq (tIfS (tTest (tOp (fun x y H Q => y = .non ∧ Q (.bl (decide (x = .non))) H) (tVar 8) (tC .non))) (tRet (tTup (tCons (tC .non) (tCons (tVar 9) tNil)))) tNext)
          (tDrop (tBM K "list" rAppend (tVar 6) (tCons (tTup (tCons (tVar 7) (tCons (tVar 8) tNil))) tNil)))))) tNext)
        (tRet (tTup (tCons (tOp (rCatA K) (tVar 5) (tTup (tCons (tCB (fun xs H Q => ∃ p ys, xs = [.ref p] ∧ ((SqL K H p ys ∧ ∀ l, H l = none → Q (.ref l) (upd H l (.tup ys))) ∨ (SqT K H p ys ∧ Q (.ref p) H))) (tCons (tVar 6) tNil)) tNil))) (tCons (tC .non) tNil)))))
        { nx := fun _ H' => Q .non H', rt := Q } [some (.int size), some (.ref a), some (.int many), some (.ref b), some wv, some (.ref p), none, none, none, none] H1 := by
    intro H1 p r k mark l s1 ep er pc
    obtain ⟨th, lnd⟩ := piece_there pc
    have ll := there_len th lnd
    rw [List.length_map] at ll
    refine ⟨by show 0 ≤ sizeLine; decide, fun o no => ?_⟩
    have s2 := same_upd (o := .lst []) no
    have nO : H o = none := Same.free s1 no
    have nrO : p ≠ o := ne_of_none ep no
    refine ⟨_, rfl, _, _, rfl, rfl, _, rfl, ?_⟩
    cases many with
    | zero =>
      refine iteF (A := True) ?_
      have s12 := s1.trans s2
      refine ⟨_, rfl, _, rfl, o, _, rfl, .inl ⟨SqL.of upd_same, fun u nu => ?_⟩⟩
      have s3 := same_upd (o := .tup []) nu
      refine ⟨by show 1 ≤ sizeLine; decide, fun z nz => ?_⟩
      have s4 := same_upd (o := .tup [V.ref u]) nz
      refine catA_ok ((s2.trans (s3.trans s4)) _ _ ep) upd_same (by show 3 + 1 ≤ 1000000; decide) fun x H5 s5 ex => ?_
      refine ⟨by show 2 ≤ sizeLine; decide, fun t nt => ?_⟩
      have s6 := same_upd (o := .tup [V.ref x, V.non]) nt
      refine q2 _ t (.ref x) ((s12.trans (s3.trans s4)).trans (s5.trans s6)) upd_same ?_
      exact ⟨x, r, u, k, mark, l, rfl, s6 _ _ ex, (s2.trans ((s3.trans s4).trans (s5.trans s6))) _ _ er, pc, ((s4.trans s5).trans s6) _ _ upd_same⟩
    | succ m =>
      have pos : (0 : Int) < ((m + 1 : Nat) : Int) := by omega
      rw [decide_eq_true pos]
      refine iteT (B := True) ?_
      have s12 := s1.trans s2
      refine ⟨_, rfl, _, rfl, _, _, _, _, rfl, rfl, SqT.of (s2 _ _ ep), rfl, a, r, ps, l, rfl, hR.mono s12, s2 _ _ er, th, by omega, fun H2 g hs s3 ng eg ho => ?_⟩
      have s13 := s12.trans s3
      have eo2 := s3 _ _ (upd_same (H := H1) (a := o) (o := .lst []))
      refine ⟨g, rfl, ⟨_, SqL.of eg⟩, ?_⟩
      have ngo : g ≠ o := fun e => by
        subst e
        rw [upd_same] at ng
        cases ng
      refine for_list (K := K) (xs := ivs hs) (fun i σ H' => Same H H' ∧ H' g = some (.lst (ivs hs)) ∧ Tups H2 H' ∧ (∃ qs : List Addr, H' o = some (.lst (qs.map V.ref)) ∧ Paired (fun h q => ∃ z, H' q = some (.tup [.int h, z]) ∧ PaperAt (rsOf ps) size wish m (st ++ [h]) H' z) (hs.take i) qs) ∧
          ∃ x7 x8 x9, σ = [some (.int size), some (.ref a), some (.int ((m + 1 : Nat) : Int)), some (.ref b), some wv, some (.ref p), some (.ref o), x7, x8, x9])
        ⟨s13, eg, tups_of (Same.refl _), ⟨[], eo2, by rw [List.take_zero]; exact .nil⟩, _, _, _, rfl⟩ (fun i σ H' _ z => SqL.of z.2.1) ?_ ?_
      · rintro i v σ H3 hv ⟨sa, eg3, tp, ⟨qs, eo3, prq⟩, x7, x8, x9, rfl⟩
        rw [List.getElem?_map] at hv
        obtain ⟨h, hh, rfl⟩ := Option.map_eq_some_iff.mp hv
        refine ⟨_, rfl, _, rfl, _, rfl, _, _, rfl, rfl, _, rfl, _, rfl, by show 1 ≤ sizeLine; decide, fun u nu => ?_⟩
        have t1 := same_upd (o := .lst [V.int h]) nu
        refine ⟨b, u, _, _, rfl, rfl, t1 _ _ (sa _ _ hS), upd_same, ?_, fun c nc => ?_⟩
        · rw [List.length_map]
          exact sz (by rw [List.length_singleton]; omega)
        have t2 := same_upd (o := .lst (ivs st ++ [V.int h])) nc
        have st2 := sa.trans (t1.trans t2)
        have ec : (upd (upd H3 u (.lst [V.int h])) c (.lst (ivs st ++ [V.int h]))) c = some (.lst (ivs (st ++ [h]))) := by
          rw [upd_same]
          show _ = some (HO.lst (List.map _ (st ++ [h])))
          rw [List.map_append]
          rfl
        have em : ((m + 1 : Nat) : Int) - 1 = (m : Int) := by omega
        have sl : (st ++ [h]).length = st.length + 1 := by rw [List.length_append]; rfl
        refine ⟨_, rfl, a, c, ps, st ++ [h], size, m, wv, wish, (congrArg (fun z => [V.int (size : Int), V.ref a, V.int z, V.ref c, wv]) em), by omega, hR.mono st2, ec, hW.tups (tups_of st2), hM, few, small, two, by omega, fun H4 z y s4 ez nre => ?_, fun H4 z v s4 ez pa => ?_⟩
        · refine ⟨z, _, rfl, SqT.of ez, rfl, _, _, rfl, _, _, rfl, rfl, ?_⟩
          refine ⟨_, rfl, rfl, _, rfl, ?_⟩
          refine iteT (B := True) ?_
          refine ⟨_, rfl, by show 2 ≤ sizeLine; decide, fun t nt => ?_⟩
          have s5 := same_upd (o := .tup [V.non, y]) nt
          refine q1 _ t y ((st2.trans s4).trans s5) upd_same fun rise er => ?_
          have := nre rise er
          rw [sl, show st.length + 1 + m = st.length + (m + 1) by omega] at this
          exact this
        · obtain ⟨vp, rfl⟩ := pa.ref
          refine ⟨z, _, rfl, SqT.of ez, rfl, _, _, rfl, _, _, rfl, rfl, ?_⟩
          refine ⟨_, rfl, rfl, _, rfl, ?_⟩
          refine iteF (A := True) ?_
          have t3 := (t1.trans t2).trans s4
          have eo4 := t3 _ _ eo3
          refine ⟨_, rfl, .inl ⟨rfl, _, SqL.of eo4⟩, _, rfl, _, rfl, by show 2 ≤ sizeLine; decide, fun t nt => ?_⟩
          have s5 := same_upd (o := .tup [V.int h, V.ref vp]) nt
          have eo5 := s5 _ _ eo4
          have lq := pr_len prq
          rw [List.length_take] at lq
          have hi := (List.getElem?_eq_some_iff.mp hh).1
          have lh : hs.length ≤ 50 := by
            have := nodup_sub (lt_nodup ho.inc) (m := (lineRs (rsOf ps) l).map Rn.h) fun x hx => by
              obtain ⟨q, hq, e⟩ := (ho.mem x).mp hx
              exact List.mem_map.mpr ⟨q, hq, e⟩
            rw [List.length_map] at this
            have h2 := List.length_filterMap_le (fun i => (rsOf ps)[i]?) l
            have h3 : (lineRs (rsOf ps) l).length ≤ l.length := h2
            omega
          refine ⟨o, _, _, rfl, rfl, eo5, by rw [List.length_map]; exact szl (by omega), ?_⟩
          have x5 : SameX o (upd H4 t (.tup [V.int h, V.ref vp])) (upd (upd H4 t (.tup [V.int h, V.ref vp])) o (.lst (qs.map V.ref ++ [V.ref t]))) := SameX.upd
          have tp5 : Tups (upd H4 t (.tup [V.int h, V.ref vp])) (upd (upd H4 t (.tup [V.int h, V.ref vp])) o (.lst (qs.map V.ref ++ [V.ref t]))) := tups_upd eo5
          have tp45 : Tups H4 (upd (upd H4 t (.tup [V.int h, V.ref vp])) o (.lst (qs.map V.ref ++ [V.ref t]))) := fun b xs e => tp5 b xs (s5 _ _ e)
          have tp35 : Tups H3 (upd (upd H4 t (.tup [V.int h, V.ref vp])) o (.lst (qs.map V.ref ++ [V.ref t]))) := fun b xs e => tp45 b xs (t3 _ _ e)
          refine ⟨same_mutX ((sa.trans t3).trans s5) x5 nO, ?_, fun b xs e => tp35 b xs (tp b xs e), ⟨qs ++ [t], ?_, ?_⟩, _, _, _, rfl⟩
          · rw [upd_ne ngo]
            exact s5 _ _ (t3 _ _ eg3)
          · rw [upd_same, List.map_append]
            rfl
          · rw [List.take_add_one, hh]
            exact pr_snoc (pr_imp (fun h q r => by obtain ⟨z, e1, e2⟩ := r; exact ⟨z, tp35 _ _ e1, e2.tups tp35⟩) prq) ⟨_, tp5 _ _ upd_same, pa.tups tp45⟩
      · rintro σ H3 ⟨sa, eg3, tp, ⟨qs, eo3, prq⟩, x7, x8, x9, rfl⟩
        rw [List.length_map, List.take_length] at prq
        have ep3 := tp _ _ (s3 _ _ (s2 _ _ ep))
        have er3 := tp _ _ (s3 _ _ (s2 _ _ er))
        refine ⟨_, rfl, _, rfl, o, _, rfl, .inl ⟨SqL.of eo3, fun u nu => ?_⟩⟩
        have t3 := same_upd (o := .tup (qs.map V.ref)) nu
        refine ⟨by show 1 ≤ sizeLine; decide, fun z nz => ?_⟩
        have t4 := same_upd (o := .tup [V.ref u]) nz
        refine catA_ok ((t3.trans t4) _ _ ep3) upd_same (by show 3 + 1 ≤ 1000000; decide) fun x H5 s5 ex => ?_
        refine ⟨by show 2 ≤ sizeLine; decide, fun t nt => ?_⟩
        have s6 := same_upd (o := .tup [V.ref x, V.non]) nt
        have all := (t3.trans t4).trans (s5.trans s6)
        refine q2 _ t (.ref x) (sa.trans all) upd_same ?_
        exact ⟨x, r, u, k, mark, l, rfl, s6 _ _ ex, all _ _ er3, pc, hs, qs, ((t4.trans s5).trans s6) _ _ upd_same, ho, pr_imp (fun h q r => by obtain ⟨z, e1, e2⟩ := r; exact ⟨z, all _ _ e1, e2.tups (tups_of all)⟩) prq⟩
  refine ⟨a, b, ps, st, size, wv, wish, rfl, hR, hS, hW, hM, few, small, two, fun H1 p r start l s1 ep er ro => ?_, fun H1 p r l rise ew s1 ep er lo => ?_, fun H1 s1 no => ?_⟩
  · refine ⟨_, rfl, rfl, _, rfl, ?_⟩
    refine iteF (A := True) ?_
    exact go H1 p r "ring" start l s1 ep er (.inl ⟨rfl, ro⟩)
  · refine ⟨_, rfl, rfl, _, rfl, ?_⟩
    refine iteF (A := True) ?_
    exact go H1 p r "line" 0 l s1 ep er (.inr ⟨rise, ew, rfl, rfl, lo⟩)
  · refine ⟨_, rfl, rfl, _, rfl, ?_⟩
    refine iteT (B := True) ?_
    refine ⟨_, rfl, by show 2 ≤ sizeLine; decide, fun t nt => ?_⟩
    have s2 := same_upd (o := .tup [V.non, V.ref b]) nt
    refine q1 _ t _ (s1.trans s2) upd_same fun rise er hre => ?_
    obtain ⟨l, fr, wk⟩ := hre st (by omega)
    exact no rise er l fr wk
theorem ok_made (D : Def K mg "made" 27) (mt : mg "tuple" = none) (GT : Good P w K mg base 5 "thing_of" ["size", "runs", "struck", "wish"] (spThing K)) (GL : Good P w K mg base 1 "line_hands" ["runs", "line"] (spLineHands K)) : ∀ n, Good P w K mg base (5 + n) "made" ["size", "runs", "many", "struck", "wish"] (spMade K n)
  | 0 => made_none D
  | n + 1 => made_step D mt GT GL (ok_made D mt GT GL n)
end
end Fl
namespace Fl
open PySem PySem.Spec PyProof.Rows L2
/-- the setting: few false hands, and lines enough -/
structure Core (rs : List Rn) (many : Nat) (F : List Int) (T : Nat → Int) : Prop where
  inc : F.Pairwise (· < ·)
  len : F.length ≤ many
  sub : ∀ h ∈ F, ∃ q ∈ rs, q.h = h
  tr : ∀ q ∈ rs, q.h ∉ F → T q.b - T q.a = q.r
  lines : ∀ st : List Int, st.length ≤ 2 * many → ∃ l h, Free rs st l ∧ walkF rs 0 l = some (1, h)
theorem Core.lies {rs : List Rn} {many : Nat} {F : List Int} {T : Nat → Int} (c : Core rs many F T) : Lies rs [] many := ⟨F, T, F, c.tr, c.len, fun _ h => .inr h⟩
theorem free_app {rs : List Rn} {st F : List Int} {l : List Nat} (h : Free rs (st ++ F) l) : Free rs st l ∧ Free rs F l :=
  ⟨fun i hi => by obtain ⟨q, a, b⟩ := h i hi; exact ⟨q, a, fun z => b (List.mem_append_left _ z)⟩, fun i hi => by obtain ⟨q, a, b⟩ := h i hi; exact ⟨q, a, fun z => b (List.mem_append_right _ z)⟩⟩
theorem Core.reach {rs : List Rn} {many : Nat} {F : List Int} {T : Nat → Int} (c : Core rs many F T) : Reach rs many (T 1 - T 0) := fun st hs => by
  obtain ⟨l, h, fr, wk⟩ := c.lines (st ++ F) (by rw [List.length_append]; have := c.len; omega)
  obtain ⟨f1, f2⟩ := free_app fr
  refine ⟨l, f1, ?_⟩
  rw [wk, walk_true c.tr f2 wk]
theorem mem_keep {st : List Int} {ps : List (Addr × Rn)} {q : Rn} : q ∈ rsOf (keep st ps) ↔ q ∈ rsOf ps ∧ q.h ∉ st := by
  constructor
  · intro h
    obtain ⟨p, hp, rfl⟩ := List.mem_map.mp h
    obtain ⟨h1, h2⟩ := List.mem_filter.mp hp
    exact ⟨List.mem_map.mpr ⟨p, h1, rfl⟩, by simpa using h2⟩
  · rintro ⟨h, nh⟩
    obtain ⟨p, hp, rfl⟩ := List.mem_map.mp h
    exact List.mem_map.mpr ⟨p, List.mem_filter.mpr ⟨hp, by simpa using nh⟩, rfl⟩
/-- what any reading says between the two -/
theorem Core.rise {ps : List (Addr × Rn)} {many : Nat} {F : List Int} {T : Nat → Int} (c : Core (rsOf ps) many F T) {one xs : List Int} (h1 : one.length ≤ many) (ho : HoldsF (rsOf (keep one ps)) xs) : xs.getD 1 0 - xs.getD 0 0 = T 1 - T 0 := by
  obtain ⟨l, h, fr, wk⟩ := c.lines (one ++ F) (by rw [List.length_append]; have := c.len; omega)
  obtain ⟨f1, f2⟩ := free_app fr
  have e1 := walk_true c.tr f2 wk
  have e2 := walk_true (T := fun m => xs.getD m 0) (F := one) (fun q hq nh => ho q (mem_keep.mpr ⟨hq, nh⟩)) f1 wk
  have e2 : h = xs.getD 1 0 - xs.getD 0 0 := e2
  omega
section
variable {P : Program} {w : World} {K : PySem.W.Frag} {mg : Str → Option Value} {base : Heap}
/-! ### none_paper -/
def spNonePaper (K : PySem.W.Frag) : Sp := fun vs H Q _ => ∃ (a : Addr) (ps : List (Addr × Rn)) (size many : Nat), vs = [.int size, .ref a, .int many] ∧ Runs H a ps ∧ Marks size ps ∧ ps.length ≤ 50 ∧ size ≤ 100 ∧ 2 ≤ size ∧ many ≤ 3 ∧ Lies (rsOf ps) [] many ∧ ∀ H', Same H H' → Q .non H'
theorem scNonePaper : FnScope ["size", "runs", "many"] ["size", "runs", "many"] (defScope (topS 28)) := ⟨rfl, rfl, rfl, by decide +kernel, rfl, by decide +kernel, by decide +kernel⟩
theorem ok_none_paper (D : Def K mg "none_paper" 28) (GM : Good P w K mg base 9 "made" ["size", "runs", "many", "struck", "wish"] (spMade K 4)) : Good P w K mg base 10 "none_paper" ["size", "runs", "many"] (spNonePaper K) := by
  obtain ⟨f, fd, F, hm⟩ := D
  refine ⟨f, fd, F.kp, hm, F.bindsN (fun _ _ _ _ _ _ us hl => match us, hl with | [_, _, _], _ => rfl), F.ok scNonePaper (fun vs H Q E h => ?_) (fun cdv A outer s H vs Q E hr h => ?_)⟩
  · obtain ⟨a, ps, size, many, rfl, _⟩ := h
    rfl
  obtain ⟨a, ps, size, many, rfl, hR, hM, few, small, two, h3, lies, q⟩ := h
  refine ⟨_, PSs.nox (pss_one (ps_ret (pe_ix ix_tup (pe_callG GM hr (by rfl) (pa_cons (pv 0) (pa_cons (pv 1) (pa_cons (pv 2) (pa_cons (pe_lst pa_nil) (pa_cons pe_str pa_nil))))) pass0) pe_int (fun _ _ => rfl)))), ?_⟩
  refine ⟨_, rfl, _, rfl, _, rfl, by show 0 ≤ sizeLine; decide, fun b nb => ?_⟩
  have s1 := same_upd (o := .lst []) nb
  refine ⟨a, b, ps, [], size, many, _, none, rfl, by omega, hR.mono s1, upd_same, rfl, hM, few, small, two, by simp; omega, fun H2 p y s2 ep _ => ?_, fun H2 p v s2 ep pa => ?_⟩
  · exact ⟨_, _, _, _, rfl, rfl, SqT.of ep, rfl, q H2 (s1.trans s2)⟩
  · exact absurd lies (paper_none pa)
/-! ### told -/
def spTold (K : PySem.W.Frag) : Sp := fun vs H Q _ => ∃ (a : Addr) (ps : List (Addr × Rn)) (size many : Nat) (F : List Int) (T : Nat → Int), vs = [.int size, .ref a, .int many, .int 0, .int 1] ∧ Runs H a ps ∧ Marks size ps ∧ ps.length ≤ 50 ∧ size ≤ 100 ∧ 2 ≤ size ∧ many ≤ 3 ∧
  (∀ hs, HandsOk hs (rsOf ps) → hs.length ≤ 7) ∧ Core (rsOf ps) many F T ∧
  ∀ H' p v, Same H H' → H' p = some (.tup [.str "sure", .int (T 1 - T 0), v]) → PaperAt (rsOf ps) size (some (T 1 - T 0)) many [] H' v → Q (.ref p) H'
theorem scTold : FnScope ["size", "runs", "many", "one", "other", "none", "first", "rise", "paper", "struck"] ["size", "runs", "many", "one", "other"] (defScope (topS 32)) := ⟨rfl, rfl, rfl, by decide +kernel, rfl, by decide +kernel, by decide +kernel⟩
theorem ok_told (D : Def K mg "told" 32) (GN : Good P w K mg base 10 "none_paper" ["size", "runs", "many"] (spNonePaper K)) (GR : Good P w K mg base 4 "reading" ["size", "runs", "many"] (spReading K)) (GM : Good P w K mg base 9 "made" ["size", "runs", "many", "struck", "wish"] (spMade K 4)) :
    Good P w K mg base 11 "told" ["size", "runs", "many", "one", "other"] (spTold K) := by
  obtain ⟨f, fd, F, hm⟩ := D
  refine ⟨f, fd, F.kp, hm, F.bindsN (fun _ _ _ _ _ _ us hl => match us, hl with | [_, _, _, _, _], _ => rfl), F.ok scTold (fun vs H Q E h => ?_) (fun cdv A outer s H vs Q E hr h => ?_)⟩
  · obtain ⟨a, ps, size, many, _, _, rfl, _⟩ := h
    rfl
  obtain ⟨a, ps, size, many, Fs, T, rfl, hR, hM, few, small, two, h3, h7, core, q⟩ := h
  have nd := scTold.nd
  refine ⟨_, PSs.nox (pss_cons (ps_set (i := 5) nd rfl (.inl rfl) (pe_callG GN hr (by rfl) (pa_cons (pv 0) (pa_cons (pv 1) (pa_cons (pv 2) pa_nil))) pass0))
    (pss_cons (ps_if (pt_cmpR op_notN (pv 5) pe_non (nomark _)) (pss_one ps_never) pss_nil)
    (pss_cons (ps_set (i := 6) nd rfl (.inl rfl) (pe_callG GR (hr.mono (by decide)) (by rfl) (pa_cons (pv 0) (pa_cons (pv 1) (pa_cons (pv 2) pa_nil))) pass0))
    (pss_cons (ps_set (i := 7) nd rfl (.inl rfl) (pe_op op_sub (pe_ix ix_list (pe_ix ix_tup (pv 6) pe_int (fun _ _ => rfl)) (pv 4) (fun _ _ => rfl)) (pe_ix ix_list (pe_ix ix_tup (pv 6) pe_int (fun _ _ => rfl)) (pv 3) (fun _ _ => rfl))))
    (pss_cons (ps_asg (pe_callG GM (hr.mono (by decide)) (by rfl) (pa_cons (pv 0) (pa_cons (pv 1) (pa_cons (pv 2) (pa_cons (pe_lst pa_nil) (pa_cons (pe_tup (pa_cons (pv 3) (pa_cons (pv 4) (pa_cons (pv 7) pa_nil)))) pa_nil))))) pass0) (pg_tup rfl (pgs_cons (pg_name (i := 8) nd rfl (.inl rfl)) (pgs_cons (pg_name (i := 9) nd rfl (.inl rfl)) pgs_nil))))
    (pss_cons (ps_if (pt_cmpR op_notN (pv 8) pe_non (nomark _)) (pss_one (ps_ret (pe_tup (pa_cons pe_str (pa_cons (pv 7) (pa_cons (pv 8) pa_nil)))))) pss_nil)
    (pss_one ps_never))))))), ?_⟩
  refine ⟨_, rfl, _, rfl, _, rfl, a, ps, size, many, rfl, hR, hM, few, small, two, h3, core.lies, fun H1 s1 => ?_⟩
  refine ⟨_, rfl, rfl, _, rfl, ?_⟩
  refine iteF (A := True) ?_
  refine ⟨_, rfl, _, rfl, _, rfl, a, ps, size, many, rfl, hR.mono s1, hM, by omega, few, by omega, h7, ⟨Fs, T, core.inc, core.len, core.sub, fun q hq => ?_⟩, fun H2 p x y one xs s2 ep _ ey lo lx hol => ?_⟩
  · obtain ⟨h1, h2⟩ := mem_keep.mp hq
    exact core.tr q h1 h2
  have rise := core.rise lo hol
  have s12 := s1.trans s2
  refine ⟨_, rfl, _, _, _, _, rfl, rfl, SqT.of ep, rfl, _, rfl, _, _, _, _, rfl, rfl, SqL.of ey, at_int (n := 1) (getD_at (by omega)), ?_⟩
  refine ⟨_, rfl, _, _, _, _, rfl, rfl, SqT.of ep, rfl, _, rfl, _, _, _, _, rfl, rfl, SqL.of ey, at_int (n := 0) (getD_at (by omega)), _, _, rfl, rfl, ?_⟩
  refine ⟨_, rfl, _, rfl, _, rfl, by show 0 ≤ sizeLine; decide, fun b nb => ?_⟩
  have s3 := same_upd (o := .lst []) nb
  refine ⟨_, rfl, _, rfl, _, rfl, by show 3 ≤ sizeLine; decide, fun t nt => ?_⟩
  have s4 := same_upd (o := .tup [V.int 0, V.int 1, V.int (xs.getD 1 0 - xs.getD 0 0)]) nt
  have s14 := s12.trans (s3.trans s4)
  refine ⟨a, b, ps, [], size, many, _, some (T 1 - T 0), rfl, by omega, hR.mono s14, s4 _ _ upd_same, ⟨t, rfl, by rw [← rise]; exact upd_same⟩, hM, few, small, two, by simp; omega, fun H5 z v s5 ez no => ?_, fun H5 z v s5 ez pa => ?_⟩
  · have re := core.reach
    refine absurd ?_ (no _ rfl)
    rw [List.length_nil, Nat.zero_add]
    exact re
  · obtain ⟨vp, rfl⟩ := pa.ref
    refine ⟨z, _, rfl, SqT.of ez, rfl, _, _, rfl, _, _, rfl, rfl, ?_⟩
    refine ⟨_, rfl, rfl, _, rfl, ?_⟩
    refine iteT (B := True) ?_
    refine ⟨_, rfl, _, rfl, by show 3 ≤ sizeLine; decide, fun r nr => ?_⟩
    have s6 := same_upd (o := .tup [V.str "sure", V.int (xs.getD 1 0 - xs.getD 0 0), V.ref vp]) nr
    refine q _ r (.ref vp) (s14.trans (s5.trans s6)) (by rw [← rise]; exact upd_same) (pa.tups (tups_of s6))
end
end Fl
namespace Fl
open PySem PySem.Spec PyProof.Rows L2
/-- the law's box: what it draws from -/
def BoxAt (H : Hp) (b c : Addr) (cells : List Int) : Prop := ∃ (pos : Nat) (rest seed : Int), H b = some (.lst [.ref c, .int (pos : Nat), .int rest, .int seed]) ∧ H c = some (.lst (ivs cells)) ∧ pos ≤ cells.length ∧ 0 ≤ seed ∧ seed < 2147483629
theorem BoxAt.ne {H : Hp} {b c : Addr} {cells : List Int} {x y z : V} (h : H b = some (.lst [.ref c, x, y, z])) (hc : H c = some (.lst (ivs cells))) : c ≠ b := by
  refine ne_of hc h fun e => ?_
  have e := HO.lst.inj e
  cases cells with
  | nil => cases e
  | cons n cells => cases e
theorem BoxAt.mono {H H' : Hp} {b c : Addr} {cells : List Int} (s : Same H H') (h : BoxAt H b c cells) : BoxAt H' b c cells := by
  obtain ⟨pos, rest, seed, h1, h2, h3⟩ := h
  exact ⟨pos, rest, seed, s _ _ h1, s _ _ h2, h3⟩
section
variable {P : Program} {w : World} {K : PySem.W.Frag} {mg : Str → Option Value} {base : Heap}
/-! ### _law_box -/
def spBox (K : PySem.W.Frag) : Sp := fun vs H Q _ => ∃ (a : Addr) (ns : List Int), vs = [.ref a] ∧ SqL K H a (ivs ns) ∧ ∀ H' b c cells, Same H H' → H b = none → BoxAt H' b c cells → Q (.ref b) H'
theorem scBox : FnScope ["_law_script"] ["_law_script"] (defScope (topS 34)) := ⟨rfl, rfl, rfl, by decide +kernel, rfl, by decide +kernel, by decide +kernel⟩
theorem ok_box (D : Def K mg "_law_box" 34) (ml : mg "list" = none) : Good P w K mg base 1 "_law_box" ["_law_script"] (spBox K) := by
  obtain ⟨f, fd, F, hm⟩ := D
  refine ⟨f, fd, F.kp, hm, F.bindsN (fun _ _ _ _ _ _ us hl => match us, hl with | [_], _ => rfl), F.ok scBox (fun vs H Q E h => ?_) (fun cdv A outer s H vs Q E hr h => ?_)⟩
  · obtain ⟨a, ns, rfl, _⟩ := h
    rfl
  obtain ⟨a, ns, rfl, hS, q⟩ := h
  refine ⟨_, PSs.nox (pss_one (ps_ret (pe_lst (pa_cons (pe_callTy call_list_of (by rfl) ml boot_list (pa_cons (pe_slice sl_list (pv 0) po_none (po_some pe_int)) pa_nil)) (pa_cons pe_int (pa_cons pe_int (pa_cons pe_int pa_nil))))))), ?_⟩
  refine ⟨_, rfl, 63, rfl, a, _, rfl, hS, fun c0 n0 => ?_⟩
  obtain ⟨cells, ec⟩ := cut_ivs ns none (some 63)
  rw [ec]
  have s1 := same_upd (o := .lst (ivs cells)) n0
  refine ⟨c0, _, rfl, .inl (SqL.of upd_same), fun c nc => ?_⟩
  have s2 := same_upd (o := .lst (ivs cells)) nc
  refine ⟨by show 4 ≤ sizeLine; decide, fun b nb => ?_⟩
  have s3 := same_upd (o := .lst [V.ref c, V.int 0, V.int 0, V.int 17]) nb
  exact q _ b c cells ((s1.trans s2).trans s3) (Same.free (s1.trans s2) nb) ⟨0, 0, 17, upd_same, s3 _ _ upd_same, Nat.zero_le _, by decide, by decide⟩
/-! ### _law_take -/
def spTake (K : PySem.W.Frag) : Sp := fun vs H Q _ => ∃ (b c : Addr) (cells : List Int) (m : Int), vs = [.ref b, .int m] ∧ BoxAt H b c cells ∧ 0 < m ∧ m ≤ 1000000000000 ∧ ∀ H' (r : Int), SameX b H H' → BoxAt H' b c cells → 0 ≤ r → r < m → Q (.int r) H'
theorem scTake : FnScope ["_law_box_here", "_law_many", "_law_rest", "_law_cell", "_law_seed"] ["_law_box_here", "_law_many"] (defScope (topS 35)) := ⟨rfl, rfl, rfl, by decide +kernel, rfl, by decide +kernel, by decide +kernel⟩
theorem div_ok {m : Int} (h0 : 0 < m) (h1 : m ≤ 1000000000000) (i : Int) : CDivW i m := by
  refine wide_div (b := 41) h0 ?_ (by decide) (by decide)
  have e : (2 : Nat) ^ 41 = 2199023255552 := by decide
  rw [e]
  omega
theorem ok_take (D : Def K mg "_law_take" 35) (ml : mg "len" = none) : Good P w K mg base 1 "_law_take" ["_law_box_here", "_law_many"] (spTake K) := by
  obtain ⟨f, fd, F, hm⟩ := D
  refine ⟨f, fd, F.kp, hm, F.bindsN (fun _ _ _ _ _ _ us hl => match us, hl with | [_, _], _ => rfl), F.ok scTake (fun vs H Q E h => ?_) (fun cdv A outer s H vs Q E hr h => ?_)⟩
  · obtain ⟨b, c, cells, m, rfl, _⟩ := h
    rfl
  obtain ⟨b, c, cells, m, rfl, ⟨pos, rest, seed, hB, hC, hp, hs0, hs1⟩, m0, m1, q⟩ := h
  have nd := scTake.nd
  refine ⟨_, PSs.nox (pss_cons (ps_if (pt_cmpR op_gt (pe_ix ix_list (pv 0) pe_int (fun _ _ => rfl)) pe_int (nomark _))
      (pss_cons (ps_set (i := 2) nd rfl (.inl rfl) (pe_ix ix_list (pv 0) pe_int (fun _ _ => rfl)))
      (pss_cons (ps_asg (pe_op op_fdivW (pv 2) (pv 1)) (pg_sub (pv 0) pe_int set_list))
      (pss_one (ps_ret (pe_op op_mod (pv 2) (pv 1)))))) pss_nil)
    (pss_cons (ps_set (i := 3) nd rfl (.inl rfl) pe_int)
    (pss_cons (ps_if (pt_cmpR op_lt (pe_ix ix_list (pv 0) pe_int (fun _ _ => rfl)) (pe_callB call_len_seq (by rfl) ml PySem.boot_len (pa_cons (pe_ix ix_list (pv 0) pe_int (fun _ _ => rfl)) pa_nil)) (nomark _))
      (pss_cons (ps_set (i := 3) nd rfl (.inl rfl) (pe_ix ix_list (pe_ix ix_list (pv 0) pe_int (fun _ _ => rfl)) (pe_ix ix_list (pv 0) pe_int (fun _ _ => rfl)) (fun _ _ => rfl)))
      (pss_one (ps_augS (pv 0) pe_int get_list pe_int ip_add set_list))) pss_nil)
    (pss_cons (ps_if (pt_cmpR op_ge (pv 3) (pe_op op_pow pe_int pe_int) (nomark _))
      (pss_cons (ps_asg (pe_op op_fdivW (pv 3) (pv 1)) (pg_sub (pv 0) pe_int set_list))
      (pss_one (ps_ret (pe_op op_mod (pv 3) (pv 1))))) pss_nil)
    (pss_cons (ps_set (i := 4) nd rfl (.inl rfl) (pe_ix ix_list (pv 0) pe_int (fun _ _ => rfl)))
    (pss_cons (ps_set (i := 4) nd rfl (.inl rfl) (pe_op op_add (pe_op op_add (pe_op op_pow (pv 4) pe_int) (pe_op op_mul pe_int (pv 4))) (pe_op op_mul pe_int (pe_op op_mod (pv 3) pe_int))))
    (pss_cons (ps_asg (pe_op op_mod (pe_op op_add (pv 4) pe_int) pe_int) (pg_sub (pv 0) pe_int set_list))
    (pss_one (ps_ret (pe_op op_mod (pe_op op_fdiv (pe_ix ix_list (pv 0) pe_int (fun _ _ => rfl)) pe_int) (pv 1))))))))))), ?_⟩
  have ncb := BoxAt.ne hB hC
  refine ⟨_, rfl, _, _, _, _, rfl, rfl, SqL.of hB, rfl, _, _, rfl, rfl, _, rfl, ?_⟩
  refine ite2 (fun _ => ?_) (fun _ => ?_)
  · -- a rest
    refine ⟨_, rfl, _, _, _, _, rfl, rfl, SqL.of hB, rfl, ?_⟩
    refine ⟨_, rfl, _, rfl, _, _, rfl, rfl, div_ok m0 m1 _, _, rfl, b, _, _, 2, rfl, rfl, hB, rfl, ?_⟩
    refine ⟨_, rfl, _, rfl, _, _, rfl, rfl, m0, ?_⟩
    exact q _ _ SameX.upd ⟨pos, _, seed, upd_same, by rw [upd_ne ncb]; exact hC, hp, hs0, hs1⟩ (Int.emod_nonneg _ (by omega)) (Int.emod_lt_of_pos _ m0)
  -- behind the cell
  have after : ∀ (H1 : Hp) (pos1 : Nat) (cell : Int) (x2 : Option V), SameX b H H1 → H1 b = some (.lst [.ref c, .int (pos1 : Nat), .int rest, .int seed]) → H1 c = some (.lst (ivs cells)) → pos1 ≤ cells.length →
      tSeq (tIfS (tTest (tOp (rI0 fun i j => .bl (decide (j ≤ i))) (tVar 3) (tOp (rI CPow fun i j => .int (i ^ j.toNat)) (tC (.int 10)) (tC (.int 18)))))
        (tSeq (tAsg (tOp (rI CDivW fun i j => .int (i / j)) (tVar 3) (tVar 1)) (gSub (tVar 0) (tC (.int 2)) rSetL)) (tRet (tOp (rI (fun _ j => 0 < j) fun i j => .int (i % j)) (tVar 3) (tVar 1)))) tNext)
        (tSeq (tAsg (tOp (rIxL K) (tVar 0) (tC (.int 3))) (gName 4))
        (tSeq (tAsg (tOp (rI0 fun i j => .int (i + j)) (tOp (rI0 fun i j => .int (i + j)) (tOp (rI CPow fun i j => .int (i ^ j.toNat)) (tVar 4) (tC (.int 3))) (tOp (rI CMul fun i j => .int (i * j)) (tC (.int 48271)) (tVar 4))) (tOp (rI CMul fun i j => .int (i * j)) (tC (.int 69621)) (tOp (rI (fun _ j => 0 < j) fun i j => .int (i % j)) (tVar 3) (tC (.int 2147483629))))) (gName 4))
        (tSeq (tAsg (tOp (rI (fun _ j => 0 < j) fun i j => .int (i % j)) (tOp (rI0 fun i j => .int (i + j)) (tVar 4) (tC (.int 11))) (tC (.int 2147483629))) (gSub (tVar 0) (tC (.int 3)) rSetL))
        (tRet (tOp (rI (fun _ j => 0 < j) fun i j => .int (i % j)) (tOp (rI CDiv fun i j => .int (i / j)) (tOp (rIxL K) (tVar 0) (tC (.int 3))) (tC (.int 64))) (tVar 1))))))
        { nx := fun _ H' => Q .non H', rt := Q } [some (.ref b), some (.int m), x2, some (.int cell), none] H1 := by
    intro H1 pos1 cell x2 x1 hB1 hC1 hp1
    refine ⟨_, rfl, _, _, rfl, rfl, ⟨by decide, by decide, by decide⟩, _, _, rfl, rfl, _, rfl, ?_⟩
    refine ite2 (fun _ => ?_) (fun _ => ?_)
    · refine ⟨_, rfl, _, rfl, _, _, rfl, rfl, div_ok m0 m1 _, _, rfl, b, _, _, 2, rfl, rfl, hB1, rfl, ?_⟩
      refine ⟨_, rfl, _, rfl, _, _, rfl, rfl, m0, ?_⟩
      exact q _ _ (x1.trans SameX.upd) ⟨pos1, _, seed, upd_same, by rw [upd_ne ncb]; exact hC1, hp1, hs0, hs1⟩ (Int.emod_nonneg _ (by omega)) (Int.emod_lt_of_pos _ m0)
    · refine ⟨_, rfl, _, _, _, _, rfl, rfl, SqL.of hB1, rfl, ?_⟩
      refine ⟨_, rfl, _, _, rfl, rfl, ⟨by decide, by decide, by omega⟩, _, rfl, _, _, rfl, rfl, .inl ⟨by decide, by decide⟩, _, _, rfl, rfl, _, rfl, _, _, rfl, rfl, (by show (0 : Int) < 2147483629; decide), _, _, rfl, rfl, .inl ⟨by decide, by decide⟩, _, _, rfl, rfl, ?_⟩
      refine ⟨_, rfl, _, _, rfl, rfl, _, _, rfl, rfl, (by show (0 : Int) < 2147483629; decide), _, rfl, b, _, _, 3, rfl, rfl, hB1, rfl, ?_⟩
      refine ⟨_, rfl, _, _, _, _, rfl, rfl, SqL.of upd_same, rfl, _, _, rfl, rfl, ⟨by decide, by decide⟩, _, rfl, _, _, rfl, rfl, m0, ?_⟩
      exact q _ _ (x1.trans SameX.upd) ⟨pos1, rest, _, upd_same, by rw [upd_ne ncb]; exact hC1, hp1, Int.emod_nonneg _ (by decide), Int.emod_lt_of_pos _ (by decide)⟩ (Int.emod_nonneg _ (by omega)) (Int.emod_lt_of_pos _ m0)
  refine ⟨_, rfl, _, _, _, _, rfl, rfl, SqL.of hB, rfl, _, rfl, _, _, _, _, rfl, rfl, SqL.of hB, rfl, c, _, rfl, .inl (SqL.of hC), _, _, rfl, rfl, _, rfl, ?_⟩
  refine ite2 (fun lt => ?_) (fun _ => ?_)
  · have lt : (pos : Int) < (((ivs cells).length : Nat) : Int) := of_decide_eq_true lt
    rw [List.length_map] at lt
    have lt' : pos < cells.length := by omega
    refine ⟨_, rfl, _, _, _, _, rfl, rfl, SqL.of hB, rfl, _, rfl, _, _, _, _, rfl, rfl, SqL.of hB, rfl, _, _, _, _, rfl, rfl, SqL.of hC, at_int (getD_at lt'), ?_⟩
    refine ⟨_, rfl, _, _, _, _, rfl, rfl, SqL.of hB, rfl, _, _, rfl, rfl, b, _, _, 1, rfl, rfl, hB, rfl, ?_⟩
    refine after _ (pos + 1) _ none SameX.upd upd_same (by rw [upd_ne ncb]; exact hC) lt'
  · exact after H pos 0 none SameX.refl hB hC hp
/-! ### _law_great -/
def spGreat (K : PySem.W.Frag) : Sp := fun vs H Q _ => ∃ (b c : Addr) (cells : List Int), vs = [.ref b] ∧ BoxAt H b c cells ∧ ∀ H' (r : Int), SameX b H H' → BoxAt H' b c cells → Q (.int r) H'
theorem scGreat : FnScope ["_law_box_here", "_law_ways", "_law_found", "_law_k"] ["_law_box_here"] (defScope (topS 36)) := ⟨rfl, rfl, rfl, by decide +kernel, rfl, by decide +kernel, by decide +kernel⟩
theorem ok_great (D : Def K mg "_law_great" 36) (mr : mg "range" = none) (GT : Good P w K mg base 1 "_law_take" ["_law_box_here", "_law_many"] (spTake K)) : Good P w K mg base 2 "_law_great" ["_law_box_here"] (spGreat K) := by
  obtain ⟨f, fd, F, hm⟩ := D
  refine ⟨f, fd, F.kp, hm, F.bindsN (fun _ _ _ _ _ _ us hl => match us, hl with | [_], _ => rfl), F.ok scGreat (fun vs H Q E h => ?_) (fun cdv A outer s H vs Q E hr h => ?_)⟩
  · obtain ⟨b, c, cells, rfl, _⟩ := h
    rfl
  obtain ⟨b, c, cells, rfl, hB, q⟩ := h
  have nd := scGreat.nd
  refine ⟨_, PSs.nox (pss_cons (ps_set (i := 1) nd rfl (.inl rfl) (pe_callG GT hr (by rfl) (pa_cons (pv 0) (pa_cons pe_int pa_nil)) pass0))
    (pss_cons (ps_if (pt_cmpR op_eq (pv 1) pe_int (nomark _)) (pss_one (ps_ret (pe_callG GT hr (by rfl) (pa_cons (pv 0) (pa_cons pe_int pa_nil)) pass0))) pss_nil)
    (pss_cons (ps_if (pt_cmpR op_eq (pv 1) pe_int (nomark _)) (pss_one (ps_ret (pe_callG GT hr (by rfl) (pa_cons (pv 0) (pa_cons pe_int pa_nil)) pass0))) pss_nil)
    (pss_cons (ps_set (i := 2) nd rfl (.inl rfl) pe_int)
    (pss_cons (ps_for PassesOwn.never rfl (pi_range1 (by rfl) mr (pa_cons pe_int pa_nil)) (pg_name (i := 3) nd rfl (.inl rfl))
      (pss_one (ps_set (i := 2) nd rfl (.inl rfl) (pe_op op_add (pe_op op_mul (pv 2) pe_int) (pe_callG GT hr (by rfl) (pa_cons (pv 0) (pa_cons pe_int pa_nil)) pass0)))))
    (pss_one (ps_ret (pv 2)))))))), ?_⟩
  refine ⟨_, rfl, b, c, cells, 4, rfl, hB, by decide, by decide, fun H1 r x1 b1 _ _ => ?_⟩
  refine ⟨_, rfl, rfl, _, rfl, ?_⟩
  refine ite2 (fun _ => ?_) (fun _ => ?_)
  · refine ⟨_, rfl, b, c, cells, 10, rfl, b1, by decide, by decide, fun H2 r x2 b2 _ _ => q _ _ (x1.trans x2) b2⟩
  refine ⟨_, rfl, rfl, _, rfl, ?_⟩
  refine ite2 (fun _ => ?_) (fun _ => ?_)
  · refine ⟨_, rfl, b, c, cells, 1000000, rfl, b1, by decide, by decide, fun H2 r x2 b2 _ _ => q _ _ (x1.trans x2) b2⟩
  refine ⟨3, rfl, by decide, by decide, ?_⟩
  refine for_range (fun i σ H' => SameX b H H' ∧ BoxAt H' b c cells ∧ ∃ (z : Int) (x3 : Option V), σ = [some (.ref b), some (.int r), some (.int z), x3]) ⟨x1, b1, _, _, rfl⟩ ?_ ?_
  · rintro i σ H' _ ⟨x2, b2, z, x3, rfl⟩
    refine ⟨_, rfl, _, _, rfl, rfl, .inr ⟨by decide, by decide⟩, _, rfl, b, c, cells, 1000000, rfl, b2, by decide, by decide, fun H3 r x3 b3 _ _ => ?_⟩
    exact ⟨_, _, rfl, rfl, x2.trans x3, b3, _, _, rfl⟩
  · rintro σ H' ⟨x2, b2, z, x3, rfl⟩
    exact ⟨_, rfl, q _ _ x2 b2⟩
/-! ### _law_other_rise -/
def spOtherRise (K : PySem.W.Frag) : Sp := fun vs H Q _ => ∃ (b c : Addr) (cells : List Int) (rise : Int), vs = [.ref b, .int rise] ∧ BoxAt H b c cells ∧ ∀ H' (r : Int), SameX b H H' → BoxAt H' b c cells → Q (.int r) H'
theorem scOtherRise : FnScope ["_law_box_here", "_law_rise"] ["_law_box_here", "_law_rise"] (defScope (topS 39)) := ⟨rfl, rfl, rfl, by decide +kernel, rfl, by decide +kernel, by decide +kernel⟩
theorem ok_other_rise (D : Def K mg "_law_other_rise" 39) (GT : Good P w K mg base 1 "_law_take" ["_law_box_here", "_law_many"] (spTake K)) (GG : Good P w K mg base 2 "_law_great" ["_law_box_here"] (spGreat K)) : Good P w K mg base 3 "_law_other_rise" ["_law_box_here", "_law_rise"] (spOtherRise K) := by
  obtain ⟨f, fd, F, hm⟩ := D
  refine ⟨f, fd, F.kp, hm, F.bindsN (fun _ _ _ _ _ _ us hl => match us, hl with | [_, _], _ => rfl), F.ok scOtherRise (fun vs H Q E h => ?_) (fun cdv A outer s H vs Q E hr h => ?_)⟩
  · obtain ⟨b, c, cells, rise, rfl, _⟩ := h
    rfl
  obtain ⟨b, c, cells, rise, rfl, hB, q⟩ := h
  have hr1 : Room 1 _ := hr.mono (by decide)
  refine ⟨_, PSs.nox (pss_one (ps_ret (pe_op op_add (pv 1) (pe_ix ix_list (pe_lst (pa_cons pe_int (pa_cons (pe_un un_neg pe_int) (pa_cons (pe_op op_add pe_int (pe_callG GT hr1 (by rfl) (pa_cons (pv 0) (pa_cons pe_int pa_nil)) pass0))
    (pa_cons (pe_callG GG hr (by rfl) (pa_cons (pv 0) pa_nil) pass0) (pa_cons (pe_un un_neg (pe_callG GG hr (by rfl) (pa_cons (pv 0) pa_nil) pass0)) pa_nil)))))) (pe_callG GT hr1 (by rfl) (pa_cons (pv 0) (pa_cons pe_int pa_nil)) pass0) (fun _ _ => rfl))))), ?_⟩
  refine ⟨_, rfl, _, rfl, _, rfl, b, c, cells, 5, rfl, hB, by decide, by decide, fun H1 r1 x1 b1 _ _ => ?_⟩
  refine ⟨_, _, rfl, rfl, _, rfl, b, c, cells, rfl, b1, fun H2 r2 x2 b2 => ?_⟩
  refine ⟨_, rfl, b, c, cells, rfl, b2, fun H3 r3 x3 b3 => ?_⟩
  refine ⟨_, rfl, by show 5 ≤ sizeLine; decide, fun l nl => ?_⟩
  have s4 := same_upd (o := .lst [V.int 1, V.int (-1), V.int (1 + r1), V.int r2, V.int (-r3)]) nl
  refine ⟨_, rfl, b, c, cells, 5, rfl, b3.mono s4, by decide, by decide, fun H5 r5 x5 b5 h0 h1 => ?_⟩
  have nlb : l ≠ b := fun e => by
    subst e
    obtain ⟨_, _, _, z, _⟩ := b3
    rw [z] at nl
    cases nl
  have el : H5 l = some (.lst [V.int 1, V.int (-1), V.int (1 + r1), V.int r2, V.int (-r3)]) := x5 _ _ nlb upd_same
  have all := ((x1.trans x2).trans (x3.thenS s4)).trans x5
  have pick : ∃ z : Int, atI [V.int 1, V.int (-1), V.int (1 + r1), V.int r2, V.int (-r3)] r5 = some (.int z) := by
    have : r5 = 0 ∨ r5 = 1 ∨ r5 = 2 ∨ r5 = 3 ∨ r5 = 4 := by omega
    rcases this with e | e | e | e | e <;> subst e <;> exact ⟨_, rfl⟩
  obtain ⟨z, ez⟩ := pick
  exact ⟨l, _, _, _, rfl, rfl, SqL.of el, ez, _, _, rfl, rfl, q _ _ all b5⟩
end
end Fl
namespace Fl
open PySem PySem.Spec PyProof.Rows L2
section
variable {P : Program} {w : World} {K : PySem.W.Frag} {mg : Str → Option Value} {base : Heap}
/-! ### _law_hands -/
theorem hands_lt {hs : List Int} {rs : List Rn} {n : Nat} (h : HandsOk hs rs) (hn : rs.length ≤ n) : hs.length ≤ n := by
  have := nodup_sub (lt_nodup h.inc) (m := rs.map Rn.h) fun x hx => by
    obtain ⟨q, hq, e⟩ := (h.mem x).mp hx
    exact List.mem_map.mpr ⟨q, hq, e⟩
  rw [List.length_map] at this
  omega
theorem acc_ints {α : Type} {e : α → Int} {l : List α} {acc : List V} (h : Paired (fun x y => y = V.int (e x)) l acc) : acc = ivs (l.map e) := by
  have := pr_map_eq (e := fun x => V.int (e x)) h
  rw [this, ivs, List.map_map]
  rfl
def spLawHands (K : PySem.W.Frag) : Sp := fun vs H Q _ => ∃ (a : Addr) (ps : List (Addr × Rn)), vs = [.ref a] ∧ Runs H a ps ∧ ps.length ≤ 50 ∧ ∀ H' p hs, Same H H' → H' p = some (.lst (ivs hs)) → HandsOk hs (rsOf ps) → Q (.ref p) H'
theorem scLawHands : FnScope ["_law_runs", "_law_run"] ["_law_runs"] (defScope (topS 41)) := ⟨rfl, rfl, rfl, by decide +kernel, rfl, by decide +kernel, by decide +kernel⟩
theorem ok_law_hands (D : Def K mg "_law_hands" 41) (ms : mg "sorted" = none) (mset : mg "set" = none) : Good P w K mg base 1 "_law_hands" ["_law_runs"] (spLawHands K) := by
  obtain ⟨f, fd, F, hm⟩ := D
  refine ⟨f, fd, F.kp, hm, F.bindsN (fun _ _ _ _ _ _ us hl => match us, hl with | [_], _ => rfl), F.ok scLawHands (fun vs H Q E h => ?_) (fun cdv A outer s H vs Q E hr h => ?_)⟩
  · obtain ⟨a, ps, rfl, _⟩ := h
    rfl
  obtain ⟨a, ps, rfl, hR, few, q⟩ := h
  have nd := scLawHands.nd
  refine ⟨_, PSs.nox (pss_one (ps_ret (pe_callB (cr_sortedSet rfl) (by rfl) ms boot_sorted (pa_cons (pe_callTy cr_setL (by rfl) mset boot_set (pa_cons
    (pe_lc (own := [("_law_run", 1)]) (g := gName 1) (tt := tYes) rfl nd (pi_list (pv 0)) (blkOk_by (own := [("_law_run", 1)]) (N := ["_law_runs", "_law_run"]) (sc := defScope (topS 41)) (by decide +kernel)) (fun _ _ _ _ _ => pg_name (i := 1) nd rfl (Or.inl rfl))
    (fun _ _ _ _ _ => pts_nil) (fun _ _ _ _ _ => pe_ix (r := rIxT K) ix_tup (pv 1) pe_int (fun _ _ => rfl))) pa_nil)) pa_nil)))), ?_⟩
  refine ⟨_, rfl, a, rfl, ⟨_, SqL.of hR.1⟩, fun D hD => ?_⟩
  refine lc_pair walk_list (L := ps) (fun _ => true) (fun x y H => y = V.int x.2.h) (by rw [List.length_map]) (by rw [List.length_map]; omega) (fun x y H H' ts r => r) hD (fun H' s => SqL.of (s _ _ hR.1)) ?_ ?_
  · intro i x v H1 H2 hx s1 y Kp Sk hK hS'
    obtain ⟨rfl, hv⟩ := y
    rw [List.getElem?_map, hx] at hv
    cases hv
    have hx' := hR.2 x (List.mem_of_getElem? hx)
    refine ⟨rfl, ?_⟩
    refine iteT (B := True) ?_
    exact ⟨_, rfl, _, _, _, _, rfl, rfl, SqT.of (s1 _ _ hx'), rfl, hK _ _ (Same.refl _) rfl rfl⟩
  · intro H' acc s1 hd pr
    rw [List.filter_eq_self.mpr (fun _ _ => rfl)] at pr
    have ea := acc_ints pr
    subst ea
    refine ⟨rfl, D, _, rfl, SqL.of hd, by rw [List.length_map]; omega, fun p c np hc => ?_⟩
    rw [List.length_map] at hc
    have s2 := same_upd (o := SetO w p (fun j => decide (j ∈ ps.map fun x => x.2.h)) c) np
    refine ⟨p, _, c, rfl, upd_same, by omega, fun ns r pw hm hl nr => ?_⟩
    refine q _ r ns ((s1.trans s2).trans (same_upd nr)) upd_same ⟨pw, fun h => ?_⟩
    rw [hm h, decide_eq_true_eq, List.mem_map]
    constructor
    · rintro ⟨x, hx, e⟩
      exact ⟨x.2, List.mem_map.mpr ⟨x, hx, rfl⟩, e⟩
    · rintro ⟨q, hq, e⟩
      obtain ⟨x, hx, rfl⟩ := List.mem_map.mp hq
      exact ⟨x, hx, e⟩
/-! ### _law_walk -/
def spLawWalk (K : PySem.W.Frag) : Sp := fun vs H Q _ => ∃ (a t : Addr) (ps : List (Addr × Rn)) (mark : Nat) (line : List Nat) (e : Nat) (h : Int), vs = [.ref a, .int mark, .ref t] ∧ Runs H a ps ∧ H t = some (.tup (nvs line)) ∧ Marks 1000 ps ∧ line.Nodup ∧ line.length ≤ 1000 ∧
  walkF (rsOf ps) mark line = some (e, h) ∧ ∀ H' p, Same H H' → H' p = some (.tup [.int e, .int h]) → Q (.ref p) H'
theorem scLawWalk : FnScope ["_law_runs", "_law_mark", "_law_line", "_law_here", "_law_height", "_law_at", "_law_one", "_law_other", "_law_rise", "_law_hand"] ["_law_runs", "_law_mark", "_law_line"] (defScope (topS 42)) := ⟨rfl, rfl, rfl, by decide +kernel, rfl, by decide +kernel, by decide +kernel⟩
theorem ints_nodup {line : List Nat} (h : line.Nodup) : (ints_ line).Nodup := List.Pairwise.map _ (fun a b ne e => ne (by omega)) h
theorem ok_law_walk (D : Def K mg "_law_walk" 42) (ml : mg "len" = none) (mset : mg "set" = none) : Good P w K mg base 1 "_law_walk" ["_law_runs", "_law_mark", "_law_line"] (spLawWalk K) := by
  obtain ⟨f, fd, F, hm⟩ := D
  refine ⟨f, fd, F.kp, hm, F.bindsN (fun _ _ _ _ _ _ us hl => match us, hl with | [_, _, _], _ => rfl), F.ok scLawWalk (fun vs H Q E h => ?_) (fun cdv A outer s H vs Q E hr h => ?_)⟩
  · obtain ⟨a, t, ps, mark, line, e, h, rfl, _⟩ := h
    rfl
  obtain ⟨a, t, ps, mark, line, e, h, rfl, hR, hT, hM, nodup, short, hw, q⟩ := h
  have nd := scLawWalk.nd
  refine ⟨_, PSs.nox (pss_cons (ps_set (i := 3) nd rfl (.inl rfl) (pv 1)) (pss_cons (ps_set (i := 4) nd rfl (.inl rfl) pe_int)
    (pss_cons (ps_if (pt_cmpR op_ne (pe_lenSetT (by rfl) ml (by rfl) mset (pv 2)) (pe_callB call_len_seq (by rfl) ml PySem.boot_len (pa_cons (pv 2) pa_nil)) (nomark _)) (pss_one (ps_ret pe_non)) pss_nil)
    (pss_cons (ps_for PassesOwn.never rfl (pi_tup (pv 2)) (pg_name (i := 5) nd rfl (.inl rfl))
      (pss_cons (ps_if (PW.pt (pw_or (pt_not (pt_chain op_le op_lt pe_int (pv 5) (pe_callB call_len_seq (by rfl) ml PySem.boot_len (pa_cons (pv 0) pa_nil)))) (pw_or1 (pt_cmpR op_notIn_seq (pv 3) (pe_slice sl_tupA (pe_ix ix_list (pv 0) (pv 5) (fun _ _ => rfl)) po_none (po_some pe_int)) (by rfl))))) (pss_one (ps_ret pe_non)) pss_nil)
      (pss_cons (ps_asg (pe_ix ix_list (pv 0) (pv 5) (fun _ _ => rfl)) (pg_tup rfl (pgs_cons (pg_name (i := 6) nd rfl (.inl rfl)) (pgs_cons (pg_name (i := 7) nd rfl (.inl rfl)) (pgs_cons (pg_name (i := 8) nd rfl (.inl rfl)) (pgs_cons (pg_name (i := 9) nd rfl (.inl rfl)) pgs_nil))))))
      (pss_one (ps_if (pt_cmpR op_eq (pv 3) (pv 6) (nomark _))
        (pss_one (ps_par (i := 3) (j := 4) rfl nd rfl rfl (by decide) rfl rfl (pa_cons (pv 7) (pa_cons (pe_op op_add (pv 4) (pv 8)) pa_nil)) rfl))
        (pss_one (ps_par (i := 3) (j := 4) rfl nd rfl rfl (by decide) rfl rfl (pa_cons (pv 6) (pa_cons (pe_op op_sub (pv 4) (pv 8)) pa_nil)) rfl)))))))
    (pss_one (ps_ret (pe_tup (pa_cons (pv 3) (pa_cons (pv 4) pa_nil))))))))), ?_⟩
  refine ⟨_, rfl, _, rfl, ?_⟩
  refine ⟨t, ints_ line, rfl, by show SqT K H t (ivs (ints_ line)); rw [← nvs_ivs]; exact SqT.of hT, ints_nodup nodup, by rw [List.length_map]; exact short, _, rfl, t, _, rfl, .inr (SqT.of hT), rfl, _, rfl, ?_⟩
  refine ite2 (fun e1 => absurd (by rw [List.length_map, List.length_map]) (dne_t e1)) (fun _ => ?_)
  refine ⟨_, rfl, t, rfl, ⟨_, SqT.of hT⟩, ?_⟩
  have part : ∀ i, ∃ st, walkG (rsOf ps) (mark, 0) (line.take i) = some st := fun i => by
    have h2 : walkG (rsOf ps) (mark, 0) (line.take i ++ line.drop i) = some (e, h) := by
      rw [List.take_append_drop]
      exact hw
    obtain ⟨s1, a1, _⟩ := walkG_split h2
    exact ⟨s1, a1⟩
  refine for_tup (K := K) (xs := nvs line) (fun i σ H' => Same H H' ∧ ∃ here height, walkG (rsOf ps) (mark, 0) (line.take i) = some (here, height) ∧
      ∃ x5 x6 x7 x8 x9, σ = [some (.ref a), some (.int mark), some (.ref t), some (.int here), some (.int height), x5, x6, x7, x8, x9])
    ⟨Same.refl _, mark, 0, rfl, _, _, _, _, _, rfl⟩ (fun i σ H' _ p => SqT.of (p.1 _ _ hT)) ?_ ?_
  · rintro i v σ H' hv ⟨s1, here, height, hg, x5, x6, x7, x8, x9, rfl⟩
    rw [List.getElem?_map] at hv
    obtain ⟨n, hn, rfl⟩ := Option.map_eq_some_iff.mp hv
    obtain ⟨st, hst⟩ := part (i + 1)
    have hst2 := hst
    rw [List.take_add_one, hn] at hst
    have hs : stepW (rsOf ps) (here, height) n = some st := by
      have := walkG_snoc (i := n) hg
      rw [← this]
      exact hst
    obtain ⟨qr, eq, cs⟩ := stepW_inv hs
    have en : n < ps.length := by
      have := (List.getElem?_eq_some_iff.mp eq).1
      rwa [List.length_map] at this
    have hp : ps[n]? = some ps[n] := List.getElem?_eq_getElem en
    have eqr : ps[n].2 = qr := by
      rw [List.getElem?_map, hp] at eq
      exact Option.some.inj eq
    have hR' := hR.mono s1
    have hx := hR'.2 ps[n] (List.getElem_mem _)
    rw [eqr] at hx
    refine ⟨_, rfl, _, _, rfl, rfl, true, ?_, ?_⟩
    · exact congrArg V.bl (decide_eq_true (by omega))
    refine iteT (B := True) ?_
    refine ⟨_, rfl, a, _, rfl, .inl (SqL.of hR'.1), _, _, rfl, rfl, true, ?_, ?_⟩
    · exact congrArg V.bl (decide_eq_true (by rw [List.length_map]; omega))
    refine iteF (A := True) ?_
    refine ⟨_, rfl, _, rfl, _, rfl, a, _, _, _, rfl, rfl, SqL.of hR'.1, at_int (v := V.ref ps[n].1) (by rw [List.getElem?_map, hp]; rfl), 2, rfl, slA_ok hx fun c H2 s2 ec => ?_⟩
    have ec2 : H2 c = some (.tup [V.int (qr.a : Int), V.int (qr.b : Int)]) := ec
    have et : inV (.int (here : Int)) [V.int (qr.a : Int), V.int (qr.b : Int)] = true := by
      show ((((qr.a : Int) == (here : Int))) || (((qr.b : Int) == (here : Int)) || false)) = true
      have : here = qr.a ∨ here = qr.b := by
        rcases cs with ⟨c1, _⟩ | ⟨_, c1, _⟩
        · exact .inl c1
        · exact .inr c1
      rcases this with e | e
      · rw [e]; simp
      · rw [e]; simp
    refine ⟨c, _, rfl, .inr (SqT.of ec2), rfl, rfl, _, rfl, ?_⟩
    rw [if_pos rfl, et]
    refine iteF (A := True) ?_
    have s12 := s1.trans s2
    have r2 := hR.mono s12
    have hx2 := s2 _ _ hx
    refine ⟨_, rfl, _, rfl, a, _, _, _, rfl, rfl, SqL.of r2.1, at_int (v := V.ref ps[n].1) (by rw [List.getElem?_map, hp]; rfl), ?_⟩
    refine ⟨_, _, rfl, SqT.of hx2, rfl, _, _, rfl, _, _, rfl, _, _, rfl, _, _, rfl, rfl, ?_⟩
    refine ⟨_, rfl, _, rfl, rfl, _, rfl, ?_⟩
    rcases cs with ⟨c1, rfl⟩ | ⟨c0, c1, rfl⟩
    · have c1 : here = qr.a := c1
      subst c1
      rw [decide_eq_true rfl]
      refine iteT (B := True) ?_
      refine ⟨_, rfl, _, rfl, _, rfl, _, _, rfl, rfl, _, _, rfl, ?_⟩
      exact ⟨s12, _, _, hst2, _, _, _, _, _, rfl⟩
    · have c0 : ¬ V.int (here : Int) = V.int (qr.a : Int) := fun z => c0 (by have := V.int.inj z; show here = qr.a; omega)
      rw [decide_eq_false c0]
      refine iteF (A := True) ?_
      refine ⟨_, rfl, _, rfl, _, rfl, _, _, rfl, rfl, _, _, rfl, ?_⟩
      exact ⟨s12, _, _, hst2, _, _, _, _, _, rfl⟩
  · rintro σ H' ⟨s1, here, height, hg, x5, x6, x7, x8, x9, rfl⟩
    rw [List.length_map, List.take_length] at hg
    have hg2 : some (here, height) = some (e, h) := hg.symm.trans hw
    cases hg2
    refine ⟨_, rfl, _, rfl, by show 2 ≤ sizeLine; decide, fun p np => ?_⟩
    exact q _ p (s1.trans (same_upd np)) upd_same
end
end Fl
namespace Fl
open PySem PySem.Spec PyProof.Rows L2
/-! ### a paper, opened -/
theorem PaperAt.opened {rs : List Rn} {size : Nat} {wish : Option Int} {n : Nat} {st : List Int} {H : Hp} {v : V} (h : PaperAt rs size wish n st H v) :
    ∃ (p l r : Addr) (k : Str) (mark : Nat) (line : List Nat) (hs : List Int) (qs : List Addr), v = .ref p ∧ H p = some (.tup [.str k, .int (mark : Nat), .ref l, .ref r]) ∧ H l = some (.tup (nvs line)) ∧ Piece rs size wish st k mark line ∧ H r = some (.tup (qs.map V.ref)) ∧
      (n = 0 → hs = []) ∧ (0 < n → HandsOk hs (lineRs rs line)) ∧ Paired (fun h q => ∃ z, H q = some (.tup [.int h, z]) ∧ ∃ m, n = m + 1 ∧ PaperAt rs size wish m (st ++ [h]) H z) hs qs := by
  cases n with
  | zero =>
    obtain ⟨p, l, r, k, mark, line, e, e1, e2, pc, e3⟩ := h
    exact ⟨p, l, r, k, mark, line, [], [], e, e1, e2, pc, e3, fun _ => rfl, fun z => absurd z (by decide), .nil⟩
  | succ n =>
    obtain ⟨p, l, r, k, mark, line, e, e1, e2, pc, hs, qs, e3, ho, pr⟩ := h
    exact ⟨p, l, r, k, mark, line, hs, qs, e, e1, e2, pc, e3, fun z => absurd z (by omega), fun _ => ho, pr_imp (fun h q r => by obtain ⟨z, a, b⟩ := r; exact ⟨z, a, n, rfl, b⟩) pr⟩
theorem all_trues {α : Type} {l : List α} {acc : List V} (h : Paired (fun _ y => y = V.bl true) l acc) : ∃ bs : List Bool, acc = bs.map V.bl ∧ bs.all id = true := by
  refine ⟨l.map fun _ => true, ?_, by simp⟩
  have := pr_map_eq (e := fun _ => V.bl true) h
  rw [this, List.map_map]
  rfl
theorem all_falses {α : Type} {l : List α} {acc : List V} (h : Paired (fun _ y => y = V.bl false) l acc) : ∃ bs : List Bool, acc = bs.map V.bl ∧ bs.any id = false := by
  refine ⟨l.map fun _ => false, ?_, by simp⟩
  have := pr_map_eq (e := fun _ => V.bl false) h
  rw [this, List.map_map]
  rfl
abbrev rLen (K : PySem.W.Frag) : List V → Hp → VK → Prop := fun xs H Q => ∃ p ys, xs = [V.ref p] ∧ (SqL K H p ys ∨ SqT K H p ys) ∧ Q (.int (ys.length : Nat)) H
theorem ktt : kitB "tuple" "tuple" = some true := by decide +kernel
theorem kss : kitB "str" "str" = some true := by decide +kernel
theorem kii : kitB "int" "int" = some true := by decide +kernel
theorem kib : kitB "int" "bool" = some false := by decide +kernel
section
variable {P : Program} {w : World} {K : PySem.W.Frag} {mg : Str → Option Value} {base : Heap}
def spFormed (K : PySem.W.Frag) (n : Nat) : Sp := fun vs H Q _ => ∃ (rs : List Rn) (size : Nat) (wish : Option Int) (m : Nat) (st : List Int) (v : V), vs = [v, .int ((m + 1 : Nat) : Int)] ∧ m < n ∧ rs.length ≤ 50 ∧ PaperAt rs size wish m st H v ∧ ∀ H', Same H H' → Q (.bl true) H'
theorem scFormed : FnScope ["_law_paper", "_law_deep", "_law_kind", "_law_mark", "_law_line", "_law_rest", "_law_one", "_law_pair"] ["_law_paper", "_law_deep"] (defScope (topS 43)) := ⟨rfl, rfl, rfl, by decide +kernel, rfl, by decide +kernel, by decide +kernel⟩
theorem formed_none (D : Def K mg "_law_formed" 43) : Good P w K mg base 0 "_law_formed" ["_law_paper", "_law_deep"] (spFormed K 0) := by
  obtain ⟨f, fd, F, hm⟩ := D
  have no : ∀ vs H Q E, ¬ spFormed K 0 vs H Q E := fun vs H Q E h => by
    obtain ⟨_, _, _, _, _, _, _, h, _⟩ := h
    omega
  exact ⟨f, fd, F.kp, hm, F.bindsN (fun _ _ _ _ _ _ us hl => match us, hl with | [_, _], _ => rfl), ⟨fun vs H Q E h => absurd h (no vs H Q E), fun A outer s H args us vs Q E _ _ _ _ h => absurd h (no vs H Q E)⟩⟩
theorem formed_step {n : Nat} (D : Def K mg "_law_formed" 43) (ml : mg "len" = none) (mi : mg "isinstance" = none) (mtuple : mg "tuple" = none) (mstr : mg "str" = none) (mint : mg "int" = none) (mbool : mg "bool" = none) (ma : mg "all" = none)
    (GF : Good P w K mg base n "_law_formed" ["_law_paper", "_law_deep"] (spFormed K n)) : Good P w K mg base (n + 1) "_law_formed" ["_law_paper", "_law_deep"] (spFormed K (n + 1)) := by
  obtain ⟨f, fd, F, hm⟩ := D
  refine ⟨f, fd, F.kp, hm, F.bindsN (fun _ _ _ _ _ _ us hl => match us, hl with | [_, _], _ => rfl), F.ok (k := n) scFormed (fun vs H Q E h => ?_) (fun cdv A outer s H vs Q E hr h => ?_)⟩
  · obtain ⟨rs, size, wish, m, st, v, rfl, _⟩ := h
    rfl
  obtain ⟨rs, size, wish, m, st, v, rfl, lt, few, pa, q⟩ := h
  have nd := scFormed.nd
  obtain ⟨p, l, r, k, mark, line, hs, qs, rfl, ep, el, pc, er, _, ho, pr⟩ := pa.opened
  obtain ⟨th, lnd⟩ := piece_there pc
  have ll := there_len th lnd
  have lh : qs.length ≤ 100 := by
    rw [← pr_len pr]
    cases m with
    | zero =>
      cases pr with
      | nil => exact Nat.zero_le _
      | cons r _ =>
        obtain ⟨z, _, m, e, _⟩ := r
        omega
    | succ m =>
      have h1 := ho (by omega)
      have h2 := List.length_filterMap_le (fun i => rs[i]?) line
      exact hands_lt h1 (Nat.le_trans h2 (by omega))
  have item : ∀ {i : Nat} {x : Addr}, qs[i]? = some x → ∃ h z, H x = some (.tup [.int h, z]) ∧ ∃ m', m = m' + 1 ∧ PaperAt rs size wish m' (st ++ [h]) H z := fun {i x} hx => by
    obtain ⟨h, _, z, a, b⟩ := pr_get' pr hx
    exact ⟨h, z, a, b⟩
  refine ⟨_, PSs.nox (pss_cons (ps_if (PW.pt (pw_or (pt_not (pt_val (pe_callB (r := rIsi K) call_isi (by rfl) mi boot_isinstance (pa_cons (pv 0) (pa_cons (pe_bltn (by rfl) mtuple boot_tuple (v := .ty "tuple") rfl) pa_nil))))) (pw_or (pt_cmpR op_ne (pe_callB (r := rLen K) call_len_seq (by rfl) ml PySem.boot_len (pa_cons (pv 0) pa_nil)) pe_int (nomark _)) (pw_or1 (pt_cmpR op_eq (pv 1) pe_int (nomark _)))))) (pss_one (ps_ret pe_bl)) pss_nil)
    (pss_cons (ps_asg (pv 0) (pg_tup rfl (pgs_cons (pg_name (i := 2) nd rfl (.inl rfl)) (pgs_cons (pg_name (i := 3) nd rfl (.inl rfl)) (pgs_cons (pg_name (i := 4) nd rfl (.inl rfl)) (pgs_cons (pg_name (i := 5) nd rfl (.inl rfl)) pgs_nil))))))
    (pss_cons (ps_if (PW.pt (pw_or (pt_not (pt_val (pe_callB (r := rIsi K) call_isi (by rfl) mi boot_isinstance (pa_cons (pv 2) (pa_cons (pe_bltn (by rfl) mstr boot_str (v := .ty "str") rfl) pa_nil))))) (pw_or (pt_not (pt_val (pe_callB (r := rIsi K) call_isi (by rfl) mi boot_isinstance (pa_cons (pv 4) (pa_cons (pe_bltn (by rfl) mtuple boot_tuple (v := .ty "tuple") rfl) pa_nil))))) (pw_or1 (pt_not (pt_val (pe_callB (r := rIsi K) call_isi (by rfl) mi boot_isinstance (pa_cons (pv 5) (pa_cons (pe_bltn (by rfl) mtuple boot_tuple (v := .ty "tuple") rfl) pa_nil))))))))) (pss_one (ps_ret pe_bl)) pss_nil)
    (pss_cons (ps_if (pt_not (pt_val (pe_callB (cr_all rfl) (by rfl) ma boot_all (pa_cons (pe_lc (own := [("_law_one", 6)]) (g := gName 6) (tt := tYes) rfl nd (pi_tup (pe_op op_catA (pe_tup (pa_cons (pv 3) pa_nil)) (pv 4))) (blkOk_by (own := [("_law_one", 6)]) (N := ["_law_paper", "_law_deep", "_law_kind", "_law_mark", "_law_line", "_law_rest", "_law_one", "_law_pair"]) (sc := defScope (topS 43)) (by decide +kernel)) (fun _ _ _ _ _ => pg_name (i := 6) nd rfl (Or.inl rfl)) (fun _ _ _ _ _ => pts_nil) (fun _ _ _ _ _ => (pe_and (pe_callB (r := rIsi K) call_isi (by rfl) mi boot_isinstance (pa_cons (pv 6) (pa_cons (pe_bltn (by rfl) mint boot_int (v := .ty "int") rfl) pa_nil))) (pe_one (pe_not (pe_callB (r := rIsi K) call_isi (by rfl) mi boot_isinstance (pa_cons (pv 6) (pa_cons (pe_bltn (by rfl) mbool boot_bool (v := .ty "bool") rfl) pa_nil)))))))) pa_nil)))) (pss_one (ps_ret pe_bl)) pss_nil)
    (pss_cons (ps_if (pt_not (pt_val (pe_callB (cr_all rfl) (by rfl) ma boot_all (pa_cons (pe_lc (own := [("_law_pair", 7)]) (g := gName 7) (tt := tYes) rfl nd (pi_tup (pv 5)) (blkOk_by (own := [("_law_pair", 7)]) (N := ["_law_paper", "_law_deep", "_law_kind", "_law_mark", "_law_line", "_law_rest", "_law_one", "_law_pair"]) (sc := defScope (topS 43)) (by decide +kernel)) (fun _ _ _ _ _ => pg_name (i := 7) nd rfl (Or.inl rfl)) (fun _ _ _ _ _ => pts_nil) (fun _ _ _ _ _ => (pe_and (pe_callB (r := rIsi K) call_isi (by rfl) mi boot_isinstance (pa_cons (pv 7) (pa_cons (pe_bltn (by rfl) mtuple boot_tuple (v := .ty "tuple") rfl) pa_nil))) (pe_one (pe_cmpR op_eq (pe_callB (r := rLen K) call_len_seq (by rfl) ml PySem.boot_len (pa_cons (pv 7) pa_nil)) pe_int (nomark _)))))) pa_nil)))) (pss_one (ps_ret pe_bl)) pss_nil)
    (pss_cons (ps_if (pt_not (pt_val (pe_callB (cr_all rfl) (by rfl) ma boot_all (pa_cons (pe_lc (own := [("_law_pair", 7)]) (g := gName 7) (tt := tYes) rfl nd (pi_tup (pv 5)) (blkOk_by (own := [("_law_pair", 7)]) (N := ["_law_paper", "_law_deep", "_law_kind", "_law_mark", "_law_line", "_law_rest", "_law_one", "_law_pair"]) (sc := defScope (topS 43)) (by decide +kernel)) (fun _ _ _ _ _ => pg_name (i := 7) nd rfl (Or.inl rfl)) (fun _ _ _ _ _ => pts_nil) (fun _ _ _ _ _ => (pe_and (pe_callB (r := rIsi K) call_isi (by rfl) mi boot_isinstance (pa_cons (pe_ix (r := rIxT K) ix_tup (pv 7) pe_int (fun _ _ => rfl)) (pa_cons (pe_bltn (by rfl) mint boot_int (v := .ty "int") rfl) pa_nil))) (pe_one (pe_not (pe_callB (r := rIsi K) call_isi (by rfl) mi boot_isinstance (pa_cons (pe_ix (r := rIxT K) ix_tup (pv 7) pe_int (fun _ _ => rfl)) (pa_cons (pe_bltn (by rfl) mbool boot_bool (v := .ty "bool") rfl) pa_nil)))))))) pa_nil)))) (pss_one (ps_ret pe_bl)) pss_nil)
    (pss_one (ps_ret (pe_callB (cr_all rfl) (by rfl) ma boot_all (pa_cons (pe_lc (own := [("_law_pair", 7)]) (g := gName 7) (tt := tYes) rfl nd (pi_tup (pv 5)) (blkOk_by (own := [("_law_pair", 7)]) (N := ["_law_paper", "_law_deep", "_law_kind", "_law_mark", "_law_line", "_law_rest", "_law_one", "_law_pair"]) (sc := defScope (topS 43)) (by decide +kernel)) (fun _ _ _ _ _ => pg_name (i := 7) nd rfl (Or.inl rfl)) (fun _ _ _ _ _ => pts_nil) (fun _ _ _ _ _ => (pe_callG GF hr (by rfl) (pa_cons (pe_ix (r := rIxT K) ix_tup (pv 7) pe_int (fun _ _ => rfl)) (pa_cons (pe_op op_sub (pv 1) pe_int) pa_nil)) pass0))) pa_nil)))))))))), ?_⟩
  -- the first
  refine ⟨_, rfl, _, _, _, _, _, rfl, .ty _, (.base (.tup ep)), kit_ty ktt, ?_⟩
  refine ⟨_, rfl, ?_⟩
  refine iteF (A := True) ?_
  refine ⟨_, rfl, p, _, rfl, .inr (SqT.of ep), rfl, _, rfl, ?_⟩
  refine iteF (A := True) ?_
  refine ⟨_, rfl, rfl, _, rfl, ?_⟩
  refine ite2 (fun e => absurd (deq_t e) (by omega)) (fun _ => ?_)
  refine ⟨_, rfl, _, _, rfl, SqT.of ep, rfl, _, _, rfl, _, _, rfl, _, _, rfl, _, _, rfl, rfl, ?_⟩
  -- the second
  refine ⟨_, rfl, _, _, _, _, _, rfl, .ty _, (.base (.str k)), kit_ty kss, ?_⟩
  refine ⟨_, rfl, ?_⟩
  refine iteF (A := True) ?_
  refine ⟨_, rfl, _, _, _, _, _, rfl, .ty _, (.base (.tup el)), kit_ty ktt, ?_⟩
  refine ⟨_, rfl, ?_⟩
  refine iteF (A := True) ?_
  refine ⟨_, rfl, _, _, _, _, _, rfl, .ty _, (.base (.tup er)), kit_ty ktt, ?_⟩
  refine ⟨_, rfl, ?_⟩
  refine iteF (A := True) ?_
  -- the third
  refine ⟨_, rfl, by show 1 ≤ sizeLine; decide, fun c nc => ?_⟩
  have s1 := same_upd (o := .tup [V.int (mark : Int)]) nc
  refine ⟨_, rfl, catA_ok upd_same (s1 _ _ el) (by show 1 + (nvs line).length ≤ 1000000; rw [List.length_map]; omega) fun t H2 s2 et => ?_⟩
  have s12 := s1.trans s2
  refine ⟨t, rfl, ⟨_, SqT.of et⟩, fun D hD => ?_⟩
  refine lc_pair walk_tup (L := mark :: line) (fun _ => true) (fun x y H => y = V.bl true) (by rw [List.length_append, List.length_map]; simp; omega) (by rw [List.length_append, List.length_map]; simp; omega) (fun x y H H' ts r => r) hD (fun H' s => SqT.of (s _ _ et)) ?_ ?_
  · intro i x v H1 H2 hx sx y Kp Sk hK hS'
    obtain ⟨rfl, hv⟩ := y
    have hv2 : (nvs (mark :: line))[i]? = some v := hv
    rw [List.getElem?_map, hx] at hv2
    cases hv2
    refine ⟨rfl, ?_⟩
    refine iteT (B := True) ?_
    refine ⟨_, rfl, _, _, _, _, _, rfl, .ty _, (.base (.int _)), kit_ty kii, ?_⟩
    refine ⟨_, rfl, ?_⟩
    refine iteT (B := True) ?_
    refine ⟨_, rfl, _, _, _, _, _, rfl, .ty _, (.base (.int _)), kit_ty kib, ?_⟩
    exact ⟨_, rfl, hK _ _ (Same.refl _) rfl rfl⟩
  intro H3 acc s3 hd prx
  rw [List.filter_eq_self.mpr (fun _ _ => rfl)] at prx
  obtain ⟨bs, rfl, eb⟩ := all_trues prx
  refine ⟨D, bs, rfl, SqL.of hd, true, ?_, ?_⟩
  · rw [eb]
  refine iteF (A := True) ?_
  have s13 := s12.trans s3
  clear prx hd
  -- the fourth
  refine ⟨_, rfl, r, rfl, ⟨_, SqT.of (s13 _ _ er)⟩, fun D4 hD4 => ?_⟩
  refine lc_pair walk_tup (L := qs) (fun _ => true) (fun x y H => y = V.bl true) (by rw [List.length_map]) (by rw [List.length_map]; omega) (fun x y H H' ts r => r) hD4 (fun H' s => SqT.of (s _ _ (s13 _ _ er))) ?_ ?_
  · intro i x v H1 H2 hx sx y Kp Sk hK hS'
    obtain ⟨rfl, hv⟩ := y
    rw [List.getElem?_map, hx] at hv
    cases hv
    obtain ⟨h, z, ex, _⟩ := item hx
    have ex' := sx _ _ (s13 _ _ ex)
    refine ⟨rfl, ?_⟩
    refine iteT (B := True) ?_
    refine ⟨_, rfl, _, _, _, _, _, rfl, .ty _, (.base (.tup ex')), kit_ty ktt, ?_⟩
    refine ⟨_, rfl, ?_⟩
    refine iteT (B := True) ?_
    refine ⟨_, rfl, x, _, rfl, .inr (SqT.of ex'), rfl, hK _ _ (Same.refl _) rfl rfl⟩
  intro H4 acc4 s4 hd4 prx
  rw [List.filter_eq_self.mpr (fun _ _ => rfl)] at prx
  obtain ⟨bs4, rfl, eb4⟩ := all_trues prx
  refine ⟨D4, bs4, rfl, SqL.of hd4, true, ?_, ?_⟩
  · rw [eb4]
  refine iteF (A := True) ?_
  have s14 := s13.trans s4
  clear prx hd4
  -- the fifth
  refine ⟨_, rfl, r, rfl, ⟨_, SqT.of (s14 _ _ er)⟩, fun D5 hD5 => ?_⟩
  refine lc_pair walk_tup (L := qs) (fun _ => true) (fun x y H => y = V.bl true) (by rw [List.length_map]) (by rw [List.length_map]; omega) (fun x y H H' ts r => r) hD5 (fun H' s => SqT.of (s _ _ (s14 _ _ er))) ?_ ?_
  · intro i x v H1 H2 hx sx y Kp Sk hK hS'
    obtain ⟨rfl, hv⟩ := y
    rw [List.getElem?_map, hx] at hv
    cases hv
    obtain ⟨h, z, ex, _⟩ := item hx
    have ex' := sx _ _ (s14 _ _ ex)
    refine ⟨rfl, ?_⟩
    refine iteT (B := True) ?_
    refine ⟨_, rfl, x, _, _, _, rfl, rfl, SqT.of ex', rfl, _, _, _, _, _, rfl, .ty _, (.base (.int h)), kit_ty kii, ?_⟩
    refine ⟨_, rfl, ?_⟩
    refine iteT (B := True) ?_
    refine ⟨_, rfl, x, _, _, _, rfl, rfl, SqT.of ex', rfl, _, _, _, _, _, rfl, .ty _, (.base (.int h)), kit_ty kib, ?_⟩
    exact ⟨_, rfl, hK _ _ (Same.refl _) rfl rfl⟩
  intro H5 acc5 s5 hd5 prx
  rw [List.filter_eq_self.mpr (fun _ _ => rfl)] at prx
  obtain ⟨bs5, rfl, eb5⟩ := all_trues prx
  refine ⟨D5, bs5, rfl, SqL.of hd5, true, ?_, ?_⟩
  · rw [eb5]
  refine iteF (A := True) ?_
  have s15 := s14.trans s5
  clear prx hd5
  -- the last
  refine ⟨_, rfl, r, rfl, ⟨_, SqT.of (s15 _ _ er)⟩, fun D6 hD6 => ?_⟩
  refine lc_pair walk_tup (L := qs) (fun _ => true) (fun x y H => y = V.bl true) (by rw [List.length_map]) (by rw [List.length_map]; omega) (fun x y H H' ts r => r) hD6 (fun H' s => SqT.of (s _ _ (s15 _ _ er))) ?_ ?_
  · intro i x v H1 H2 hx sx y Kp Sk hK hS'
    obtain ⟨rfl, hv⟩ := y
    rw [List.getElem?_map, hx] at hv
    cases hv
    obtain ⟨h, z, ex, m', em, paz⟩ := item hx
    have sh := s15.trans sx
    have ex' := sh _ _ ex
    refine ⟨rfl, ?_⟩
    refine iteT (B := True) ?_
    refine ⟨_, rfl, x, _, _, _, rfl, rfl, SqT.of ex', rfl, _, rfl, _, _, rfl, rfl, ?_⟩
    refine ⟨rs, size, wish, m', st ++ [h], z, ?_, by omega, few, paz.tups (tups_of sh), fun H6 s6 => hK _ _ s6 rfl rfl⟩
    have e : ((m + 1 : Nat) : Int) - 1 = ((m' + 1 : Nat) : Int) := by omega
    exact congrArg (fun i => [z, V.int i]) e
  intro H6 acc6 s6 hd6 prx
  rw [List.filter_eq_self.mpr (fun _ _ => rfl)] at prx
  obtain ⟨bs6, rfl, eb6⟩ := all_trues prx
  refine ⟨D6, bs6, rfl, SqL.of hd6, ?_⟩
  rw [eb6]
  exact q H6 (s15.trans s6)
theorem ok_formed (D : Def K mg "_law_formed" 43) (ml : mg "len" = none) (mi : mg "isinstance" = none) (mtuple : mg "tuple" = none) (mstr : mg "str" = none) (mint : mg "int" = none) (mbool : mg "bool" = none) (ma : mg "all" = none) :
    ∀ n, Good P w K mg base n "_law_formed" ["_law_paper", "_law_deep"] (spFormed K n)
  | 0 => formed_none D
  | n + 1 => formed_step D ml mi mtuple mstr mint mbool ma (ok_formed D ml mi mtuple mstr mint mbool ma n)
end
end Fl
namespace Fl
open PySem PySem.Spec PyProof.Rows L2
theorem in_kinds {rs : List Rn} {size : Nat} {wish : Option Int} {st : List Int} {k : Str} {mark : Nat} {l : List Nat} (h : Piece rs size wish st k mark l) : inV (.str k) [V.str "ring", V.str "line"] = true ∧ flatV (.str k) = true := by
  rcases h with ⟨rfl, _⟩ | ⟨_, _, rfl, _⟩
  · exact ⟨by decide +kernel, rfl⟩
  · exact ⟨by decide +kernel, rfl⟩
theorem dpt {K : PySem.W.Frag} {H : Hp} {a : Addr} {ns : List Int} (h : H a = some (.tup (ivs ns))) : Dp K H (.ref a) (.tuple (ns.map PyData.int)) := .tup (SqT.of h) (dp_ivs ns)
theorem shaped_any : SeqAt.shaped (.str "any") = true := by decide +kernel
theorem line_ps {ps : List (Addr × Rn)} : ∀ {line : List Nat}, There (rsOf ps) line → ∃ zs : List (Addr × Rn), zs.length = line.length ∧ (∀ j i : Nat, line[j]? = some i → zs[j]? = ps[i]?) ∧ rsOf zs = lineRs (rsOf ps) line ∧ ∀ z ∈ zs, z ∈ ps
  | [], _ => ⟨[], rfl, fun j i h => by simp at h, rfl, fun z h => by cases h⟩
  | i :: line, h => by
    obtain ⟨zs, e1, e2, e3, e4⟩ := line_ps (line := line) fun j hj => h j (List.mem_cons_of_mem _ hj)
    obtain ⟨q, hq⟩ := h i List.mem_cons_self
    have hq' := hq
    rw [List.getElem?_map] at hq'
    obtain ⟨z, hz, ez⟩ := Option.map_eq_some_iff.mp hq'
    refine ⟨z :: zs, by rw [List.length_cons, List.length_cons, e1], fun j k hk => ?_, ?_, fun y hy => ?_⟩
    · cases j with
      | zero =>
        have e : i = k := by simpa using hk
        subst e
        exact hz.symm
      | succ j => exact e2 j k (by simpa using hk)
    · show z.2 :: rsOf zs = List.filterMap (fun i => (rsOf ps)[i]?) (i :: line)
      rw [List.filterMap_cons, hq, e3, ez]
    · rcases List.mem_cons.mp hy with rfl | hy
      · exact List.mem_of_getElem? hz
      · exact e4 y hy
theorem rep01 {m : Nat} {hs hs' : List Int} (h0 : m = 0 → hs = []) (h1 : 0 < m → hs = hs') : (List.replicate (if decide ((0 : Int) < (m : Int)) = true then (1 : Int) else 0).toNat (ivs hs')).flatten = ivs hs := by
  cases m with
  | zero =>
    rw [h0 rfl]
    rfl
  | succ m =>
    have : (0 : Int) < ((m + 1 : Nat) : Int) := by omega
    rw [h1 (by omega), decide_eq_true this, if_pos rfl]
    show (List.replicate 1 (ivs hs')).flatten = _
    simp
theorem k01 (c : Bool) : -(2 ^ 63) ≤ (if c = true then (1 : Int) else 0) ∧ (if c = true then (1 : Int) else 0) < 2 ^ 63 ∧ (if c = true then (1 : Int) else 0).toNat ≤ 1 := by
  cases c <;> exact ⟨by decide, by decide, by decide⟩
theorem eqv_tt (ns ms : List Int) : PyData.eqv (.tuple (ns.map PyData.int)) (.tuple (ms.map PyData.int)) = decide (ns = ms) := by
  rw [PyData.eqv]
  exact eqv_ivs ns ms
theorem eqv_ll (ns ms : List Int) : PyData.eqv (.list (ns.map PyData.int)) (.list (ms.map PyData.int)) = decide (ns = ms) := by
  rw [PyData.eqv]
  exact eqv_ivs ns ms
theorem eqv_ts (ns : List Int) (x : Str) : PyData.eqv (.tuple (ns.map PyData.int)) (.str x) = false := by
  rw [PyData.eqv]
section
variable {P : Program} {w : World} {K : PySem.W.Frag} {mg : Str → Option Value} {base : Heap}
def spSound (K : PySem.W.Frag) (n : Nat) : Sp := fun vs H Q _ => ∃ (a b W : Addr) (ps : List (Addr × Rn)) (size m : Nat) (rise : Int) (st : List Int) (v : V), vs = [.int size, .ref a, v, .int m, .ref b, .ref W] ∧ m < n ∧ Runs H a ps ∧ PaperAt (rsOf ps) size (some rise) m st H v ∧ H b = some (.lst (ivs st)) ∧
  H W = some (.tup (ivs [0, 1, rise])) ∧ Marks size ps ∧ ps.length ≤ 50 ∧ size ≤ 1000 ∧ 2 ≤ size ∧ st.length + m ≤ 10 ∧ ∀ H', Same H H' → Q (.bl true) H'
theorem scSound : FnScope ["_law_size", "_law_runs", "_law_paper", "_law_many", "_law_struck", "_law_wish", "_law_kind", "_law_mark", "_law_line", "_law_rest", "_law_found", "_law_at", "_law_hands_here", "_law_pair", "_law_hand", "_law_one"] ["_law_size", "_law_runs", "_law_paper", "_law_many", "_law_struck", "_law_wish"] (defScope (topS 44)) := ⟨rfl, rfl, rfl, by decide +kernel, rfl, by decide +kernel, by decide +kernel⟩
theorem sound_none (D : Def K mg "_law_sound" 44) : Good P w K mg base 1 "_law_sound" ["_law_size", "_law_runs", "_law_paper", "_law_many", "_law_struck", "_law_wish"] (spSound K 0) := by
  obtain ⟨f, fd, F, hm⟩ := D
  have no : ∀ vs H Q E, ¬ spSound K 0 vs H Q E := fun vs H Q E h => by
    obtain ⟨_, _, _, _, _, _, _, _, _, _, h, _⟩ := h
    omega
  exact ⟨f, fd, F.kp, hm, F.bindsN (fun _ _ _ _ _ _ us hl => match us, hl with | [_, _, _, _, _, _], _ => rfl), ⟨fun vs H Q E h => absurd h (no vs H Q E), fun A outer s H args us vs Q E _ _ _ _ h => absurd h (no vs H Q E)⟩⟩
theorem sound_step {n : Nat} (D : Def K mg "_law_sound" 44) (many : mg "any" = none) (mall : mg "all" = none) (mint : mg "int" = none)
    (GW : Good P w K mg base 1 "_law_walk" ["_law_runs", "_law_mark", "_law_line"] (spLawWalk K)) (GH : Good P w K mg base 1 "_law_hands" ["_law_runs"] (spLawHands K))
    (GS : Good P w K mg base (1 + n) "_law_sound" ["_law_size", "_law_runs", "_law_paper", "_law_many", "_law_struck", "_law_wish"] (spSound K n)) : Good P w K mg base (1 + n + 1) "_law_sound" ["_law_size", "_law_runs", "_law_paper", "_law_many", "_law_struck", "_law_wish"] (spSound K (n + 1)) := by
  obtain ⟨f, fd, F, hm⟩ := D
  refine ⟨f, fd, F.kp, hm, F.bindsN (fun _ _ _ _ _ _ us hl => match us, hl with | [_, _, _, _, _, _], _ => rfl), F.ok (k := 1 + n) scSound (fun vs H Q E h => ?_) (fun cdv A outer s H vs Q E hr h => ?_)⟩
  · obtain ⟨_, _, _, _, _, _, _, _, _, rfl, _⟩ := h
    rfl
  obtain ⟨a, b, W, ps, size, m, rise, st, v, rfl, lt, hR, pa, hB, hW, hM, few, small, two, ten, q⟩ := h
  have nd := scSound.nd
  obtain ⟨p, l, r, k, mark, line, hs, qs, rfl, ep, el, pc, er, h0, ho, pr⟩ := pa.opened
  obtain ⟨th, lnd⟩ := piece_there pc
  have ll := there_len th lnd
  rw [List.length_map] at ll
  have lh : hs.length ≤ 100 := by
    cases m with
    | zero =>
      rw [h0 rfl]
      exact Nat.zero_le _
    | succ m =>
      have h1 := ho (by omega)
      have h2 := List.length_filterMap_le (fun i => (rsOf ps)[i]?) line
      exact hands_lt h1 (Nat.le_trans h2 (by omega))
  have lq : qs.length = hs.length := (pr_len pr).symm
  have item : ∀ {i : Nat} {x : Addr}, qs[i]? = some x → ∃ h z, hs[i]? = some h ∧ H x = some (.tup [.int h, z]) ∧ ∃ m', m = m' + 1 ∧ PaperAt (rsOf ps) size (some rise) m' (st ++ [h]) H z := fun {i x} hx => by
    obtain ⟨h, hh, z, a, b⟩ := pr_get' pr hx
    exact ⟨h, z, hh, a, b⟩
  have mlt : mark < size := by
    rcases pc with ⟨_, ro⟩ | ⟨_, _, _, e, _⟩
    · exact ro.lt
    · omega
  obtain ⟨e, ht, wk, fr, kd⟩ : ∃ (e : Nat) (ht : Int), walkF (rsOf ps) mark line = some (e, ht) ∧ Free (rsOf ps) st line ∧ ((k = "ring" ∧ e = mark ∧ ht ≠ 0 ∧ line ≠ []) ∨ (k = "line" ∧ mark = 0 ∧ e = 1 ∧ ht = rise)) := by
    rcases pc with ⟨e1, ro⟩ | ⟨_, e0, e1, e2, lo⟩
    · obtain ⟨d, dn, wk⟩ := ro.op
      exact ⟨mark, d, wk, ro.free, .inl ⟨e1, rfl, dn, ro.ne⟩⟩
    · cases e0
      subst e2
      exact ⟨1, rise, lo.walk, lo.free, .inr ⟨e1, rfl, rfl, rfl⟩⟩
  obtain ⟨ik, fk⟩ := in_kinds pc
  refine ⟨_, PSs.nox (pss_cons (ps_asg (pv 2) (pg_tup rfl (pgs_cons (pg_name (i := 6) nd rfl (.inl rfl)) (pgs_cons (pg_name (i := 7) nd rfl (.inl rfl)) (pgs_cons (pg_name (i := 8) nd rfl (.inl rfl)) (pgs_cons (pg_name (i := 9) nd rfl (.inl rfl)) pgs_nil))))))
    (pss_cons (ps_if (PW.pt (pw_or (pt_not (pt_chain op_le op_lt pe_int (pv 7) (pv 0))) (pw_or1 (pt_cmpR op_notIn_seq (pv 6) (pe_tup (pa_cons pe_str (pa_cons pe_str pa_nil))) (by rfl))))) (pss_one (ps_ret pe_bl)) pss_nil)
    (pss_cons (ps_set (i := 10) nd rfl (.inl rfl) (pe_callG GW (hr.mono (by omega)) (by rfl) (pa_cons (pv 1) (pa_cons (pv 7) (pa_cons (pv 8) pa_nil))) pass0))
    (pss_cons (ps_if (PW.pt (pw_or (pt_cmpR op_isN (pv 10) pe_non (nomark _)) (pw_or1 (pt_val (pe_callB (cr_any rfl) (by rfl) many boot_any (pa_cons (pe_lc (own := [("_law_at", 11)]) (g := gName 11) (tt := tYes) rfl nd (pi_tup (pv 8)) (blkOk_by (own := [("_law_at", 11)]) (N := ["_law_size", "_law_runs", "_law_paper", "_law_many", "_law_struck", "_law_wish", "_law_kind", "_law_mark", "_law_line", "_law_rest", "_law_found", "_law_at", "_law_hands_here", "_law_pair", "_law_hand", "_law_one"]) (sc := defScope (topS 44)) (by decide +kernel)) (fun _ _ _ _ _ => pg_name (i := 11) nd rfl (Or.inl rfl)) (fun _ _ _ _ _ => pts_nil) (fun _ _ _ _ _ => (pe_cmpR (r := rIn K false) op_in_seq (pe_ix (r := rIxT K) ix_tup (pe_ix (r := rIxL K) ix_list (pv 1) (pv 11) (fun _ _ => rfl)) pe_int (fun _ _ => rfl)) (pv 4) (by rfl)))) pa_nil)))))) (pss_one (ps_ret pe_bl)) pss_nil)
    (pss_cons (ps_if (PW.pt (pw_and (pt_cmpR op_eq (pv 6) pe_str (nomark _)) (pw_and1 (PW.pt (pw_or (pt_cmpR (op_eqD hr.units) (pv 8) (pe_tup pa_nil) (nomark _)) (pw_or (pt_cmpR op_ne (pe_ix ix_tup (pv 10) pe_int (fun _ _ => rfl)) (pv 7) (nomark _)) (pw_or1 (pt_cmpR op_eq (pe_ix ix_tup (pv 10) pe_int (fun _ _ => rfl)) pe_int (nomark _))))))))) (pss_one (ps_ret pe_bl)) pss_nil)
    (pss_cons (ps_if (PW.pt (pw_and (pt_cmpR op_eq (pv 6) pe_str (nomark _)) (pw_and (pt_cmpR (op_neD hr.units) (pv 5) pe_str (nomark _)) (pw_and1 (pt_cmpR (op_neD hr.units) (pe_op op_catA (pe_tup (pa_cons (pv 7) pa_nil)) (pv 10)) (pv 5) (nomark _)))))) (pss_one (ps_ret pe_bl)) pss_nil)
    (pss_cons (ps_set (i := 12) nd rfl (.inl rfl) (pe_op op_rep (pe_callG GH (hr.mono (by omega)) (by rfl) (pa_cons (pe_lc (own := [("_law_at", 11)]) (g := gName 11) (tt := tYes) rfl nd (pi_tup (pv 8)) (blkOk_by (own := [("_law_at", 11)]) (N := ["_law_size", "_law_runs", "_law_paper", "_law_many", "_law_struck", "_law_wish", "_law_kind", "_law_mark", "_law_line", "_law_rest", "_law_found", "_law_at", "_law_hands_here", "_law_pair", "_law_hand", "_law_one"]) (sc := defScope (topS 44)) (by decide +kernel)) (fun _ _ _ _ _ => pg_name (i := 11) nd rfl (Or.inl rfl)) (fun _ _ _ _ _ => pts_nil) (fun _ _ _ _ _ => (pe_ix (r := rIxL K) ix_list (pv 1) (pv 11) (fun _ _ => rfl)))) pa_nil) pass0) (pe_callTy call_int1 (by rfl) mint boot_int (pa_cons (pe_cmpR op_gt (pv 3) pe_int (nomark _)) pa_nil))))
    (pss_cons (ps_if (pt_cmpR (op_neD hr.units) (pe_lc (own := [("_law_pair", 13)]) (g := gName 13) (tt := tYes) rfl nd (pi_tup (pv 9)) (blkOk_by (own := [("_law_pair", 13)]) (N := ["_law_size", "_law_runs", "_law_paper", "_law_many", "_law_struck", "_law_wish", "_law_kind", "_law_mark", "_law_line", "_law_rest", "_law_found", "_law_at", "_law_hands_here", "_law_pair", "_law_hand", "_law_one"]) (sc := defScope (topS 44)) (by decide +kernel)) (fun _ _ _ _ _ => pg_name (i := 13) nd rfl (Or.inl rfl)) (fun _ _ _ _ _ => pts_nil) (fun _ _ _ _ _ => (pe_ix (r := rIxT K) ix_tup (pv 13) pe_int (fun _ _ => rfl)))) (pv 12) (nomark _)) (pss_one (ps_ret pe_bl)) pss_nil)
    (pss_one (ps_ret (pe_callB (cr_all rfl) (by rfl) mall boot_all (pa_cons (pe_lc (own := [("_law_hand", 14), ("_law_one", 15)]) (g := gTup K 2 (gCons (gName 14) (gCons (gName 15) gNil))) (tt := tYes) rfl nd (pi_tup (pv 9)) (blkOk_by (own := [("_law_hand", 14), ("_law_one", 15)]) (N := ["_law_size", "_law_runs", "_law_paper", "_law_many", "_law_struck", "_law_wish", "_law_kind", "_law_mark", "_law_line", "_law_rest", "_law_found", "_law_at", "_law_hands_here", "_law_pair", "_law_hand", "_law_one"]) (sc := defScope (topS 44)) (by decide +kernel)) (fun _ _ _ _ _ => pg_tup rfl (pgs_cons (pg_name (i := 14) nd rfl (Or.inl rfl)) (pgs_cons (pg_name (i := 15) nd rfl (Or.inl rfl)) pgs_nil))) (fun _ _ _ _ _ => pts_nil) (fun _ _ _ _ _ => (pe_callG GS hr (by rfl) (pa_cons (pv 0) (pa_cons (pv 1) (pa_cons (pv 15) (pa_cons (pe_op op_sub (pv 3) pe_int) (pa_cons (pe_op op_cat (pv 4) (pe_lst (pa_cons (pv 14) pa_nil))) (pa_cons (pv 5) pa_nil)))))) pass0))) pa_nil)))))))))))), ?_⟩
  -- the paper, in parts
  refine ⟨_, rfl, _, _, rfl, SqT.of ep, rfl, _, _, rfl, _, _, rfl, _, _, rfl, _, _, rfl, rfl, ?_⟩
  -- the kind
  refine ⟨_, rfl, _, _, rfl, rfl, true, ?_, ?_⟩
  · exact congrArg V.bl (decide_eq_true (by omega))
  refine iteT (B := True) ?_
  refine ⟨_, rfl, _, _, rfl, rfl, true, ?_, ?_⟩
  · exact congrArg V.bl (decide_eq_true (by omega))
  refine iteF (A := True) ?_
  refine ⟨_, rfl, by show 2 ≤ sizeLine; decide, fun c nc => ?_⟩
  have s1 := same_upd (o := .tup [V.str "ring", V.str "line"]) nc
  refine ⟨c, _, rfl, .inr (SqT.of upd_same), fk, rfl, _, rfl, ?_⟩
  rw [if_pos rfl, ik]
  refine iteF (A := True) ?_
  -- the walk
  refine ⟨_, rfl, _, rfl, _, rfl, a, l, ps, mark, line, e, ht, rfl, hR.mono s1, s1 _ _ el, marks_up hM (by omega), lnd, by omega, wk, fun H2 fp s2 ef => ?_⟩
  have s12 := s1.trans s2
  refine ⟨_, rfl, rfl, _, rfl, ?_⟩
  refine iteF (A := True) ?_
  refine ⟨_, rfl, l, rfl, ⟨_, SqT.of (s12 _ _ el)⟩, fun D hD => ?_⟩
  refine lc_pair walk_tup (L := line) (fun _ => true) (fun x y H => y = V.bl false) (by rw [List.length_map]) (by rw [List.length_map]; omega) (fun x y H H' ts r => r) hD (fun H' s => SqT.of (s _ _ (s12 _ _ el))) ?_ ?_
  · intro i x v H1 H2 hx sx y Kp Sk hK hS'
    obtain ⟨rfl, hv⟩ := y
    rw [List.getElem?_map, hx] at hv
    cases hv
    obtain ⟨qr, eq, nst⟩ := fr x (List.mem_of_getElem? hx)
    rw [List.getElem?_map] at eq
    obtain ⟨z, hz, rfl⟩ := Option.map_eq_some_iff.mp eq
    have sh := s12.trans sx
    have hR1 := hR.mono sh
    have hz' := hR1.2 z (List.mem_of_getElem? hz)
    refine ⟨rfl, ?_⟩
    refine iteT (B := True) ?_
    refine ⟨_, rfl, _, rfl, _, _, _, _, rfl, rfl, SqL.of hR1.1, at_int (v := V.ref z.1) (by rw [List.getElem?_map, hz]; rfl), _, _, _, _, rfl, rfl, SqT.of hz', rfl, _, rfl, b, _, rfl, .inl (SqL.of (sh _ _ hB)), rfl, flat_ivs st, ?_⟩
    rw [if_neg (by decide), inV_int, decide_eq_false nst]
    exact hK _ _ (Same.refl _) rfl rfl
  intro H3 acc s3 hd prx
  rw [List.filter_eq_self.mpr (fun _ _ => rfl)] at prx
  obtain ⟨bs, rfl, eb⟩ := all_falses prx
  refine ⟨D, bs, rfl, SqL.of hd, false, ?_, ?_⟩
  · rw [eb]
  refine iteF (A := True) ?_
  have s13 := s12.trans s3
  have ef3 := s3 _ _ ef
  clear prx hd
  rcases kd with ⟨ek, ee, hn, lne⟩ | ⟨ek, e0, e1, e2⟩
  case' inl =>
    subst ek
    refine ⟨_, rfl, rfl, _, rfl, ?_⟩
    rw [decide_eq_true rfl]
    refine iteT (B := True) ?_
    refine ⟨_, rfl, by show 0 ≤ sizeLine; decide, fun c4 nc4 => ?_⟩
    have s4 := same_upd (o := .tup []) nc4
    have el4 := (s13.trans s4) _ _ el
    rw [nvs_ivs] at el4
    refine ⟨_, _, dpt el4, dpt (ns := []) upd_same, shaped_t _, shaped_t [], _, rfl, ?_⟩
    rw [eqv_tt, decide_eq_false (fun z => lne (List.map_eq_nil_iff.mp z))]
    refine iteF (A := True) ?_
    refine ⟨_, rfl, _, _, _, _, rfl, rfl, SqT.of (s4 _ _ ef3), rfl, _, rfl, rfl, _, rfl, ?_⟩
    refine ite2 (fun z => absurd (by rw [ee]) (dne_t z)) (fun _ => ?_)
    refine ⟨_, rfl, _, _, _, _, rfl, rfl, SqT.of (s4 _ _ ef3), rfl, rfl, _, rfl, ?_⟩
    refine ite2 (fun z => absurd (deq_t z) hn) (fun _ => ?_)
    refine ⟨_, rfl, rfl, _, rfl, ?_⟩
    refine ite2 (fun z => absurd z (by decide +kernel)) (fun _ => ?_)
    refine iteF (A := True) ?_
    have t4 := s13.trans s4
  case' inr =>
    subst ek e0 e1 e2
    refine ⟨_, rfl, rfl, _, rfl, ?_⟩
    refine ite2 (fun z => absurd z (by decide +kernel)) (fun _ => ?_)
    refine iteF (A := True) ?_
    refine ⟨_, rfl, rfl, _, rfl, ?_⟩
    rw [decide_eq_true rfl]
    refine iteT (B := True) ?_
    refine ⟨_, rfl, _, _, dpt (s13 _ _ hW), .str _, shaped_t _, shaped_any, _, rfl, ?_⟩
    rw [eqv_ts]
    refine iteT (B := True) ?_
    refine ⟨_, rfl, by show 1 ≤ sizeLine; decide, fun c4 nc4 => ?_⟩
    have s4 := same_upd (o := .tup [V.int ((0 : Nat) : Int)]) nc4
    refine ⟨_, rfl, catA_ok upd_same (s4 _ _ ef3) (by show 1 + 2 ≤ 1000000; decide) fun t5 H5 s5 et => ?_⟩
    have t4 := (s13.trans s4).trans s5
    refine ⟨_, rfl, _, _, dpt (ns := [0, 1, ht]) et, dpt (t4 _ _ hW), shaped_t _, shaped_t _, _, rfl, ?_⟩
    rw [eqv_tt, decide_eq_true rfl]
    refine iteF (A := True) ?_
  all_goals
    obtain ⟨zs, zl, zg, zr, zm⟩ := line_ps th
    have hR4 := hR.mono t4
    refine ⟨_, rfl, l, rfl, ⟨_, SqT.of (t4 _ _ el)⟩, fun D hD => ?_⟩
    refine lc_pair walk_tup (L := zs) (fun _ => true) (fun x y H => y = V.ref x.1) (by rw [List.length_map, zl]) (by rw [List.length_map]; omega) (fun x y H H' ts r => r) hD (fun H' s => SqT.of (s _ _ (t4 _ _ el))) ?_ ?_
    · intro i x v H1 H2 hx sx y Kp Sk hK hS'
      obtain ⟨rfl, hv⟩ := y
      rw [List.getElem?_map] at hv
      obtain ⟨j, hj, rfl⟩ := Option.map_eq_some_iff.mp hv
      have hz := zg i j hj
      rw [hx] at hz
      refine ⟨rfl, ?_⟩
      refine iteT (B := True) ?_
      exact ⟨_, rfl, _, rfl, _, _, _, _, rfl, rfl, SqL.of (sx _ _ hR4.1), at_int (v := V.ref x.1) (by rw [List.getElem?_map, ← hz]; rfl), hK _ _ (Same.refl _) rfl rfl⟩
    intro H6 acc s6 hd prx
    rw [List.filter_eq_self.mpr (fun _ _ => rfl)] at prx
    have ea := pr_map_eq (e := fun x : Addr × Rn => V.ref x.1) prx
    subst ea
    have t6 := t4.trans s6
    refine ⟨D, zs, rfl, ⟨hd, fun z hz => t6 _ _ (hR.2 z (zm z hz))⟩, by omega, fun H7 g hs' s7 eg hok => ?_⟩
    have t7 := t6.trans s7
    obtain ⟨k1, k2, k3⟩ := k01 (decide ((0 : Int) < (m : Int)))
    refine ⟨_, rfl, _, _, rfl, rfl, .inr ⟨_, rfl, ?_⟩⟩
    have lh' : hs'.length ≤ 100 := hands_lt hok (by rw [List.length_map]; omega)
    refine ⟨g, _, _, rfl, rfl, eg, k1, k2, ?_, fun u nu => ?_⟩
    · rw [List.length_map]
      refine sz ?_
      have := Nat.mul_le_mul lh' k3
      omega
    rw [rep01 h0 fun pos => (ho pos).uniq (by rw [← zr]; exact hok)]
    have s8 := same_upd (o := .lst (ivs hs)) nu
    have t8 := t7.trans s8
    have eu := upd_same (H := H7) (a := u) (o := .lst (ivs hs))
    refine ⟨_, rfl, r, rfl, ⟨_, SqT.of (t8 _ _ er)⟩, fun D8 hD8 => ?_⟩
    refine lc_pair walk_tup (L := hs) (fun _ => true) (fun x y H => y = V.int x) (by rw [List.length_map, lq]) (by rw [List.length_map]; omega) (fun x y H H' ts r => r) hD8 (fun H' s => SqT.of (s _ _ (t8 _ _ er))) ?_ ?_
    · intro i x v H1 H2 hx sx y Kp Sk hK hS'
      obtain ⟨rfl, hv⟩ := y
      rw [List.getElem?_map] at hv
      obtain ⟨j, hj, rfl⟩ := Option.map_eq_some_iff.mp hv
      obtain ⟨y, hy, z, ey, _⟩ := pr_get pr hx
      rw [hj] at hy
      cases hy
      refine ⟨rfl, ?_⟩
      refine iteT (B := True) ?_
      exact ⟨_, rfl, _, _, _, _, rfl, rfl, SqT.of (sx _ _ (t8 _ _ ey)), rfl, hK _ _ (Same.refl _) rfl rfl⟩
    intro H9 acc9 s9 hd9 prx9
    rw [List.filter_eq_self.mpr (fun _ _ => rfl)] at prx9
    have ea9 := pr_map_eq (e := V.int) prx9
    subst ea9
    have t9 := t8.trans s9
    refine ⟨_, rfl, _, _, dpl hd9, dpl (s9 _ _ eu), shaped_l _, shaped_l _, _, rfl, ?_⟩
    rw [eqv_ll, decide_eq_true rfl]
    refine iteF (A := True) ?_
    refine ⟨_, rfl, r, rfl, ⟨_, SqT.of (t9 _ _ er)⟩, fun DA hDA => ?_⟩
    refine lc_pair walk_tup (L := qs) (fun _ => true) (fun x y H => y = V.bl true) (by rw [List.length_map]) (by rw [List.length_map]; omega) (fun x y H H' ts r => r) hDA (fun H' s => SqT.of (s _ _ (t9 _ _ er))) ?_ ?_
    · intro i x v H1 H2 hx sx y Kp Sk hK hS'
      obtain ⟨rfl, hv⟩ := y
      rw [List.getElem?_map, hx] at hv
      cases hv
      obtain ⟨h, z, hh, ex, m', em, paz⟩ := item hx
      have sh := t9.trans sx
      have ex' := sh _ _ ex
      refine ⟨x, _, rfl, SqT.of ex', rfl, _, _, rfl, _, _, rfl, rfl, ?_⟩
      refine ⟨rfl, ?_⟩
      refine iteT (B := True) ?_
      refine ⟨_, rfl, _, rfl, _, rfl, _, rfl, _, _, rfl, rfl, _, rfl, _, rfl, by show 1 ≤ sizeLine; decide, fun w1 nw1 => ?_⟩
      have v1 := same_upd (o := .lst [V.int h]) nw1
      refine ⟨b, w1, _, _, rfl, rfl, v1 _ _ (sh _ _ hB), upd_same, ?_, fun w2 nw2 => ?_⟩
      · rw [List.length_map]
        exact sz (by rw [List.length_singleton]; omega)
      have v2 := same_upd (o := .lst (ivs st ++ [V.int h])) nw2
      have v12 := v1.trans v2
      have shv := sh.trans v12
      have ew : (upd (upd H2 w1 (.lst [V.int h])) w2 (.lst (ivs st ++ [V.int h]))) w2 = some (.lst (ivs (st ++ [h]))) := by
        rw [upd_same]
        show _ = some (HO.lst (List.map _ (st ++ [h])))
        rw [List.map_append]
        rfl
      have e : (m : Int) - 1 = (m' : Int) := by omega
      refine ⟨_, rfl, a, w2, W, ps, size, m', _, st ++ [h], z, (congrArg (fun i => [V.int (size : Int), V.ref a, z, V.int i, V.ref w2, V.ref W]) e), by omega, hR.mono shv, paz.tups (tups_of shv), ew, shv _ _ hW, hM, few, small, two, by rw [List.length_append, List.length_singleton]; omega, fun H6 s6 => hK _ _ (v12.trans s6) rfl rfl⟩
    intro HA accA sA hdA prA
    rw [List.filter_eq_self.mpr (fun _ _ => rfl)] at prA
    obtain ⟨bsA, rfl, ebA⟩ := all_trues prA
    refine ⟨DA, bsA, rfl, SqL.of hdA, ?_⟩
    rw [ebA]
    exact q HA (t9.trans sA)
theorem ok_sound (D : Def K mg "_law_sound" 44) (many : mg "any" = none) (mall : mg "all" = none) (mint : mg "int" = none)
    (GW : Good P w K mg base 1 "_law_walk" ["_law_runs", "_law_mark", "_law_line"] (spLawWalk K)) (GH : Good P w K mg base 1 "_law_hands" ["_law_runs"] (spLawHands K)) : ∀ n, Good P w K mg base (1 + n) "_law_sound" ["_law_size", "_law_runs", "_law_paper", "_law_many", "_law_struck", "_law_wish"] (spSound K n)
  | 0 => sound_none D
  | n + 1 => sound_step D many mall mint GW GH (ok_sound D many mall mint GW GH n)
end
end Fl
namespace Fl
open PySem PySem.Spec PyProof.Rows L2
theorem kil : kitB "int" "list" = some false := by decide +kernel
theorem kit : kitB "int" "tuple" = some false := by decide +kernel
theorem kis : kitB "int" "str" = some false := by decide +kernel
theorem ksl : kitB "str" "list" = some false := by decide +kernel
theorem kst : kitB "str" "tuple" = some false := by decide +kernel
theorem ksb : kitB "str" "bool" = some false := by decide +kernel
theorem ksi : kitB "str" "int" = some false := by decide +kernel
theorem ktl : kitB "tuple" "list" = some false := by decide +kernel
theorem walk_zipT {K : PySem.W.Frag} {a b : Addr} {xs ys : List V} {n : Nat} (hn : n = min xs.length ys.length) : Walk (RZ.ItzT K a b) n (fun H => SqT K H a xs ∧ SqT K H b ys) (YPair (fun i => xs[i]?) (fun i => ys[i]?)) := by
  subst hn
  refine ⟨fun i _ hi q => ?_, fun _ q => ⟨xs, ys, q.1, q.2, by omega⟩, fun i H v H' _ q y => ?_⟩
  · have l1 : i < xs.length := by omega
    have l2 : i < ys.length := by omega
    exact ⟨xs, ys, xs[i], ys[i], q.1, q.2, by simp [l1], by simp [l2]⟩
  · obtain ⟨T, x, z, e1, e2, e3, e4, e5⟩ := y
    exact ⟨T, x, z, e1, e2, e3, e4 xs q.1, e5 ys q.2⟩
/-- the same, as the law compares: texts, ints, tuples of such -/
def SameOk : Nat → Hp → V → V → Prop
  | 0, _, _, _ => False
  | n + 1, H, x, y => (∃ i, x = .int i ∧ y = .int i) ∨ (∃ s, x = .str s ∧ y = .str s) ∨ (∃ p q xs ys, x = .ref p ∧ y = .ref q ∧ H p = some (.tup xs) ∧ H q = some (.tup ys) ∧ xs.length ≤ 100 ∧ Paired (SameOk n H) xs ys)
theorem SameOk.mono : ∀ {n : Nat} {H H' : Hp} {x y : V}, Same H H' → SameOk n H x y → SameOk n H' x y
  | 0, _, _, _, _, _, h => h
  | n + 1, H, H', x, y, s, h => by
    rcases h with h | h | ⟨p, q, xs, ys, a, b, c, d, e, f⟩
    · exact .inl h
    · exact .inr (.inl h)
    · exact .inr (.inr ⟨p, q, xs, ys, a, b, s _ _ c, s _ _ d, e, pr_imp (fun x y r => SameOk.mono s r) f⟩)
section
variable {P : Program} {w : World} {K : PySem.W.Frag} {mg : Str → Option Value} {base : Heap}
/-! ### _law_same -/
def spSame (K : PySem.W.Frag) (n : Nat) : Sp := fun vs H Q _ => ∃ (x y : V), vs = [x, y] ∧ SameOk n H x y ∧ ∀ H', Same H H' → Q (.bl true) H'
theorem scSame : FnScope ["_law_found", "_law_due", "_law_one", "_law_other"] ["_law_found", "_law_due"] (defScope (topS 37)) := ⟨rfl, rfl, rfl, by decide +kernel, rfl, by decide +kernel, by decide +kernel⟩
theorem same_none (D : Def K mg "_law_same" 37) : Good P w K mg base 0 "_law_same" ["_law_found", "_law_due"] (spSame K 0) := by
  obtain ⟨f, fd, F, hm⟩ := D
  have no : ∀ vs H Q E, ¬ spSame K 0 vs H Q E := fun vs H Q E h => by
    obtain ⟨_, _, _, h, _⟩ := h
    exact h
  exact ⟨f, fd, F.kp, hm, F.bindsN (fun _ _ _ _ _ _ us hl => match us, hl with | [_, _], _ => rfl), ⟨fun vs H Q E h => absurd h (no vs H Q E), fun A outer s H args us vs Q E _ _ _ _ h => absurd h (no vs H Q E)⟩⟩
theorem same_step {n : Nat} (D : Def K mg "_law_same" 37) (ml : mg "len" = none) (mi : mg "isinstance" = none) (mtuple : mg "tuple" = none) (mlist : mg "list" = none) (mstr : mg "str" = none) (mint : mg "int" = none) (mbool : mg "bool" = none) (mall : mg "all" = none) (mzip : mg "zip" = none)
    (GS : Good P w K mg base n "_law_same" ["_law_found", "_law_due"] (spSame K n)) : Good P w K mg base (n + 1) "_law_same" ["_law_found", "_law_due"] (spSame K (n + 1)) := by
  obtain ⟨f, fd, F, hm⟩ := D
  refine ⟨f, fd, F.kp, hm, F.bindsN (fun _ _ _ _ _ _ us hl => match us, hl with | [_, _], _ => rfl), F.ok (k := n) scSame (fun vs H Q E h => ?_) (fun cdv A outer s H vs Q E hr h => ?_)⟩
  · obtain ⟨x, y, rfl, _⟩ := h
    rfl
  obtain ⟨x, y, rfl, sm, q⟩ := h
  have nd := scSame.nd
  refine ⟨_, PSs.nox (pss_cons (ps_if (PW.pt (pw_or (pt_val (pe_callB (r := rIsi K) call_isi (by rfl) mi boot_isinstance (pa_cons (pv 1) (pa_cons (pe_bltn (by rfl) mlist boot_list (v := .ty "list") rfl) pa_nil)))) (pw_or1 (pt_val (pe_callB (r := rIsi K) call_isi (by rfl) mi boot_isinstance (pa_cons (pv 1) (pa_cons (pe_bltn (by rfl) mtuple boot_tuple (v := .ty "tuple") rfl) pa_nil))))))) (pss_cons (ps_if (PW.pt (pw_or (pt_cmpR op_ne (pe_callB (r := rIsi K) call_isi (by rfl) mi boot_isinstance (pa_cons (pv 0) (pa_cons (pe_bltn (by rfl) mlist boot_list (v := .ty "list") rfl) pa_nil))) (pe_callB (r := rIsi K) call_isi (by rfl) mi boot_isinstance (pa_cons (pv 1) (pa_cons (pe_bltn (by rfl) mlist boot_list (v := .ty "list") rfl) pa_nil))) (nomark _)) (pw_or1 (pt_cmpR op_ne (pe_callB (r := rIsi K) call_isi (by rfl) mi boot_isinstance (pa_cons (pv 0) (pa_cons (pe_bltn (by rfl) mtuple boot_tuple (v := .ty "tuple") rfl) pa_nil))) (pe_callB (r := rIsi K) call_isi (by rfl) mi boot_isinstance (pa_cons (pv 1) (pa_cons (pe_bltn (by rfl) mtuple boot_tuple (v := .ty "tuple") rfl) pa_nil))) (nomark _))))) (pss_one (ps_ret pe_bl)) pss_nil) (pss_one (ps_ret (pe_and (pe_cmpR op_eq (pe_callB (r := rLen K) call_len_seq (by rfl) ml PySem.boot_len (pa_cons (pv 0) pa_nil)) (pe_callB (r := rLen K) call_len_seq (by rfl) ml PySem.boot_len (pa_cons (pv 1) pa_nil)) (nomark _)) (pe_one (pe_callB (cr_all rfl) (by rfl) mall boot_all (pa_cons (pe_lc (own := [("_law_one", 2), ("_law_other", 3)]) (g := gTup K 2 (gCons (gName 2) (gCons (gName 3) gNil))) (tt := tYes) rfl nd (RZ.pi_zipA (by rfl) mzip (pa_cons (pv 0) (pa_cons (pv 1) pa_nil))) (blkOk_by (own := [("_law_one", 2), ("_law_other", 3)]) (N := ["_law_found", "_law_due", "_law_one", "_law_other"]) (sc := defScope (topS 37)) (by decide +kernel)) (fun _ _ _ _ _ => pg_tup rfl (pgs_cons (pg_name (i := 2) nd rfl (Or.inl rfl)) (pgs_cons (pg_name (i := 3) nd rfl (Or.inl rfl)) pgs_nil))) (fun _ _ _ _ _ => pts_nil) (fun _ _ _ _ _ => (pe_callG GS hr (by rfl) (pa_cons (pv 2) (pa_cons (pv 3) pa_nil)) pass0))) pa_nil))))))) pss_nil)
    (pss_cons (ps_if (PW.pt (pw_or (pt_cmpR op_isN (pv 0) pe_non (nomark _)) (pw_or1 (pt_cmpR op_isN (pv 1) pe_non (nomark _))))) (pss_one ps_never) pss_nil)
    (pss_cons (ps_if (PW.pt (pw_or (pt_cmpR op_ne (pe_callB (r := rIsi K) call_isi (by rfl) mi boot_isinstance (pa_cons (pv 0) (pa_cons (pe_bltn (by rfl) mbool boot_bool (v := .ty "bool") rfl) pa_nil))) (pe_callB (r := rIsi K) call_isi (by rfl) mi boot_isinstance (pa_cons (pv 1) (pa_cons (pe_bltn (by rfl) mbool boot_bool (v := .ty "bool") rfl) pa_nil))) (nomark _)) (pw_or1 (pt_cmpR op_ne (pe_callB (r := rIsi K) call_isi (by rfl) mi boot_isinstance (pa_cons (pv 0) (pa_cons (pe_bltn (by rfl) mint boot_int (v := .ty "int") rfl) pa_nil))) (pe_callB (r := rIsi K) call_isi (by rfl) mi boot_isinstance (pa_cons (pv 1) (pa_cons (pe_bltn (by rfl) mint boot_int (v := .ty "int") rfl) pa_nil))) (nomark _))))) (pss_one (ps_ret pe_bl)) pss_nil)
    (pss_one (ps_ret (pe_and (pe_cmpR op_eq (pe_callB (r := rIsi K) call_isi (by rfl) mi boot_isinstance (pa_cons (pv 0) (pa_cons (pe_bltn (by rfl) mstr boot_str (v := .ty "str") rfl) pa_nil))) (pe_callB (r := rIsi K) call_isi (by rfl) mi boot_isinstance (pa_cons (pv 1) (pa_cons (pe_bltn (by rfl) mstr boot_str (v := .ty "str") rfl) pa_nil))) (nomark _)) (pe_one (pe_cmpR op_eq (pv 0) (pv 1) (nomark _))))))))), ?_⟩
  rcases sm with ⟨i, rfl, rfl⟩ | ⟨z, rfl, rfl⟩ | ⟨p, r, xs, ys, rfl, rfl, ep, er, short, pr⟩
  · -- two ints
    refine ⟨_, rfl, _, _, _, _, _, rfl, .ty _, .base (.int i), kit_ty kil, ?_⟩
    refine ⟨_, rfl, ?_⟩
    refine iteF (A := True) ?_
    refine ⟨_, rfl, _, _, _, _, _, rfl, .ty _, .base (.int i), kit_ty kit, ?_⟩
    refine ⟨_, rfl, ?_⟩
    refine iteF (A := True) ?_
    refine ⟨_, rfl, rfl, _, rfl, ?_⟩
    refine iteF (A := True) ?_
    refine ⟨_, rfl, rfl, _, rfl, ?_⟩
    refine iteF (A := True) ?_
    refine ⟨_, rfl, _, _, _, _, _, rfl, .ty _, .base (.int i), kit_ty kib, ?_⟩
    refine ⟨_, rfl, _, _, _, _, _, rfl, .ty _, .base (.int i), kit_ty kib, ?_⟩
    refine ⟨rfl, _, rfl, ?_⟩
    rw [decide_eq_true rfl]
    refine iteF (A := True) ?_
    refine ⟨_, rfl, _, _, _, _, _, rfl, .ty _, .base (.int i), kit_ty kii, ?_⟩
    refine ⟨_, rfl, _, _, _, _, _, rfl, .ty _, .base (.int i), kit_ty kii, ?_⟩
    refine ⟨rfl, _, rfl, ?_⟩
    rw [decide_eq_true rfl]
    refine iteF (A := True) ?_
    refine ⟨_, rfl, _, _, _, _, _, rfl, .ty _, .base (.int i), kit_ty kis, ?_⟩
    refine ⟨_, rfl, _, _, _, _, _, rfl, .ty _, .base (.int i), kit_ty kis, ?_⟩
    refine ⟨rfl, _, rfl, ?_⟩
    rw [decide_eq_true rfl]
    refine iteT (B := True) ?_
    refine ⟨_, rfl, _, rfl, rfl, ?_⟩
    rw [decide_eq_true rfl]
    exact q H (Same.refl _)
  · -- two texts
    refine ⟨_, rfl, _, _, _, _, _, rfl, .ty _, .base (.str z), kit_ty ksl, ?_⟩
    refine ⟨_, rfl, ?_⟩
    refine iteF (A := True) ?_
    refine ⟨_, rfl, _, _, _, _, _, rfl, .ty _, .base (.str z), kit_ty kst, ?_⟩
    refine ⟨_, rfl, ?_⟩
    refine iteF (A := True) ?_
    refine ⟨_, rfl, rfl, _, rfl, ?_⟩
    refine iteF (A := True) ?_
    refine ⟨_, rfl, rfl, _, rfl, ?_⟩
    refine iteF (A := True) ?_
    refine ⟨_, rfl, _, _, _, _, _, rfl, .ty _, .base (.str z), kit_ty ksb, ?_⟩
    refine ⟨_, rfl, _, _, _, _, _, rfl, .ty _, .base (.str z), kit_ty ksb, ?_⟩
    refine ⟨rfl, _, rfl, ?_⟩
    rw [decide_eq_true rfl]
    refine iteF (A := True) ?_
    refine ⟨_, rfl, _, _, _, _, _, rfl, .ty _, .base (.str z), kit_ty ksi, ?_⟩
    refine ⟨_, rfl, _, _, _, _, _, rfl, .ty _, .base (.str z), kit_ty ksi, ?_⟩
    refine ⟨rfl, _, rfl, ?_⟩
    rw [decide_eq_true rfl]
    refine iteF (A := True) ?_
    refine ⟨_, rfl, _, _, _, _, _, rfl, .ty _, .base (.str z), kit_ty kss, ?_⟩
    refine ⟨_, rfl, _, _, _, _, _, rfl, .ty _, .base (.str z), kit_ty kss, ?_⟩
    refine ⟨rfl, _, rfl, ?_⟩
    rw [decide_eq_true rfl]
    refine iteT (B := True) ?_
    refine ⟨_, rfl, _, rfl, rfl, ?_⟩
    rw [decide_eq_true rfl]
    exact q H (Same.refl _)
  · -- two tuples
    have ln := pr_len pr
    refine ⟨_, rfl, _, _, _, _, _, rfl, .ty _, .base (.tup er), kit_ty ktl, ?_⟩
    refine ⟨_, rfl, ?_⟩
    refine iteF (A := True) ?_
    refine ⟨_, rfl, _, _, _, _, _, rfl, .ty _, .base (.tup er), kit_ty ktt, ?_⟩
    refine ⟨_, rfl, ?_⟩
    refine iteT (B := True) ?_
    refine ⟨_, rfl, _, _, _, _, _, rfl, .ty _, .base (.tup ep), kit_ty ktl, ?_⟩
    refine ⟨_, rfl, _, _, _, _, _, rfl, .ty _, .base (.tup er), kit_ty ktl, ?_⟩
    refine ⟨rfl, _, rfl, ?_⟩
    rw [decide_eq_true rfl]
    refine iteF (A := True) ?_
    refine ⟨_, rfl, _, _, _, _, _, rfl, .ty _, .base (.tup ep), kit_ty ktt, ?_⟩
    refine ⟨_, rfl, _, _, _, _, _, rfl, .ty _, .base (.tup er), kit_ty ktt, ?_⟩
    refine ⟨rfl, _, rfl, ?_⟩
    rw [decide_eq_true rfl]
    refine iteF (A := True) ?_
    refine ⟨_, rfl, p, _, rfl, .inr (SqT.of ep), _, rfl, r, _, rfl, .inr (SqT.of er), rfl, _, rfl, ?_⟩
    rw [ln, decide_eq_true rfl]
    refine iteT (B := True) ?_
    refine ⟨_, rfl, _, rfl, p, r, xs, ys, rfl, .inr ⟨SqT.of ep, SqT.of er, fun D hD => ?_⟩⟩
    refine lc_pair (walk_zipT (n := ys.length) (by rw [ln, Nat.min_self])) (L := ys) (fun _ => true) (fun x y H => y = V.bl true) rfl (by omega) (fun x y H H' ts r => r) hD (fun H' s => ⟨SqT.of (s _ _ ep), SqT.of (s _ _ er)⟩) ?_ ?_
    · intro i x v H1 H2 hx sx y Kp Sk hK hS'
      obtain ⟨T, u, u', rfl, hT, rfl, hu, hu'⟩ := y
      have sT := same_upd (o := .tup [u, u']) hT
      obtain ⟨u2, hu2, sm⟩ := pr_get pr hu
      have hu' : ys[i]? = some u' := hu'
      rw [hu'] at hu2
      cases hu2
      refine ⟨T, _, rfl, SqT.of upd_same, rfl, _, _, rfl, _, _, rfl, rfl, ?_⟩
      refine ⟨rfl, ?_⟩
      refine iteT (B := True) ?_
      refine ⟨_, rfl, _, rfl, u, u', rfl, sm.mono (sx.trans sT), fun H6 s6 => hK _ _ (sT.trans s6) rfl rfl⟩
    intro H6 acc s6 hd prx
    rw [List.filter_eq_self.mpr (fun _ _ => rfl)] at prx
    obtain ⟨bs, rfl, eb⟩ := all_trues prx
    refine ⟨D, bs, rfl, SqL.of hd, ?_⟩
    rw [eb]
    exact q H6 s6
theorem ok_same (D : Def K mg "_law_same" 37) (ml : mg "len" = none) (mi : mg "isinstance" = none) (mtuple : mg "tuple" = none) (mlist : mg "list" = none) (mstr : mg "str" = none) (mint : mg "int" = none) (mbool : mg "bool" = none) (mall : mg "all" = none) (mzip : mg "zip" = none) :
    ∀ n, Good P w K mg base n "_law_same" ["_law_found", "_law_due"] (spSame K n)
  | 0 => same_none D
  | n + 1 => same_step D ml mi mtuple mlist mstr mint mbool mall mzip (ok_same D ml mi mtuple mlist mstr mint mbool mall mzip n)
/-! ### _law_shows -/
def spShows (K : PySem.W.Frag) : Sp := fun vs H Q _ => ∃ (a W : Addr) (ps : List (Addr × Rn)) (size m : Nat) (rise : Int) (v : V), vs = [.int size, .ref a, v, .int m, .ref W] ∧ m ≤ 3 ∧ Runs H a ps ∧ PaperAt (rsOf ps) size (some rise) m [] H v ∧
  H W = some (.tup (ivs [0, 1, rise])) ∧ Marks size ps ∧ ps.length ≤ 50 ∧ size ≤ 1000 ∧ 2 ≤ size ∧ ∀ H', Same H H' → Q (.bl true) H'
theorem scShows : FnScope ["_law_size", "_law_runs", "_law_paper", "_law_many", "_law_wish"] ["_law_size", "_law_runs", "_law_paper", "_law_many", "_law_wish"] (defScope (topS 45)) := ⟨rfl, rfl, rfl, by decide +kernel, rfl, by decide +kernel, by decide +kernel⟩
theorem ok_shows (D : Def K mg "_law_shows" 45) (GF : Good P w K mg base 4 "_law_formed" ["_law_paper", "_law_deep"] (spFormed K 4)) (GS : Good P w K mg base 5 "_law_sound" ["_law_size", "_law_runs", "_law_paper", "_law_many", "_law_struck", "_law_wish"] (spSound K 4)) :
    Good P w K mg base 6 "_law_shows" ["_law_size", "_law_runs", "_law_paper", "_law_many", "_law_wish"] (spShows K) := by
  obtain ⟨f, fd, F, hm⟩ := D
  refine ⟨f, fd, F.kp, hm, F.bindsN (fun _ _ _ _ _ _ us hl => match us, hl with | [_, _, _, _, _], _ => rfl), F.ok (k := 5) scShows (fun vs H Q E h => ?_) (fun cdv A outer s H vs Q E hr h => ?_)⟩
  · obtain ⟨_, _, _, _, _, _, _, rfl, _⟩ := h
    rfl
  obtain ⟨a, W, ps, size, m, rise, v, rfl, h3, hR, pa, hW, hM, few, small, two, q⟩ := h
  refine ⟨_, PSs.nox (pss_one (ps_ret (pe_and (pe_callG GF (hr.mono (by decide)) (by rfl) (pa_cons (pv 2) (pa_cons (pe_op op_add (pv 3) pe_int) pa_nil)) pass0) (pe_one (pe_callG GS hr (by rfl) (pa_cons (pv 0) (pa_cons (pv 1) (pa_cons (pv 2) (pa_cons (pv 3) (pa_cons (pe_lst pa_nil) (pa_cons (pv 4) pa_nil)))))) pass0))))), ?_⟩
  refine ⟨_, rfl, _, rfl, _, _, rfl, rfl, rsOf ps, size, some rise, m, [], v, ?_, by omega, by rw [List.length_map]; exact few, pa, fun H1 s1 => ?_⟩
  · exact congrArg (fun i => [v, V.int i]) (show (m : Int) + 1 = ((m + 1 : Nat) : Int) by omega)
  refine ⟨_, rfl, ?_⟩
  refine iteT (B := True) ?_
  refine ⟨_, rfl, _, rfl, _, rfl, _, rfl, by show 0 ≤ sizeLine; decide, fun b nb => ?_⟩
  have s2 := same_upd (o := .lst []) nb
  have s12 := s1.trans s2
  refine ⟨_, rfl, a, b, W, ps, size, m, rise, [], v, rfl, by omega, hR.mono s12, pa.tups (tups_of s12), upd_same, s12 _ _ hW, hM, few, small, two, by rw [List.length_nil]; omega, fun H3 s3 => q H3 (s12.trans s3)⟩
/-! ### _law_told_right -/
def spToldRight (K : PySem.W.Frag) : Sp := fun vs H Q _ => ∃ (a p r : Addr) (ps : List (Addr × Rn)) (size m : Nat) (rise : Int) (v : V), vs = [.int size, .ref a, .int m, .int 0, .int 1, .ref p, .ref r] ∧ m ≤ 3 ∧ Runs H a ps ∧ H p = some (.tup [.str "sure", .int rise, v]) ∧ PaperAt (rsOf ps) size (some rise) m [] H v ∧
  H r = some (.tup [.str "sure", .int rise]) ∧ Marks size ps ∧ ps.length ≤ 50 ∧ size ≤ 1000 ∧ 2 ≤ size ∧ ∀ H', Same H H' → Q (.bl true) H'
theorem scToldRight : FnScope ["_law_size", "_law_runs", "_law_many", "_law_one", "_law_other", "_law_found", "_law_verdict", "_law_here", "_law_first", "_law_second"] ["_law_size", "_law_runs", "_law_many", "_law_one", "_law_other", "_law_found", "_law_verdict"] (defScope (topS 47)) := ⟨rfl, rfl, rfl, by decide +kernel, rfl, by decide +kernel, by decide +kernel⟩
theorem ok_told_right (D : Def K mg "_law_told_right" 47) (ml : mg "len" = none) (mi : mg "isinstance" = none) (mtuple : mg "tuple" = none) (GE : Good P w K mg base 2 "_law_same" ["_law_found", "_law_due"] (spSame K 2)) (GH : Good P w K mg base 6 "_law_shows" ["_law_size", "_law_runs", "_law_paper", "_law_many", "_law_wish"] (spShows K)) :
    Good P w K mg base 7 "_law_told_right" ["_law_size", "_law_runs", "_law_many", "_law_one", "_law_other", "_law_found", "_law_verdict"] (spToldRight K) := by
  obtain ⟨f, fd, F, hm⟩ := D
  refine ⟨f, fd, F.kp, hm, F.bindsN (fun _ _ _ _ _ _ us hl => match us, hl with | [_, _, _, _, _, _, _], _ => rfl), F.ok (k := 6) scToldRight (fun vs H Q E h => ?_) (fun cdv A outer s H vs Q E hr h => ?_)⟩
  · obtain ⟨_, _, _, _, _, _, _, _, rfl, _⟩ := h
    rfl
  obtain ⟨a, p, r, ps, size, m, rise, v, rfl, h3, hR, ep, pa, er, hM, few, small, two, q⟩ := h
  refine ⟨_, PSs.nox (pss_cons (ps_if (PW.pt (pw_or (pt_not (pt_val (pe_callB (r := rIsi K) call_isi (by rfl) mi boot_isinstance (pa_cons (pv 5) (pa_cons (pe_bltn (by rfl) mtuple boot_tuple (v := .ty "tuple") rfl) pa_nil))))) (pw_or (pt_cmpR op_eq (pe_callB (r := rLen K) call_len_seq (by rfl) ml PySem.boot_len (pa_cons (pv 5) pa_nil)) pe_int (nomark _)) (pw_or1 (pt_cmpR op_ne (pe_ix ix_tup (pv 5) pe_int (fun _ _ => rfl)) (pe_ix ix_tup (pv 6) pe_int (fun _ _ => rfl)) (nomark _)))))) (pss_one (ps_ret pe_bl)) pss_nil)
    (pss_cons (ps_if (pt_cmpR op_eq (pe_ix ix_tup (pv 5) pe_int (fun _ _ => rfl)) pe_str (nomark _)) (pss_one ps_never) pss_nil)
    (pss_cons (ps_if (pt_cmpR op_eq (pe_ix ix_tup (pv 5) pe_int (fun _ _ => rfl)) pe_str (nomark _)) (pss_cons (ps_if (PW.pt (pw_or (pt_cmpR op_ne (pe_callB (r := rLen K) call_len_seq (by rfl) ml PySem.boot_len (pa_cons (pv 5) pa_nil)) pe_int (nomark _)) (pw_or1 (pt_not (pt_val (pe_callG GE (hr.mono (by decide)) (by rfl) (pa_cons (pe_slice sl_tupA (pv 5) po_none (po_some pe_int)) (pa_cons (pv 6) pa_nil)) pass0)))))) (pss_one (ps_ret pe_bl)) pss_nil) (pss_one (ps_ret (pe_callG GH hr (by rfl) (pa_cons (pv 0) (pa_cons (pv 1) (pa_cons (pe_ix ix_tup (pv 5) pe_int (fun _ _ => rfl)) (pa_cons (pv 2) (pa_cons (pe_tup (pa_cons (pv 3) (pa_cons (pv 4) (pa_cons (pe_ix ix_tup (pv 6) pe_int (fun _ _ => rfl)) pa_nil)))) pa_nil))))) pass0)))) pss_nil)
    (pss_cons ps_never
    (pss_cons ps_never
    (pss_one ps_never)))))), ?_⟩
  refine ⟨_, rfl, _, _, _, _, _, rfl, .ty _, .base (.tup ep), kit_ty ktt, ?_⟩
  refine ⟨_, rfl, ?_⟩
  refine iteF (A := True) ?_
  refine ⟨_, rfl, p, _, rfl, .inr (SqT.of ep), rfl, _, rfl, ?_⟩
  refine iteF (A := True) ?_
  refine ⟨_, rfl, _, _, _, _, rfl, rfl, SqT.of ep, rfl, _, rfl, _, _, _, _, rfl, rfl, SqT.of er, rfl, rfl, _, rfl, ?_⟩
  rw [decide_eq_true rfl]
  refine iteF (A := True) ?_
  refine ⟨_, rfl, _, _, _, _, rfl, rfl, SqT.of ep, rfl, rfl, _, rfl, ?_⟩
  refine ite2 (fun z => absurd z (by decide +kernel)) (fun _ => ?_)
  refine ⟨_, rfl, _, _, _, _, rfl, rfl, SqT.of ep, rfl, rfl, _, rfl, ?_⟩
  rw [decide_eq_true rfl]
  refine iteT (B := True) ?_
  refine ⟨_, rfl, p, _, rfl, .inr (SqT.of ep), rfl, _, rfl, ?_⟩
  refine iteF (A := True) ?_
  refine ⟨_, rfl, 2, rfl, slA_ok ep fun c H2 s2 ec => ?_⟩
  have ec2 : H2 c = some (.tup [V.str "sure", V.int rise]) := ec
  refine ⟨_, rfl, .ref c, .ref r, rfl, .inr (.inr ⟨c, r, _, _, rfl, rfl, ec2, s2 _ _ er, by show 2 ≤ 100; decide, .cons (.inr (.inl ⟨_, rfl, rfl⟩)) (.cons (.inl ⟨_, rfl, rfl⟩) .nil)⟩), fun H3 s3 => ?_⟩
  refine ⟨_, rfl, ?_⟩
  refine iteF (A := True) ?_
  have s23 := s2.trans s3
  refine ⟨_, rfl, _, rfl, _, rfl, _, _, _, _, rfl, rfl, SqT.of (s23 _ _ ep), rfl, _, rfl, _, rfl, _, rfl, _, rfl, _, _, _, _, rfl, rfl, SqT.of (s23 _ _ er), rfl, by show 3 ≤ sizeLine; decide, fun W nW => ?_⟩
  have s4 := same_upd (o := .tup [V.int 0, V.int 1, V.int rise]) nW
  have t4 := s23.trans s4
  exact ⟨a, W, ps, size, m, rise, v, rfl, h3, hR.mono t4, pa.tups (tups_of t4), upd_same, hM, few, small, two, fun H5 s5 => q H5 (t4.trans s5)⟩
end
end Fl
/-! Lines that share no hand: what the law builds. -/
namespace Fl
theorem step_one {rs : List Rn} {m e : Nat} {h : Int} {i : Nat} (k : walkF rs m [i] = some (e, h)) : stepW rs (m, 0) i = some (e, h) := by
  have k : (match stepW rs (m, 0) i with | none => none | some st' => some st') = some (e, h) := k
  cases s : stepW rs (m, 0) i with
  | none => rw [s] at k; cases k
  | some t => rw [s] at k; exact k
/-- marks come to along a line -/
theorem walk_set {rs : List Rn} {st : List Int} {S : Nat → Prop} (cl : ∀ q ∈ rs, q.h ∉ st → (S q.a ↔ S q.b)) : ∀ {l : List Nat} {m e : Nat} {h : Int}, S m → Free rs st l → walkF rs m l = some (e, h) → S e
  | [], m, e, h, hm, _, k => by
    have k : some (m, (0 : Int)) = some (e, h) := k
    cases k
    exact hm
  | i :: l, m, e, h, hm, fr, k => by
    obtain ⟨e1, h1, k1, k2⟩ := walkF_split (l := [i]) (l' := l) k
    obtain ⟨q, eq, c⟩ := stepW_inv (step_one k1)
    obtain ⟨q', eq', nh⟩ := fr i List.mem_cons_self
    rw [eq] at eq'
    cases eq'
    have cq := cl q (mem_of_get eq) nh
    have s1 : S e1 := by
      rcases c with ⟨c1, c2⟩ | ⟨c0, c1, c2⟩
      · have c1 : m = q.a := c1
        cases c2
        subst c1
        exact cq.mp hm
      · have c1 : m = q.b := c1
        cases c2
        subst c1
        exact cq.mpr hm
    exact walk_set cl s1 (fr.sub fun j hj => List.mem_cons_of_mem _ hj) k2
/-- runs alike but for their rises -/
def Alike (q q' : Rn) : Prop := q'.a = q.a ∧ q'.b = q.b ∧ q'.h = q.h
theorem walk_alike {rs rs' : List Rn} (al : ∀ (i : Nat) (q : Rn), rs[i]? = some q → ∃ q', rs'[i]? = some q' ∧ Alike q q') : ∀ {l : List Nat} {m e : Nat} {h : Int}, walkF rs m l = some (e, h) → ∃ h', walkF rs' m l = some (e, h')
  | [], m, e, h, k => by
    have k : some (m, (0 : Int)) = some (e, h) := k
    cases k
    exact ⟨0, rfl⟩
  | i :: l, m, e, h, k => by
    obtain ⟨e1, h1, k1, k2⟩ := walkF_split (l := [i]) (l' := l) k
    obtain ⟨q, eq, c⟩ := stepW_inv (step_one k1)
    obtain ⟨q', eq', a1, a2, _⟩ := al i q eq
    obtain ⟨h2, k3⟩ := walk_alike al k2
    have s1 : ∃ h3, stepW rs' (m, 0) i = some (e1, h3) := by
      rcases c with ⟨c1, c2⟩ | ⟨c0, c1, c2⟩
      · have c1 : m = q.a := c1
        cases c2
        rw [c1, ← a1, ← a2]
        exact ⟨_, stepW_up eq'⟩
      · have c1 : m = q.b := c1
        have c0 : m ≠ q.a := c0
        cases c2
        have ne : q'.a ≠ q'.b := by rw [a1, a2]; intro z; exact c0 (by rw [c1, z])
        rw [c1, ← a1, ← a2]
        exact ⟨_, stepW_down eq' ne⟩
    obtain ⟨h3, s1⟩ := s1
    exact ⟨_, walkF_append (l := [i]) (walkF_one s1) k3⟩
/-- a way from 0 by runs of one hand -/
def Way (rs : List Rn) (x : Int) (e : Nat) : Prop := ∃ l h, walkF rs 0 l = some (e, h) ∧ ∀ i ∈ l, ∃ q, rs[i]? = some q ∧ q.h = x
theorem Way.nil (rs : List Rn) (x : Int) : Way rs x 0 := ⟨[], 0, rfl, fun i hi => nomatch hi⟩
theorem get_app {rs : List Rn} {q z : Rn} {i : Nat} (h : rs[i]? = some z) : (rs ++ [q])[i]? = some z := by
  rw [List.getElem?_append_left (List.getElem?_eq_some_iff.mp h).1]
  exact h
theorem Way.app {rs : List Rn} {x : Int} {e : Nat} (w : Way rs x e) (q : Rn) : Way (rs ++ [q]) x e := by
  obtain ⟨l, h, k, a⟩ := w
  obtain ⟨h', k'⟩ := walk_alike (rs' := rs ++ [q]) (fun i z hz => ⟨z, get_app hz, rfl, rfl, rfl⟩) k
  exact ⟨l, h', k', fun i hi => by obtain ⟨z, hz, e⟩ := a i hi; exact ⟨z, get_app hz, e⟩⟩
theorem Way.snoc {rs : List Rn} {x : Int} {q : Rn} (w : Way rs x q.a) (hx : q.h = x) : Way (rs ++ [q]) x q.b := by
  obtain ⟨l, h, k, a⟩ := w.app q
  have last : (rs ++ [q])[rs.length]? = some q := by simp
  refine ⟨l ++ [rs.length], _, walkF_append k (walkF_one (stepW_up (c := 0) last)), fun i hi => ?_⟩
  rcases List.mem_append.mp hi with hi | hi
  · exact a i hi
  · rw [List.mem_singleton] at hi
    subst hi
    exact ⟨q, last, hx⟩
theorem set_alike {rs : List Rn} {i : Nat} {q q' : Rn} (hq : rs[i]? = some q) (al : Alike q q') : ∀ (j : Nat) (z : Rn), rs[j]? = some z → ∃ z', (rs.set i q')[j]? = some z' ∧ Alike z z' := fun j z hz => by
  by_cases e : i = j
  · subst e
    rw [hq] at hz
    cases hz
    refine ⟨q', ?_, al⟩
    rw [List.getElem?_set_self (List.getElem?_eq_some_iff.mp hq).1]
  · exact ⟨z, by rw [List.getElem?_set_ne e]; exact hz, rfl, rfl, rfl⟩
theorem Way.set {rs : List Rn} {x : Int} {e : Nat} (w : Way rs x e) {i : Nat} {q q' : Rn} (hq : rs[i]? = some q) (al : Alike q q') : Way (rs.set i q') x e := by
  obtain ⟨l, h, k, a⟩ := w
  obtain ⟨h', k'⟩ := walk_alike (set_alike hq al) k
  refine ⟨l, h', k', fun j hj => ?_⟩
  obtain ⟨z, hz, e⟩ := a j hj
  obtain ⟨z', hz', _, _, e3⟩ := set_alike hq al j z hz
  exact ⟨z', hz', e3.trans e⟩
/-- runs of the hands A, a whole line of each of the hands W, true but for the hands F -/
structure Built (A W F : List Int) (T : Nat → Int) (size : Nat) (rs : List Rn) : Prop where
  marks : ∀ q ∈ rs, q.a < size ∧ q.b < size ∧ q.a ≠ q.b
  hands : ∀ q ∈ rs, q.h ∈ A
  tr : ∀ q ∈ rs, q.h ∉ F → T q.b - T q.a = q.r
  ways : ∀ x ∈ W, Way rs x 1
theorem Built.start (F : List Int) (T : Nat → Int) (size : Nat) : Built [] [] F T size [] := ⟨fun q h => (nomatch h), fun q h => (nomatch h), fun q h => (nomatch h), fun q h => (nomatch h)⟩
theorem Built.wide {A A' W F : List Int} {T : Nat → Int} {size : Nat} {rs : List Rn} (b : Built A W F T size rs) (h : ∀ x ∈ A, x ∈ A') : Built A' W F T size rs := ⟨b.marks, fun q hq => h _ (b.hands q hq), b.tr, b.ways⟩
theorem Built.push {A W F : List Int} {T : Nat → Int} {size : Nat} {rs : List Rn} (b : Built A W F T size rs) {q : Rn} (ha : q.a < size) (hb : q.b < size) (ne : q.a ≠ q.b) (hh : q.h ∈ A) (ht : T q.b - T q.a = q.r) : Built A W F T size (rs ++ [q]) := by
  have c : ∀ {z : Rn}, z ∈ rs ++ [q] → z ∈ rs ∨ z = q := fun {z} hz => by
    rcases List.mem_append.mp hz with h | h
    · exact .inl h
    · exact .inr (List.mem_singleton.mp h)
  refine ⟨fun z hz => ?_, fun z hz => ?_, fun z hz nh => ?_, fun x hx => (b.ways x hx).app q⟩
  · rcases c hz with h | rfl
    · exact b.marks z h
    · exact ⟨ha, hb, ne⟩
  · rcases c hz with h | rfl
    · exact b.hands z h
    · exact hh
  · rcases c hz with h | rfl
    · exact b.tr z h nh
    · exact ht
theorem Built.line {A W F : List Int} {T : Nat → Int} {size : Nat} {rs : List Rn} (b : Built A W F T size rs) {x : Int} (w : Way rs x 1) : Built A (W ++ [x]) F T size rs :=
  ⟨b.marks, b.hands, b.tr, fun y hy => by
    rcases List.mem_append.mp hy with h | h
    · exact b.ways y h
    · rw [List.mem_singleton] at h
      subst h
      exact w⟩
theorem Built.alter {A W F : List Int} {T : Nat → Int} {size : Nat} {rs : List Rn} (b : Built A W F T size rs) {i : Nat} {q q' : Rn} (hq : rs[i]? = some q) (al : Alike q q') (hf : q.h ∈ F) : Built A W F T size (rs.set i q') := by
  have c : ∀ {z : Rn}, z ∈ rs.set i q' → z ∈ rs ∨ z = q' := fun {z} hz => List.mem_or_eq_of_mem_set hz
  obtain ⟨a1, a2, a3⟩ := al
  have mq := mem_of_get hq
  refine ⟨fun z hz => ?_, fun z hz => ?_, fun z hz nh => ?_, fun x hx => (b.ways x hx).set hq ⟨a1, a2, a3⟩⟩
  · rcases c hz with h | rfl
    · exact b.marks z h
    · rw [a1, a2]
      exact b.marks q mq
  · rcases c hz with h | rfl
    · exact b.hands z h
    · rw [a3]
      exact b.hands q mq
  · rcases c hz with h | rfl
    · exact b.tr z h nh
    · rw [a3] at nh
      exact absurd hf nh
/-- with more lines than struck hands there is a whole one -/
theorem Built.reach {A F : List Int} {T : Nat → Int} {size : Nat} {rs : List Rn} (b : Built A A F T size rs) (nd : A.Nodup) {st : List Int} (h : st.length < A.length) : ∃ l h, Free rs st l ∧ walkF rs 0 l = some (1, h) := by
  obtain ⟨x, hx, nx⟩ := pigeon nd h
  obtain ⟨l, h, k, a⟩ := b.ways x hx
  exact ⟨l, h, fun i hi => by obtain ⟨q, hq, e⟩ := a i hi; exact ⟨q, hq, by rw [e]; exact nx⟩, k⟩
theorem Built.has {A F : List Int} {T : Nat → Int} {size : Nat} {rs : List Rn} (b : Built A A F T size rs) {x : Int} (hx : x ∈ A) : ∃ q ∈ rs, q.h = x := by
  obtain ⟨l, h, k, a⟩ := b.ways x hx
  cases l with
  | nil =>
    have k : some (0, (0 : Int)) = some (1, h) := k
    cases k
  | cons i l =>
    obtain ⟨q, hq, e⟩ := a i List.mem_cons_self
    exact ⟨q, mem_of_get hq, e⟩
theorem Built.few {A W F : List Int} {T : Nat → Int} {size : Nat} {rs : List Rn} (b : Built A W F T size rs) {hs : List Int} (h : HandsOk hs rs) : hs.length ≤ A.length :=
  nodup_sub (lt_nodup h.inc) fun x hx => by
    obtain ⟨q, hq, e⟩ := (h.mem x).mp hx
    rw [← e]
    exact b.hands q hq
theorem hands_exist {rs : List Rn} (h : ∀ q ∈ rs, 0 ≤ q.h ∧ q.h < 10) : ∃ hs, HandsOk hs rs := by
  refine ⟨([0, 1, 2, 3, 4, 5, 6, 7, 8, 9] : List Int).filter fun x => decide (x ∈ rs.map Rn.h), List.Pairwise.filter _ (by decide), fun x => ?_⟩
  rw [List.mem_filter, decide_eq_true_eq, List.mem_map]
  constructor
  · rintro ⟨_, q, hq, e⟩
    exact ⟨q, hq, e⟩
  · rintro ⟨q, hq, e⟩
    refine ⟨?_, q, hq, e⟩
    have := h q hq
    rw [e] at this
    have : x = 0 ∨ x = 1 ∨ x = 2 ∨ x = 3 ∨ x = 4 ∨ x = 5 ∨ x = 6 ∨ x = 7 ∨ x = 8 ∨ x = 9 := by omega
    rcases this with e | e | e | e | e | e | e | e | e | e <;> subst e <;> decide
/-- hands dealt out -/
structure Dealt (k : Nat) (p : List Int) : Prop where
  len : p.length = k
  nd : p.Nodup
  lt : ∀ x ∈ p, 0 ≤ x ∧ x < k
theorem Dealt.nil : Dealt 0 [] := ⟨rfl, List.nodup_nil, fun x h => nomatch h⟩
theorem Dealt.put {k : Nat} {p : List Int} (d : Dealt k p) (i : Nat) : Dealt (k + 1) (p.take i ++ [(k : Int)] ++ p.drop i) := by
  have pm : (p.take i ++ [(k : Int)] ++ p.drop i).Perm ((k : Int) :: p) := by
    rw [List.append_assoc]
    have h := List.perm_middle (a := (k : Int)) (l₁ := p.take i) (l₂ := p.drop i)
    rw [List.take_append_drop] at h
    exact h
  refine ⟨by rw [pm.length_eq, List.length_cons, d.len], pm.nodup_iff.mpr (List.nodup_cons.mpr ⟨fun h => by have := d.lt _ h; omega, d.nd⟩), fun x hx => ?_⟩
  rcases List.mem_cons.mp (pm.mem_iff.mp hx) with e | h
  · subst e
    omega
  · have := d.lt x h
    omega
theorem nodup_take {l : List Int} (h : l.Nodup) (n : Nat) : (l.take n).Nodup := List.Sublist.nodup (List.take_sublist n l) h
end Fl
namespace Fl
open PySem PySem.Spec PyProof.Rows L2
/-! ### the law, from its end -/
abbrev NL : List Str := ["_law_script", "_law_box_here", "_law_many", "_law_short", "_law_lines", "_law_size", "_law_heights", "_law_k", "_law_hands_here", "_law_hand", "_law_false", "_law_at", "_law_runs", "_law_here", "_law_step", "_law_there", "_law_safe", "_law_found"]
abbrev endsOf (Q : VK) : Ends := { nx := fun _ H' => Q .non H', rt := Q }
abbrev LX (P : Program) (w : World) (K : PySem.W.Frag) (mg : Str → Option Value) (base : Heap) (f : Addr) (cdv : Value) (A : Around) (outer : List Env) (s : Shared) (H0 : Hp) (E : XK) : Cx := (cxOf CX0 P w K mg base NL "law" (defScope (topS 48)) f cdv A outer s H0 E).nox
abbrev LRoom (f : Addr) (cdv : Value) (A : Around) (s : Shared) : Prop := Room 11 (A.deeper (envOfC "law" (defScope (topS 48)) s.heap.objs.size f cdv))
theorem nlNd : NL.Nodup := by decide +kernel
/-- the hands of the lines -/
structure Setting (A F : List Int) (m : Nat) (sh : Bool) : Prop where
  nd : A.Nodup
  ten : ∀ x ∈ A, 0 ≤ x ∧ x < 10
  len : A.length = 2 * m + 1 - (if sh = true then 1 else 0)
  inc : F.Pairwise (· < ·)
  few : F.length ≤ m
  sub : ∀ x ∈ F, x ∈ A
abbrev hT (hts : List Int) : Nat → Int := fun m => hts.getD m 0
theorem conn_keep {ps : List (Addr × Rn)} {st : List Int} {l : List Nat} {h : Int} (fr : Free (rsOf ps) st l) (wk : walkF (rsOf ps) 0 l = some (1, h)) : Conn (rsOf (keep st ps)) 0 1 :=
  walk_set (S := fun x => Conn (rsOf (keep st ps)) 0 x) (fun q hq nh => ⟨fun c => .fwd c (mem_keep.mpr ⟨hq, nh⟩), fun c => .bwd c (mem_keep.mpr ⟨hq, nh⟩)⟩) (.refl 0) fr wk
section
variable {P : Program} {w : World} {K : PySem.W.Frag} {mg : Str → Option Value} {base : Heap} {f : Addr} {cdv : Value} {A : Around} {outer : List Env} {s : Shared} {H0 : Hp} {E : XK}
theorem tail12 (hr : LRoom f cdv A s) (mlist : mg "list" = none) (GP : Good P w K mg base 5 "parting" ["size", "runs", "many", "one", "other"] (spParting K)) (GF : Good P w K mg base 6 "foe" ["size", "runs", "many", "one", "other"] (spFoe K))
    (GT : Good P w K mg base 11 "told" ["size", "runs", "many", "one", "other"] (spTold K)) (GTR : Good P w K mg base 7 "_law_told_right" ["_law_size", "_law_runs", "_law_many", "_law_one", "_law_other", "_law_found", "_law_verdict"] (spToldRight K)) :
    ∃ t, PSs (LX P w K mg base f cdv A outer s H0 E) (List.drop 12 (defBody (topS 48))) t ∧ ∀ (Q : VK) (H : Hp) (R hp : Addr) (size m : Nat) (sh : Bool) (ps : List (Addr × Rn)) (hts AA F : List Int) (x0 x1 x4 x7 x8 x9 x10 x11 x13 x14 x15 x16 x17 : Option V),
      (∀ H', Q (.bl true) H') → Runs H R ps → H hp = some (.lst (ivs hts)) → hts.length = size → 2 ≤ size → size ≤ 10 → m ≤ 3 → ps.length ≤ 50 → Setting AA F m sh → Built AA AA F (hT hts) size (rsOf ps) →
      t (endsOf Q) [x0, x1, some (.int m), some (.bl sh), x4, some (.int size), some (.ref hp), x7, x8, x9, x10, x11, some (.ref R), x13, x14, x15, x16, x17] H := by
  have nd := nlNd
  refine ⟨_, (pss_cons (ps_set (i := 16) nd rfl (.inl rfl) (pe_callG GP (hr.mono (by decide)) (by rfl) (pa_cons (pv 5) (pa_cons (pe_callTy call_list_of (by rfl) mlist boot_list (pa_cons (pv 12) pa_nil)) (pa_cons (pe_op op_mul pe_int (pv 2)) (pa_cons pe_int (pa_cons pe_int pa_nil))))) pass0))
    (pss_cons (ps_if (pt_val (pv 3)) (pss_one (ps_ret (pe_and (pe_cmpR op_notN (pv 16) pe_non (nomark _)) (pe_one (pe_cmpR op_notN (pe_callG GF (hr.mono (by decide)) (by rfl) (pa_cons (pv 5) (pa_cons (pe_callTy call_list_of (by rfl) mlist boot_list (pa_cons (pv 12) pa_nil)) (pa_cons (pv 2) (pa_cons pe_int (pa_cons pe_int pa_nil))))) pass0) pe_non (nomark _)))))) pss_nil)
    (pss_cons (ps_if (PW.pt (pw_or (pt_cmpR op_notN (pv 16) pe_non (nomark _)) (pw_or1 (pt_cmpR op_notN (pe_callG GF (hr.mono (by decide)) (by rfl) (pa_cons (pv 5) (pa_cons (pe_callTy call_list_of (by rfl) mlist boot_list (pa_cons (pv 12) pa_nil)) (pa_cons (pv 2) (pa_cons pe_int (pa_cons pe_int pa_nil))))) pass0) pe_non (nomark _))))) (pss_one (ps_ret pe_bl)) pss_nil)
    (pss_cons (ps_set (i := 17) nd rfl (.inl rfl) (pe_callG GT (hr.mono (by decide)) (by rfl) (pa_cons (pv 5) (pa_cons (pe_callTy call_list_of (by rfl) mlist boot_list (pa_cons (pv 12) pa_nil)) (pa_cons (pv 2) (pa_cons pe_int (pa_cons pe_int pa_nil))))) pass0))
    (pss_one (ps_ret (pe_callG GTR (hr.mono (by decide)) (by rfl) (pa_cons (pv 5) (pa_cons (pv 12) (pa_cons (pv 2) (pa_cons pe_int (pa_cons pe_int (pa_cons (pv 17) (pa_cons (pe_tup (pa_cons pe_str (pa_cons (pe_op op_sub (pe_ix ix_list (pv 6) pe_int (fun _ _ => rfl)) (pe_ix ix_list (pv 6) pe_int (fun _ _ => rfl))) pa_nil))) pa_nil))))))) pass0))))))), ?_⟩
  intro Q H R hp size m sh ps hts AA F x0 x1 x4 x7 x8 x9 x10 x11 x13 x14 x15 x16 x17 q hR hH lh two ten h3 few S B
  have hM : Marks size ps := fun p hp => B.marks p.2 (List.mem_map.mpr ⟨p, hp, rfl⟩)
  have la : AA.length ≤ 2 * m + 1 := by rw [S.len]; omega
  have h7 : ∀ hs, HandsOk hs (rsOf ps) → hs.length ≤ 7 := fun hs ho => by
    have := B.few ho
    omega
  have short : sh = true → (∀ hs, HandsOk hs (rsOf ps) → 2 * m < hs.length) → False := fun e all => by
    obtain ⟨hs, ho⟩ := hands_exist (rs := rsOf ps) fun q hq => S.ten _ (B.hands q hq)
    have h1 := all hs ho
    have h2 := B.few ho
    have h3 := S.len
    rw [if_pos e] at h3
    omega
  have long : sh = false → AA.length = 2 * m + 1 := fun e => by
    have h3 := S.len
    rw [e] at h3
    simpa using h3
  have conn : sh = false → ∀ l : List Int, l.length ≤ 2 * m → Conn (rsOf (keep l ps)) 0 1 := fun e l hl => by
    obtain ⟨z, h, fr, wk⟩ := B.reach S.nd (st := l) (by rw [long e]; omega)
    exact conn_keep fr wk
  have e2 : (2 : Int) * (m : Int) = ((2 * m : Nat) : Int) := by omega
  refine ⟨_, rfl, _, rfl, R, _, rfl, .inl (SqL.of hR.1), fun c nc => ?_⟩
  have s1 := same_upd (o := .lst (ps.map fun p => V.ref p.1)) nc
  have hR1 : Runs (upd H c (.lst (ps.map fun p => V.ref p.1))) c ps := ⟨upd_same, fun p hp => s1 _ _ (hR.2 p hp)⟩
  refine ⟨_, rfl, _, _, rfl, rfl, .inl ⟨by decide, by decide⟩, c, ps, size, 2 * m, 0, 1, congrArg (fun i => [V.int (size : Int), V.ref c, V.int i, V.int 0, V.int 1]) e2, hR1, hM, by omega, few, by omega, by omega, by decide, by omega, h7, fun H2 p l s2 ep ll nc => ?_, fun H2 s2 no => ?_⟩
  · -- hands that part the two
    cases sh with
    | false => exact absurd (conn rfl l ll) nc
    | true =>
      refine ⟨_, rfl, true, rfl, ?_⟩
      refine iteT (B := True) ?_
      refine ⟨_, rfl, rfl, _, rfl, ?_⟩
      refine iteT (B := True) ?_
      have s12 := s1.trans s2
      have hR2 := hR.mono s12
      refine ⟨_, rfl, _, rfl, R, _, rfl, .inl (SqL.of hR2.1), fun c3 nc3 => ?_⟩
      have s3 := same_upd (o := .lst (ps.map fun p => V.ref p.1)) nc3
      have hR3 : Runs (upd H2 c3 (.lst (ps.map fun p => V.ref p.1))) c3 ps := ⟨upd_same, fun p hp => s3 _ _ (hR2.2 p hp)⟩
      refine ⟨_, rfl, c3, ps, size, m, 0, 1, rfl, hR3, hM, by omega, few, by omega, by omega, by decide, h3, h7, fun H4 p l s4 ll nc => ?_, fun H4 s4 no => ?_⟩
      · exact ⟨rfl, q _⟩
      · exact absurd no (short rfl)
  · -- none
    cases sh with
    | true => exact absurd no (short rfl)
    | false =>
      refine ⟨_, rfl, false, rfl, ?_⟩
      refine iteF (A := True) ?_
      refine ⟨_, rfl, rfl, _, rfl, ?_⟩
      refine iteF (A := True) ?_
      have s12 := s1.trans s2
      have hR2 := hR.mono s12
      refine ⟨_, rfl, _, rfl, R, _, rfl, .inl (SqL.of hR2.1), fun c3 nc3 => ?_⟩
      have s3 := same_upd (o := .lst (ps.map fun p => V.ref p.1)) nc3
      have hR3 : Runs (upd H2 c3 (.lst (ps.map fun p => V.ref p.1))) c3 ps := ⟨upd_same, fun p hp => s3 _ _ (hR2.2 p hp)⟩
      refine ⟨_, rfl, c3, ps, size, m, 0, 1, rfl, hR3, hM, by omega, few, by omega, by omega, by decide, h3, h7, fun H4 p l s4 ll nc => ?_, fun H4 s4 no => ?_⟩
      · exact absurd (conn rfl l ll) nc
      · refine ⟨rfl, _, rfl, ?_⟩
        refine iteF (A := True) ?_
        have s14 := (s12.trans s3).trans s4
        have hR4 := hR.mono s14
        refine ⟨_, rfl, _, rfl, R, _, rfl, .inl (SqL.of hR4.1), fun c5 nc5 => ?_⟩
        have s5 := same_upd (o := .lst (ps.map fun p => V.ref p.1)) nc5
        have hR5 : Runs (upd H4 c5 (.lst (ps.map fun p => V.ref p.1))) c5 ps := ⟨upd_same, fun p hp => s5 _ _ (hR4.2 p hp)⟩
        have core : Core (rsOf ps) m F (hT hts) := ⟨S.inc, S.few, fun h hF => B.has (S.sub h hF), B.tr, fun st hs => B.reach S.nd (by rw [long rfl]; omega)⟩
        refine ⟨_, rfl, c5, ps, size, m, F, hT hts, rfl, hR5, hM, few, by omega, two, h3, h7, core, fun H6 p v s6 ep pa => ?_⟩
        have s16 := (s14.trans s5).trans s6
        have hH6 := s16 _ _ hH
        refine ⟨_, rfl, _, rfl, _, rfl, _, rfl, _, rfl, _, _, _, _, rfl, rfl, SqL.of hH6, at_int (n := 1) (getD_at (by omega)), _, rfl, _, _, _, _, rfl, rfl, SqL.of hH6, at_int (n := 0) (getD_at (by omega)), _, _, rfl, rfl, by show 2 ≤ sizeLine; decide, fun r nr => ?_⟩
        have s7 := same_upd (o := .tup [V.str "sure", V.int (hts.getD 1 0 - hts.getD 0 0)]) nr
        have s17 := s16.trans s7
        exact ⟨R, p, r, ps, size, m, hT hts 1 - hT hts 0, v, rfl, h3, hR.mono s17, s7 _ _ ep, pa.tups (tups_of s7), upd_same, hM, few, by omega, two, fun H8 _ => q H8⟩
end
end Fl
namespace Fl
open PySem PySem.Spec PyProof.Rows L2
theorem BoxAt.lst {H : Hp} {b c : Addr} {cells : List Int} (h : BoxAt H b c cells) : ∃ l, H b = some (.lst l) := by
  obtain ⟨_, _, _, h, _⟩ := h
  exact ⟨_, h⟩
theorem BoxAt.other {H H' : Hp} {a b c : Addr} {cells : List Int} (h : BoxAt H b c cells) (x : SameX a H H') (ab : a ≠ b) (ac : a ≠ c) : BoxAt H' b c cells := by
  obtain ⟨pos, rest, seed, h1, h2, h3⟩ := h
  exact ⟨pos, rest, seed, x _ _ ab.symm h1, x _ _ ac.symm h2, h3⟩
theorem tup_ne {H : Hp} {p b : Addr} {xs l : List V} (h : H p = some (.tup xs)) (hb : H b = some (.lst l)) : p ≠ b := ne_of h hb (by intro z; cases z)
theorem Runs.monoX {H H' : Hp} {a b : Addr} {ps : List (Addr × Rn)} {l : List V} (x : SameX b H H') (hb : H b = some (.lst l)) (ne : a ≠ b) (h : Runs H a ps) : Runs H' a ps := ⟨x _ _ ne h.1, fun p hp => x _ _ (tup_ne (h.2 p hp) hb) (h.2 p hp)⟩
theorem Runs.set {H : Hp} {a t : Addr} {ps : List (Addr × Rn)} {q : Rn} {i : Nat} (h : Runs H a ps) (ht : H t = some (.tup (rv q))) : Runs (upd H a (.lst ((ps.map fun p => V.ref p.1).set i (.ref t)))) a (ps.set i (t, q)) := by
  refine ⟨by rw [upd_same, List.map_set], fun p hp => ?_⟩
  rcases List.mem_or_eq_of_mem_set hp with hp | rfl
  · rw [upd_ne (tup_ne (h.2 p hp) h.1)]
    exact h.2 p hp
  · rw [upd_ne (tup_ne ht h.1)]
    exact ht
section
variable {P : Program} {w : World} {K : PySem.W.Frag} {mg : Str → Option Value} {base : Heap} {f : Addr} {cdv : Value} {A : Around} {outer : List Env} {s : Shared} {H0 : Hp} {E : XK}
theorem tail11 (hr : LRoom f cdv A s) (ml : mg "len" = none) (mr : mg "range" = none) (mlist : mg "list" = none) (GP : Good P w K mg base 5 "parting" ["size", "runs", "many", "one", "other"] (spParting K)) (GF : Good P w K mg base 6 "foe" ["size", "runs", "many", "one", "other"] (spFoe K))
    (GT : Good P w K mg base 11 "told" ["size", "runs", "many", "one", "other"] (spTold K)) (GTR : Good P w K mg base 7 "_law_told_right" ["_law_size", "_law_runs", "_law_many", "_law_one", "_law_other", "_law_found", "_law_verdict"] (spToldRight K))
    (GK : Good P w K mg base 1 "_law_take" ["_law_box_here", "_law_many"] (spTake K)) (GO : Good P w K mg base 3 "_law_other_rise" ["_law_box_here", "_law_rise"] (spOtherRise K)) :
    ∃ t, PSs (LX P w K mg base f cdv A outer s H0 E) (List.drop 11 (defBody (topS 48))) t ∧ ∀ (Q : VK) (H : Hp) (b c R hp fp : Addr) (cells : List Int) (size m : Nat) (sh : Bool) (ps : List (Addr × Rn)) (hts AA F : List Int) (x0 x4 x7 x8 x9 x11 x13 x14 x15 x16 x17 : Option V),
      (∀ H', Q (.bl true) H') → BoxAt H b c cells → Runs H R ps → H hp = some (.lst (ivs hts)) → H fp = some (.lst (ivs F)) → R ≠ b → R ≠ c → hp ≠ R → fp ≠ R → hp ≠ b → fp ≠ b →
      hts.length = size → 2 ≤ size → size ≤ 10 → m ≤ 3 → ps.length ≤ 50 → Setting AA F m sh → Built AA AA F (hT hts) size (rsOf ps) →
      t (endsOf Q) [x0, some (.ref b), some (.int m), some (.bl sh), x4, some (.int size), some (.ref hp), x7, x8, x9, some (.ref fp), x11, some (.ref R), x13, x14, x15, x16, x17] H := by
  have nd := nlNd
  obtain ⟨t, pt, rest⟩ := tail12 (P := P) (w := w) (K := K) (mg := mg) (base := base) (f := f) (cdv := cdv) (A := A) (outer := outer) (s := s) (H0 := H0) (E := E) hr mlist GP GF GT GTR
  refine ⟨_, (pss_cons (ps_for PassesOwn.never rfl (pi_range1 (by rfl) mr (pa_cons (pe_callB call_len_seq (by rfl) ml PySem.boot_len (pa_cons (pv 12) pa_nil)) pa_nil)) (pg_name (i := 11) nd rfl (.inl rfl))
      (pss_one (ps_if (PW.pt (pw_and (pt_cmpR op_in_seq (pe_ix ix_tup (pe_ix ix_list (pv 12) (pv 11) (fun _ _ => rfl)) pe_int (fun _ _ => rfl)) (pv 10) (by rfl)) (pw_and1 (pt_cmpR op_gt (pe_callG GK (hr.mono (by decide)) (by rfl) (pa_cons (pv 1) (pa_cons pe_int pa_nil)) pass0) pe_int (nomark _))))) (pss_one (ps_asg (pe_op op_catA (pe_slice sl_tupA (pe_ix ix_list (pv 12) (pv 11) (fun _ _ => rfl)) po_none (po_some pe_int)) (pe_tup (pa_cons (pe_callG GO (hr.mono (by decide)) (by rfl) (pa_cons (pv 1) (pa_cons (pe_ix ix_tup (pe_ix ix_list (pv 12) (pv 11) (fun _ _ => rfl)) pe_int (fun _ _ => rfl)) pa_nil)) pass0) (pa_cons (pe_ix ix_tup (pe_ix ix_list (pv 12) (pv 11) (fun _ _ => rfl)) pe_int (fun _ _ => rfl)) pa_nil)))) (pg_sub (pv 12) (pv 11) set_list))) pss_nil)))
    pt), ?_⟩
  intro Q H b c R hp fp cells size m sh ps hts AA F x0 x4 x7 x8 x9 x11 x13 x14 x15 x16 x17 q hB hR hH hF Rb Rc hpR fpR hpb fpb lh two ten h3 few S B
  refine ⟨_, rfl, R, _, rfl, .inl (SqL.of hR.1), _, rfl, by rw [List.length_map]; omega, by rw [List.length_map]; omega, ?_⟩
  rw [List.length_map, Int.toNat_natCast]
  refine for_range (fun i σ H' => ∃ ps', BoxAt H' b c cells ∧ Runs H' R ps' ∧ H' hp = some (.lst (ivs hts)) ∧ H' fp = some (.lst (ivs F)) ∧ ps'.length = ps.length ∧ Built AA AA F (hT hts) size (rsOf ps') ∧
      ∃ x11, σ = [x0, some (.ref b), some (.int m), some (.bl sh), x4, some (.int size), some (.ref hp), x7, x8, x9, some (.ref fp), x11, some (.ref R), x13, x14, x15, x16, x17])
    ⟨ps, hB, hR, hH, hF, rfl, B, _, rfl⟩ ?_ ?_
  · rintro i σ H1 hi ⟨ps', b1, r1, h1, f1, l1, B1, x11, rfl⟩
    rw [Int.zero_add]
    have hi' : i < ps'.length := by omega
    have hp' : ps'[i]? = some ps'[i] := List.getElem?_eq_getElem hi'
    have at1 : atI (ps'.map fun p => V.ref p.1) (i : Int) = some (V.ref ps'[i].1) := at_int (by rw [List.getElem?_map, hp']; rfl)
    generalize ps'[i] = pq at hp' at1
    obtain ⟨pa, qr⟩ := pq
    have mq := List.mem_of_getElem? hp'
    have e1 := r1.2 _ mq
    refine ⟨_, rfl, _, rfl, R, _, _, _, rfl, rfl, SqL.of r1.1, at1, _, _, _, _, rfl, rfl, SqT.of e1, rfl, _, rfl, fp, _, rfl, .inl (SqL.of f1), rfl, flat_ivs F, _, rfl, ?_⟩
    rw [if_neg Bool.false_ne_true, inV_int]
    by_cases hf : qr.h ∈ F
    · rw [decide_eq_true hf]
      refine iteT (B := True) ?_
      refine ⟨_, rfl, b, c, cells, 3, rfl, b1, by decide, by decide, fun H2 r x2 b2 _ _ => ?_⟩
      obtain ⟨bl, hbl⟩ := b1.lst
      have r2 := r1.monoX x2 hbl Rb
      have h2 := x2 _ _ hpb h1
      have f2 := x2 _ _ fpb f1
      refine ⟨_, _, rfl, rfl, _, rfl, ?_⟩
      refine ite2 (fun _ => ?_) (fun _ => ?_)
      · have e2 := r2.2 _ mq
        refine ⟨_, rfl, _, rfl, R, _, _, _, rfl, rfl, SqL.of r2.1, at1, 2, rfl, slA_ok e2 fun t1 H3 s3 e3 => ?_⟩
        have r3 := r2.mono s3
        have b3 := b2.mono s3
        have e3' := s3 _ _ e2
        have ec3 : H3 t1 = some (.tup [V.int (qr.a : Int), V.int (qr.b : Int)]) := e3
        refine ⟨_, rfl, _, rfl, _, rfl, R, _, _, _, rfl, rfl, SqL.of r3.1, at1, _, _, _, _, rfl, rfl, SqT.of e3', rfl, b, c, cells, _, rfl, b3, fun H4 rise x4' b4 => ?_⟩
        obtain ⟨bl3, hbl3⟩ := b3.lst
        have r4 := r3.monoX x4' hbl3 Rb
        have h4 := x4' _ _ hpb (s3 _ _ h2)
        have f4 := x4' _ _ fpb (s3 _ _ f2)
        have e4 := r4.2 _ mq
        have t4 := x4' _ _ (tup_ne ec3 hbl3) ec3
        refine ⟨_, rfl, _, rfl, R, _, _, _, rfl, rfl, SqL.of r4.1, at1, _, _, _, _, rfl, rfl, SqT.of e4, rfl, by show 2 ≤ sizeLine; decide, fun t2 n2 => ?_⟩
        have s5 := same_upd (o := .tup [V.int rise, V.int qr.h]) n2
        refine catA_ok (s5 _ _ t4) upd_same (by show 2 + 2 ≤ 1000000; decide) fun t3 H6 s6 e6 => ?_
        have s46 := s5.trans s6
        have r6 := r4.mono s46
        have e6' : H6 t3 = some (.tup (rv ⟨qr.a, qr.b, rise, qr.h⟩)) := e6
        refine ⟨_, rfl, _, rfl, R, _, _, i, rfl, rfl, r6.1, ix_int (by rw [List.length_map]; exact hi'), ?_⟩
        refine ⟨ps'.set i (t3, ⟨qr.a, qr.b, rise, qr.h⟩), (b4.mono s46).other SameX.upd Rb Rc, r6.set e6', ?_, ?_, by rw [List.length_set]; exact l1, ?_, _, rfl⟩
        · rw [upd_ne hpR]
          exact s46 _ _ h4
        · rw [upd_ne fpR]
          exact s46 _ _ f4
        · have eq : (rsOf ps')[i]? = some qr := by rw [List.getElem?_map, hp']; rfl
          have := B1.alter eq (q' := ⟨qr.a, qr.b, rise, qr.h⟩) ⟨rfl, rfl, rfl⟩ hf
          rw [rsOf, List.map_set]
          exact this
      · exact ⟨ps', b2, r2, h2, f2, l1, B1, _, rfl⟩
    · rw [decide_eq_false hf]
      refine iteF (A := True) ?_
      refine iteF (A := True) ?_
      exact ⟨ps', b1, r1, h1, f1, l1, B1, _, rfl⟩
  · rintro σ H1 ⟨ps', b1, r1, h1, f1, l1, B1, x11, rfl⟩
    exact rest Q H1 R hp size m sh ps' hts AA F _ _ _ _ _ _ _ _ _ _ _ _ _ q r1 h1 lh two ten h3 (by omega) S B1
end
end Fl
namespace Fl
open PySem PySem.Spec PyProof.Rows L2
theorem Runs.push {H : Hp} {a t : Addr} {ps : List (Addr × Rn)} {q : Rn} (h : Runs H a ps) (ht : H t = some (.tup (rv q))) : Runs (upd H a (.lst ((ps.map fun p => V.ref p.1) ++ [.ref t]))) a (ps ++ [(t, q)]) := by
  refine ⟨by rw [upd_same, List.map_append]; rfl, fun p hp => ?_⟩
  rcases List.mem_append.mp hp with hp | hp
  · rw [upd_ne (tup_ne (h.2 p hp) h.1)]
    exact h.2 p hp
  · rw [List.mem_singleton] at hp
    subst hp
    rw [upd_ne (tup_ne ht h.1)]
    exact ht
theorem ivs_at {p : List Int} {k : Nat} {x : Int} (h : p[k]? = some x) : atI (ivs p) (k : Int) = some (.int x) := at_int (by rw [List.getElem?_map, h]; rfl)
theorem hts_at {hts : List Int} {k : Nat} (h : k < hts.length) : atI (ivs hts) (k : Int) = some (.int (hT hts k)) := at_int (getD_at h)
section
variable {P : Program} {w : World} {K : PySem.W.Frag} {mg : Str → Option Value} {base : Heap} {f : Addr} {cdv : Value} {A : Around} {outer : List Env} {s : Shared} {H0 : Hp} {E : XK}
theorem tail9 (hr : LRoom f cdv A s) (ml : mg "len" = none) (mr : mg "range" = none) (mlist : mg "list" = none) (mi : mg "int" = none) (GP : Good P w K mg base 5 "parting" ["size", "runs", "many", "one", "other"] (spParting K)) (GF : Good P w K mg base 6 "foe" ["size", "runs", "many", "one", "other"] (spFoe K))
    (GT : Good P w K mg base 11 "told" ["size", "runs", "many", "one", "other"] (spTold K)) (GTR : Good P w K mg base 7 "_law_told_right" ["_law_size", "_law_runs", "_law_many", "_law_one", "_law_other", "_law_found", "_law_verdict"] (spToldRight K))
    (GK : Good P w K mg base 1 "_law_take" ["_law_box_here", "_law_many"] (spTake K)) (GO : Good P w K mg base 3 "_law_other_rise" ["_law_box_here", "_law_rise"] (spOtherRise K)) :
    ∃ t, PSs (LX P w K mg base f cdv A outer s H0 E) (List.drop 9 (defBody (topS 48))) t ∧ ∀ (Q : VK) (H : Hp) (b c hp pp fp : Addr) (cells : List Int) (size m ln : Nat) (sh : Bool) (p hts F : List Int) (x0 x7 x9 x11 x12 x13 x14 x15 x16 x17 : Option V),
      (∀ H', Q (.bl true) H') → BoxAt H b c cells → H hp = some (.lst (ivs hts)) → H pp = some (.lst (ivs p)) → H fp = some (.lst (ivs F)) → hp ≠ b → pp ≠ b → fp ≠ b →
      hts.length = size → 2 ≤ size → size ≤ 10 → m ≤ 3 → ln ≤ 7 → Dealt 10 p → Setting (p.take ln) F m sh →
      t (endsOf Q) [x0, some (.ref b), some (.int m), some (.bl sh), some (.int ln), some (.int size), some (.ref hp), x7, some (.ref pp), x9, some (.ref fp), x11, x12, x13, x14, x15, x16, x17] H := by
  have nd := nlNd
  obtain ⟨t, pt, rest⟩ := tail11 (P := P) (w := w) (K := K) (mg := mg) (base := base) (f := f) (cdv := cdv) (A := A) (outer := outer) (s := s) (H0 := H0) (E := E) hr ml mr mlist GP GF GT GTR GK GO
  refine ⟨_, (pss_cons (ps_set (i := 12) nd rfl (.inl rfl) (pe_lst pa_nil))
    (pss_cons (ps_for PassesOwn.never rfl (pi_range1 (by rfl) mr (pa_cons (pv 4) pa_nil)) (pg_name (i := 7) nd rfl (.inl rfl))
      (pss_cons (ps_set (i := 13) nd rfl (.inl rfl) pe_int) (pss_cons (ps_for PassesOwn.never rfl (pi_range1 (by rfl) mr (pa_cons (pe_op op_mul (pe_callG GK (hr.mono (by decide)) (by rfl) (pa_cons (pv 1) (pa_cons pe_int pa_nil)) pass0) (pe_callTy call_int1 (by rfl) mi boot_int (pa_cons (pe_cmpR op_gt (pv 5) pe_int (nomark _)) pa_nil))) pa_nil)) (pg_name (i := 14) nd rfl (.inl rfl))
        (pss_cons (ps_set (i := 15) nd rfl (.inl rfl) (pe_op op_add pe_int (pe_callG GK (hr.mono (by decide)) (by rfl) (pa_cons (pv 1) (pa_cons (pe_op op_sub (pv 5) pe_int) pa_nil)) pass0))) (pss_one (ps_if (pt_cmpR op_ne (pv 15) (pv 13) (nomark _)) (pss_cons (ps_expr (pe_bm PySem.F.plainAttrs_list PySem.F.slot_list_append PySem.F.type_list_append mt_append (pv 12) (pa_cons (pe_tup (pa_cons (pv 13) (pa_cons (pv 15) (pa_cons (pe_op op_sub (pe_ix ix_list (pv 6) (pv 15) (fun _ _ => rfl)) (pe_ix ix_list (pv 6) (pv 13) (fun _ _ => rfl))) (pa_cons (pe_ix ix_list (pv 8) (pv 7) (fun _ _ => rfl)) pa_nil))))) pa_nil))) (pss_one (ps_set (i := 13) nd rfl (.inl rfl) (pv 15)))) pss_nil)))) (pss_one (ps_expr (pe_bm PySem.F.plainAttrs_list PySem.F.slot_list_append PySem.F.type_list_append mt_append (pv 12) (pa_cons (pe_tup (pa_cons (pv 13) (pa_cons pe_int (pa_cons (pe_op op_sub (pe_ix ix_list (pv 6) pe_int (fun _ _ => rfl)) (pe_ix ix_list (pv 6) (pv 13) (fun _ _ => rfl))) (pa_cons (pe_ix ix_list (pv 8) (pv 7) (fun _ _ => rfl)) pa_nil))))) pa_nil)))))))
    pt)), ?_⟩
  intro Q H b c hp pp fp cells size m ln sh p hts F x0 x7 x9 x11 x12 x13 x14 x15 x16 x17 q hB hH hP hF hpb ppb fpb lh two ten h3 l7 dl S
  refine ⟨by show 0 ≤ sizeLine; decide, fun R nR => ?_⟩
  have s1 := same_upd (o := .lst []) nR
  obtain ⟨bl0, hbl0⟩ := hB.lst
  have Rb : R ≠ b := (ne_of_none hbl0 nR).symm
  have Rc : R ≠ c := by
    obtain ⟨_, _, _, _, hc, _⟩ := hB
    exact (ne_of_none hc nR).symm
  have hpR : hp ≠ R := ne_of_none hH nR
  have ppR : pp ≠ R := ne_of_none hP nR
  have fpR : fp ≠ R := ne_of_none hF nR
  refine ⟨_, rfl, _, rfl, by omega, by omega, ?_⟩
  rw [Int.toNat_natCast]
  refine for_range (fun k σ H' => ∃ ps, BoxAt H' b c cells ∧ Runs H' R ps ∧ H' hp = some (.lst (ivs hts)) ∧ H' pp = some (.lst (ivs p)) ∧ H' fp = some (.lst (ivs F)) ∧ ps.length ≤ 4 * k ∧ Built (p.take k) (p.take k) F (hT hts) size (rsOf ps) ∧
      ∃ x7 x13 x14 x15, σ = [x0, some (.ref b), some (.int m), some (.bl sh), some (.int ln), some (.int size), some (.ref hp), x7, some (.ref pp), x9, some (.ref fp), x11, some (.ref R), x13, x14, x15, x16, x17])
    ⟨[], hB.mono s1, ⟨upd_same, fun z hz => (nomatch hz)⟩, s1 _ _ hH, s1 _ _ hP, s1 _ _ hF, Nat.le_refl _, Built.start _ _ _, _, _, _, _, rfl⟩ ?_ ?_
  · rintro k σ H1 hk ⟨ps, b1, r1, h1, p1, f1, l1, B1, x7, x13, x14, x15, rfl⟩
    rw [Int.zero_add]
    have hkp : k < p.length := by rw [dl.len]; omega
    have hx : p[k]? = some p[k] := List.getElem?_eq_getElem hkp
    generalize p[k] = x at hx
    have tk : p.take (k + 1) = p.take k ++ [x] := by rw [List.take_add_one, hx]; rfl
    have xin : x ∈ p.take (k + 1) := by rw [tk]; simp
    refine ⟨_, rfl, b, c, cells, 4, rfl, b1, by decide, by decide, fun H2 r x2 b2 r0 r4 => ?_⟩
    obtain ⟨bl1, hbl1⟩ := b1.lst
    have r2 := r1.monoX x2 hbl1 Rb
    have h2 := x2 _ _ hpb h1
    have p2 := x2 _ _ ppb p1
    have f2 := x2 _ _ fpb f1
    obtain ⟨n, en, n3, n2⟩ : ∃ n : Nat, r * (if decide ((2 : Int) < (size : Int)) = true then (1 : Int) else 0) = (n : Int) ∧ n ≤ 3 ∧ (0 < n → 2 < size) := by
      by_cases c : (2 : Int) < (size : Int)
      · rw [decide_eq_true c, if_pos rfl, Int.mul_one]
        exact ⟨r.toNat, by omega, by omega, fun _ => by omega⟩
      · rw [decide_eq_false c, if_neg (by decide), Int.mul_zero]
        exact ⟨0, rfl, by omega, fun h => absurd h (by decide)⟩
    refine ⟨_, rfl, _, _, rfl, rfl, .inr ⟨_, rfl, _, _, rfl, rfl, .inr (b01 _), (n : Int), congrArg (fun z => [V.int z]) en, by omega, by omega, ?_⟩⟩
    rw [Int.toNat_natCast]
    refine for_range (fun j σ H' => ∃ ps here, BoxAt H' b c cells ∧ Runs H' R ps ∧ H' hp = some (.lst (ivs hts)) ∧ H' pp = some (.lst (ivs p)) ∧ H' fp = some (.lst (ivs F)) ∧ ps.length ≤ 4 * k + j ∧ Built (p.take (k + 1)) (p.take k) F (hT hts) size (rsOf ps) ∧
        Way (rsOf ps) x here ∧ here < size ∧ here ≠ 1 ∧
        ∃ x14 x15, σ = [x0, some (.ref b), some (.int m), some (.bl sh), some (.int ln), some (.int size), some (.ref hp), some (.int k), some (.ref pp), x9, some (.ref fp), x11, some (.ref R), some (.int (here : Nat)), x14, x15, x16, x17])
      ⟨ps, 0, b2, r2, h2, p2, f2, l1, B1.wide (fun y hy => by rw [tk]; exact List.mem_append_left _ hy), Way.nil _ _, by omega, by decide, _, _, rfl⟩ ?_ ?_
    · rintro j σ H3 hj ⟨ps3, here, b3, r3, h3', p3, f3, l3, B3, way, hs, n1, x14, x15, rfl⟩
      have s2 : 2 < size := n2 (by omega)
      refine ⟨_, rfl, _, rfl, _, _, rfl, rfl, b, c, cells, _, rfl, b3, by omega, by omega, fun H4 d x4 b4 d0 d1 => ?_⟩
      obtain ⟨bl3, hbl3⟩ := b3.lst
      have r4' := r3.monoX x4 hbl3 Rb
      have h4 := x4 _ _ hpb h3'
      have p4 := x4 _ _ ppb p3
      have f4 := x4 _ _ fpb f3
      obtain ⟨d, rfl⟩ := Int.eq_ofNat_of_zero_le d0
      have ez : (2 : Int) + (d : Int) = ((2 + d : Nat) : Int) := by omega
      have dlt : 2 + d < size := by omega
      have at2 : atI (ivs hts) ((2 : Int) + (d : Int)) = some (.int (hT hts (2 + d))) := by rw [ez]; exact hts_at (by omega)
      refine ⟨_, _, rfl, rfl, ?_⟩
      refine ⟨_, rfl, _, rfl, rfl, _, rfl, ?_⟩
      refine ite2 (fun e => ?_) (fun _ => ?_)
      · have ne : here ≠ 2 + d := fun z => dne_t e (show (2 : Int) + (d : Int) = (here : Int) by omega)
        refine ⟨_, rfl, .inl ⟨rfl, _, SqL.of r4'.1⟩, _, rfl, _, rfl, _, rfl, _, rfl, hp, _, _, _, rfl, rfl, SqL.of h4, at2, _, rfl, _, rfl, hp, _, _, _, rfl, rfl, SqL.of h4, hts_at (by omega), _, _, rfl, rfl, _, rfl, _, rfl, pp, _, _, _, rfl, rfl, SqL.of p4, ivs_at hx, by show 4 ≤ sizeLine; decide, fun u nu => ?_⟩
        have s5 := same_upd (o := .tup [V.int (here : Nat), V.int ((2 : Int) + (d : Int)), V.int (hT hts (2 + d) - hT hts here), V.int x]) nu
        have r5 := r4'.mono s5
        refine ⟨R, _, _, rfl, rfl, r5.1, by rw [List.length_map]; exact szl (by omega), ?_⟩
        refine ⟨_, rfl, ?_⟩
        have B5 := B3.push (q := ⟨here, 2 + d, hT hts (2 + d) - hT hts here, x⟩) hs dlt ne xin rfl
        have W5 := way.snoc (q := ⟨here, 2 + d, hT hts (2 + d) - hT hts here, x⟩) rfl
        refine ⟨ps3 ++ [(u, ⟨here, 2 + d, hT hts (2 + d) - hT hts here, x⟩)], 2 + d, (b4.mono s5).other SameX.upd Rb Rc, r5.push upd_same, ?_, ?_, ?_, by rw [List.length_append, List.length_singleton]; omega, ?_, ?_, dlt, by omega, _, _, rfl⟩
        · rw [upd_ne hpR]
          exact s5 _ _ h4
        · rw [upd_ne ppR]
          exact s5 _ _ p4
        · rw [upd_ne fpR]
          exact s5 _ _ f4
        · rw [rsOf, List.map_append]
          exact B5
        · rw [rsOf, List.map_append]
          exact W5
      · exact ⟨ps3, here, b4, r4', h4, p4, f4, by omega, B3, way, hs, n1, _, _, rfl⟩
    · rintro σ H3 ⟨ps3, here, b3, r3, h3', p3, f3, l3, B3, way, hs, n1, x14, x15, rfl⟩
      refine ⟨_, rfl, .inl ⟨rfl, _, SqL.of r3.1⟩, _, rfl, _, rfl, hp, _, _, _, rfl, rfl, SqL.of h3', hts_at (k := 1) (by omega), _, rfl, _, rfl, hp, _, _, _, rfl, rfl, SqL.of h3', hts_at (by omega), _, _, rfl, rfl, _, rfl, _, rfl, pp, _, _, _, rfl, rfl, SqL.of p3, ivs_at hx, by show 4 ≤ sizeLine; decide, fun u nu => ?_⟩
      have s5 := same_upd (o := .tup [V.int (here : Nat), V.int ((1 : Nat) : Int), V.int (hT hts 1 - hT hts here), V.int x]) nu
      have r5 := r3.mono s5
      refine ⟨R, _, _, rfl, rfl, r5.1, by rw [List.length_map]; exact szl (by omega), ?_⟩
      have B5 := B3.push (q := ⟨here, 1, hT hts 1 - hT hts here, x⟩) hs (by show 1 < size; omega) n1 xin rfl
      have W5 := way.snoc (q := ⟨here, 1, hT hts 1 - hT hts here, x⟩) rfl
      have B6 := B5.line W5
      rw [← tk] at B6
      refine ⟨ps3 ++ [(u, ⟨here, 1, hT hts 1 - hT hts here, x⟩)], (b3.mono s5).other SameX.upd Rb Rc, r5.push upd_same, ?_, ?_, ?_, by rw [List.length_append, List.length_singleton]; omega, ?_, _, _, _, _, rfl⟩
      · rw [upd_ne hpR]
        exact s5 _ _ h3'
      · rw [upd_ne ppR]
        exact s5 _ _ p3
      · rw [upd_ne fpR]
        exact s5 _ _ f3
      · rw [rsOf, List.map_append]
        exact B6
  · rintro σ H1 ⟨ps, b1, r1, h1, p1, f1, l1, B1, x7, x13, x14, x15, rfl⟩
    exact rest Q H1 b c R hp fp cells size m sh ps hts (p.take ln) F _ _ _ _ _ _ _ _ _ _ _ q b1 r1 h1 f1 Rb Rc hpR fpR hpb fpb lh two ten h3 (by omega) S B1
end
end Fl
namespace Fl
open PySem PySem.Spec PyProof.Rows L2
theorem BoxAt.notC {H : Hp} {b c p : Addr} {cells : List Int} (h : BoxAt H b c cells) (n : H p = none) : p ≠ b ∧ p ≠ c := by
  obtain ⟨_, _, _, h1, h2, _⟩ := h
  exact ⟨(ne_of_none h1 n).symm, (ne_of_none h2 n).symm⟩
theorem fs_push {p fs : List Int} {i : Nat} {x : Int} (h : fs.Sublist (p.take i)) (hx : p[i]? = some x) : (fs ++ [x]).Sublist (p.take (i + 1)) := by
  rw [List.take_add_one, hx]
  exact List.Sublist.append h (List.Sublist.refl _)
theorem fs_skip {p fs : List Int} {i : Nat} (h : fs.Sublist (p.take i)) : fs.Sublist (p.take (i + 1)) := by
  rw [List.take_add_one]
  exact h.trans (List.sublist_append_left _ _)
section
variable {P : Program} {w : World} {K : PySem.W.Frag} {mg : Str → Option Value} {base : Heap} {f : Addr} {cdv : Value} {A : Around} {outer : List Env} {s : Shared} {H0 : Hp} {E : XK}
theorem tail6 (hr : LRoom f cdv A s) (ml : mg "len" = none) (mr : mg "range" = none) (mlist : mg "list" = none) (mi : mg "int" = none) (ms : mg "sorted" = none) (GP : Good P w K mg base 5 "parting" ["size", "runs", "many", "one", "other"] (spParting K)) (GF : Good P w K mg base 6 "foe" ["size", "runs", "many", "one", "other"] (spFoe K))
    (GT : Good P w K mg base 11 "told" ["size", "runs", "many", "one", "other"] (spTold K)) (GTR : Good P w K mg base 7 "_law_told_right" ["_law_size", "_law_runs", "_law_many", "_law_one", "_law_other", "_law_found", "_law_verdict"] (spToldRight K))
    (GK : Good P w K mg base 1 "_law_take" ["_law_box_here", "_law_many"] (spTake K)) (GO : Good P w K mg base 3 "_law_other_rise" ["_law_box_here", "_law_rise"] (spOtherRise K)) :
    ∃ t, PSs (LX P w K mg base f cdv A outer s H0 E) (List.drop 6 (defBody (topS 48))) t ∧ ∀ (Q : VK) (H : Hp) (b c hp : Addr) (cells : List Int) (size m ln : Nat) (sh : Bool) (hts : List Int) (x0 x7 x8 x9 x10 x11 x12 x13 x14 x15 x16 x17 : Option V),
      (∀ H', Q (.bl true) H') → BoxAt H b c cells → H hp = some (.lst (ivs hts)) → hp ≠ b → hts.length = size → 2 ≤ size → size ≤ 10 → m ≤ 3 → ln = 2 * m + 1 - (if sh = true then 1 else 0) →
      t (endsOf Q) [x0, some (.ref b), some (.int m), some (.bl sh), some (.int ln), some (.int size), some (.ref hp), x7, x8, x9, x10, x11, x12, x13, x14, x15, x16, x17] H := by
  have nd := nlNd
  obtain ⟨t, pt, rest⟩ := tail9 (P := P) (w := w) (K := K) (mg := mg) (base := base) (f := f) (cdv := cdv) (A := A) (outer := outer) (s := s) (H0 := H0) (E := E) hr ml mr mlist mi GP GF GT GTR GK GO
  refine ⟨_, (pss_cons (ps_set (i := 8) nd rfl (.inr rfl) (pe_lst pa_nil))
    (pss_cons (ps_for PassesOwn.never rfl (pi_range1 (by rfl) mr (pa_cons pe_int pa_nil)) (pg_name (i := 9) nd rfl (.inl rfl))
      (pss_one (ps_expr (pe_bm PySem.F.plainAttrs_list PySem.F.slot_list_insert PySem.F.type_list_insert mt_insert (pv 8) (pa_cons (pe_callG GK (hr.mono (by decide)) (by rfl) (pa_cons (pv 1) (pa_cons (pe_op op_add (pv 9) pe_int) pa_nil)) pass0) (pa_cons (pv 9) pa_nil))))))
    (pss_cons (ps_set (i := 10) nd rfl (.inl rfl) (pe_callB cr_sorted (by rfl) ms boot_sorted (pa_cons (pe_slice sl_list (pe_lc (own := [("_law_at", 11)]) (g := gName 11)  rfl nd (pi_range1 (by rfl) mr (pa_cons (pv 4) pa_nil)) (blkOk_by (own := [("_law_at", 11)]) (N := NL) (sc := defScope (topS 48)) (by decide +kernel)) (fun _ _ _ _ _ => pg_name (i := 11) nd rfl (Or.inl rfl)) (fun _ _ _ _ _ => (pts_one (pt_cmpR (r := rEq) op_eq (pe_callG GK (hr.mono (by decide)) (by rfl) (pa_cons (pv 1) (pa_cons pe_int pa_nil)) pass0) pe_int (nomark _)))) (fun _ _ _ _ _ => (pe_ix (r := rIxL K) ix_list (pv 8) (pv 11) (fun _ _ => rfl)))) po_none (po_some (pv 2))) pa_nil)))
    pt))), ?_⟩
  intro Q H b c hp cells size m ln sh hts x0 x7 x8 x9 x10 x11 x12 x13 x14 x15 x16 x17 q hB hH hpb lh two ten h3 eln
  have l7 : ln ≤ 7 := by omega
  refine ⟨by show 0 ≤ sizeLine; decide, fun pp nP => ?_⟩
  have s1 := same_upd (o := .lst []) nP
  obtain ⟨ppb, ppc⟩ := hB.notC nP
  have hpp : hp ≠ pp := ne_of_none hH nP
  refine ⟨10, rfl, by decide, by decide, ?_⟩
  refine for_range (fun i σ H' => ∃ p, BoxAt H' b c cells ∧ H' hp = some (.lst (ivs hts)) ∧ H' pp = some (.lst (ivs p)) ∧ Dealt i p ∧
      ∃ x9, σ = [x0, some (.ref b), some (.int m), some (.bl sh), some (.int ln), some (.int size), some (.ref hp), x7, some (.ref pp), x9, x10, x11, x12, x13, x14, x15, x16, x17])
    ⟨[], hB.mono s1, s1 _ _ hH, upd_same, Dealt.nil, _, rfl⟩ ?_ ?_
  · rintro i σ H1 hi ⟨p, b1, h1, p1, dl, x9, rfl⟩
    have hi : i < 10 := hi
    rw [Int.zero_add]
    refine ⟨_, rfl, .inl ⟨rfl, _, SqL.of p1⟩, _, rfl, _, rfl, _, _, rfl, rfl, b, c, cells, _, rfl, b1, by omega, by omega, fun H2 r x2 b2 r0 r1 => ?_⟩
    have h2 := x2 _ _ hpb h1
    have p2 := x2 _ _ ppb p1
    refine ⟨_, rfl, pp, _, r, _, rfl, rfl, p2, by rw [List.length_map, dl.len]; exact szl (by omega), r0, by omega, ?_⟩
    refine ⟨p.take r.toNat ++ [(i : Int)] ++ p.drop r.toNat, b2.other SameX.upd ppb ppc, ?_, ?_, dl.put _, _, rfl⟩
    · rw [upd_ne hpp]
      exact h2
    · rw [upd_same, ivs, ivs, List.map_append, List.map_append, List.map_take, List.map_drop]
      rfl
  · rintro σ H1 ⟨p, b1, h1, p1, dl, x9, rfl⟩
    have dl : Dealt 10 p := dl
    refine ⟨_, rfl, _, rfl, by omega, by omega, fun D hD => ?_⟩
    rw [Int.toNat_natCast]
    obtain ⟨Db, Dc⟩ := b1.notC hD
    have hpD : hp ≠ D := ne_of_none h1 hD
    have ppD : pp ≠ D := ne_of_none p1 hD
    have sD := same_upd (o := .lst []) hD
    refine lc_range (fun i H' => BoxAt H' b c cells ∧ H' hp = some (.lst (ivs hts)) ∧ H' pp = some (.lst (ivs p)) ∧ ∃ fs, H' D = some (.lst (ivs fs)) ∧ fs.Sublist (p.take i)) ⟨b1.mono sD, sD _ _ h1, sD _ _ p1, [], upd_same, List.nil_sublist _⟩ ?_ ?_
    · rintro i H2 hi ⟨b2, h2, p2, fs, d2, sb⟩
      rw [Int.zero_add]
      have hip : i < p.length := by rw [dl.len]; omega
      have hx : p[i]? = some p[i] := List.getElem?_eq_getElem hip
      generalize p[i] = x at hx
      refine ⟨rfl, ?_⟩
      refine ⟨_, rfl, b, c, cells, 2, rfl, b2, by decide, by decide, fun H3 r x3 b3 _ _ => ?_⟩
      have h3' := x3 _ _ hpb h2
      have p3 := x3 _ _ ppb p2
      have d3 := x3 _ _ Db d2
      refine ⟨rfl, _, rfl, ?_⟩
      refine ite2 (fun e => ?_) (fun e => ?_)
      · refine ⟨_, rfl, _, rfl, pp, _, _, _, rfl, rfl, SqL.of p3, ivs_at hx, ?_⟩
        have ls := sb.length_le
        rw [List.length_take] at ls
        refine ⟨ivs fs, d3, by rw [List.length_map]; exact szl (by omega), b3.other SameX.upd Db Dc, ?_, ?_, fs ++ [x], ?_, fs_push sb hx⟩
        · rw [upd_ne hpD]
          exact h3'
        · rw [upd_ne ppD]
          exact p3
        · rw [upd_same, ivs, ivs, List.map_append]
          rfl
      · exact ⟨b3, h3', p3, fs, d3, fs_skip sb⟩
    · rintro H2 ⟨b2, h2, p2, fs, d2, sb⟩
      refine ⟨_, rfl, m, rfl, D, _, rfl, SqL.of d2, fun c1 nc1 => ?_⟩
      rw [cut_to]
      have s3 := same_upd (o := .lst ((ivs fs).take m)) nc1
      have ls := sb.length_le
      rw [List.length_take] at ls
      refine ⟨c1, fs.take m, rfl, SqL.of (by rw [upd_same, ivs, List.map_take]), by rw [List.length_take]; omega, fun F fp pm pw nf => ?_⟩
      have s4 := same_upd (o := .lst (ivs F)) nf
      have s34 := s3.trans s4
      have b4 := b2.mono s34
      obtain ⟨fpb, _⟩ := (b2.mono s3).notC nf
      have tnd := nodup_take dl.nd ln
      have fnd : (fs.take m).Nodup := nodup_take (List.Sublist.nodup sb tnd) m
      refine rest Q _ b c hp pp fp cells size m ln sh p hts F _ _ _ _ _ _ _ _ _ _ q b4 (s34 _ _ h2) (s34 _ _ p2) upd_same hpb ppb fpb lh two ten h3 l7 dl ⟨tnd, fun x hx => ?_, ?_, le_lt pw (pm.nodup_iff.mpr fnd), ?_, fun x hx => ?_⟩
      · exact dl.lt x (List.mem_of_mem_take hx)
      · rw [List.length_take, dl.len, eln]
        omega
      · rw [pm.length_eq, List.length_take]
        omega
      · exact sb.subset (List.mem_of_mem_take (pm.mem_iff.mp hx))
theorem tail5 (hr : LRoom f cdv A s) (ml : mg "len" = none) (mr : mg "range" = none) (mlist : mg "list" = none) (mi : mg "int" = none) (ms : mg "sorted" = none) (GP : Good P w K mg base 5 "parting" ["size", "runs", "many", "one", "other"] (spParting K)) (GF : Good P w K mg base 6 "foe" ["size", "runs", "many", "one", "other"] (spFoe K))
    (GT : Good P w K mg base 11 "told" ["size", "runs", "many", "one", "other"] (spTold K)) (GTR : Good P w K mg base 7 "_law_told_right" ["_law_size", "_law_runs", "_law_many", "_law_one", "_law_other", "_law_found", "_law_verdict"] (spToldRight K))
    (GK : Good P w K mg base 1 "_law_take" ["_law_box_here", "_law_many"] (spTake K)) (GO : Good P w K mg base 3 "_law_other_rise" ["_law_box_here", "_law_rise"] (spOtherRise K)) :
    ∃ t, PSs (LX P w K mg base f cdv A outer s H0 E) (List.drop 5 (defBody (topS 48))) t ∧ ∀ (Q : VK) (H : Hp) (b c : Addr) (cells : List Int) (zl zs : Int) (size m ln : Nat) (sh : Bool) (x0 x6 x7 x8 x9 x10 x11 x12 x13 x14 x15 x16 x17 : Option V),
      (∀ H', Q (.bl true) H') → zl = (ln : Int) → zs = (size : Int) → BoxAt H b c cells → 2 ≤ size → size ≤ 10 → m ≤ 3 → ln = 2 * m + 1 - (if sh = true then 1 else 0) →
      t (endsOf Q) [x0, some (.ref b), some (.int m), some (.bl sh), some (.int zl), some (.int zs), x6, x7, x8, x9, x10, x11, x12, x13, x14, x15, x16, x17] H := by
  have nd := nlNd
  obtain ⟨t, pt, rest⟩ := tail6 (P := P) (w := w) (K := K) (mg := mg) (base := base) (f := f) (cdv := cdv) (A := A) (outer := outer) (s := s) (H0 := H0) (E := E) hr ml mr mlist mi ms GP GF GT GTR GK GO
  refine ⟨_, (pss_cons (ps_setLc (i := 6) (own := [("_law_k", 7)]) (g := gName 7) (tt := tYes) rfl nd rfl rfl (sw_true rfl rfl rfl (by decide +kernel)) (pi_range1 (by rfl) mr (pa_cons (pv 5) pa_nil)) (blkOk_by (own := [("_law_k", 7)]) (N := NL) (sc := defScope (topS 48)) (by decide +kernel)) (fun _ _ _ _ _ => pg_name (i := 7) nd rfl (Or.inl rfl)) (fun _ _ _ _ _ => pts_nil) (fun _ _ _ _ _ => (pe_callG GK (hr.mono (by decide)) (by rfl) (pa_cons (pv 1) (pa_cons (pe_ix (r := rIxL K) ix_list (pe_lst (pa_cons pe_int (pa_cons (pe_op op_pow pe_int pe_int) pa_nil))) (pe_callG GK (hr.mono (by decide)) (by rfl) (pa_cons (pv 1) (pa_cons pe_int pa_nil)) pass0) (fun _ _ => rfl)) pa_nil)) pass0)))
    pt), ?_⟩
  intro Q H b c cells zl zs size m ln sh x0 x6 x7 x8 x9 x10 x11 x12 x13 x14 x15 x16 x17 q ezl ezs hB two ten h3 eln
  subst ezl ezs
  refine ⟨_, rfl, _, rfl, by omega, by omega, fun D hD => ?_⟩
  rw [Int.toNat_natCast]
  obtain ⟨Db, Dc⟩ := hB.notC hD
  have sD := same_upd (o := .lst []) hD
  refine lc_range (fun i H' => BoxAt H' b c cells ∧ ∃ hts, H' D = some (.lst (ivs hts)) ∧ hts.length = i) ⟨hB.mono sD, [], upd_same, rfl⟩ ?_ ?_
  · rintro i H2 hi ⟨b2, hts, d2, l2⟩
    refine ⟨rfl, ?_⟩
    refine iteT (B := True) ?_
    refine ⟨_, rfl, _, _, rfl, rfl, ⟨by decide, by decide, by decide⟩, by show 2 ≤ sizeLine; decide, fun l nl => ?_⟩
    have s3 := same_upd (o := .lst [V.int 9, V.int ((10 : Int) ^ (12 : Int).toNat)]) nl
    obtain ⟨lb, _⟩ := b2.notC nl
    refine ⟨_, rfl, b, c, cells, 2, rfl, b2.mono s3, by decide, by decide, fun H4 r x4 b4 r0 r1 => ?_⟩
    have l4 := x4 _ _ lb upd_same
    have d4 := x4 _ _ Db (s3 _ _ d2)
    have pick : ∃ z : Int, atI [V.int 9, V.int ((10 : Int) ^ (12 : Int).toNat)] r = some (.int z) ∧ 0 < z ∧ z ≤ 1000000000000 := by
      have : r = 0 ∨ r = 1 := by omega
      rcases this with e | e
      · subst e
        exact ⟨9, rfl, by decide, by decide⟩
      · subst e
        exact ⟨(10 : Int) ^ (12 : Int).toNat, rfl, by decide, by decide⟩
    obtain ⟨z, ez, z0, z1⟩ := pick
    refine ⟨l, _, _, _, rfl, rfl, SqL.of l4, ez, b, c, cells, z, rfl, b4, z0, z1, fun H5 v x5 b5 _ _ => ?_⟩
    have d5 := x5 _ _ Db d4
    refine ⟨ivs hts, d5, by rw [List.length_map]; exact szl (by omega), b5.other SameX.upd Db Dc, hts ++ [v], ?_, by rw [List.length_append, List.length_singleton, l2]⟩
    rw [upd_same, ivs, ivs, List.map_append]
    rfl
  · rintro H2 ⟨b2, hts, d2, l2⟩
    exact rest Q H2 b c D cells size m ln sh hts _ _ _ _ _ _ _ _ _ _ _ _ q b2 d2 Db l2 two ten h3 eln
theorem tail3 (hr : LRoom f cdv A s) (ml : mg "len" = none) (mr : mg "range" = none) (mlist : mg "list" = none) (mi : mg "int" = none) (ms : mg "sorted" = none) (GP : Good P w K mg base 5 "parting" ["size", "runs", "many", "one", "other"] (spParting K)) (GF : Good P w K mg base 6 "foe" ["size", "runs", "many", "one", "other"] (spFoe K))
    (GT : Good P w K mg base 11 "told" ["size", "runs", "many", "one", "other"] (spTold K)) (GTR : Good P w K mg base 7 "_law_told_right" ["_law_size", "_law_runs", "_law_many", "_law_one", "_law_other", "_law_found", "_law_verdict"] (spToldRight K))
    (GK : Good P w K mg base 1 "_law_take" ["_law_box_here", "_law_many"] (spTake K)) (GO : Good P w K mg base 3 "_law_other_rise" ["_law_box_here", "_law_rise"] (spOtherRise K)) :
    ∃ t, PSs (LX P w K mg base f cdv A outer s H0 E) (List.drop 3 (defBody (topS 48))) t ∧ ∀ (Q : VK) (H : Hp) (b c : Addr) (cells : List Int) (m : Nat) (sh : Bool) (x0 x4 x5 x6 x7 x8 x9 x10 x11 x12 x13 x14 x15 x16 x17 : Option V),
      (∀ H', Q (.bl true) H') → BoxAt H b c cells → m ≤ 3 →
      t (endsOf Q) [x0, some (.ref b), some (.int m), some (.bl sh), x4, x5, x6, x7, x8, x9, x10, x11, x12, x13, x14, x15, x16, x17] H := by
  have nd := nlNd
  obtain ⟨t, pt, rest⟩ := tail5 (P := P) (w := w) (K := K) (mg := mg) (base := base) (f := f) (cdv := cdv) (A := A) (outer := outer) (s := s) (H0 := H0) (E := E) hr ml mr mlist mi ms GP GF GT GTR GK GO
  refine ⟨_, (pss_cons (ps_set (i := 4) nd rfl (.inl rfl) (pe_op op_sub (pe_op op_add (pe_op op_mul pe_int (pv 2)) pe_int) (pe_callTy call_int1 (by rfl) mi boot_int (pa_cons (pv 3) pa_nil))))
    (pss_cons (ps_set (i := 5) nd rfl (.inl rfl) (pe_op op_add pe_int (pe_callG GK (hr.mono (by decide)) (by rfl) (pa_cons (pv 1) (pa_cons pe_int pa_nil)) pass0)))
    pt)), ?_⟩
  intro Q H b c cells m sh x0 x4 x5 x6 x7 x8 x9 x10 x11 x12 x13 x14 x15 x16 x17 q hB h3
  refine ⟨_, rfl, _, _, rfl, rfl, .inl ⟨by decide, by decide⟩, _, _, rfl, rfl, _, rfl, .inr ⟨_, rfl, _, _, rfl, rfl, ?_⟩⟩
  refine ⟨_, rfl, b, c, cells, 9, rfl, hB, by decide, by decide, fun H2 r x2 b2 r0 r1 => ?_⟩
  obtain ⟨d, rfl⟩ := Int.eq_ofNat_of_zero_le r0
  refine ⟨_, _, rfl, rfl, ?_⟩
  refine rest Q H2 b c cells _ _ (2 + d) m (2 * m + 1 - (if sh = true then 1 else 0)) sh _ _ _ _ _ _ _ _ _ _ _ _ _ q ?_ ?_ b2 (by omega) (by omega) h3 rfl
  · cases sh with
    | true => show (2 : Int) * (m : Int) + 1 - 1 = ((2 * m + 1 - 1 : Nat) : Int); omega
    | false => show (2 : Int) * (m : Int) + 1 - 0 = ((2 * m + 1 - 0 : Nat) : Int); omega
  · show (2 : Int) + (d : Int) = ((2 + d : Nat) : Int)
    omega
end
section
variable {P : Program} {w : World} {K : PySem.W.Frag} {mg : Str → Option Value} {base : Heap}
def spLaw (K : PySem.W.Frag) : Sp := fun vs H Q _ => ∃ (a : Addr) (ns : List Int), vs = [.ref a] ∧ SqL K H a (ivs ns) ∧ ∀ H', Q (.bl true) H'
theorem scLaw : FnScope NL ["_law_script"] (defScope (topS 48)) := ⟨rfl, rfl, rfl, by decide +kernel, rfl, by decide +kernel, by decide +kernel⟩
theorem ok_law {f : Addr} {fd : FuncData} (F : FnP K "law" 48 f fd) (ml : mg "len" = none) (mr : mg "range" = none) (mlist : mg "list" = none) (mi : mg "int" = none) (ms : mg "sorted" = none) (GP : Good P w K mg base 5 "parting" ["size", "runs", "many", "one", "other"] (spParting K)) (GF : Good P w K mg base 6 "foe" ["size", "runs", "many", "one", "other"] (spFoe K))
    (GT : Good P w K mg base 11 "told" ["size", "runs", "many", "one", "other"] (spTold K)) (GTR : Good P w K mg base 7 "_law_told_right" ["_law_size", "_law_runs", "_law_many", "_law_one", "_law_other", "_law_found", "_law_verdict"] (spToldRight K))
    (GK : Good P w K mg base 1 "_law_take" ["_law_box_here", "_law_many"] (spTake K)) (GO : Good P w K mg base 3 "_law_other_rise" ["_law_box_here", "_law_rise"] (spOtherRise K)) (GB : Good P w K mg base 1 "_law_box" ["_law_script"] (spBox K)) : FnOk P w K mg base CX0 12 f fd ["_law_script"] (spLaw K) := by
  refine F.ok (k := 11) (N := NL) scLaw (fun vs H Q E h => ?_) (fun cdv A outer s H vs Q E hr h => ?_)
  · obtain ⟨a, ns, rfl, _⟩ := h
    rfl
  obtain ⟨a, ns, rfl, hS, q⟩ := h
  have nd := nlNd
  obtain ⟨t, pt, rest⟩ := tail3 (P := P) (w := w) (K := K) (mg := mg) (base := base) (f := f) (cdv := cdv) (A := A) (outer := outer) (s := s) (H0 := H) (E := E) hr ml mr mlist mi ms GP GF GT GTR GK GO
  refine ⟨_, PSs.nox (pss_cons (ps_set (i := 1) nd rfl (.inr rfl) (pe_callG GB (hr.mono (by decide)) (by rfl) (pa_cons (pv 0) pa_nil) pass0))
    (pss_cons (ps_set (i := 2) nd rfl (.inl rfl) (pe_callG GK (hr.mono (by decide)) (by rfl) (pa_cons (pv 1) (pa_cons pe_int pa_nil)) pass0))
    (pss_cons (ps_set (i := 3) nd rfl (.inl rfl) (pe_and (pe_cmpR op_eq (pe_callG GK (hr.mono (by decide)) (by rfl) (pa_cons (pv 1) (pa_cons pe_int pa_nil)) pass0) pe_int (nomark _)) (pe_one (pe_cmpR op_gt (pv 2) pe_int (nomark _)))))
    pt))), ?_⟩
  refine ⟨_, rfl, a, ns, rfl, hS, fun H1 b c cells s1 nb hB => ?_⟩
  refine ⟨_, rfl, b, c, cells, 4, rfl, hB, by decide, by decide, fun H2 r x2 b2 r0 r1 => ?_⟩
  obtain ⟨m, rfl⟩ := Int.eq_ofNat_of_zero_le r0
  refine ⟨_, rfl, b, c, cells, 3, rfl, b2, by decide, by decide, fun H3 z x3 b3 _ _ => ?_⟩
  refine ⟨rfl, _, rfl, ?_⟩
  refine ite2 (fun _ => ?_) (fun _ => ?_)
  · exact ⟨_, rfl, _, _, rfl, rfl, rest Q H3 b c cells m _ _ _ _ _ _ _ _ _ _ _ _ _ _ _ _ q b3 (by omega)⟩
  · exact rest Q H3 b c cells m _ _ _ _ _ _ _ _ _ _ _ _ _ _ _ _ q b3 (by omega)
end
end Fl
namespace Fl
open PySem PySem.Spec PyProof.Rows L2
/-! ### the head: facts by names, the run -/
def dd1 : He.DefD := ⟨("hands_of", none), "hands_of", "hands_of", defArgs (topS 1), defBody (topS 1), defScope (topS 1), [], []⟩
def dd2 : He.DefD := ⟨("left", none), "left", "left", defArgs (topS 2), defBody (topS 2), defScope (topS 2), [], []⟩
def dd3 : He.DefD := ⟨("holds", none), "holds", "holds", defArgs (topS 3), defBody (topS 3), defScope (topS 3), [], []⟩
def dd4 : He.DefD := ⟨("spread", none), "spread", "spread", defArgs (topS 4), defBody (topS 4), defScope (topS 4), [], []⟩
def dd5 : He.DefD := ⟨("fill", none), "fill", "fill", defArgs (topS 5), defBody (topS 5), defScope (topS 5), [], []⟩
def dd6 : He.DefD := ⟨("reached", none), "reached", "reached", defArgs (topS 6), defBody (topS 6), defScope (topS 6), [], []⟩
def dd7 : He.DefD := ⟨("flat", none), "flat", "flat", defArgs (topS 7), defBody (topS 7), defScope (topS 7), [], []⟩
def dd9 : He.DefD := ⟨("grown", none), "grown", "grown", defArgs (topS 9), defBody (topS 9), defScope (topS 9), [], []⟩
def dd10 : He.DefD := ⟨("lists_of", none), "lists_of", "lists_of", defArgs (topS 10), defBody (topS 10), defScope (topS 10), [], []⟩
def dd11 : He.DefD := ⟨("reading", none), "reading", "reading", defArgs (topS 11), defBody (topS 11), defScope (topS 11), [], []⟩
def dd13 : He.DefD := ⟨("parts", none), "parts", "parts", defArgs (topS 13), defBody (topS 13), defScope (topS 13), [], []⟩
def dd14 : He.DefD := ⟨("parting", none), "parting", "parting", defArgs (topS 14), defBody (topS 14), defScope (topS 14), [], []⟩
def dd15 : He.DefD := ⟨("foe", none), "foe", "foe", defArgs (topS 15), defBody (topS 15), defScope (topS 15), [], []⟩
def dd17 : He.DefD := ⟨("walked", none), "walked", "walked", defArgs (topS 17), defBody (topS 17), defScope (topS 17), [], []⟩
def dd18 : He.DefD := ⟨("line_hands", none), "line_hands", "line_hands", defArgs (topS 18), defBody (topS 18), defScope (topS 18), [], []⟩
def dd19 : He.DefD := ⟨("next_ways", none), "next_ways", "next_ways", defArgs (topS 19), defBody (topS 19), defScope (topS 19), [], []⟩
def dd20 : He.DefD := ⟨("ways_from", none), "ways_from", "ways_from", defArgs (topS 20), defBody (topS 20), defScope (topS 20), [], []⟩
def dd21 : He.DefD := ⟨("some_line", none), "some_line", "some_line", defArgs (topS 21), defBody (topS 21), defScope (topS 21), [], []⟩
def dd22 : He.DefD := ⟨("ring_by", none), "ring_by", "ring_by", defArgs (topS 22), defBody (topS 22), defScope (topS 22), [], []⟩
def dd23 : He.DefD := ⟨("open_from", none), "open_from", "open_from", defArgs (topS 23), defBody (topS 23), defScope (topS 23), [], []⟩
def dd24 : He.DefD := ⟨("open_ring", none), "open_ring", "open_ring", defArgs (topS 24), defBody (topS 24), defScope (topS 24), [], []⟩
def dd26 : He.DefD := ⟨("thing_of", none), "thing_of", "thing_of", defArgs (topS 26), defBody (topS 26), defScope (topS 26), [], []⟩
def dd27 : He.DefD := ⟨("made", none), "made", "made", defArgs (topS 27), defBody (topS 27), defScope (topS 27), [], []⟩
def dd28 : He.DefD := ⟨("none_paper", none), "none_paper", "none_paper", defArgs (topS 28), defBody (topS 28), defScope (topS 28), [], []⟩
def dd32 : He.DefD := ⟨("told", none), "told", "told", defArgs (topS 32), defBody (topS 32), defScope (topS 32), [], []⟩
def dd34 : He.DefD := ⟨("_law_box", none), "_law_box", "_law_box", defArgs (topS 34), defBody (topS 34), defScope (topS 34), [], []⟩
def dd35 : He.DefD := ⟨("_law_take", none), "_law_take", "_law_take", defArgs (topS 35), defBody (topS 35), defScope (topS 35), [], []⟩
def dd36 : He.DefD := ⟨("_law_great", none), "_law_great", "_law_great", defArgs (topS 36), defBody (topS 36), defScope (topS 36), [], []⟩
def dd37 : He.DefD := ⟨("_law_same", none), "_law_same", "_law_same", defArgs (topS 37), defBody (topS 37), defScope (topS 37), [], []⟩
def dd39 : He.DefD := ⟨("_law_other_rise", none), "_law_other_rise", "_law_other_rise", defArgs (topS 39), defBody (topS 39), defScope (topS 39), [], []⟩
def dd41 : He.DefD := ⟨("_law_hands", none), "_law_hands", "_law_hands", defArgs (topS 41), defBody (topS 41), defScope (topS 41), [], []⟩
def dd42 : He.DefD := ⟨("_law_walk", none), "_law_walk", "_law_walk", defArgs (topS 42), defBody (topS 42), defScope (topS 42), [], []⟩
def dd43 : He.DefD := ⟨("_law_formed", none), "_law_formed", "_law_formed", defArgs (topS 43), defBody (topS 43), defScope (topS 43), [], []⟩
def dd44 : He.DefD := ⟨("_law_sound", none), "_law_sound", "_law_sound", defArgs (topS 44), defBody (topS 44), defScope (topS 44), [], []⟩
def dd45 : He.DefD := ⟨("_law_shows", none), "_law_shows", "_law_shows", defArgs (topS 45), defBody (topS 45), defScope (topS 45), [], []⟩
def dd47 : He.DefD := ⟨("_law_told_right", none), "_law_told_right", "_law_told_right", defArgs (topS 47), defBody (topS 47), defScope (topS 47), [], []⟩
def dd48 : He.DefD := ⟨("law", none), "law", "law", defArgs (topS 48), defBody (topS 48), defScope (topS 48), [], []⟩
def fnA : List He.DefD := [dd1, dd2, dd3, dd4, dd5, dd6, dd7, dd9, dd10, dd11, dd13, dd14, dd15, dd17, dd18, dd19, dd20, dd21, dd22, dd23]
def fnB : List He.DefD := [dd24, dd26, dd27, dd28, dd32, dd34, dd35, dd36, dd37, dd39, dd41, dd42, dd43, dd44, dd45, dd47, dd48]
def fnL : List He.DefD := fnA ++ fnB
def faA : List He.Fa := [.glo "hands_of", .glo "left", .glo "holds", .glo "spread", .glo "fill", .glo "reached", .glo "flat", .glo "grown", .glo "lists_of", .glo "reading", .glo "parts", .glo "parting", .glo "foe", .glo "walked", .glo "line_hands", .glo "next_ways", .glo "ways_from", .glo "some_line", .glo "ring_by", .glo "open_from", .glo "open_ring", .glo "thing_of", .glo "made", .glo "none_paper", .glo "told", .glo "_law_box", .glo "_law_take", .glo "_law_great", .glo "_law_same", .glo "_law_other_rise", .glo "_law_hands", .glo "_law_walk", .glo "_law_formed", .glo "_law_sound", .glo "_law_shows", .glo "_law_told_right", .glo "law"]
def faB : List He.Fa := [.free "sorted", .free "dict", .free "range", .free "min", .free "len", .free "int", .free "enumerate", .free "tuple", .free "list", .free "set", .free "zip", .free "isinstance", .free "all", .free "any", .free "str", .free "bool"]
def faL : List He.Fa := faA ++ faB
def lsA : List Str := ["hands_of", "left", "holds", "spread", "fill", "reached", "flat", "grown", "lists_of", "reading", "parts", "parting", "foe", "walked", "line_hands", "next_ways", "ways_from", "some_line", "ring_by", "open_from", "open_ring", "thing_of", "made", "none_paper", "lifted", "other_reading", "told", "_law_box", "_law_take", "_law_great"]
def lsB : List Str := ["_law_same", "_law_numbers", "_law_other_rise", "_law_left", "_law_hands", "_law_walk", "_law_formed", "_law_sound", "_law_shows", "_law_explains", "_law_told_right"]
def lsL : List Str := lsA ++ lsB
abbrev LRow : PySem.W.OpenRow := PySem.W.OpenLaw.row PySem.Challenge.rw_fenlevel_k20_whole_lines_that_share_no_h
abbrev hkL : PySem.W.Hook := He.hookD 4 faL fnL
def obL (s : PySem.W.SharedT) : He.AlD := He.obsDG 4 faL fnL (HandSHeadRun.getT s)
theorem obL_eq (s : PySem.W.SharedT) : obL s = hkL.obs s.abs := He.obsDG_eq (HandSHeadRun.getT_eq s)
theorem runL (w : World) : HandSHeadRun.RunEq LRow (PySem.W.view LRow.prog [48]) hkL obL 3000 lsL w := by
  intro os
  kernel_rfl
theorem factsL {P : Program} {w : World} {K : PySem.W.Frag} {h : Heap} {mg : Str → Option Value} {f : Addr} (X : K.In h) (G : h.Ns mainGlobals mg) (hfa : mg ("law" : Str) = some (.ref f)) (c : He.SaysD faL fnL K) :
    ∃ fd : FuncData, (∀ (s : Shared) (v : Value), BindsTo s fd ⟨[v], []⟩ [("_law_script", v)]) ∧ ∀ base : Heap, K.In base → base.Ns mainGlobals mg → FnOk P w K mg base CX0 12 f fd ["_law_script"] (spLaw K) := by
  obtain ⟨fd1, F1⟩ := c.def_ 0 (d := dd1) rfl
  have G1 := He.glo_ok X G (c.fact 0 (f := .glo "hands_of") rfl)
  have D1 : Def K mg "hands_of" 1 := ⟨_, _, F1, G1⟩
  obtain ⟨fd2, F2⟩ := c.def_ 1 (d := dd2) rfl
  have G2 := He.glo_ok X G (c.fact 1 (f := .glo "left") rfl)
  have D2 : Def K mg "left" 2 := ⟨_, _, F2, G2⟩
  obtain ⟨fd3, F3⟩ := c.def_ 2 (d := dd3) rfl
  have G3 := He.glo_ok X G (c.fact 2 (f := .glo "holds") rfl)
  have D3 : Def K mg "holds" 3 := ⟨_, _, F3, G3⟩
  obtain ⟨fd4, F4⟩ := c.def_ 3 (d := dd4) rfl
  have G4 := He.glo_ok X G (c.fact 3 (f := .glo "spread") rfl)
  have D4 : Def K mg "spread" 4 := ⟨_, _, F4, G4⟩
  obtain ⟨fd5, F5⟩ := c.def_ 4 (d := dd5) rfl
  have G5 := He.glo_ok X G (c.fact 4 (f := .glo "fill") rfl)
  have D5 : Def K mg "fill" 5 := ⟨_, _, F5, G5⟩
  obtain ⟨fd6, F6⟩ := c.def_ 5 (d := dd6) rfl
  have G6 := He.glo_ok X G (c.fact 5 (f := .glo "reached") rfl)
  have D6 : Def K mg "reached" 6 := ⟨_, _, F6, G6⟩
  obtain ⟨fd7, F7⟩ := c.def_ 6 (d := dd7) rfl
  have G7 := He.glo_ok X G (c.fact 6 (f := .glo "flat") rfl)
  have D7 : Def K mg "flat" 7 := ⟨_, _, F7, G7⟩
  obtain ⟨fd9, F9⟩ := c.def_ 7 (d := dd9) rfl
  have G9 := He.glo_ok X G (c.fact 7 (f := .glo "grown") rfl)
  have D9 : Def K mg "grown" 9 := ⟨_, _, F9, G9⟩
  obtain ⟨fd10, F10⟩ := c.def_ 8 (d := dd10) rfl
  have G10 := He.glo_ok X G (c.fact 8 (f := .glo "lists_of") rfl)
  have D10 : Def K mg "lists_of" 10 := ⟨_, _, F10, G10⟩
  obtain ⟨fd11, F11⟩ := c.def_ 9 (d := dd11) rfl
  have G11 := He.glo_ok X G (c.fact 9 (f := .glo "reading") rfl)
  have D11 : Def K mg "reading" 11 := ⟨_, _, F11, G11⟩
  obtain ⟨fd13, F13⟩ := c.def_ 10 (d := dd13) rfl
  have G13 := He.glo_ok X G (c.fact 10 (f := .glo "parts") rfl)
  have D13 : Def K mg "parts" 13 := ⟨_, _, F13, G13⟩
  obtain ⟨fd14, F14⟩ := c.def_ 11 (d := dd14) rfl
  have G14 := He.glo_ok X G (c.fact 11 (f := .glo "parting") rfl)
  have D14 : Def K mg "parting" 14 := ⟨_, _, F14, G14⟩
  obtain ⟨fd15, F15⟩ := c.def_ 12 (d := dd15) rfl
  have G15 := He.glo_ok X G (c.fact 12 (f := .glo "foe") rfl)
  have D15 : Def K mg "foe" 15 := ⟨_, _, F15, G15⟩
  obtain ⟨fd17, F17⟩ := c.def_ 13 (d := dd17) rfl
  have G17 := He.glo_ok X G (c.fact 13 (f := .glo "walked") rfl)
  have D17 : Def K mg "walked" 17 := ⟨_, _, F17, G17⟩
  obtain ⟨fd18, F18⟩ := c.def_ 14 (d := dd18) rfl
  have G18 := He.glo_ok X G (c.fact 14 (f := .glo "line_hands") rfl)
  have D18 : Def K mg "line_hands" 18 := ⟨_, _, F18, G18⟩
  obtain ⟨fd19, F19⟩ := c.def_ 15 (d := dd19) rfl
  have G19 := He.glo_ok X G (c.fact 15 (f := .glo "next_ways") rfl)
  have D19 : Def K mg "next_ways" 19 := ⟨_, _, F19, G19⟩
  obtain ⟨fd20, F20⟩ := c.def_ 16 (d := dd20) rfl
  have G20 := He.glo_ok X G (c.fact 16 (f := .glo "ways_from") rfl)
  have D20 : Def K mg "ways_from" 20 := ⟨_, _, F20, G20⟩
  obtain ⟨fd21, F21⟩ := c.def_ 17 (d := dd21) rfl
  have G21 := He.glo_ok X G (c.fact 17 (f := .glo "some_line") rfl)
  have D21 : Def K mg "some_line" 21 := ⟨_, _, F21, G21⟩
  obtain ⟨fd22, F22⟩ := c.def_ 18 (d := dd22) rfl
  have G22 := He.glo_ok X G (c.fact 18 (f := .glo "ring_by") rfl)
  have D22 : Def K mg "ring_by" 22 := ⟨_, _, F22, G22⟩
  obtain ⟨fd23, F23⟩ := c.def_ 19 (d := dd23) rfl
  have G23 := He.glo_ok X G (c.fact 19 (f := .glo "open_from") rfl)
  have D23 : Def K mg "open_from" 23 := ⟨_, _, F23, G23⟩
  obtain ⟨fd24, F24⟩ := c.def_ 20 (d := dd24) rfl
  have G24 := He.glo_ok X G (c.fact 20 (f := .glo "open_ring") rfl)
  have D24 : Def K mg "open_ring" 24 := ⟨_, _, F24, G24⟩
  obtain ⟨fd26, F26⟩ := c.def_ 21 (d := dd26) rfl
  have G26 := He.glo_ok X G (c.fact 21 (f := .glo "thing_of") rfl)
  have D26 : Def K mg "thing_of" 26 := ⟨_, _, F26, G26⟩
  obtain ⟨fd27, F27⟩ := c.def_ 22 (d := dd27) rfl
  have G27 := He.glo_ok X G (c.fact 22 (f := .glo "made") rfl)
  have D27 : Def K mg "made" 27 := ⟨_, _, F27, G27⟩
  obtain ⟨fd28, F28⟩ := c.def_ 23 (d := dd28) rfl
  have G28 := He.glo_ok X G (c.fact 23 (f := .glo "none_paper") rfl)
  have D28 : Def K mg "none_paper" 28 := ⟨_, _, F28, G28⟩
  obtain ⟨fd32, F32⟩ := c.def_ 24 (d := dd32) rfl
  have G32 := He.glo_ok X G (c.fact 24 (f := .glo "told") rfl)
  have D32 : Def K mg "told" 32 := ⟨_, _, F32, G32⟩
  obtain ⟨fd34, F34⟩ := c.def_ 25 (d := dd34) rfl
  have G34 := He.glo_ok X G (c.fact 25 (f := .glo "_law_box") rfl)
  have D34 : Def K mg "_law_box" 34 := ⟨_, _, F34, G34⟩
  obtain ⟨fd35, F35⟩ := c.def_ 26 (d := dd35) rfl
  have G35 := He.glo_ok X G (c.fact 26 (f := .glo "_law_take") rfl)
  have D35 : Def K mg "_law_take" 35 := ⟨_, _, F35, G35⟩
  obtain ⟨fd36, F36⟩ := c.def_ 27 (d := dd36) rfl
  have G36 := He.glo_ok X G (c.fact 27 (f := .glo "_law_great") rfl)
  have D36 : Def K mg "_law_great" 36 := ⟨_, _, F36, G36⟩
  obtain ⟨fd37, F37⟩ := c.def_ 28 (d := dd37) rfl
  have G37 := He.glo_ok X G (c.fact 28 (f := .glo "_law_same") rfl)
  have D37 : Def K mg "_law_same" 37 := ⟨_, _, F37, G37⟩
  obtain ⟨fd39, F39⟩ := c.def_ 29 (d := dd39) rfl
  have G39 := He.glo_ok X G (c.fact 29 (f := .glo "_law_other_rise") rfl)
  have D39 : Def K mg "_law_other_rise" 39 := ⟨_, _, F39, G39⟩
  obtain ⟨fd41, F41⟩ := c.def_ 30 (d := dd41) rfl
  have G41 := He.glo_ok X G (c.fact 30 (f := .glo "_law_hands") rfl)
  have D41 : Def K mg "_law_hands" 41 := ⟨_, _, F41, G41⟩
  obtain ⟨fd42, F42⟩ := c.def_ 31 (d := dd42) rfl
  have G42 := He.glo_ok X G (c.fact 31 (f := .glo "_law_walk") rfl)
  have D42 : Def K mg "_law_walk" 42 := ⟨_, _, F42, G42⟩
  obtain ⟨fd43, F43⟩ := c.def_ 32 (d := dd43) rfl
  have G43 := He.glo_ok X G (c.fact 32 (f := .glo "_law_formed") rfl)
  have D43 : Def K mg "_law_formed" 43 := ⟨_, _, F43, G43⟩
  obtain ⟨fd44, F44⟩ := c.def_ 33 (d := dd44) rfl
  have G44 := He.glo_ok X G (c.fact 33 (f := .glo "_law_sound") rfl)
  have D44 : Def K mg "_law_sound" 44 := ⟨_, _, F44, G44⟩
  obtain ⟨fd45, F45⟩ := c.def_ 34 (d := dd45) rfl
  have G45 := He.glo_ok X G (c.fact 34 (f := .glo "_law_shows") rfl)
  have D45 : Def K mg "_law_shows" 45 := ⟨_, _, F45, G45⟩
  obtain ⟨fd47, F47⟩ := c.def_ 35 (d := dd47) rfl
  have G47 := He.glo_ok X G (c.fact 35 (f := .glo "_law_told_right") rfl)
  have D47 : Def K mg "_law_told_right" 47 := ⟨_, _, F47, G47⟩
  obtain ⟨fd, F⟩ := c.def_ 36 (d := dd48) rfl
  have e := hfa.symm.trans (He.glo_ok X G (c.fact 36 (f := .glo "law") rfl))
  cases e
  have m_sorted : mg "sorted" = none := He.free_ok X G (c.fact 37 (f := .free "sorted") rfl)
  have m_dict : mg "dict" = none := He.free_ok X G (c.fact 38 (f := .free "dict") rfl)
  have m_range : mg "range" = none := He.free_ok X G (c.fact 39 (f := .free "range") rfl)
  have m_min : mg "min" = none := He.free_ok X G (c.fact 40 (f := .free "min") rfl)
  have m_len : mg "len" = none := He.free_ok X G (c.fact 41 (f := .free "len") rfl)
  have m_int : mg "int" = none := He.free_ok X G (c.fact 42 (f := .free "int") rfl)
  have m_enumerate : mg "enumerate" = none := He.free_ok X G (c.fact 43 (f := .free "enumerate") rfl)
  have m_tuple : mg "tuple" = none := He.free_ok X G (c.fact 44 (f := .free "tuple") rfl)
  have m_list : mg "list" = none := He.free_ok X G (c.fact 45 (f := .free "list") rfl)
  have m_set : mg "set" = none := He.free_ok X G (c.fact 46 (f := .free "set") rfl)
  have m_zip : mg "zip" = none := He.free_ok X G (c.fact 47 (f := .free "zip") rfl)
  have m_isinstance : mg "isinstance" = none := He.free_ok X G (c.fact 48 (f := .free "isinstance") rfl)
  have m_all : mg "all" = none := He.free_ok X G (c.fact 49 (f := .free "all") rfl)
  have m_any : mg "any" = none := He.free_ok X G (c.fact 50 (f := .free "any") rfl)
  have m_str : mg "str" = none := He.free_ok X G (c.fact 51 (f := .free "str") rfl)
  have m_bool : mg "bool" = none := He.free_ok X G (c.fact 52 (f := .free "bool") rfl)
  have b := FunD.bindsA (ps := ["_law_script"]) F fun _ _ _ _ _ _ us hl => match us, hl with | [_], _ => rfl
  refine ⟨fd, fun s v => b s [v] rfl, fun base _ _ => ?_⟩
  have g2 := ok_left (P := P) (w := w) (base := base) D2
  have g1 := ok_hands_of (P := P) (w := w) (base := base) D1 m_sorted m_dict
  have g3 := ok_holds (P := P) (w := w) (base := base) D3
  have g4 := ok_spread (P := P) (w := w) (base := base) D4
  have g5 := ok_fill D5 g4
  have g6 := ok_reached D6 m_range g5
  have g7 := ok_flat D7 m_range g5 g3
  have g9 := ok_grown (P := P) (w := w) (base := base) D9
  have g10 := ok_lists_of D10 m_range m_min m_len g9
  have g11 := ok_reading D11 g1 g10 g7 g2
  have g13 := ok_parts D13 g6 g2
  have g14 := ok_parting D14 g1 g10 g13
  have g15 := ok_foe D15 m_len m_range m_int g14 g6 g2
  have g17 := ok_walked (P := P) (w := w) (base := base) D17 m_len
  have g18 := ok_line_hands (P := P) (w := w) (base := base) D18 m_sorted m_dict
  have g19 := ok_next_ways (P := P) (w := w) (base := base) D19 m_enumerate
  have g20 := ok_ways_from D20 g19
  have g21 := ok_some_line D21 g20
  have g22 := ok_ring_by D22 m_len m_min g17
  have g23 := ok_open_from D23 m_enumerate g17 g22
  have g24 := ok_open_ring D24 m_range g20 g23
  have g26 := ok_thing_of D26 g24 g21 g17
  have g27 := ok_made D27 m_tuple g26 g18 4
  have g28 := ok_none_paper D28 g27
  have g32 := ok_told D32 g28 g11 g27
  have g34 := ok_box (P := P) (w := w) (base := base) D34 m_list
  have g35 := ok_take (P := P) (w := w) (base := base) D35 m_len
  have g36 := ok_great D36 m_range g35
  have g37 := ok_same (P := P) (w := w) (base := base) D37 m_len m_isinstance m_tuple m_list m_str m_int m_bool m_all m_zip 2
  have g39 := ok_other_rise D39 g35 g36
  have g41 := ok_law_hands (P := P) (w := w) (base := base) D41 m_sorted m_set
  have g42 := ok_law_walk (P := P) (w := w) (base := base) D42 m_len m_set
  have g43 := ok_formed (P := P) (w := w) (base := base) D43 m_len m_isinstance m_tuple m_str m_int m_bool m_all 4
  have g44 := ok_sound D44 m_any m_all m_int g42 g41 4
  have g45 := ok_shows D45 g43 g44
  have g47 := ok_told_right D47 m_len m_isinstance m_tuple g37 g45
  exact ok_law F m_len m_range m_list m_int m_sorted g14 g15 g32 g47 g35 g39 g34
end Fl
open PySem PySem.W PySem.Calls PyProof.Rows
theorem PySem.Challenge.cw_fenlevel_k20_whole_lines_that_share_no_h_holds : PySem.Challenge.rw_fenlevel_k20_whole_lines_that_share_no_h.Holds := by
  w_on; o_law
  refine HandSHeadRun.head_any (r := OpenLaw.row PySem.Challenge.rw_fenlevel_k20_whole_lines_that_share_no_h) (q := view (OpenLaw.row PySem.Challenge.rw_fenlevel_k20_whole_lines_that_share_no_h).prog [48]) (H := Fl.hkL) (ob := Fl.obL) (M := 3000) (loose := Fl.lsL) (d := HandSHeadRun.topDef (OpenLaw.row PySem.Challenge.rw_fenlevel_k20_whole_lines_that_share_no_h).prog 48) (kwd := []) Fl.obL_eq
    (by kernel_rfl) (fun s => by kernel_rfl) Fl.runL (by kernel_rfl) (by kernel_rfl) (by kernel_rfl) (by rfl) (by first | assumption | decide +kernel) (by decide +kernel) ⟨rfl, rfl, rfl, rfl, rfl, by decide +kernel⟩ ?hw ?hc
  case hw => w_witness2
  case hc =>
    refine L2.walk_ofE (l := PySem.Challenge.rw_fenlevel_k20_whole_lines_that_share_no_h) (n := 63) (k := 12) (x := "_law_script") (CX := L2.CX0) rfl (by decide) (by kernel_rfl) ⟨rfl, by decide, by decide⟩ ?F (fun _ _ _ _ z => z)
    intro w mg fa h Y G hmg0
    obtain ⟨K, KX, c⟩ := Y
    have hmg : mg ("law" : PySem.Str) = some (.ref fa) := by
      have e : (HandSHeadRun.topDef (OpenLaw.row PySem.Challenge.rw_fenlevel_k20_whole_lines_that_share_no_h).prog 48).name = ("law" : PySem.Str) := by kernel_rfl
      rw [← e]
      exact hmg0
    obtain ⟨fd, hb, hF⟩ := Fl.factsL (P := (PySem.Challenge.rw_fenlevel_k20_whole_lines_that_share_no_h).prog) (w := w) KX G hmg c
    exact ⟨K, fd, Fl.spLaw K, KX, hb, fun H a ns hl _ hS => ⟨a, ns, rfl, hS, fun _ => rfl⟩, hF⟩
