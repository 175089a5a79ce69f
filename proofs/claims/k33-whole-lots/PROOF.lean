import PyProof.Rows.All
import Wide.All
import OpenK.AllK
import Wide.FinOn
import HandS.ForMost
import HandS.ForExc
import HandS.Walk
import HandS.SetKeys
import HandS.DictComp
import HandS.DictTup
import HandS.Conv
import HandS.TupAny
import HandS.OwnEq
import HandS.IsInst
import HandS.Codes
import PySem.Challenge.RW_untriedways_k33_whole_lots_of_greatest_p
import KE.GoesEnum
import KE.SortData
import PyProof.InstNe
import HandS.WordsExc
set_option Elab.async false
set_option linter.all false
set_option maxRecDepth 100000
set_option maxHeartbeats 4000000
/-! K33 mathematics 1: parts, orders, the map turned about -/
namespace K33
def fwd : List Nat → Nat × Nat → Bool
  | [], _ => false
  | x :: o, a => (decide (a.1 = x) && decide (a.2 ∈ o)) || fwd o a
theorem fwd_iff : ∀ (o : List Nat) (a : Nat × Nat), fwd o a = true ↔ ∃ l r, o = l ++ r ∧ a.1 ∈ l ∧ a.2 ∈ r
  | [], a => by
    constructor
    · intro h; cases h
    · rintro ⟨l, r, e, h1, _⟩
      have : l = [] := by cases l with
        | nil => rfl
        | cons => cases e
      subst this; cases h1
  | x :: o, a => by
    simp only [fwd, Bool.or_eq_true, Bool.and_eq_true, decide_eq_true_eq, fwd_iff o a]
    constructor
    · rintro (⟨h1, h2⟩ | ⟨l, r, e, h1, h2⟩)
      · exact ⟨[x], o, rfl, by simp [h1], h2⟩
      · exact ⟨x :: l, r, by simp [e], by simp [h1], h2⟩
    · rintro ⟨l, r, e, h1, h2⟩
      cases l with
      | nil => cases h1
      | cons y l =>
        simp only [List.cons_append, List.cons.injEq] at e
        obtain ⟨rfl, rfl⟩ := e
        rcases List.mem_cons.mp h1 with h | h
        · exact .inl ⟨h, List.mem_append_right _ h2⟩
        · exact .inr ⟨l, r, rfl, h, h2⟩
theorem fwd_mem {o : List Nat} {a : Nat × Nat} (h : fwd o a = true) : a.1 ∈ o ∧ a.2 ∈ o := by
  obtain ⟨l, r, rfl, h1, h2⟩ := (fwd_iff o a).mp h
  exact ⟨List.mem_append_left _ h1, List.mem_append_right _ h2⟩
theorem fwd_rev (o : List Nat) (t h : Nat) : fwd o.reverse (h, t) = fwd o (t, h) := by
  have key : ∀ o t h, fwd o (t, h) = true → fwd o.reverse (h, t) = true := by
    intro o t h q
    obtain ⟨l, r, rfl, h1, h2⟩ := (fwd_iff _ _).mp q
    exact (fwd_iff _ _).mpr ⟨r.reverse, l.reverse, by simp, by simpa using h2, by simpa using h1⟩
  cases e : fwd o (t, h) with
  | true => exact key o t h e
  | false =>
    cases e2 : fwd o.reverse (h, t) with
    | false => rfl
    | true =>
      have := key _ _ _ e2
      rw [List.reverse_reverse, e] at this
      cases this
theorem fwd_map {f : Nat → Nat} (inj : ∀ a b, f a = f b → a = b) : ∀ (o : List Nat) (t h : Nat), fwd (o.map f) (f t, f h) = fwd o (t, h)
  | [], _, _ => rfl
  | x :: o, t, h => by
    have e1 : decide (f t = f x) = decide (t = x) := by
      by_cases q : t = x
      · simp [q]
      · have : ¬ f t = f x := fun z => q (inj _ _ z)
        simp [q, this]
    have e2 : decide (f h ∈ o.map f) = decide (h ∈ o) := by
      by_cases q : h ∈ o
      · have : f h ∈ o.map f := List.mem_map.mpr ⟨h, q, rfl⟩
        simp only [this, q]
      · have : ¬ f h ∈ o.map f := fun z => by
          obtain ⟨y, hy, e⟩ := List.mem_map.mp z
          exact q (inj _ _ e ▸ hy)
        simp only [this, q]
    simp only [List.map_cons, fwd, fwd_map inj o t h, e1, e2]
/-- by the places' indexes -/
theorem fwd_idx : ∀ {o : List Nat}, o.Nodup → ∀ (a : Nat × Nat), fwd o a = true ↔ a.1 ∈ o ∧ a.2 ∈ o ∧ o.idxOf a.1 < o.idxOf a.2
  | [], _, a => by simp [fwd]
  | x :: o, nd, a => by
    obtain ⟨hx, nd'⟩ := List.nodup_cons.mp nd
    have ih := fwd_idx nd' a
    simp only [fwd, Bool.or_eq_true, Bool.and_eq_true, decide_eq_true_eq, ih, List.mem_cons, List.idxOf_cons]
    by_cases h1 : a.1 = x
    · by_cases h2 : a.2 = x
      · subst h2
        simp [hx]
      · have q : (x == a.2) = false := by simp [Ne.symm h2]
        have q1 : (x == a.1) = true := by simp [h1]
        simp [h1, h2, q, hx]
    · have q1 : (x == a.1) = false := by simp [Ne.symm h1]
      by_cases h2 : a.2 = x
      · have q : (x == a.2) = true := by simp [h2]
        simp [h1, h2, hx, q1]
      · have q : (x == a.2) = false := by simp [Ne.symm h2]
        simp [h1, h2, q, q1]
structure Pt where
  many : Nat
  arrows : List (Nat × Nat)
  goals : List Nat
structure IsPart (p : Pt) (o : List Nat) (e : Int) : Prop where
  nd : o.Nodup
  hd : o.head? = some 0
  lt : ∀ v, v ∈ o → v < p.many
  gl : ∀ g, g ∈ p.goals → g ∈ o
  inn : ∀ v, v ∈ o → v ≠ 0 → ∃ t, (t, v) ∈ p.arrows ∧ fwd o (t, v) = true
  out : ∀ v, v ∈ o → v ∉ p.goals → ∃ h, (v, h) ∈ p.arrows ∧ fwd o (v, h) = true
  ex : e = ((p.arrows.filter (fwd o)).length : Int) - o.length + 1
/-- 0 and g exchanged -/
def sw (g v : Nat) : Nat := if v = 0 then g else if v = g then 0 else v
theorem sw_sw (g v : Nat) : sw g (sw g v) = v := by
  unfold sw
  by_cases h : v = 0
  · subst h; by_cases hg : g = 0 <;> simp [hg]
  · by_cases h2 : v = g
    · subst h2; simp [h]
    · simp [h, h2]
theorem sw_inj (g : Nat) : ∀ a b, sw g a = sw g b → a = b := fun a b h => by
  rw [← sw_sw g a, h, sw_sw]
theorem sw_lt {g m v : Nat} (hg : g < m) (hv : v < m) : sw g v < m := by
  unfold sw
  split
  · exact hg
  · split
    · omega
    · exact hv
def turnP (p : Pt) (g : Nat) : Pt := ⟨p.many, p.arrows.map fun a => (sw g a.2, sw g a.1), p.goals⟩
theorem turn_turn (p : Pt) (g : Nat) : turnP (turnP p g) g = p := by
  obtain ⟨m, as, gs⟩ := p
  unfold turnP
  simp only [List.map_map]
  congr 1
  conv => rhs; rw [← List.map_id as]
  apply List.map_congr_left
  intro a _
  simp [sw_sw]
theorem part_last {p : Pt} {g : Nat} {o : List Nat} {e : Int} (hg : p.goals = [g]) (h : IsPart p o e) : o.getLast? = some g := by
  have h0 : o ≠ [] := fun z => by have := h.hd; rw [z] at this; cases this
  rw [List.getLast?_eq_some_getLast h0]
  congr 1
  refine Classical.byContradiction fun ne => ?_
  have hm : o.getLast h0 ∈ o := List.getLast_mem h0
  obtain ⟨w, _, hf⟩ := h.out _ hm (by rw [hg]; simpa using ne)
  obtain ⟨_, hw, hlt⟩ := (fwd_idx h.nd _).mp hf
  have e1 : o.idxOf (o.getLast h0) = o.length - 1 := by
    have : o.getLast h0 = o[o.length - 1]'(by have := List.length_pos_iff.mpr h0; omega) := List.getLast_eq_getElem h0
    rw [this]
    exact List.Nodup.idxOf_getElem h.nd _ _
  have e2 : o.idxOf w < o.length := List.idxOf_lt_length_iff.mpr hw
  simp only at hlt
  omega
theorem part_turn {p : Pt} {g : Nat} {o : List Nat} {e : Int} (hg : p.goals = [g]) (hm : g < p.many) (h : IsPart p o e) : IsPart (turnP p g) (o.map (sw g)).reverse e := by
  have inj := sw_inj g
  have hl := part_last hg h
  have hf : ∀ t h', fwd (o.map (sw g)).reverse (sw g h', sw g t) = fwd o (t, h') := fun t h' => by
    rw [fwd_rev, fwd_map inj]
  have hmem : ∀ v, v ∈ (o.map (sw g)).reverse ↔ sw g v ∈ o := fun v => by
    rw [List.mem_reverse, List.mem_map]
    constructor
    · rintro ⟨u, hu, rfl⟩; rw [sw_sw]; exact hu
    · intro hv; exact ⟨_, hv, sw_sw g v⟩
  have h0 : 0 ∈ o := by
    have := h.hd
    cases o with
    | nil => cases this
    | cons x o => simp at this; simp [this]
  refine ⟨?_, ?_, ?_, ?_, ?_, ?_, ?_⟩
  · refine List.pairwise_reverse.mpr ?_
    exact List.Pairwise.map _ (fun a b hab z => hab (inj _ _ z.symm)) h.nd
  · rw [List.head?_reverse, List.getLast?_map, hl]
    simp [sw]
  · intro v hv
    have := h.lt _ ((hmem v).mp hv)
    rw [← sw_sw g v]
    exact sw_lt hm this
  · intro g' hg'
    have : g' = g := by
      have : g' ∈ p.goals := hg'
      rw [hg] at this; simpa using this
    subst this
    rw [hmem]
    have : sw g' g' = 0 := by unfold sw; split <;> simp_all
    rw [this]; exact h0
  · intro v hv hv0
    have hv' := (hmem v).mp hv
    have hng : sw g v ∉ p.goals := by
      rw [hg]
      simp only [List.mem_singleton]
      intro z
      apply hv0
      rw [← sw_sw g v, z]
      unfold sw; split <;> simp_all
    obtain ⟨w, hw, hfw⟩ := h.out _ hv' hng
    refine ⟨sw g w, List.mem_map.mpr ⟨_, hw, by simp [sw_sw]⟩, ?_⟩
    have := hf (sw g v) w
    rw [sw_sw] at this
    rw [this]; exact hfw
  · intro v hv hvg
    have hv' := (hmem v).mp hv
    have hn0 : sw g v ≠ 0 := by
      intro z
      apply hvg
      have : v = g := by
        rw [← sw_sw g v, z]; simp [sw]
      show v ∈ p.goals
      rw [hg, this]; simp
    obtain ⟨t, ht, hft⟩ := h.inn _ hv' hn0
    refine ⟨sw g t, List.mem_map.mpr ⟨_, ht, by simp [sw_sw]⟩, ?_⟩
    have := hf t (sw g v)
    rw [sw_sw] at this
    rw [this]; exact hft
  · have e1 : ((turnP p g).arrows.filter (fwd (o.map (sw g)).reverse)).length = (p.arrows.filter (fwd o)).length := by
      show ((p.arrows.map _).filter _).length = _
      rw [List.filter_map, List.length_map]
      congr 1
      apply List.filter_congr
      intro a _
      simp only [Function.comp_apply]
      exact hf a.1 a.2
    rw [e1, List.length_reverse, List.length_map]
    exact h.ex
end K33
/-! K33 mathematics 2: where every goal can be come to there is a part -/
namespace K33
inductive Rch (as : List (Nat × Nat)) (ok b : Nat → Prop) : Nat → Prop where
  | base (v : Nat) : b v → Rch as ok b v
  | step (t h : Nat) : Rch as ok b t → (t, h) ∈ as → ok h → Rch as ok b h
def Ch (as : List (Nat × Nat)) : Nat → List Nat → Prop
  | _, [] => True
  | u, w :: ws => (u, w) ∈ as ∧ Ch as w ws
theorem ch_left {as : List (Nat × Nat)} : ∀ {u : Nat} {l r : List Nat}, Ch as u (l ++ r) → Ch as u l
  | _, [], _, _ => trivial
  | _, _ :: _, _, h => ⟨h.1, ch_left h.2⟩
theorem ch_snoc {as : List (Nat × Nat)} : ∀ {u : Nat} {l : List Nat} {t h : Nat}, Ch as u l → l.getLast? = some t → (t, h) ∈ as → Ch as u (l ++ [h])
  | _, [], _, _, _, e, _ => by cases e
  | u, [w], t, h, c, e, m => by
    have : w = t := by simpa using e
    subst this
    exact ⟨c.1, m, trivial⟩
  | u, w :: x :: l, t, h, c, e, m => ⟨c.1, ch_snoc (l := x :: l) c.2 (by rw [← e, List.getLast?_cons_cons]) m⟩
theorem path_out {as : List (Nat × Nat)} {many : Nat} {b : Nat → Prop} {o : List Nat} (h0 : ∀ v, b v → v ∈ o) : ∀ {v : Nat}, Rch as (· < many) b v →
    v ∈ o ∨ ∃ u, u ∈ o ∧ ∃ ws : List Nat, ws.Nodup ∧ (∀ w, w ∈ ws → w ∉ o ∧ w < many) ∧ Ch as u ws ∧ ws.getLast? = some v := by
  intro v h
  induction h with
  | base v hv => exact .inl (h0 v hv)
  | step t h _ m ok ih =>
    by_cases hh : h ∈ o
    · exact .inl hh
    · right
      rcases ih with ht | ⟨u, hu, ws, nd, dj, c, e⟩
      · exact ⟨t, ht, [h], by simp, by simp [hh, ok], ⟨m, trivial⟩, rfl⟩
      · by_cases hw : h ∈ ws
        · obtain ⟨l, r, rfl⟩ := List.append_of_mem hw
          refine ⟨u, hu, l ++ [h], ?_, fun w hw' => dj w ?_, ?_, by simp⟩
          · have := nd
            rw [show l ++ h :: r = (l ++ [h]) ++ r by simp] at this
            exact (List.nodup_append.mp this).1
          · rw [show l ++ h :: r = (l ++ [h]) ++ r by simp]
            exact List.mem_append_left _ hw'
          · rw [show l ++ h :: r = (l ++ [h]) ++ r by simp] at c
            exact ch_left c
        · refine ⟨u, hu, ws ++ [h], ?_, ?_, ch_snoc c e m, by simp⟩
          · rw [List.nodup_append]
            exact ⟨nd, by simp, fun a ha b hb => by simp at hb; subst hb; exact fun z => hw (z ▸ ha)⟩
          · intro w hw'
            rcases List.mem_append.mp hw' with q | q
            · exact dj w q
            · simp at q; subst q; exact ⟨hh, ok⟩
theorem fwd_app (l r : List Nat) (a : Nat × Nat) : fwd (l ++ r) a = (fwd l a || fwd r a || (decide (a.1 ∈ l) && decide (a.2 ∈ r))) := by
  induction l with
  | nil => simp [fwd]
  | cons x l ih =>
    simp only [List.cons_append, fwd, ih, List.mem_append, List.mem_cons]
    by_cases h1 : a.1 = x <;> by_cases h2 : a.2 ∈ l <;> by_cases h3 : a.2 ∈ r <;> by_cases h4 : a.1 ∈ l <;> simp [h1, h2, h3, h4] <;> cases fwd l a <;> cases fwd r a <;> rfl
theorem fwd_left {l r : List Nat} {a : Nat × Nat} (h : fwd l a = true) : fwd (l ++ r) a = true := by rw [fwd_app, h]; rfl
theorem fwd_mid {l r : List Nat} {t h : Nat} (h1 : t ∈ l) (h2 : h ∈ r) : fwd (l ++ r) (t, h) = true := by rw [fwd_app]; simp [h1, h2]
theorem ch_in {as : List (Nat × Nat)} : ∀ {ws o : List Nat} {u : Nat}, u ∈ o → Ch as u ws → ∀ w, w ∈ ws → ∃ t, (t, w) ∈ as ∧ fwd (o ++ ws) (t, w) = true
  | [], _, _, _, _, w, hw => by cases hw
  | x :: ws, o, u, hu, c, w, hw => by
    rcases List.mem_cons.mp hw with rfl | hw
    · exact ⟨u, c.1, fwd_mid hu (by simp)⟩
    · obtain ⟨t, m, f⟩ := ch_in (o := o ++ [x]) (u := x) (by simp) c.2 w hw
      exact ⟨t, m, by rw [List.append_assoc] at f; exact f⟩
theorem ch_out {as : List (Nat × Nat)} : ∀ {ws o : List Nat} {u : Nat}, Ch as u ws → ∀ w, w ∈ ws → ws.getLast? = some w ∨ ∃ h, (w, h) ∈ as ∧ fwd (o ++ ws) (w, h) = true
  | [], _, _, _, w, hw => by cases hw
  | [x], _, _, _, w, hw => by
    have : w = x := by simpa using hw
    subst this; exact .inl rfl
  | x :: y :: ws, o, u, c, w, hw => by
    rcases List.mem_cons.mp hw with rfl | hw
    · refine .inr ⟨y, c.2.1, ?_⟩
      have := fwd_mid (l := o ++ [w]) (r := y :: ws) (t := w) (h := y) (by simp) (by simp)
      rw [List.append_assoc] at this
      exact this
    · rcases ch_out (o := o ++ [x]) c.2 w hw with q | ⟨h, m, f⟩
      · left; rw [← q, List.getLast?_cons_cons]
      · right; exact ⟨h, m, by rw [List.append_assoc] at f; exact f⟩
/-- a part of some of the goals: the start alone may lack an arrow -/
structure Pre (p : Pt) (gs o : List Nat) : Prop where
  nd : o.Nodup
  hd : o.head? = some 0
  lt : ∀ v, v ∈ o → v < p.many
  gl : ∀ g, g ∈ gs → g ∈ o
  inn : ∀ v, v ∈ o → v ≠ 0 → ∃ t, (t, v) ∈ p.arrows ∧ fwd o (t, v) = true
  out : ∀ v, v ∈ o → v ∉ p.goals → o = [0] ∨ ∃ h, (v, h) ∈ p.arrows ∧ fwd o (v, h) = true
theorem pre_all {p : Pt} (hm : 0 < p.many) (hr : ∀ g, g ∈ p.goals → Rch p.arrows (· < p.many) (· = 0) g) : ∀ gs : List Nat, (∀ g, g ∈ gs → g ∈ p.goals) → ∃ o, Pre p gs o
  | [], _ => ⟨[0], ⟨by simp, rfl, by simp [hm], by simp, fun v hv h0 => absurd (by simpa using hv) h0, fun _ _ _ => .inl rfl⟩⟩
  | g :: gs, hgs => by
    obtain ⟨o, P⟩ := pre_all hm hr gs fun g' h => hgs g' (List.mem_cons_of_mem _ h)
    have h0 : 0 ∈ o := by
      have := P.hd
      cases o with
      | nil => cases this
      | cons x o => simp at this; simp [this]
    have hgg := hgs g List.mem_cons_self
    rcases path_out (o := o) (fun v hv => by subst hv; exact h0) (hr g hgg) with hg | ⟨u, hu, ws, nd, dj, c, e⟩
    · exact ⟨o, ⟨P.nd, P.hd, P.lt, fun g' h => by
        rcases List.mem_cons.mp h with rfl | h
        · exact hg
        · exact P.gl g' h, P.inn, P.out⟩⟩
    · have hgw : g ∈ ws := List.mem_of_getLast? e
      refine ⟨o ++ ws, ⟨?_, ?_, ?_, ?_, ?_, ?_⟩⟩
      · rw [List.nodup_append]
        exact ⟨P.nd, nd, fun a ha b hb z => (dj b hb).1 (z ▸ ha)⟩
      · rw [List.head?_append, P.hd]; rfl
      · intro v hv
        rcases List.mem_append.mp hv with q | q
        · exact P.lt v q
        · exact (dj v q).2
      · intro g' h
        rcases List.mem_cons.mp h with rfl | h
        · exact List.mem_append_right _ hgw
        · exact List.mem_append_left _ (P.gl g' h)
      · intro v hv hv0
        rcases List.mem_append.mp hv with q | q
        · obtain ⟨t, m, f⟩ := P.inn v q hv0
          exact ⟨t, m, fwd_left f⟩
        · exact ch_in hu c v q
      · intro v hv hvg
        right
        rcases List.mem_append.mp hv with q | q
        · rcases P.out v q hvg with z | ⟨h, m, f⟩
          · rw [z] at q hu
            have e1 : v = 0 := by simpa using q
            have e2 : u = 0 := by simpa using hu
            cases ws with
            | nil => cases e
            | cons w ws =>
              refine ⟨w, ?_, fwd_mid (by rw [z, e1]; simp) (by simp)⟩
              have := c.1
              rw [e1, ← e2]; exact this
          · exact ⟨h, m, fwd_left f⟩
        · rcases ch_out (o := o) c v q with z | ⟨h, m, f⟩
          · rw [e] at z
            have : g = v := by simpa using z
            exact absurd (this ▸ hgg) hvg
          · exact ⟨h, m, f⟩
theorem part_exists {p : Pt} (hm : 0 < p.many) (hg0 : 0 ∉ p.goals) (hne : p.goals ≠ []) (hr : ∀ g, g ∈ p.goals → Rch p.arrows (· < p.many) (· = 0) g) : ∃ o e, IsPart p o e := by
  obtain ⟨o, P⟩ := pre_all hm hr p.goals fun _ h => h
  have ho : o ≠ [0] := fun z => by
    obtain ⟨g, hg⟩ := List.exists_mem_of_ne_nil _ hne
    have := P.gl g hg
    rw [z] at this
    have e : g = 0 := by simpa using this
    exact hg0 (e ▸ hg)
  exact ⟨o, _, ⟨P.nd, P.hd, P.lt, P.gl, P.inn, fun v hv hg => (P.out v hv hg).resolve_left ho, rfl⟩⟩
end K33
/-! K33 mathematics 3: the greatest excess place by place -/
namespace K33
def inn (M : Nat → Nat → Nat) (ts : List Nat) (p : Nat) : Nat := (ts.map fun t => M t p).sum
def Vd (M : Nat → Nat → Nat) (en : Nat → Prop) : List Nat → List Nat → Prop
  | _, [] => True
  | ts, p :: o => 0 < inn M ts p ∧ (en p ∨ ∃ h, h ∈ o ∧ 0 < M p h) ∧ Vd M en (ts ++ [p]) o
def Vl (M : Nat → Nat → Nat) : List Nat → List Nat → Int
  | _, [] => 0
  | ts, p :: o => (inn M ts p : Int) - 1 + Vl M (ts ++ [p]) o
theorem inn_perm {M : Nat → Nat → Nat} {ts us : List Nat} (h : ts.Perm us) (p : Nat) : inn M ts p = inn M us p := (h.map _).sum_nat
theorem vd_perm {M : Nat → Nat → Nat} {en : Nat → Prop} : ∀ {o ts us : List Nat}, ts.Perm us → Vd M en ts o → Vd M en us o
  | [], _, _, _, _ => trivial
  | p :: _, _, _, h, d => ⟨by rw [← inn_perm h p]; exact d.1, d.2.1, vd_perm (h.append_right [p]) d.2.2⟩
theorem vl_perm {M : Nat → Nat → Nat} : ∀ {o ts us : List Nat}, ts.Perm us → Vl M ts o = Vl M us o
  | [], _, _, _ => rfl
  | p :: o, ts, us, h => by
    show (inn M ts p : Int) - 1 + Vl M (ts ++ [p]) o = (inn M us p : Int) - 1 + Vl M (us ++ [p]) o
    rw [inn_perm h p, vl_perm (h.append_right [p])]
theorem sum_pos : ∀ {ts : List Nat} {f : Nat → Nat}, 0 < (ts.map f).sum ↔ ∃ t, t ∈ ts ∧ 0 < f t
  | [], f => by simp
  | t :: ts, f => by
    have ih := @sum_pos ts f
    simp only [List.map_cons, List.sum_cons, List.mem_cons]
    constructor
    · intro h
      by_cases q : 0 < f t
      · exact ⟨t, .inl rfl, q⟩
      · obtain ⟨u, hu, hf⟩ := ih.mp (by omega)
        exact ⟨u, .inr hu, hf⟩
    · rintro ⟨u, rfl | hu, hf⟩
      · omega
      · have := ih.mpr ⟨u, hu, hf⟩
        omega
/-! ### places -/
def PM (as : List (Nat × Nat)) (t h : Nat) : Nat := if h = 0 then 0 else as.count (t, h)
theorem pm_pos {as : List (Nat × Nat)} {t h : Nat} (h0 : h ≠ 0) : 0 < PM as t h ↔ (t, h) ∈ as := by
  unfold PM
  rw [if_neg h0, List.count_pos_iff]
theorem fwd_to {l r : List Nat} {p t : Nat} (nd : (l ++ p :: r).Nodup) : fwd (l ++ p :: r) (t, p) = true ↔ t ∈ l := by
  obtain ⟨_, n2, dj⟩ := List.nodup_append.mp nd
  have hp : p ∉ r := (List.nodup_cons.mp n2).1
  have hl : p ∉ l := fun z => dj p z p List.mem_cons_self rfl
  have e1 : fwd l (t, p) = false := by
    cases e : fwd l (t, p) with
    | false => rfl
    | true => exact absurd (fwd_mem e).2 hl
  have e2 : fwd r (t, p) = false := by
    cases e : fwd r (t, p) with
    | false => rfl
    | true => exact absurd (fwd_mem e).2 hp
  rw [fwd_app, e1]
  simp [fwd, e2, hp]
theorem fwd_from {l r : List Nat} {p h : Nat} (nd : (l ++ p :: r).Nodup) : fwd (l ++ p :: r) (p, h) = true ↔ h ∈ r := by
  obtain ⟨_, n2, dj⟩ := List.nodup_append.mp nd
  have hp : p ∉ r := (List.nodup_cons.mp n2).1
  have hl : p ∉ l := fun z => dj p z p List.mem_cons_self rfl
  have e1 : fwd l (p, h) = false := by
    cases e : fwd l (p, h) with
    | false => rfl
    | true => exact absurd (fwd_mem e).1 hl
  have e2 : fwd r (p, h) = false := by
    cases e : fwd r (p, h) with
    | false => rfl
    | true => exact absurd (fwd_mem e).1 hp
  rw [fwd_app, e1]
  simp [fwd, e2, hl]
theorem vd_iff {as : List (Nat × Nat)} {en : Nat → Prop} : ∀ {o ts : List Nat}, (ts ++ o).Nodup → 0 ∈ ts →
    (Vd (PM as) en ts o ↔ (∀ p, p ∈ o → ∃ t, (t, p) ∈ as ∧ fwd (ts ++ o) (t, p) = true) ∧ ∀ p, p ∈ o → en p ∨ ∃ h, (p, h) ∈ as ∧ fwd (ts ++ o) (p, h) = true)
  | [], _, _, _ => by simp [Vd]
  | p :: o, ts, nd, h0 => by
    have nd' : ((ts ++ [p]) ++ o).Nodup := by rw [List.append_assoc]; exact nd
    have ih := vd_iff (as := as) (en := en) nd' (List.mem_append_left _ h0)
    rw [List.append_assoc, List.singleton_append] at ih
    obtain ⟨_, n2, dj⟩ := List.nodup_append.mp nd
    have nz : ∀ q, q ∈ p :: o → q ≠ 0 := fun q hq z => dj 0 h0 q hq z.symm
    have e1 : 0 < inn (PM as) ts p ↔ ∃ t, (t, p) ∈ as ∧ fwd (ts ++ p :: o) (t, p) = true := by
      unfold inn
      rw [sum_pos]
      constructor
      · rintro ⟨t, ht, hp⟩
        exact ⟨t, (pm_pos (nz p List.mem_cons_self)).mp hp, (fwd_to nd).mpr ht⟩
      · rintro ⟨t, m, f⟩
        exact ⟨t, (fwd_to nd).mp f, (pm_pos (nz p List.mem_cons_self)).mpr m⟩
    have e2 : (∃ h, h ∈ o ∧ 0 < PM as p h) ↔ ∃ h, (p, h) ∈ as ∧ fwd (ts ++ p :: o) (p, h) = true := by
      constructor
      · rintro ⟨h, hh, hp⟩
        exact ⟨h, (pm_pos (nz h (List.mem_cons_of_mem _ hh))).mp hp, (fwd_from nd).mpr hh⟩
      · rintro ⟨h, m, f⟩
        have hh := (fwd_from nd).mp f
        exact ⟨h, hh, (pm_pos (nz h (List.mem_cons_of_mem _ hh))).mpr m⟩
    show (0 < inn (PM as) ts p ∧ (en p ∨ ∃ h, h ∈ o ∧ 0 < PM as p h) ∧ Vd (PM as) en (ts ++ [p]) o) ↔ _
    rw [e1, e2, ih]
    constructor
    · rintro ⟨a, b, c, d⟩
      exact ⟨fun q hq => (List.mem_cons.mp hq).elim (fun e => e ▸ a) (c q), fun q hq => (List.mem_cons.mp hq).elim (fun e => e ▸ b) (d q)⟩
    · rintro ⟨a, b⟩
      exact ⟨a p List.mem_cons_self, b p List.mem_cons_self, fun q hq => a q (List.mem_cons_of_mem _ hq), fun q hq => b q (List.mem_cons_of_mem _ hq)⟩
theorem ind_sum {a : Nat × Nat} {p : Nat} : ∀ {ts : List Nat}, ts.Nodup → (ts.map fun t => if a = (t, p) then 1 else 0).sum = if a.1 ∈ ts ∧ a.2 = p then 1 else 0
  | [], _ => by simp
  | t :: ts, nd => by
    obtain ⟨h1, h2⟩ := List.nodup_cons.mp nd
    have ih := ind_sum (a := a) (p := p) h2
    simp only [List.map_cons, List.sum_cons, ih, List.mem_cons]
    obtain ⟨x, y⟩ := a
    simp only [Prod.mk.injEq]
    by_cases hx : x = t
    · subst hx
      by_cases hy : y = p <;> simp [h1, hy]
    · by_cases hy : y = p <;> simp [hx, hy]
theorem inn_cons {as : List (Nat × Nat)} {a : Nat × Nat} {ts : List Nat} {p : Nat} (nd : ts.Nodup) (hp : p ≠ 0) :
    inn (PM (a :: as)) ts p = inn (PM as) ts p + if a.1 ∈ ts ∧ a.2 = p then 1 else 0 := by
  have e : ∀ ts : List Nat, (ts.map fun t => PM (a :: as) t p).sum = (ts.map fun t => PM as t p).sum + (ts.map fun t => if a = (t, p) then 1 else 0).sum := by
    intro ts
    induction ts with
    | nil => rfl
    | cons t ts ih =>
      simp only [List.map_cons, List.sum_cons, ih]
      have : PM (a :: as) t p = PM as t p + if a = (t, p) then 1 else 0 := by
        unfold PM
        rw [if_neg hp, if_neg hp, List.count_cons]
        simp only [beq_iff_eq]
      rw [this]; omega
  unfold inn
  rw [e, ind_sum nd]
theorem fwd_last {ts : List Nat} {p : Nat} {a : Nat × Nat} : fwd (ts ++ [p]) a = (fwd ts a || (decide (a.1 ∈ ts) && decide (a.2 = p))) := by
  rw [fwd_app]
  have : fwd [p] a = false := by simp [fwd]
  rw [this]; simp
theorem count_last {ts : List Nat} {p : Nat} (nd : ts.Nodup) (hp : p ∉ ts) (h0 : p ≠ 0) : ∀ as : List (Nat × Nat),
    (as.filter (fwd (ts ++ [p]))).length = (as.filter (fwd ts)).length + inn (PM as) ts p
  | [] => by
    have : inn (PM []) ts p = 0 := by
      unfold inn
      have : (ts.map fun t => PM [] t p) = ts.map fun _ => 0 := List.map_congr_left fun t _ => by simp [PM]
      rw [this]
      clear this nd hp
      induction ts with
      | nil => rfl
      | cons t ts ih => simpa using ih
    simp [this]
  | a :: as => by
    have ih := count_last nd hp h0 as
    rw [inn_cons nd h0, List.filter_cons, List.filter_cons, fwd_last]
    by_cases h1 : a.1 ∈ ts ∧ a.2 = p
    · have e1 : fwd ts a = false := by
        cases e : fwd ts a with
        | false => rfl
        | true => exact absurd (h1.2 ▸ (fwd_mem e).2) hp
      simp only [e1, h1.1, h1.2, decide_true, Bool.and_self, Bool.or_true, if_true, List.length_cons, ih, and_self]
      simp only [Bool.false_eq_true, if_false]
      omega
    · have e2 : (decide (a.1 ∈ ts) && decide (a.2 = p)) = false := by
        by_cases q : a.1 ∈ ts
        · by_cases r : a.2 = p
          · exact absurd ⟨q, r⟩ h1
          · simp [r]
        · simp [q]
      rw [e2, if_neg h1, Bool.or_false]
      by_cases e1 : fwd ts a = true
      · simp only [e1, if_true, List.length_cons, ih]; omega
      · simp only [e1, if_false, ih, Bool.false_eq_true]; omega
theorem count_all {as : List (Nat × Nat)} : ∀ {o ts : List Nat}, (ts ++ o).Nodup → 0 ∈ ts →
    ((as.filter (fwd (ts ++ o))).length : Int) = (as.filter (fwd ts)).length + Vl (PM as) ts o + o.length
  | [], ts, _, _ => by simp [Vl]
  | p :: o, ts, nd, h0 => by
    have nd' : ((ts ++ [p]) ++ o).Nodup := by rw [List.append_assoc]; exact nd
    have ih := count_all (as := as) nd' (List.mem_append_left _ h0)
    obtain ⟨n1, _, dj⟩ := List.nodup_append.mp nd
    have hp : p ∉ ts := fun z => dj p z p List.mem_cons_self rfl
    have hp0 : p ≠ 0 := fun z => dj 0 h0 p List.mem_cons_self z.symm
    rw [List.append_assoc, List.singleton_append, count_last n1 hp hp0] at ih
    rw [ih]
    show _ = _ + ((inn (PM as) ts p : Int) - 1 + Vl (PM as) (ts ++ [p]) o) + ((o.length + 1 : Nat) : Int)
    omega
theorem part_iff {p : Pt} {o : List Nat} {e : Int} (hg0 : 0 ∉ p.goals) : IsPart p (0 :: o) e ↔
    (0 :: o).Nodup ∧ 0 < p.many ∧ (∀ v, v ∈ o → v < p.many) ∧ (∀ g, g ∈ p.goals → g ∈ o) ∧ (∃ h, h ∈ o ∧ 0 < PM p.arrows 0 h) ∧ Vd (PM p.arrows) (· ∈ p.goals) [0] o ∧ e = Vl (PM p.arrows) [0] o := by
  have cnt : ∀ nd : (0 :: o).Nodup, ((p.arrows.filter (fwd (0 :: o))).length : Int) = Vl (PM p.arrows) [0] o + o.length := fun nd => by
    have := count_all (as := p.arrows) (ts := [0]) (o := o) nd (by simp)
    have e0 : p.arrows.filter (fwd [0]) = [] := by
      rw [List.filter_eq_nil_iff]; intro a _; simp [fwd]
    rw [e0] at this
    simpa using this
  constructor
  · intro h
    have nd := h.nd
    have hv := vd_iff (as := p.arrows) (en := (· ∈ p.goals)) (o := o) (ts := [0]) nd (by simp)
    have hn : ∀ v, v ∈ o → v ≠ 0 := fun v hv z => (List.nodup_cons.mp nd).1 (z ▸ hv)
    refine ⟨nd, h.lt 0 (by simp), fun v hv => h.lt v (by simp [hv]), fun g hg => ?_, ?_, ?_, ?_⟩
    · rcases List.mem_cons.mp (h.gl g hg) with q | q
      · exact absurd (q ▸ hg) hg0
      · exact q
    · obtain ⟨w, m, f⟩ := h.out 0 (by simp) hg0
      have hw := (fwd_from (l := []) (p := 0) (r := o) nd).mp f
      exact ⟨w, hw, (pm_pos (hn w hw)).mpr m⟩
    · exact hv.mpr ⟨fun v hv' => h.inn v (by simp [hv']) (hn v hv'), fun v hv' => (Classical.em (v ∈ p.goals)).imp (fun q => q) fun q => h.out v (by simp [hv']) q⟩
    · have := cnt nd
      have := h.ex
      simp only [List.length_cons] at this
      omega
  · rintro ⟨nd, hm, hlt, hgl, ⟨w, hw, hp⟩, hvd, he⟩
    have hv := (vd_iff (as := p.arrows) (en := (· ∈ p.goals)) (o := o) (ts := [0]) nd (by simp)).mp hvd
    have hn : ∀ v, v ∈ o → v ≠ 0 := fun v hv z => (List.nodup_cons.mp nd).1 (z ▸ hv)
    refine ⟨nd, rfl, ?_, ?_, ?_, ?_, ?_⟩
    · intro v hv'
      rcases List.mem_cons.mp hv' with q | q
      · omega
      · exact hlt v q
    · intro g hg; exact List.mem_cons_of_mem _ (hgl g hg)
    · intro v hv' h0
      rcases List.mem_cons.mp hv' with q | q
      · exact absurd q h0
      · exact hv.1 v q
    · intro v hv' hg
      rcases List.mem_cons.mp hv' with q | q
      · subst q
        exact ⟨w, (pm_pos (hn w hw)).mp hp, (fwd_from (l := []) (p := 0) (r := o) nd).mpr hw⟩
      · exact (hv.2 v q).resolve_left hg
    · have := cnt nd
      rw [he]
      simp only [List.length_cons]
      omega
/-! ### numbers -/
theorem inn_map {M : Nat → Nat → Nat} {P : Nat → Nat} {ts : List Nat} {p : Nat} : inn M (ts.map P) (P p) = inn (fun a b => M (P a) (P b)) ts p := by
  unfold inn
  rw [List.map_map]
  rfl
theorem vd_map {M : Nat → Nat → Nat} {en : Nat → Prop} {P : Nat → Nat} : ∀ {o ts : List Nat}, Vd M en (ts.map P) (o.map P) ↔ Vd (fun a b => M (P a) (P b)) (fun a => en (P a)) ts o
  | [], _ => Iff.rfl
  | p :: o, ts => by
    have ih := vd_map (M := M) (en := en) (P := P) (o := o) (ts := ts ++ [p])
    rw [List.map_append] at ih
    show (0 < inn M (ts.map P) (P p) ∧ (en (P p) ∨ ∃ h, h ∈ o.map P ∧ 0 < M (P p) h) ∧ Vd M en (ts.map P ++ [P p]) (o.map P)) ↔
      (0 < inn _ ts p ∧ (en (P p) ∨ ∃ h, h ∈ o ∧ 0 < M (P p) (P h)) ∧ Vd _ _ (ts ++ [p]) o)
    rw [inn_map]
    have e : (∃ h, h ∈ o.map P ∧ 0 < M (P p) h) ↔ ∃ h, h ∈ o ∧ 0 < M (P p) (P h) := by
      constructor
      · rintro ⟨h, hh, q⟩
        obtain ⟨x, hx, rfl⟩ := List.mem_map.mp hh
        exact ⟨x, hx, q⟩
      · rintro ⟨x, hx, q⟩
        exact ⟨_, List.mem_map.mpr ⟨x, hx, rfl⟩, q⟩
    rw [e]
    exact and_congr Iff.rfl (and_congr Iff.rfl ih)
theorem vl_map {M : Nat → Nat → Nat} {P : Nat → Nat} : ∀ {o ts : List Nat}, Vl M (ts.map P) (o.map P) = Vl (fun a b => M (P a) (P b)) ts o
  | [], _ => rfl
  | p :: o, ts => by
    have ih := vl_map (M := M) (P := P) (o := o) (ts := ts ++ [p])
    rw [List.map_append] at ih
    show (inn M (ts.map P) (P p) : Int) - 1 + Vl M (ts.map P ++ [P p]) (o.map P) = (inn _ ts p : Int) - 1 + Vl _ (ts ++ [p]) o
    rw [inn_map, ← ih]
    rfl
/-! ### the best order of the places to come -/
def IsBest (M : Nat → Nat → Nat) (en : Nat → Prop) (ts S : List Nat) : Option Int → Prop
  | none => ∀ o, o.Perm S → ¬ Vd M en ts o
  | some e => (∃ o, o.Perm S ∧ Vd M en ts o ∧ Vl M ts o = e) ∧ ∀ o, o.Perm S → Vd M en ts o → Vl M ts o ≤ e
section
variable {M : Nat → Nat → Nat} {en : Nat → Prop} {ts S : List Nat}
theorem best_nil : IsBest M en ts [] (some 0) := ⟨⟨[], List.Perm.refl _, trivial, rfl⟩, fun o h _ => by
  have : o = [] := List.Perm.eq_nil h
  subst this
  exact Int.le_refl _⟩
theorem best_one {v v' : Option Int} (h : IsBest M en ts S v) (h' : IsBest M en ts S v') : v = v' := by
  cases v with
  | none =>
    cases v' with
    | none => rfl
    | some e => obtain ⟨⟨o, a, b, _⟩, _⟩ := h'; exact absurd b (h o a)
  | some d =>
    obtain ⟨⟨o, a, b, c⟩, u⟩ := h
    cases v' with
    | none => exact absurd b (h' o a)
    | some e =>
      obtain ⟨⟨o', a', b', c'⟩, u'⟩ := h'
      have h1 := u o' a' b'
      have h2 := u' o a b
      congr 1
      omega
theorem best_perm {us U : List Nat} {v : Option Int} (p : ts.Perm us) (q : S.Perm U) (h : IsBest M en ts S v) : IsBest M en us U v := by
  cases v with
  | none => exact fun o a d => h o (a.trans q.symm) (vd_perm p.symm d)
  | some e =>
    obtain ⟨⟨o, a, b, c⟩, u⟩ := h
    exact ⟨⟨o, a.trans q, vd_perm p b, by rw [← vl_perm p]; exact c⟩, fun o a d => by rw [← vl_perm p]; exact u o (a.trans q.symm) (vd_perm p.symm d)⟩
/-- what it gives to take q first -/
def Cv (M : Nat → Nat → Nat) (en : Nat → Prop) (ts S : List Nat) (q : Nat) (r : Option Int) : Prop :=
  (0 < inn M ts q ∧ (en q ∨ ∃ h, h ∈ S.erase q ∧ 0 < M q h) ∧ ∃ b, IsBest M en (ts ++ [q]) (S.erase q) b ∧ r = b.map fun x => (inn M ts q : Int) - 1 + x) ∨
  (¬ (0 < inn M ts q ∧ (en q ∨ ∃ h, h ∈ S.erase q ∧ 0 < M q h)) ∧ r = none)
/-- the greatest of those that were looked at, and one that gives it -/
structure Fd (M : Nat → Nat → Nat) (en : Nat → Prop) (ts S pre : List Nat) (f : Option Int) (pl : Option Nat) : Prop where
  up : ∀ q, q ∈ pre → ∃ r, Cv M en ts S q r ∧ ∀ e, r = some e → ∃ w, f = some w ∧ e ≤ w
  at_ : ∀ w, f = some w → ∃ q, pl = some q ∧ q ∈ pre ∧ Cv M en ts S q (some w)
theorem fd_nil : Fd M en ts S [] none none := ⟨(fun _ h => nomatch h), (fun _ h => nomatch h)⟩
theorem fd_keep {pre : List Nat} {f : Option Int} {pl : Option Nat} {q : Nat} (h : Fd M en ts S pre f pl) {r : Option Int} (c : Cv M en ts S q r) (hr : ∀ e, r = some e → ∃ w, f = some w ∧ e ≤ w) : Fd M en ts S (pre ++ [q]) f pl :=
  ⟨fun x hx => (List.mem_append.mp hx).elim (h.up x) (fun z => (show x = q by simpa using z) ▸ ⟨r, c, hr⟩), fun w hw => let ⟨x, a, b, d⟩ := h.at_ w hw; ⟨x, a, List.mem_append_left _ b, d⟩⟩
theorem fd_more {pre : List Nat} {f : Option Int} {pl : Option Nat} {q : Nat} {e : Int} (h : Fd M en ts S pre f pl) (c : Cv M en ts S q (some e)) (hf : ∀ w, f = some w → w < e) : Fd M en ts S (pre ++ [q]) (some e) (some q) := by
  refine ⟨fun x hx => ?_, fun w hw => ?_⟩
  · rcases List.mem_append.mp hx with z | z
    · obtain ⟨r, cr, hr⟩ := h.up x z
      refine ⟨r, cr, fun e' he' => ?_⟩
      obtain ⟨w, hw, le⟩ := hr e' he'
      exact ⟨e, rfl, by have := hf w hw; omega⟩
    · have : x = q := by simpa using z
      subst this
      exact ⟨some e, c, fun e' he' => ⟨e, rfl, by cases he'; exact Int.le_refl _⟩⟩
  · cases hw
    exact ⟨q, rfl, by simp, c⟩
theorem fd_best {f : Option Int} {pl : Option Nat} (hS : S ≠ []) (h : Fd M en ts S S f pl) : IsBest M en ts S f := by
  have split : ∀ o, o.Perm S → Vd M en ts o → ∃ q o' x, o = q :: o' ∧ q ∈ S ∧ o'.Perm (S.erase q) ∧ (IsBest M en (ts ++ [q]) (S.erase q) (some x)) ∧ Cv M en ts S q (some ((inn M ts q : Int) - 1 + x)) ∧ Vl M (ts ++ [q]) o' ≤ x := by
    intro o ho hv
    cases o with
    | nil => exact absurd (List.Perm.eq_nil ho.symm) hS
    | cons q o' =>
      obtain ⟨hq, ho'⟩ := List.cons_perm_iff_perm_erase.mp ho
      obtain ⟨v1, v2, v3⟩ := hv
      obtain ⟨r, c, hr⟩ := h.up q hq
      have cond : 0 < inn M ts q ∧ (en q ∨ ∃ h, h ∈ S.erase q ∧ 0 < M q h) := ⟨v1, v2.imp (fun z => z) fun ⟨w, hw, z⟩ => ⟨w, ho'.mem_iff.mp hw, z⟩⟩
      rcases c with ⟨_, _, b, hb, rfl⟩ | ⟨nc, _⟩
      · cases b with
        | none => exact absurd v3 (hb o' ho')
        | some x => exact ⟨q, o', x, rfl, hq, ho', hb, .inl ⟨cond.1, cond.2, some x, hb, rfl⟩, hb.2 o' ho' v3⟩
      · exact absurd cond nc
  cases f with
  | none =>
    intro o ho hv
    obtain ⟨q, o', x, _, hq, _, hb, c, _⟩ := split o ho hv
    obtain ⟨r, c', hr⟩ := h.up q hq
    rcases c' with ⟨_, _, b, hb', rfl⟩ | ⟨nc, _⟩
    · have := best_one hb hb'
      subst this
      obtain ⟨w, hw, _⟩ := hr _ rfl
      cases hw
    · rcases c with ⟨a, b, _⟩ | ⟨_, z⟩
      · exact nc ⟨a, b⟩
      · cases z
  | some w =>
    refine ⟨?_, fun o ho hv => ?_⟩
    · obtain ⟨q, _, hq, c⟩ := h.at_ w rfl
      rcases c with ⟨c1, c2, b, hb, e⟩ | ⟨_, z⟩
      · cases b with
        | none => cases e
        | some x =>
          obtain ⟨⟨o', ho', hv', hl⟩, _⟩ := hb
          refine ⟨q :: o', List.cons_perm_iff_perm_erase.mpr ⟨hq, ho'⟩, ⟨c1, c2.imp (fun z => z) fun ⟨y, hy, z⟩ => ⟨y, ho'.mem_iff.mpr hy, z⟩, hv'⟩, ?_⟩
          show (inn M ts q : Int) - 1 + Vl M (ts ++ [q]) o' = w
          rw [hl]
          exact (Option.some.inj e).symm
      · cases z
    · obtain ⟨q, o', x, rfl, hq, ho', hb, c, le⟩ := split o ho hv
      obtain ⟨r, c', hr⟩ := h.up q hq
      have er : r = some ((inn M ts q : Int) - 1 + x) := by
        rcases c' with ⟨_, _, b, hb', e⟩ | ⟨nc, _⟩
        · have := best_one hb hb'
          subst this
          exact e
        · rcases c with ⟨a, b, _⟩ | ⟨_, z⟩
          · exact absurd ⟨a, b⟩ nc
          · cases z
      obtain ⟨w', hw', le'⟩ := hr _ er
      cases hw'
      show (inn M ts q : Int) - 1 + Vl M (ts ++ [q]) o' ≤ w
      omega
end
end K33
/-! K33B: the text by places, what the top has written, heaps -/
namespace K33
open PySem PySem.Spec PyProof.Rows L2
def top (i : Nat) : Stmt := PySem.Challenge.pw_untriedways_k33_whole_lots_of_greatest_p.main.body.getD i (.Pass ⟨0, 0, 0, 0⟩)
/-- a def of the module, as it stands -/
structure DefR (K : PySem.W.Frag) (mg : Str → Option Value) (x : Str) (st : Stmt) where
  f : Addr
  fd : FuncData
  F : Fun K x x st f fd
  g : mg x = some (.ref f)
/-- a def of a class -/
structure MetR (K : PySem.W.Frag) (x q : Str) (st : Stmt) where
  f : Addr
  fd : FuncData
  F : Fun K x q st f fd
structure KlsR (K : PySem.W.Frag) (mg : Str → Option Value) (x : Str) (C : Addr) : Prop where
  cl : Cls K C
  g : mg x = some (.ref C)
abbrev s_is_integer : Stmt := (top 6)
abbrev s_is_between : Stmt := (top 7)
abbrev s_is_index : Stmt := (top 8)
abbrev s_is_lot : Stmt := (top 9)
abbrev s_mask_of : Stmt := (top 10)
abbrev s_lot_of : Stmt := (top 11)
abbrev s_are_arrows : Stmt := (top 15)
abbrev s_are_goals : Stmt := (top 16)
abbrev s_led_to : Stmt := (top 17)
abbrev s_led_from : Stmt := (top 18)
abbrev s_Map_init : Stmt := (inClass (top 19) 0)
abbrev s_Map_keep : Stmt := (inClass (top 19) 1)
abbrev s_Map_parts : Stmt := (inClass (top 19) 5)
abbrev s_Map_eq : Stmt := (inClass (top 19) 6)
abbrev s_RawMap_init : Stmt := (inClass (top 20) 0)
abbrev s_goals_mask : Stmt := (top 21)
abbrev s_places_mask : Stmt := (top 22)
abbrev s_check_one_goal : Stmt := (top 23)
abbrev s_counted_places : Stmt := (top 26)
abbrev s_check_counted : Stmt := (top 27)
abbrev s_Search_init : Stmt := (inClass (top 28) 0)
abbrev s_Search_into : Stmt := (inClass (top 28) 1)
abbrev s_Search_goes_on : Stmt := (inClass (top 28) 2)
abbrev s_Search_best : Stmt := (inClass (top 28) 3)
abbrev s_Search_best_of : Stmt := (inClass (top 28) 4)
abbrev s_Search_greatest : Stmt := (inClass (top 28) 5)
abbrev s_Search_lots : Stmt := (inClass (top 28) 6)
abbrev s_Search_order_of : Stmt := (inClass (top 28) 7)
abbrev s_forward_arrows : Stmt := (top 29)
abbrev s_greatest_of : Stmt := (top 30)
abbrev s_worst : Stmt := (top 31)
abbrev s_greatest_lots : Stmt := (top 32)
abbrev s_turned : Stmt := (top 33)
abbrev s_law_hand : Stmt := (top 35)
abbrev s_law_draw : Stmt := (top 36)
abbrev s_law_shuffled : Stmt := (top 37)
abbrev s_law_parts : Stmt := (top 38)
abbrev s_law_tail : Stmt := (top 39)
abbrev s_law_renamed : Stmt := (top 40)
abbrev s_law_orders : Stmt := (top 41)
abbrev s_law_excess_of : Stmt := (top 42)
abbrev s_law_lots : Stmt := (top 43)
abbrev s_law_turned : Stmt := (top 44)
abbrev s_law_is_turned_twice : Stmt := (top 45)
abbrev s_law : Stmt := (top 46)
theorem sc_is_integer : FnScope ["thing"] ["thing"] (defScope s_is_integer) := ⟨rfl, rfl, rfl, by decide +kernel, rfl, by decide +kernel, by decide +kernel⟩
theorem sc_is_between : FnScope ["thing", "least", "most"] ["thing", "least", "most"] (defScope s_is_between) := ⟨rfl, rfl, rfl, by decide +kernel, rfl, by decide +kernel, by decide +kernel⟩
theorem sc_is_index : FnScope ["thing", "many"] ["thing", "many"] (defScope s_is_index) := ⟨rfl, rfl, rfl, by decide +kernel, rfl, by decide +kernel, by decide +kernel⟩
theorem sc_is_lot : FnScope ["thing", "many", "last", "item"] ["thing", "many"] (defScope s_is_lot) := ⟨rfl, rfl, rfl, by decide +kernel, rfl, by decide +kernel, by decide +kernel⟩
theorem sc_mask_of : FnScope ["lot", "mask", "item"] ["lot"] (defScope s_mask_of) := ⟨rfl, rfl, rfl, by decide +kernel, rfl, by decide +kernel, by decide +kernel⟩
theorem sc_lot_of : FnScope ["mask", "found", "item"] ["mask"] (defScope s_lot_of) := ⟨rfl, rfl, rfl, by decide +kernel, rfl, by decide +kernel, by decide +kernel⟩
theorem sc_are_arrows : FnScope ["many", "thing", "pair", "place"] ["many", "thing"] (defScope s_are_arrows) := ⟨rfl, rfl, rfl, by decide +kernel, rfl, by decide +kernel, by decide +kernel⟩
theorem sc_are_goals : FnScope ["many", "arrows", "thing", "reached"] ["many", "arrows", "thing"] (defScope s_are_goals) := ⟨rfl, rfl, rfl, by decide +kernel, rfl, by decide +kernel, by decide +kernel⟩
theorem sc_led_to : FnScope ["arrows", "begin", "let", "barred", "heads", "arrow", "tail", "head", "reached", "waiting"] ["arrows", "begin", "let", "barred"] (defScope s_led_to) := ⟨rfl, rfl, rfl, by decide +kernel, rfl, by decide +kernel, by decide +kernel⟩
theorem sc_led_from : FnScope ["arrows", "ends", "let", "barred", "tail", "head"] ["arrows", "ends", "let", "barred"] (defScope s_led_from) := ⟨rfl, rfl, rfl, by decide +kernel, rfl, by decide +kernel, by decide +kernel⟩
theorem sc_Map_init : FnScope ["self", "many", "arrows", "goals"] ["self", "many", "arrows", "goals"] (defScope s_Map_init) := ⟨rfl, rfl, rfl, by decide +kernel, rfl, by decide +kernel, by decide +kernel⟩
theorem sc_Map_keep : FnScope ["self", "many", "arrows", "goals"] ["self", "many", "arrows", "goals"] (defScope s_Map_keep) := ⟨rfl, rfl, rfl, by decide +kernel, rfl, by decide +kernel, by decide +kernel⟩
theorem sc_Map_parts : FnScope ["self"] ["self"] (defScope s_Map_parts) := ⟨rfl, rfl, rfl, by decide +kernel, rfl, by decide +kernel, by decide +kernel⟩
theorem sc_Map_eq : FnScope ["self", "other"] ["self", "other"] (defScope s_Map_eq) := ⟨rfl, rfl, rfl, by decide +kernel, rfl, by decide +kernel, by decide +kernel⟩
theorem sc_RawMap_init : FnScope ["self", "many", "arrows", "goals"] ["self", "many", "arrows", "goals"] (defScope s_RawMap_init) := ⟨rfl, rfl, rfl, by decide +kernel, rfl, by decide +kernel, by decide +kernel⟩
theorem sc_goals_mask : FnScope ["chart"] ["chart"] (defScope s_goals_mask) := ⟨rfl, rfl, rfl, by decide +kernel, rfl, by decide +kernel, by decide +kernel⟩
theorem sc_places_mask : FnScope ["chart"] ["chart"] (defScope s_places_mask) := ⟨rfl, rfl, rfl, by decide +kernel, rfl, by decide +kernel, by decide +kernel⟩
theorem sc_check_one_goal : FnScope ["chart"] ["chart"] (defScope s_check_one_goal) := ⟨rfl, rfl, rfl, by decide +kernel, rfl, by decide +kernel, by decide +kernel⟩
theorem sc_counted_places : FnScope ["chart", "every", "ahead", "behind"] ["chart"] (defScope s_counted_places) := ⟨rfl, rfl, rfl, by decide +kernel, rfl, by decide +kernel, by decide +kernel⟩
theorem sc_check_counted : FnScope ["chart", "places"] ["chart"] (defScope s_check_counted) := ⟨rfl, rfl, rfl, by decide +kernel, rfl, by decide +kernel, by decide +kernel⟩
theorem sc_Search_init : FnScope ["self", "chart", "places", "number", "tail", "head", "index", "place", "goal"] ["self", "chart", "places"] (defScope s_Search_init) := ⟨rfl, rfl, rfl, by decide +kernel, rfl, by decide +kernel, by decide +kernel⟩
theorem sc_Search_into : FnScope ["self", "taken", "place", "tail"] ["self", "taken", "place"] (defScope s_Search_into) := ⟨rfl, rfl, rfl, by decide +kernel, rfl, by decide +kernel, by decide +kernel⟩
theorem sc_Search_goes_on : FnScope ["self", "place", "later", "head"] ["self", "place", "later"] (defScope s_Search_goes_on) := ⟨rfl, rfl, rfl, by decide +kernel, rfl, by decide +kernel, by decide +kernel⟩
theorem sc_Search_best : FnScope ["self", "taken", "later", "key"] ["self", "taken", "later"] (defScope s_Search_best) := ⟨rfl, rfl, rfl, by decide +kernel, rfl, by decide +kernel, by decide +kernel⟩
theorem sc_Search_best_of : FnScope ["self", "taken", "later", "found", "place", "rest", "arrows", "behind"] ["self", "taken", "later"] (defScope s_Search_best_of) := ⟨rfl, rfl, rfl, by decide +kernel, rfl, by decide +kernel, by decide +kernel⟩
theorem sc_Search_greatest : FnScope ["self", "found", "later", "excess"] ["self"] (defScope s_Search_greatest) := ⟨rfl, rfl, rfl, by decide +kernel, rfl, by decide +kernel, by decide +kernel⟩
theorem sc_Search_lots : FnScope ["self", "excess", "found", "later"] ["self", "excess"] (defScope s_Search_lots) := ⟨rfl, rfl, rfl, by decide +kernel, rfl, by decide +kernel, by decide +kernel⟩
theorem sc_Search_order_of : FnScope ["self", "later", "found", "taken", "place"] ["self", "later"] (defScope s_Search_order_of) := ⟨rfl, rfl, rfl, by decide +kernel, rfl, by decide +kernel, by decide +kernel⟩
theorem sc_forward_arrows : FnScope ["chart", "order", "at", "found", "arrow", "tail", "head", "index", "place"] ["chart", "order"] (defScope s_forward_arrows) := ⟨rfl, rfl, rfl, by decide +kernel, rfl, by decide +kernel, by decide +kernel⟩
theorem sc_greatest_of : FnScope ["chart", "search", "excess", "order", "places", "number"] ["chart"] (defScope s_greatest_of) := ⟨rfl, rfl, rfl, by decide +kernel, rfl, by decide +kernel, by decide +kernel⟩
theorem sc_worst : FnScope ["chart"] ["chart"] (defScope s_worst) := ⟨rfl, rfl, rfl, by decide +kernel, rfl, by decide +kernel, by decide +kernel⟩
theorem sc_greatest_lots : FnScope ["chart", "search", "found", "later", "number"] ["chart"] (defScope s_greatest_lots) := ⟨rfl, rfl, rfl, by decide +kernel, rfl, by decide +kernel, by decide +kernel⟩
theorem sc_turned : FnScope ["chart", "goal", "number", "arrows", "tail", "head"] ["chart"] (defScope s_turned) := ⟨rfl, rfl, rfl, by decide +kernel, rfl, by decide +kernel, by decide +kernel⟩
theorem sc_law_hand : FnScope ["_law_script", "_law_cells", "_law_cell"] ["_law_script"] (defScope s_law_hand) := ⟨rfl, rfl, rfl, by decide +kernel, rfl, by decide +kernel, by decide +kernel⟩
theorem sc_law_draw : FnScope ["_law_hand_here", "_law_many", "_law_cell", "_law_digit", "_law_number"] ["_law_hand_here", "_law_many"] (defScope s_law_draw) := ⟨rfl, rfl, rfl, by decide +kernel, rfl, by decide +kernel, by decide +kernel⟩
theorem sc_law_shuffled : FnScope ["_law_hand_here", "_law_things", "_law_left", "_law_found"] ["_law_hand_here", "_law_things"] (defScope s_law_shuffled) := ⟨rfl, rfl, rfl, by decide +kernel, rfl, by decide +kernel, by decide +kernel⟩
theorem sc_law_parts : FnScope ["_law_hand_here", "_law_places", "_law_arrows", "_law_many", "_law_goals", "_law_pairs", "_law_place", "_law_turn", "_law_way", "_law_one", "_law_other"] ["_law_hand_here", "_law_places", "_law_arrows"] (defScope s_law_parts) := ⟨rfl, rfl, rfl, by decide +kernel, rfl, by decide +kernel, by decide +kernel⟩
theorem sc_law_tail : FnScope ["_law_hand_here", "_law_pairs", "_law_goals", "_law_place", "_law_there", "_law_tail_here", "_law_head", "_law_one"] ["_law_hand_here", "_law_pairs", "_law_goals", "_law_place"] (defScope s_law_tail) := ⟨rfl, rfl, rfl, by decide +kernel, rfl, by decide +kernel, by decide +kernel⟩
theorem sc_law_renamed : FnScope ["_law_hand_here", "_law_many", "_law_pairs", "_law_goals", "_law_number", "_law_arrows", "_law_one", "_law_other", "_law_goal"] ["_law_hand_here", "_law_many", "_law_pairs", "_law_goals"] (defScope s_law_renamed) := ⟨rfl, rfl, rfl, by decide +kernel, rfl, by decide +kernel, by decide +kernel⟩
theorem sc_law_orders : FnScope ["_law_things", "_law_found", "_law_last", "_law_turn", "_law_longer", "_law_row", "_law_one"] ["_law_things"] (defScope s_law_orders) := ⟨rfl, rfl, rfl, by decide +kernel, rfl, by decide +kernel, by decide +kernel⟩
theorem sc_law_excess_of : FnScope ["_law_parts_here", "_law_order", "_law_many", "_law_arrows", "_law_goals", "_law_at", "_law_k", "_law_lead", "_law_heads", "_law_tails", "_law_place", "_law_pair"] ["_law_parts_here", "_law_order"] (defScope s_law_excess_of) := ⟨rfl, rfl, rfl, by decide +kernel, rfl, by decide +kernel, by decide +kernel⟩
theorem sc_law_lots : FnScope ["_law_parts_here", "_law_found", "_law_row", "_law_excess", "_law_lot", "_law_most", "_law_goal"] ["_law_parts_here"] (defScope s_law_lots) := ⟨rfl, rfl, rfl, by decide +kernel, rfl, by decide +kernel, by decide +kernel⟩
theorem sc_law_turned : FnScope ["_law_chart", "_law_told"] ["_law_chart"] (defScope s_law_turned) := ⟨rfl, rfl, rfl, by decide +kernel, rfl, by decide +kernel, by decide +kernel⟩
theorem sc_law_is_turned_twice : FnScope ["_law_hand_here", "_law_many", "_law_arrows", "_law_goals", "_law_chart", "_law_number", "_law_found", "_law_tail_here", "_law_head"] ["_law_hand_here"] (defScope s_law_is_turned_twice) := ⟨rfl, rfl, rfl, by decide +kernel, rfl, by decide +kernel, by decide +kernel⟩
theorem sc_law : FnScope ["_law_script", "_law_hand_here", "_law_parts_here", "_law_chart", "_law_most", "_law_lots_here", "_law_found", "_law_goal", "_law_number", "_law_due", "_law_tail_here", "_law_head", "_law_lot", "_law_place"] ["_law_script"] (defScope s_law) := ⟨rfl, rfl, rfl, by decide +kernel, rfl, by decide +kernel, by decide +kernel⟩
theorem b_is_integer {K : PySem.W.Frag} {f : Addr} {fd : FuncData} (F : Fun K "is_integer" "is_integer" s_is_integer f fd) : Binds K fd ["thing"] [] := F.binds (ps := ["thing"]) fun _ _ _ _ _ _ us hl => match us, hl with | [_], _ => rfl
theorem b_is_between {K : PySem.W.Frag} {f : Addr} {fd : FuncData} (F : Fun K "is_between" "is_between" s_is_between f fd) : Binds K fd ["thing", "least", "most"] [] := F.binds (ps := ["thing", "least", "most"]) fun _ _ _ _ _ _ us hl => match us, hl with | [_, _, _], _ => rfl
theorem b_is_index {K : PySem.W.Frag} {f : Addr} {fd : FuncData} (F : Fun K "is_index" "is_index" s_is_index f fd) : Binds K fd ["thing", "many"] [] := F.binds (ps := ["thing", "many"]) fun _ _ _ _ _ _ us hl => match us, hl with | [_, _], _ => rfl
theorem b_is_lot {K : PySem.W.Frag} {f : Addr} {fd : FuncData} (F : Fun K "is_lot" "is_lot" s_is_lot f fd) : Binds K fd ["thing", "many"] [] := F.binds (ps := ["thing", "many"]) fun _ _ _ _ _ _ us hl => match us, hl with | [_, _], _ => rfl
theorem b_mask_of {K : PySem.W.Frag} {f : Addr} {fd : FuncData} (F : Fun K "mask_of" "mask_of" s_mask_of f fd) : Binds K fd ["lot"] [] := F.binds (ps := ["lot"]) fun _ _ _ _ _ _ us hl => match us, hl with | [_], _ => rfl
theorem b_lot_of {K : PySem.W.Frag} {f : Addr} {fd : FuncData} (F : Fun K "lot_of" "lot_of" s_lot_of f fd) : Binds K fd ["mask"] [] := F.binds (ps := ["mask"]) fun _ _ _ _ _ _ us hl => match us, hl with | [_], _ => rfl
theorem b_are_arrows {K : PySem.W.Frag} {f : Addr} {fd : FuncData} (F : Fun K "are_arrows" "are_arrows" s_are_arrows f fd) : Binds K fd ["many", "thing"] [] := F.binds (ps := ["many", "thing"]) fun _ _ _ _ _ _ us hl => match us, hl with | [_, _], _ => rfl
theorem b_are_goals {K : PySem.W.Frag} {f : Addr} {fd : FuncData} (F : Fun K "are_goals" "are_goals" s_are_goals f fd) : Binds K fd ["many", "arrows", "thing"] [] := F.binds (ps := ["many", "arrows", "thing"]) fun _ _ _ _ _ _ us hl => match us, hl with | [_, _, _], _ => rfl
theorem b_led_to {K : PySem.W.Frag} {f : Addr} {fd : FuncData} (F : Fun K "led_to" "led_to" s_led_to f fd) : Binds K fd ["arrows", "begin", "let", "barred"] [] := F.binds (ps := ["arrows", "begin", "let", "barred"]) fun _ _ _ _ _ _ us hl => match us, hl with | [_, _, _, _], _ => rfl
theorem b_led_from {K : PySem.W.Frag} {f : Addr} {fd : FuncData} (F : Fun K "led_from" "led_from" s_led_from f fd) : Binds K fd ["arrows", "ends", "let", "barred"] [] := F.binds (ps := ["arrows", "ends", "let", "barred"]) fun _ _ _ _ _ _ us hl => match us, hl with | [_, _, _, _], _ => rfl
theorem b_Map_init {K : PySem.W.Frag} {f : Addr} {fd : FuncData} (F : Fun K "__init__" "Map.__init__" s_Map_init f fd) : Binds K fd ["self", "many", "arrows", "goals"] [] := F.binds (ps := ["self", "many", "arrows", "goals"]) fun _ _ _ _ _ _ us hl => match us, hl with | [_, _, _, _], _ => rfl
theorem b_Map_keep {K : PySem.W.Frag} {f : Addr} {fd : FuncData} (F : Fun K "keep" "Map.keep" s_Map_keep f fd) : Binds K fd ["self", "many", "arrows", "goals"] [] := F.binds (ps := ["self", "many", "arrows", "goals"]) fun _ _ _ _ _ _ us hl => match us, hl with | [_, _, _, _], _ => rfl
theorem b_Map_parts {K : PySem.W.Frag} {f : Addr} {fd : FuncData} (F : Fun K "parts" "Map.parts" s_Map_parts f fd) : Binds K fd ["self"] [] := F.binds (ps := ["self"]) fun _ _ _ _ _ _ us hl => match us, hl with | [_], _ => rfl
theorem b_Map_eq {K : PySem.W.Frag} {f : Addr} {fd : FuncData} (F : Fun K "__eq__" "Map.__eq__" s_Map_eq f fd) : Binds K fd ["self", "other"] [] := F.binds (ps := ["self", "other"]) fun _ _ _ _ _ _ us hl => match us, hl with | [_, _], _ => rfl
theorem b_RawMap_init {K : PySem.W.Frag} {f : Addr} {fd : FuncData} (F : Fun K "__init__" "RawMap.__init__" s_RawMap_init f fd) : Binds K fd ["self", "many", "arrows", "goals"] [] := F.binds (ps := ["self", "many", "arrows", "goals"]) fun _ _ _ _ _ _ us hl => match us, hl with | [_, _, _, _], _ => rfl
theorem b_goals_mask {K : PySem.W.Frag} {f : Addr} {fd : FuncData} (F : Fun K "goals_mask" "goals_mask" s_goals_mask f fd) : Binds K fd ["chart"] [] := F.binds (ps := ["chart"]) fun _ _ _ _ _ _ us hl => match us, hl with | [_], _ => rfl
theorem b_places_mask {K : PySem.W.Frag} {f : Addr} {fd : FuncData} (F : Fun K "places_mask" "places_mask" s_places_mask f fd) : Binds K fd ["chart"] [] := F.binds (ps := ["chart"]) fun _ _ _ _ _ _ us hl => match us, hl with | [_], _ => rfl
theorem b_check_one_goal {K : PySem.W.Frag} {f : Addr} {fd : FuncData} (F : Fun K "check_one_goal" "check_one_goal" s_check_one_goal f fd) : Binds K fd ["chart"] [] := F.binds (ps := ["chart"]) fun _ _ _ _ _ _ us hl => match us, hl with | [_], _ => rfl
theorem b_counted_places {K : PySem.W.Frag} {f : Addr} {fd : FuncData} (F : Fun K "counted_places" "counted_places" s_counted_places f fd) : Binds K fd ["chart"] [] := F.binds (ps := ["chart"]) fun _ _ _ _ _ _ us hl => match us, hl with | [_], _ => rfl
theorem b_check_counted {K : PySem.W.Frag} {f : Addr} {fd : FuncData} (F : Fun K "check_counted" "check_counted" s_check_counted f fd) : Binds K fd ["chart"] [] := F.binds (ps := ["chart"]) fun _ _ _ _ _ _ us hl => match us, hl with | [_], _ => rfl
theorem b_Search_init {K : PySem.W.Frag} {f : Addr} {fd : FuncData} (F : Fun K "__init__" "Search.__init__" s_Search_init f fd) : Binds K fd ["self", "chart", "places"] [] := F.binds (ps := ["self", "chart", "places"]) fun _ _ _ _ _ _ us hl => match us, hl with | [_, _, _], _ => rfl
theorem b_Search_into {K : PySem.W.Frag} {f : Addr} {fd : FuncData} (F : Fun K "into" "Search.into" s_Search_into f fd) : Binds K fd ["self", "taken", "place"] [] := F.binds (ps := ["self", "taken", "place"]) fun _ _ _ _ _ _ us hl => match us, hl with | [_, _, _], _ => rfl
theorem b_Search_goes_on {K : PySem.W.Frag} {f : Addr} {fd : FuncData} (F : Fun K "goes_on" "Search.goes_on" s_Search_goes_on f fd) : Binds K fd ["self", "place", "later"] [] := F.binds (ps := ["self", "place", "later"]) fun _ _ _ _ _ _ us hl => match us, hl with | [_, _, _], _ => rfl
theorem b_Search_best {K : PySem.W.Frag} {f : Addr} {fd : FuncData} (F : Fun K "best" "Search.best" s_Search_best f fd) : Binds K fd ["self", "taken", "later"] [] := F.binds (ps := ["self", "taken", "later"]) fun _ _ _ _ _ _ us hl => match us, hl with | [_, _, _], _ => rfl
theorem b_Search_best_of {K : PySem.W.Frag} {f : Addr} {fd : FuncData} (F : Fun K "best_of" "Search.best_of" s_Search_best_of f fd) : Binds K fd ["self", "taken", "later"] [] := F.binds (ps := ["self", "taken", "later"]) fun _ _ _ _ _ _ us hl => match us, hl with | [_, _, _], _ => rfl
theorem b_Search_greatest {K : PySem.W.Frag} {f : Addr} {fd : FuncData} (F : Fun K "greatest" "Search.greatest" s_Search_greatest f fd) : Binds K fd ["self"] [] := F.binds (ps := ["self"]) fun _ _ _ _ _ _ us hl => match us, hl with | [_], _ => rfl
theorem b_Search_lots {K : PySem.W.Frag} {f : Addr} {fd : FuncData} (F : Fun K "lots" "Search.lots" s_Search_lots f fd) : Binds K fd ["self", "excess"] [] := F.binds (ps := ["self", "excess"]) fun _ _ _ _ _ _ us hl => match us, hl with | [_, _], _ => rfl
theorem b_Search_order_of {K : PySem.W.Frag} {f : Addr} {fd : FuncData} (F : Fun K "order_of" "Search.order_of" s_Search_order_of f fd) : Binds K fd ["self", "later"] [] := F.binds (ps := ["self", "later"]) fun _ _ _ _ _ _ us hl => match us, hl with | [_, _], _ => rfl
theorem b_forward_arrows {K : PySem.W.Frag} {f : Addr} {fd : FuncData} (F : Fun K "forward_arrows" "forward_arrows" s_forward_arrows f fd) : Binds K fd ["chart", "order"] [] := F.binds (ps := ["chart", "order"]) fun _ _ _ _ _ _ us hl => match us, hl with | [_, _], _ => rfl
theorem b_greatest_of {K : PySem.W.Frag} {f : Addr} {fd : FuncData} (F : Fun K "greatest_of" "greatest_of" s_greatest_of f fd) : Binds K fd ["chart"] [] := F.binds (ps := ["chart"]) fun _ _ _ _ _ _ us hl => match us, hl with | [_], _ => rfl
theorem b_worst {K : PySem.W.Frag} {f : Addr} {fd : FuncData} (F : Fun K "worst" "worst" s_worst f fd) : Binds K fd ["chart"] [] := F.binds (ps := ["chart"]) fun _ _ _ _ _ _ us hl => match us, hl with | [_], _ => rfl
theorem b_greatest_lots {K : PySem.W.Frag} {f : Addr} {fd : FuncData} (F : Fun K "greatest_lots" "greatest_lots" s_greatest_lots f fd) : Binds K fd ["chart"] [] := F.binds (ps := ["chart"]) fun _ _ _ _ _ _ us hl => match us, hl with | [_], _ => rfl
theorem b_turned {K : PySem.W.Frag} {f : Addr} {fd : FuncData} (F : Fun K "turned" "turned" s_turned f fd) : Binds K fd ["chart"] [] := F.binds (ps := ["chart"]) fun _ _ _ _ _ _ us hl => match us, hl with | [_], _ => rfl
theorem b_law_hand {K : PySem.W.Frag} {f : Addr} {fd : FuncData} (F : Fun K "_law_hand" "_law_hand" s_law_hand f fd) : Binds K fd ["_law_script"] [] := F.binds (ps := ["_law_script"]) fun _ _ _ _ _ _ us hl => match us, hl with | [_], _ => rfl
theorem b_law_draw {K : PySem.W.Frag} {f : Addr} {fd : FuncData} (F : Fun K "_law_draw" "_law_draw" s_law_draw f fd) : Binds K fd ["_law_hand_here", "_law_many"] [] := F.binds (ps := ["_law_hand_here", "_law_many"]) fun _ _ _ _ _ _ us hl => match us, hl with | [_, _], _ => rfl
theorem b_law_shuffled {K : PySem.W.Frag} {f : Addr} {fd : FuncData} (F : Fun K "_law_shuffled" "_law_shuffled" s_law_shuffled f fd) : Binds K fd ["_law_hand_here", "_law_things"] [] := F.binds (ps := ["_law_hand_here", "_law_things"]) fun _ _ _ _ _ _ us hl => match us, hl with | [_, _], _ => rfl
theorem b_law_parts {K : PySem.W.Frag} {f : Addr} {fd : FuncData} (F : Fun K "_law_parts" "_law_parts" s_law_parts f fd) : Binds K fd ["_law_hand_here", "_law_places", "_law_arrows"] [] := F.binds (ps := ["_law_hand_here", "_law_places", "_law_arrows"]) fun _ _ _ _ _ _ us hl => match us, hl with | [_, _, _], _ => rfl
theorem b_law_tail {K : PySem.W.Frag} {f : Addr} {fd : FuncData} (F : Fun K "_law_tail" "_law_tail" s_law_tail f fd) : Binds K fd ["_law_hand_here", "_law_pairs", "_law_goals", "_law_place"] [] := F.binds (ps := ["_law_hand_here", "_law_pairs", "_law_goals", "_law_place"]) fun _ _ _ _ _ _ us hl => match us, hl with | [_, _, _, _], _ => rfl
theorem b_law_renamed {K : PySem.W.Frag} {f : Addr} {fd : FuncData} (F : Fun K "_law_renamed" "_law_renamed" s_law_renamed f fd) : Binds K fd ["_law_hand_here", "_law_many", "_law_pairs", "_law_goals"] [] := F.binds (ps := ["_law_hand_here", "_law_many", "_law_pairs", "_law_goals"]) fun _ _ _ _ _ _ us hl => match us, hl with | [_, _, _, _], _ => rfl
theorem b_law_orders {K : PySem.W.Frag} {f : Addr} {fd : FuncData} (F : Fun K "_law_orders" "_law_orders" s_law_orders f fd) : Binds K fd ["_law_things"] [] := F.binds (ps := ["_law_things"]) fun _ _ _ _ _ _ us hl => match us, hl with | [_], _ => rfl
theorem b_law_excess_of {K : PySem.W.Frag} {f : Addr} {fd : FuncData} (F : Fun K "_law_excess_of" "_law_excess_of" s_law_excess_of f fd) : Binds K fd ["_law_parts_here", "_law_order"] [] := F.binds (ps := ["_law_parts_here", "_law_order"]) fun _ _ _ _ _ _ us hl => match us, hl with | [_, _], _ => rfl
theorem b_law_lots {K : PySem.W.Frag} {f : Addr} {fd : FuncData} (F : Fun K "_law_lots" "_law_lots" s_law_lots f fd) : Binds K fd ["_law_parts_here"] [] := F.binds (ps := ["_law_parts_here"]) fun _ _ _ _ _ _ us hl => match us, hl with | [_], _ => rfl
theorem b_law_turned {K : PySem.W.Frag} {f : Addr} {fd : FuncData} (F : Fun K "_law_turned" "_law_turned" s_law_turned f fd) : Binds K fd ["_law_chart"] [] := F.binds (ps := ["_law_chart"]) fun _ _ _ _ _ _ us hl => match us, hl with | [_], _ => rfl
theorem b_law_is_turned_twice {K : PySem.W.Frag} {f : Addr} {fd : FuncData} (F : Fun K "_law_is_turned_twice" "_law_is_turned_twice" s_law_is_turned_twice f fd) : Binds K fd ["_law_hand_here"] [] := F.binds (ps := ["_law_hand_here"]) fun _ _ _ _ _ _ us hl => match us, hl with | [_], _ => rfl
theorem b_law {K : PySem.W.Frag} {f : Addr} {fd : FuncData} (F : Fun K "law" "law" s_law f fd) : Binds K fd ["_law_script"] [] := F.binds (ps := ["_law_script"]) fun _ _ _ _ _ _ us hl => match us, hl with | [_], _ => rfl
structure Tx (K : PySem.W.Frag) (mg : Str → Option Value) where
  tok1 : Tok
  tok2 : Tok
  tok3 : Tok
  d_is_integer : DefR K mg "is_integer" s_is_integer
  d_is_between : DefR K mg "is_between" s_is_between
  d_is_index : DefR K mg "is_index" s_is_index
  d_is_lot : DefR K mg "is_lot" s_is_lot
  d_mask_of : DefR K mg "mask_of" s_mask_of
  d_lot_of : DefR K mg "lot_of" s_lot_of
  d_are_arrows : DefR K mg "are_arrows" s_are_arrows
  d_are_goals : DefR K mg "are_goals" s_are_goals
  d_led_to : DefR K mg "led_to" s_led_to
  d_led_from : DefR K mg "led_from" s_led_from
  d_goals_mask : DefR K mg "goals_mask" s_goals_mask
  d_places_mask : DefR K mg "places_mask" s_places_mask
  d_check_one_goal : DefR K mg "check_one_goal" s_check_one_goal
  d_counted_places : DefR K mg "counted_places" s_counted_places
  d_check_counted : DefR K mg "check_counted" s_check_counted
  d_forward_arrows : DefR K mg "forward_arrows" s_forward_arrows
  d_greatest_of : DefR K mg "greatest_of" s_greatest_of
  d_worst : DefR K mg "worst" s_worst
  d_greatest_lots : DefR K mg "greatest_lots" s_greatest_lots
  d_turned : DefR K mg "turned" s_turned
  d_law_hand : DefR K mg "_law_hand" s_law_hand
  d_law_draw : DefR K mg "_law_draw" s_law_draw
  d_law_shuffled : DefR K mg "_law_shuffled" s_law_shuffled
  d_law_parts : DefR K mg "_law_parts" s_law_parts
  d_law_tail : DefR K mg "_law_tail" s_law_tail
  d_law_renamed : DefR K mg "_law_renamed" s_law_renamed
  d_law_orders : DefR K mg "_law_orders" s_law_orders
  d_law_excess_of : DefR K mg "_law_excess_of" s_law_excess_of
  d_law_lots : DefR K mg "_law_lots" s_law_lots
  d_law_turned : DefR K mg "_law_turned" s_law_turned
  d_law_is_turned_twice : DefR K mg "_law_is_turned_twice" s_law_is_turned_twice
  d_law : DefR K mg "law" s_law
  c_Map : Addr
  m_Map_init : MetR K "__init__" "Map.__init__" s_Map_init
  m_Map_keep : MetR K "keep" "Map.keep" s_Map_keep
  m_Map_parts : MetR K "parts" "Map.parts" s_Map_parts
  m_Map_eq : MetR K "__eq__" "Map.__eq__" s_Map_eq
  c_RawMap : Addr
  m_RawMap_init : MetR K "__init__" "RawMap.__init__" s_RawMap_init
  c_Search : Addr
  m_Search_init : MetR K "__init__" "Search.__init__" s_Search_init
  m_Search_into : MetR K "into" "Search.into" s_Search_into
  m_Search_goes_on : MetR K "goes_on" "Search.goes_on" s_Search_goes_on
  m_Search_best : MetR K "best" "Search.best" s_Search_best
  m_Search_best_of : MetR K "best_of" "Search.best_of" s_Search_best_of
  m_Search_greatest : MetR K "greatest" "Search.greatest" s_Search_greatest
  m_Search_lots : MetR K "lots" "Search.lots" s_Search_lots
  m_Search_order_of : MetR K "order_of" "Search.order_of" s_Search_order_of
  k_Map : KlsR K mg "Map" c_Map
  mk_Map : Mk K c_Map m_Map_init.f
  n_Map_kept_many : NoAttr K c_Map "kept_many"
  n_Map_kept_arrows : NoAttr K c_Map "kept_arrows"
  n_Map_kept_goals : NoAttr K c_Map "kept_goals"
  n_Map_kept_left : NoAttr K c_Map "kept_left"
  k_RawMap : KlsR K mg "RawMap" c_RawMap
  mk_RawMap : Mk K c_RawMap m_RawMap_init.f
  n_RawMap_kept_many : NoAttr K c_RawMap "kept_many"
  n_RawMap_kept_arrows : NoAttr K c_RawMap "kept_arrows"
  n_RawMap_kept_goals : NoAttr K c_RawMap "kept_goals"
  n_RawMap_kept_left : NoAttr K c_RawMap "kept_left"
  k_Search : KlsR K mg "Search" c_Search
  mk_Search : Mk K c_Search m_Search_init.f
  n_Search_places : NoAttr K c_Search "places"
  n_Search_size : NoAttr K c_Search "size"
  n_Search_many : NoAttr K c_Search "many"
  n_Search_ends : NoAttr K c_Search "ends"
  n_Search_known : NoAttr K c_Search "known"
  Map_keep : Meth K c_Map "keep" m_Map_keep.f
  Map_parts : Meth K c_Map "parts" m_Map_parts.f
  RawMap_keep : Meth K c_RawMap "keep" m_Map_keep.f
  RawMap_parts : Meth K c_RawMap "parts" m_Map_parts.f
  Map_eq : Meth K c_Map "__eq__" m_Map_eq.f
  RawMap_eq : Meth K c_RawMap "__eq__" m_Map_eq.f
  Search_into : Meth K c_Search "into" m_Search_into.f
  Search_goes_on : Meth K c_Search "goes_on" m_Search_goes_on.f
  Search_best : Meth K c_Search "best" m_Search_best.f
  Search_best_of : Meth K c_Search "best_of" m_Search_best_of.f
  Search_greatest : Meth K c_Search "greatest" m_Search_greatest.f
  Search_lots : Meth K c_Search "lots" m_Search_lots.f
  Search_order_of : Meth K c_Search "order_of" m_Search_order_of.f
  b_isinstance : mg "isinstance" = none
  b_int : mg "int" = none
  b_bool : mg "bool" = none
  b_tuple : mg "tuple" = none
  b_list : mg "list" = none
  b_len : mg "len" = none
  b_all : mg "all" = none
  b_any : mg "any" = none
  b_sum : mg "sum" = none
  b_range : mg "range" = none
  b_enumerate : mg "enumerate" = none
  b_sorted : mg "sorted" = none
  b_max : mg "max" = none
  b_min : mg "min" = none
  b_abs : mg "abs" = none
  i_Map : C8.InsC K c_Map
  ne_RawMap : PySem.W.findIn K (.ref c_RawMap) "__ne__" = some (some (.builtin "object.__ne__"))
  ob_RawMap : PySem.W.subIn K (.ref c_RawMap) (.type "object") = some true
  nf_RM : PySem.W.notFirst K c_RawMap (.ref c_Map) = true
  nf_MM : PySem.W.notFirst K c_Map (.ref c_Map) = true
  c_Many : Addr
  many_g : mg "ManyGoals" = some (.ref c_Many)
  many_x : PySem.W.excIn K c_Many [.type "ValueError", .type "Exception", .type "BaseException", .type "object"] "ValueError.__new__" = true
  many_k : PySem.W.keepIn K (.ref c_Many) = true
  many_b : PySem.W.subIn K (.ref c_Many) (.type "BaseException") = some true
  many_t : PySem.W.typeIn K (.ref c_Many) = some (.type "type")
  many_e : PySem.W.exmOne K (.ref c_Many) (.ref c_Many) = some true
  g_MOST_PLACES : mg "MOST_PLACES" = some (.int 40 tok1)
  g_MOST_ARROWS : mg "MOST_ARROWS" = some (.int 60 tok2)
  g_MOST_COUNTED : mg "MOST_COUNTED" = some (.int 9 tok3)
/-! ### heaps -/
abbrev vn (n : Nat) : V := .int (n : Int)
/-- all that was tracked stands, but for what S names; tuples always -/
structure Kp (S : List Addr) (H H' : Hp) : Prop where
  get : ∀ b o, H b = some o → b ∉ S → H' b = some o
  tup : ∀ b xs, H b = some (.tup xs) → H' b = some (.tup xs)
  on : ∀ b o, H b = some o → ∃ o', H' b = some o'
section
variable {S S' : List Addr} {H H1 H2 : Hp} {p b : Addr} {o u : HO} {xs : List V}
theorem Kp.refl : Kp S H H := ⟨fun _ _ h _ => h, fun _ _ h => h, fun _ o h => ⟨o, h⟩⟩
theorem Kp.trans (h : Kp S H H1) (h' : Kp S' H1 H2) (hs : ∀ p, p ∈ S' → p ∈ S ∨ H p = none) : Kp S H H2 :=
  ⟨fun b o e n => h'.get b o (h.get b o e n) fun m => (hs b m).elim n fun z => (by rw [z] at e; cases e), fun b xs e => h'.tup b xs (h.tup b xs e), fun b o e => let ⟨o', e'⟩ := h.on b o e; h'.on b o' e'⟩
theorem Kp.weak (h : Kp S H H1) (hs : ∀ p, p ∈ S → p ∈ S' ∨ H p = none) : Kp S' H H1 := Kp.trans Kp.refl h hs
theorem Kp.add (h : Kp S H H1) (h' : Kp [] H1 H2) : Kp S H H2 := h.trans h' fun _ m => nomatch m
theorem Kp.mk_new (h : H p = none) : Kp [] H (upd H p o) :=
  ⟨fun b u e _ => by rw [upd_ne (ne_of_none e h)]; exact e, fun b xs e => by rw [upd_ne (ne_of_none e h)]; exact e, fun b u e => ⟨u, by rw [upd_ne (ne_of_none e h)]; exact e⟩⟩
theorem Kp.new (k : Kp S H H1) (h : H1 p = none) : Kp S H (upd H1 p o) := k.add (Kp.mk_new h)
def notTup : HO → Prop
  | .tup _ => False
  | _ => True
theorem Kp.mk_put (h : H p = some u) (hu : notTup u) : Kp [p] H (upd H p o) :=
  ⟨fun b v e n => by rw [upd_ne (fun z => n (by simp [z]))]; exact e,
   fun b xs e => by
    have : b ≠ p := fun z => by
      rw [z, h] at e; cases e; exact hu
    rw [upd_ne this]; exact e,
   fun b v e => by
    by_cases z : b = p
    · exact ⟨o, by rw [z, upd_same]⟩
    · exact ⟨v, by rw [upd_ne z]; exact e⟩⟩
theorem Kp.put (k : Kp S H H1) (h : H1 p = some u) (hu : notTup u) (hp : p ∈ S ∨ H p = none) : Kp S H (upd H1 p o) :=
  k.trans (Kp.mk_put h hu) fun q m => by
    have : q = p := by simpa using m
    rw [this]; exact hp
theorem Kp.free (k : Kp S H H1) (h : H1 p = none) : H p = none := by
  cases e : H p with
  | none => rfl
  | some o =>
    obtain ⟨o', e'⟩ := k.on p o e
    rw [h] at e'; cases e'
theorem Kp.drop (k : Kp (p :: S) H H1) (h : H p = none) : Kp S H H1 := k.weak fun q m => (List.mem_cons.mp m).elim (fun z => .inr (z ▸ h)) .inl
theorem Kp.ne (k : Kp S H H1) (h : H1 p = none) (e : H b = some o) : b ≠ p := fun z => by
  rw [z, k.free h] at e; cases e
/-- a new object, the heap by what is known of it -/
theorem alloc {Q : Addr → Hp → Prop} (h : ∀ p H1, H p = none → Kp [] H H1 → H1 p = some o → Q p H1) : ∀ p, H p = none → Q p (upd H p o) := fun p np => h p _ np (Kp.mk_new np) upd_same
/-- a stored object -/
theorem store {Q : Hp → Prop} (e : H p = some u) (hu : notTup u) (h : ∀ H1, Kp [p] H H1 → H1 p = some o → Q H1) : Q (upd H p o) := h _ (Kp.mk_put e hu) upd_same
theorem SqT.it {K : PySem.W.Frag} (h : H p = some (.tup xs)) : SqT K H p xs := SqT.of h
end
/-! ### data -/
/-- the values vs, pairs of Nats, each a tuple of two -/
def PairsV (H : Hp) (vs : List V) (ps : List (Nat × Nat)) : Prop := vs.length = ps.length ∧ ∀ (i : Nat) p, ps[i]? = some p → ∃ a, vs[i]? = some (.ref a) ∧ H a = some (.tup [vn p.1, vn p.2])
section
variable {S : List Addr} {H H1 : Hp} {a b : Addr} {vs : List V} {ps : List (Nat × Nat)} {p : Nat × Nat}
theorem PairsV.keep (h : PairsV H vs ps) (k : Kp S H H1) : PairsV H1 vs ps := ⟨h.1, fun i p e => let ⟨a, h1, h2⟩ := h.2 i p e; ⟨a, h1, k.tup _ _ h2⟩⟩
theorem PairsV.nil : PairsV H [] [] := ⟨rfl, fun i p h => by simp at h⟩
theorem PairsV.snoc (h : PairsV H vs ps) (e : H a = some (.tup [vn p.1, vn p.2])) : PairsV H (vs ++ [.ref a]) (ps ++ [p]) := by
  refine ⟨by simp [h.1], fun i q hq => ?_⟩
  by_cases hi : i < ps.length
  · rw [List.getElem?_append_left hi] at hq
    obtain ⟨c, h1, h2⟩ := h.2 i q hq
    exact ⟨c, by rw [List.getElem?_append_left (by rw [h.1]; exact hi)]; exact h1, h2⟩
  · have hi' : i = ps.length := by
      have := (List.getElem?_eq_some_iff.mp hq).1
      simp at this; omega
    subst hi'
    simp at hq
    subst hq
    exact ⟨a, by rw [← h.1]; simp, e⟩
theorem PairsV.at_ (h : PairsV H vs ps) {i : Nat} {x : V} (e : vs[i]? = some x) : ∃ p a, ps[i]? = some p ∧ x = .ref a ∧ H a = some (.tup [vn p.1, vn p.2]) := by
  have hi : i < ps.length := by
    have := (List.getElem?_eq_some_iff.mp e).1
    rw [h.1] at this; exact this
  obtain ⟨a, h1, h2⟩ := h.2 i ps[i] (List.getElem?_eq_getElem hi)
  rw [e] at h1
  exact ⟨ps[i], a, List.getElem?_eq_getElem hi, Option.some.inj h1, h2⟩
end
def TupN (H : Hp) (a : Addr) (ns : List Nat) : Prop := H a = some (.tup (ns.map vn))
def TupP (H : Hp) (a : Addr) (ps : List (Nat × Nat)) : Prop := ∃ vs, H a = some (.tup vs) ∧ PairsV H vs ps
def LstP (H : Hp) (a : Addr) (ps : List (Nat × Nat)) : Prop := ∃ vs, H a = some (.lst vs) ∧ PairsV H vs ps
theorem TupP.keep {S : List Addr} {H H1 : Hp} {a : Addr} {ps : List (Nat × Nat)} (h : TupP H a ps) (k : Kp S H H1) : TupP H1 a ps := let ⟨vs, h1, h2⟩ := h; ⟨vs, k.tup _ _ h1, h2.keep k⟩
theorem TupN.keep {S : List Addr} {H H1 : Hp} {a : Addr} {ns : List Nat} (h : TupN H a ns) (k : Kp S H H1) : TupN H1 a ns := k.tup _ _ h
theorem map_at {ns : List Nat} {i : Nat} {x : V} (h : (ns.map vn)[i]? = some x) : ∃ n, ns[i]? = some n ∧ x = vn n := by
  rw [List.getElem?_map] at h
  cases e : ns[i]? with
  | none => rw [e] at h; cases h
  | some n => rw [e] at h; exact ⟨n, rfl, (Option.some.inj h).symm⟩
theorem take_more {α : Type} {l : List α} {i : Nat} {x : α} (h : l[i]? = some x) : l.take (i + 1) = l.take i ++ [x] := by
  rw [List.take_add_one, h]; rfl
theorem sz {n : Nat} (h : n ≤ 100000) : n ≤ sizeLine := Nat.le_trans h (by decide)
theorem szl {n : Nat} (h : n < 100000) : n < sizeLine := Nat.lt_of_lt_of_le h (by decide)
theorem ite_b {b : Bool} {A B : Prop} (h1 : b = true → A) (h2 : b = false → B) : if b = true then A else B := by
  cases b with
  | true => exact iteT (h1 rfl)
  | false => exact iteF (h2 rfl)
theorem ite_d {c A B : Prop} [Decidable c] (h1 : c → A) (h2 : ¬ c → B) : if decide c = true then A else B := ite_b (fun h => h1 (of_decide_eq_true h)) fun h => h2 (of_decide_eq_false h)
end K33
/-! K33R1: enumerate over a tuple -/
namespace K33
open PySem PySem.Spec PyProof.Rows L2
open AutoSeq1 (wpAny_loadPart')
theorem meets_enumT (l : Addr) (items : Array Value) :
    Meets (Builtin.«enumerate.__new__» ⟨[.type "enumerate", .ref l], []⟩) (fun _ R s => s.heap.IsTuple l items ∧
      R (.ok (.ret (.ref (s.heap.push { cls := .type "tuple_iterator", data := .fields #[.ref l, .int 0 0] }).objs.size)))
        { s with heap := (s.heap.push { cls := .type "tuple_iterator", data := .fields #[.ref l, .int 0 0] }).push { cls := .type "enumerate", data := .fields #[.none, .bool false, .ref s.heap.objs.size, rawInt 0, .none, .none] } }) :=
  .of_wp fun prog w A R s h => by
    obtain ⟨hp, g, d, tk, os⟩ := s; obtain ⟨hL, h⟩ := h
    have hsub := sub_enumerate
    wp_walk
    refine wpAny_stack_any fun st => wpAny_pure ?_
    split
    · rename_i c _ _ _ _ _
      cases (c == Value.type "enumerate")
      · wp_walk using wpAny_pyIter_tuple hL
        exact ⟨_, rfl, h⟩
      · wp_walk using wpAny_pyIter_tuple hL
        exact ⟨_, rfl, h⟩
    · wp_walk using wpAny_pyIter_tuple hL
      exact ⟨_, rfl, h⟩
theorem call_enumT {prog : Program} {w : World} {A : Around} {E : Value → Shared → Prop} {s : Shared} {l : Addr} {items : Array Value} {Q : Value → Shared → Prop} (hL : s.heap.IsTuple l items)
    (h : ∀ h', IsEnum h' (s.heap.objs.size + 1) s.heap.objs.size 0 .none → h'.IsTupleIter s.heap.objs.size l 0 → h'.objs.size = s.heap.objs.size + 2 →
      (∀ b o, s.heap.get? b = some o → h'.get? b = some o) → Q (.ref (s.heap.objs.size + 1)) { s with heap := h' }) :
    wpAny (model prog w) A (call (.type "enumerate") [.ref l]) Q E s := by
  refine callType_new F.called_enumerate (by decide) (F.typeCall_enumerate_1 _) (F.newCall_enumerate_1 _) (fun obj => F.args_object_init_2 obj _) F.entry_enumerate_new
    (meets_enumT l items) ⟨hL, ?_⟩
  have hz : (s.heap.push { cls := .type "tuple_iterator", data := .fields #[.ref l, .int 0 0] }).objs.size = s.heap.objs.size + 1 := Heap.size_push ..
  show _ ∧ _
  rw [hz]
  have he : IsEnum ((s.heap.push { cls := .type "tuple_iterator", data := .fields #[.ref l, .int 0 0] }).push
      { cls := .type "enumerate", data := .fields #[.none, .bool false, .ref s.heap.objs.size, rawInt 0, .none, .none] }) (s.heap.objs.size + 1) s.heap.objs.size 0 .none := by
    have := Heap.get?_push_size (s.heap.push { cls := .type "tuple_iterator", data := .fields #[.ref l, .int 0 0] })
      (o := { cls := .type "enumerate", data := .fields #[.none, .bool false, .ref s.heap.objs.size, rawInt 0, .none, .none] }) rfl
    rw [hz] at this; exact this
  refine ⟨⟨_, he, rfl⟩, h _ he ⟨_, Heap.get?_push_of_some _ (Heap.get?_push_size _ rfl), rfl, rfl⟩ (by rw [Heap.size_push, hz]) fun b o x => Heap.get?_push_of_some _ (Heap.get?_push_of_some _ x)⟩
/-- the tuple at a as it stands at each turn, each item in a new pair -/
def IteT (K : PySem.W.Frag) (a : Addr) : It :=
  ⟨fun i H => ∃ (xs : List V) (x : V), SqT K H a xs ∧ xs[i]? = some x, fun i H v H' => ∃ T x, v = .ref T ∧ H T = none ∧ H' = upd H T (.tup [.int (i : Nat), x]) ∧ ∀ xs, SqT K H a xs → xs[i]? = some x, fun i H => ∃ xs : List V, SqT K H a xs ∧ xs.length ≤ i⟩
theorem turn_enumT {P : Program} {w : World} {K : PySem.W.Frag} {elts : List Expr} {kk : Nat} {tpos : Pos} (a e it : Addr) :
    Turn P w K (.Tuple elts kk tpos) (IteT K a) [e, it] e (fun i h => (∃ old, IsEnum h e it ((i : Nat) : Int) old) ∧ h.IsTupleIter it a i ∧ e ≠ it ∧ a ≠ e ∧ a ≠ it) where
  mem := by simp
  obj := fun i h st b hb => by
    obtain ⟨⟨old, he⟩, ⟨o, ho, hc, hd⟩, _⟩ := st
    have e' : b = e ∨ b = it := by simpa using hb
    rcases e' with z | z
    · rw [z]; exact ⟨_, he, fun v q => nomatch q⟩
    · rw [z]; exact ⟨o, ho, fun v q => by rw [hd] at q; cases q⟩
  keep := fun i h h' st k => let ⟨⟨old, he⟩, hi, hne⟩ := st; ⟨⟨old, k e (by simp) _ he⟩, hi.at fun o q => k it (by simp) o q, hne⟩
  item := by
    intro X hP hw hK hc i pins s σ H E I hf st hg
    subst hP hw hK
    obtain ⟨⟨old, he⟩, hit, hne, hae, hai⟩ := st
    obtain ⟨xs, x, hq, hx⟩ := hg
    obtain ⟨its, rv, p, hz⟩ := I.tuple hq
    obtain ⟨u, hu, ru⟩ := rv.get hx
    have hel : e < s.heap.objs.size := Heap.lt_size he
    have hil : it < s.heap.objs.size := by obtain ⟨_, q, _⟩ := hit; exact Heap.lt_size q
    have hlt : i < its.toArray.size := by
      have := (List.getElem?_eq_some_iff.mp hu).1
      simpa using this
    refine wpAny_pyNext_enum_itemD (Draws.tuple (prog := X.prog) (w := X.w) (A := X.A.in1) (I.ok.hd hc) it a hai its.toArray) he ⟨hit, p⟩ hlt hne (by simp [hne, hae.symm]) fun x' h' tk hx' ho hs' hT hsz hk => ?_
    have ex : x' = u := by
      have : its.toArray[i]? = some u := by simpa using hu
      rw [this] at hx'
      exact (Option.some.inj hx').symm
    subst ex
    obtain ⟨hit', p'⟩ := hs'
    refine ⟨_, rfl, wpAny_letOwnedTupleGo_enum (s := { s with heap := h', toks := tk + 1 }) ho fun h'' he' sb => ?_⟩
    have hT2 : h''.get? s.heap.objs.size = some { cls := .type "tuple", data := .seq #[.int i tk, x'] } := (sb.2 _ (Nat.ne_of_gt hel)).trans hT
    have new : ObjOk X.prog X.w (upd H s.heap.objs.size (.tup [.int (i : Nat), x])) h'' s.heap.objs.size (.tup [.int (i : Nat), x]) :=
      ⟨by show 2 ≤ sizeLine; decide, [.int i tk, x'], .cons ⟨_, rfl⟩ (.cons ru .nil), ⟨_, hT2, rfl, _, rfl⟩⟩
    have I1 : Inv X pins σ (upd H s.heap.objs.size (.tup [.int (i : Nat), x])) { s with heap := h'', toks := tk + 1 } :=
      I.turnedNew (ch := [e, it]) (fun b ob hb q => (sb.2 b (fun z => hb (by simp [z]))).trans (hk b ob (fun z => hb (by simp [z])) (fun z => hb (by simp [z])) q)) hf (Nat.le_refl _) new
    refine ⟨.ref s.heap.objs.size, _, I1, rfl, ⟨_, x, rfl, I.hok.fresh (Nat.le_refl _), rfl, fun ys hy => by rw [I.tuple_inj hy hq]; exact hx⟩, ⟨⟨x', ?_⟩, hit'.at fun o q => (sb.2 it (Ne.symm hne)).trans q, hne, hae, hai⟩, fun b hb => ?_⟩
    · have e1 : ((i + 1 : Nat) : Int) = (i : Int) + 1 := by omega
      rw [e1]; exact he'
    · have hb' : b < s.heap.objs.size := by
        have e' : b = e ∨ b = it := by simpa using hb
        rcases e' with z | z
        · rw [z]; exact hel
        · rw [z]; exact hil
      rw [upd_ne (Nat.ne_of_lt hb')]
      exact (hf b hb).1
  done := by
    intro X hP hw hK hc i pins s σ H E I hf st hg
    subst hP hw hK
    obtain ⟨⟨old, he⟩, hit, hne, hae, hai⟩ := st
    obtain ⟨xs, hq, hx⟩ := hg
    obtain ⟨its, rv, p, hz⟩ := I.tuple hq
    obtain ⟨f0, f1, f2, f3, f4, f5⟩ := hf it (by simp)
    have hl := rv.length
    have hT : s.TypeIs (.ref e) "enumerate" := ⟨_, he, rfl⟩
    unfold pyNext
    refine wpAny_bind (wpAny_attempt (wpAny_callSpecial?_slot (name := Str.ofString "__next__") hT F.slot_enumerate_next
      (wpAny_call_entry F.slot_enumerate_next hT F.entry_enumerate_next ?_ (F.args_enumerate_next_1 _))))
    show wpAny _ _ (field (.ref e) 2 >>= _) _ _ _
    refine wpAny_bind (wpAny_field he rfl (x := .ref it) rfl ?_)
    refine wpAny_bind (wpAny_nextOf_tuple_end (I.ok.hd hc) hit p (by simp; omega) fun h' x he' hx' => ?_)
    obtain ⟨o, ho, hc'⟩ := hx'
    refine wpAny_bind (wpAny_isInstance (T := "StopIteration") (b := true) ⟨o, ho, hc'⟩ isSubtype_stop ?_)
    exact wpAny_pure ⟨rfl, I.turned (t' := s.toks) (fun b o hb q => he' b o hb q) f0 f1 f3 f4 f5⟩
  self := fun A i s Q E st h => let ⟨⟨_, he⟩, _⟩ := st; wpAny_pyIter_enum he h
def iEnumT (K : PySem.W.Frag) (ta : TA) : TI := fun σ H R => ta σ H fun vs H1 => ∃ a xs, vs = [.ref a] ∧ SqT K H1 a xs ∧ R (IteT K a) H1
theorem pi_enumT {X : Cx} {e : Expr} {ta : TA} {p pos tpos : Pos} {elts : List Expr} {kk : Nat} (hg : Gl X "enumerate") (hm : X.mg "enumerate" = none) (ha : PA X [e] ta) (hs : starEach [e] X.env = [(false, eval e X.env)] := by rfl) :
    PI X (.Tuple elts kk tpos) (.Call (.Name "enumerate" p) [e] [] pos) (iEnumT X.K ta) := by
  refine ⟨fun pins s σ H R I h => ?_⟩
  refine Call_ (ld_blt I hg hm boot_enumerate (PyProof.Rows.callWith_type1 (thn (ha.run pos pins s σ H _ I h) fun us s1 ⟨vs, H1, I1, r1, q1⟩ => ?_) hs rfl))
  obtain ⟨a, xs, ex, hq, q⟩ := q1
  subst ex
  cases r1 with
  | cons r rr =>
    cases rr
    cases r
    obtain ⟨its, rv, p', hz⟩ := I1.tuple hq
    have hal := p'.lt
    refine call_enumT p' fun h' he hit hsz hk => wpAny_pyIter_enum he ?_
    have I2 : Inv X pins σ H1 { s1 with heap := h' } := I1.kept (t' := s1.toks) hk
    refine ⟨s1.heap.objs.size + 1, [s1.heap.objs.size + 1, s1.heap.objs.size], _, _, H1, rfl, I2, turn_enumT a (s1.heap.objs.size + 1) s1.heap.objs.size, ⟨⟨.none, he⟩, hit, Nat.succ_ne_self _, Nat.ne_of_lt (Nat.lt_succ_of_lt hal), Nat.ne_of_lt hal⟩, fun b hb => ?_, q⟩
    have e' : b = s1.heap.objs.size + 1 ∨ b = s1.heap.objs.size := by simpa using hb
    have hle : s1.heap.objs.size ≤ b := by
      rcases e' with z | z
      · rw [z]; exact Nat.le_add_right _ _
      · rw [z]; exact Nat.le_refl _
    exact I1.fpOk hle (I1.hok.fresh hle)
end K33
/-! K33R2: an own error without arguments, xs[i] op= e, a dict comprehension given to a name, sorted of tuples of ints of any length -/
namespace K33
open PySem PySem.Spec PyProof.Rows L2
section
variable {X : Cx}
/-- X() of an own class -/
theorem pmk_own0 {C : Addr} {bmB : List Value} {B newId initId : String} {x : Str} {p pos : Pos} (F : ExcBaseFacts B newId initId bmB) (q : PySem.W.excIn X.K C bmB newId = true) (gC : X.mg x = some (.ref C)) (kC : PySem.W.keepIn X.K (.ref C) = true) (r : Raises X (.ref C)) (hg : Gl X x)
    (hdb : (x == ("__debug__" : Str)) = false := by decide) : PMk X (.Call (.Name x p) [] [] pos) (fun _ H Q => Q (.ref C) none H) := by
  intro pins s σ H Q I h
  refine wpAny_Call_Name_kw (ld_glob I hg gC ?_ hdb)
  refine PySem.W.callWith_K0 I.kIn kC ?_
  show wpAny _ _ (call (.ref C) []) _ _ _
  obtain ⟨hp, g, d, tk, os⟩ := s
  obtain ⟨bm, N, nm, qn, bs, hdct, sn, sub, ab, col, dd, k0, k1, k2, k3, k5, mN, hC, hN, hni, T⟩ := exc_obj I.kIn q
  refine wpAny_call_exc_subT F T hC hN hni (fun h' e hm => ?_) (Nat.zero_le _)
  exact mk_of I hm r h (I.hok.gone hm.new)
/-- xs[i], ahead of xs[i] op= e -/
def rGetL (K : PySem.W.Frag) : V → V → Hp → VK → Prop := fun x y H Q => ∃ (p : Addr) (xs : List V) (n : Nat) (v : V), x = .ref p ∧ y = .int n ∧ SqL K H p xs ∧ xs[n]? = some v ∧ Q v H
theorem get_list : PGet X (rGetL X.K) := by
  intro pins s σ H x y v u Q I rx ry h
  obtain ⟨p, xs, i, z, rfl, rfl, hq, he, q⟩ := h
  cases rx
  obtain ⟨t, rfl⟩ := ry
  obtain ⟨its, r, pl, hz⟩ := I.list hq
  obtain ⟨w, ew, rw'⟩ := r.get he
  have hl := r.length
  have hn := line63
  have hi := (List.getElem?_eq_some_iff.mp he).1
  exact wpAny_getItem_list pl.isList (by omega) (by omega) (by simpa using ew) ⟨z, H, I, rw', q⟩
/-- name = {..} on one line, the name a local -/
theorem ps_setDc {i : Nat} {y : Str} {py : Pos} {kx vx tg iter : Expr} {ifs : List Expr} {scope : Scope} {own : List (Str × Nat)} {pos spos : Pos} {wi : TI} {g : TG} {tt : TT} {tk tv : TE} (hc : X.calm = true) (hN : X.N.Nodup) (hy : X.N[i]? = some y) (hyl : X.env.scope.names.lookup y = some .local)
    (hsw : swapsWith (.DictComp kx vx [⟨tg, iter, ifs, 0⟩] scope pos) (some (.Name y py)) spos.line X.env = pure true) (hi : PI X tg iter wi) (ok : BlkOk X.N X.env.scope scope own)
    (hg : ∀ (s : Shared) (H : Hp) (C : Addr) (cl : List (Str × Addr)) (fp : List Addr), PG (X.blk s H scope (compEnvC scope cl C X.env) fp) tg g) (ht : ∀ (s : Shared) (H : Hp) (C : Addr) (cl : List (Str × Addr)) (fp : List Addr), PTs (X.blk s H scope (compEnvC scope cl C X.env) fp) ifs tt)
    (hk : ∀ (s : Shared) (H : Hp) (C : Addr) (cl : List (Str × Addr)) (fp : List Addr), PE (X.blk s H scope (compEnvC scope cl C X.env) fp) kx tk)
    (he : ∀ (s : Shared) (H : Hp) (C : Addr) (cl : List (Str × Addr)) (fp : List Addr), PE (X.blk s H scope (compEnvC scope cl C X.env) fp) vx tv) (hs : ∀ x, foldedSetIterable iter X.env x = pure x := by intro _; rfl) :
    PS X (.Assign [.Name y py] (.DictComp kx vx [⟨tg, iter, ifs, 0⟩] scope pos) spos) (tAsg (tDc wi g tt tk tv (own.map (·.2))) (gName i)) := by
  refine ⟨fun pins s σ H D I h => ?_⟩
  rw [exec_Assign_Name_used _ _ _ _ hsw]
  refine wpAny_bind (wpAny_standAt (wpAny_bind ?_))
  show wpAny _ X.A (do let _ ← comprehension (.DictComp kx vx [⟨tg, iter, ifs, 0⟩] scope pos) scope X.env (firstIterPos [⟨tg, iter, ifs, 0⟩] pos) newDict false (eval iter X.env) (some (assign (.Name y py) X.env))) _ _ s
  have h : tDc wi g tt tk tv (own.map (·.2)) σ H (fun x H1 => gName i x σ H1 D.nx) := h
  refine wpAny_bind (thn (dc_core (Qf := fun _ s' => SP X pins D .next s') hc hN I hi ok hg ht hk he hs h fun L C s' m H' I' q hn f => ?_) fun _ s' hq => wpAny_pure (wpAny_pure hq))
  show wpAny _ _ (assign (.Name y py) X.env (.ref L)) _ _ _
  refine wpAny_assign_Name (store_ok2 (v := V.ref L) I' hN hy (.inl hyl) rfl (fun s2 I2 ⟨a, sb, ha⟩ => ?_) (.inr hyl))
  obtain ⟨f0, f1, f2, f3, f4, f5⟩ := f
  have haC : C ≠ a := by
    rcases ha with z | z
    · rw [z]; exact f1
    · exact fun e => f4 y a z e.symm
  refine ⟨m, hn.sameBut sb haC, fun h3 sb3 => ?_⟩
  exact ⟨_, H', I2.turned (t' := s2.toks) (fun b o hb e => (sb3.2 b hb).trans e) f0 f1 f3 f4 f5, q⟩
theorem sw_trueD {kx vx : Expr} {gs : List Comprehension} {scope : Scope} {pos py : Pos} {y : Str} {l : Nat} {env : Env} (hk : env.scope.kind = .function) (hy : env.scope.names.lookup y = some .local) (hl : (py.line == pos.line) = true)
    (ha : (scope.names.any fun (n, k) => n == y && (k == .local || k == .cell)) = false) : swapsWith (.DictComp kx vx gs scope pos) (some (.Name y py)) l env = pure true := by
  have ky : env.kindOf y = some .local := hy
  have hb : env.blockKind = .function := by unfold Env.blockKind; rw [hk]; rfl
  unfold swapsWith
  simp only [hb, ky, ha, Expr.pos, hl]
  rfl
end
/-! ### sorted of tuples of ints -/
open PySem.W in
theorem dataLe_tups {β : Type} (x : β → List Int) : dataLe false (fun b => .tuple ((x b).map .int)) = fun p q => decide (x p ≤ x q) := by
  funext p q
  show (!dataLt (.tuple ((x q).map .int)) (.tuple ((x p).map .int))) = _
  rw [dataLt_tuple]
  show (!rowLt ((x q).map .int) ((x p).map .int)) = _
  rw [dataLt_ints]
  by_cases h : x q < x p
  · have h' : ¬ x p ≤ x q := fun r => List.not_lt.mpr r h
    simp [h, h']
  · have h' : x p ≤ x q := List.not_lt.mp h
    simp [h, h']
/-- the values vs, each a tuple of the ints of the list at its place -/
def TupsV (H : Hp) (vs : List V) (bs : List (List Int)) : Prop := vs.length = bs.length ∧ ∀ (i : Nat) b, bs[i]? = some b → ∃ a, vs[i]? = some (.ref a) ∧ H a = some (.tup (b.map V.int))
def srt (bs : List (List Int)) : List (List Int) := bs.mergeSort fun p q => decide (p ≤ q)
def rSortTI (K : PySem.W.Frag) : List V → Hp → VK → Prop := fun vs H Q => ∃ (a : Addr) (xs : List V) (bs : List (List Int)), vs = [V.ref a] ∧ SqL K H a xs ∧ TupsV H xs bs ∧ (∀ b, b ∈ bs → b ≠ []) ∧
  ∀ (ys : List V) (p : Addr), H p = none → TupsV H ys (srt bs) → Q (.ref p) (upd H p (.lst ys))
def RT (H : Hp) (v : Value) (b : List Int) : Prop := ∃ t, v = .ref t ∧ H t = some (.tup (b.map V.int))
open PySem.W in
theorem each_of {H : Hp} : ∀ {xs : List V} {us : List Value} {bs : List (List Int)}, Vals xs us → TupsV H xs bs → EachIs (RT H) us bs
  | [], _, [], .nil, _ => .nil
  | [], _, _ :: _, _, h => by have := h.1; simp at this
  | _ :: _, _, [], _, h => by have := h.1; simp at this
  | x :: xs, _, b :: bs, .cons r rr, h => by
    obtain ⟨a, h1, h2⟩ := h.2 0 b rfl
    have e : x = .ref a := by simpa using h1
    subst e
    exact .cons ⟨a, r, h2⟩ (each_of rr ⟨by have := h.1; simpa using this, fun i b' hb => h.2 (i + 1) b' hb⟩)
open PySem.W in
theorem each_back {H : Hp} : ∀ {us : List Value} {bs : List (List Int)}, EachIs (RT H) us bs → ∃ ys, Vals ys us ∧ TupsV H ys bs
  | _, _, .nil => ⟨[], .nil, rfl, fun i b h => by simp at h⟩
  | _, _, .cons r rr => by
    obtain ⟨ys, h1, h2⟩ := each_back rr
    obtain ⟨t, rfl, ht⟩ := r
    refine ⟨.ref t :: ys, .cons rfl h1, by simp [h2.1], fun i b hb => ?_⟩
    cases i with
    | zero =>
      have : _ = b := Option.some.inj hb
      subst this
      exact ⟨t, rfl, ht⟩
    | succ i => exact h2.2 i b hb
theorem reads_ints {h : Heap} : ∀ {b : List Int} {us : List Value}, Vals (b.map V.int) us → ∃ as, ReadsAll h us (b.map PyData.int) as
  | [], _, .nil => ⟨[], .nil⟩
  | n :: b, _, .cons ⟨t, e⟩ rr => by
    subst e
    obtain ⟨as, q⟩ := reads_ints (h := h) rr
    exact ⟨[] ++ as, .cons (.int n t) q⟩
theorem alike_ints : ∀ b b' : List Int, PySem.W.alikeAll (b.map PyData.int) (b'.map PyData.int) = true
  | [], [] => by simp [PySem.W.alikeAll]
  | [], _ :: _ => by simp [PySem.W.alikeAll]
  | _ :: _, [] => by simp [PySem.W.alikeAll]
  | _ :: b, _ :: b' => by simp [PySem.W.alikeAll, PySem.W.alike, alike_ints b b']
theorem depth_ints0 : ∀ b : List Int, PyData.depthAll (b.map PyData.int) ≤ 1
  | [] => by simp [PyData.depthAll]
  | n :: b => by
    have := depth_ints0 b
    simp only [List.map_cons, PyData.depthAll, PyData.depth]
    omega
theorem depth_ints (b : List Int) : (PyData.tuple (b.map PyData.int)).depth ≤ 60 := by
  have := depth_ints0 b
  simp only [PyData.depth]
  omega
section
variable {X : Cx}
theorem cr_sortedTI (hu : X.A.units + 64 < cLine) : CallR X (.builtin "sorted") (rSortTI X.K) := by
  intro pins s σ H vs us Q I r h
  obtain ⟨a, xs, bs, rfl, hs, hx, hne, q⟩ := h
  obtain ⟨its, rv, hl, hz⟩ := I.list hs
  rw [Vals.ref1 r]
  have er := each_of rv hx
  have hlen : bs.length ≤ sizeLine := by rw [← hx.1]; exact hz
  have h1 : PySem.W.EachIs (fun v b => ∃ as, Reads s.heap v (PyData.tuple (b.map PyData.int)) as) its bs := er.mono fun v b ⟨t, e, ht⟩ => by
    subst e
    obtain ⟨its', rv', ⟨o, h1, h2, n, h3⟩, _⟩ := I.tuple (SqT.of (K := X.K) ht)
    obtain ⟨as, qa⟩ := reads_ints (h := s.heap) rv'
    exact ⟨as, .tuple h1 h2 h3 (by simpa using qa)⟩
  have h2 : PySem.W.AllAlike (bs.map fun b => PyData.tuple (b.map PyData.int)) := PySem.W.AllAlike.of fun b b' => by simpa [PySem.W.alike] using alike_ints b b'
  have h3 : PySem.W.Sortable (bs.map fun b => PyData.tuple (b.map PyData.int)) := .inl fun d hd => by
    obtain ⟨b, hb, rfl⟩ := List.mem_map.mp hd
    cases b with
    | nil => exact absurd rfl (hne _ hb)
    | cons n b => exact ⟨_, _, rfl⟩
  refine PySem.W.sorted_data (R := RT H) (enc := fun b => .tuple (b.map PyData.int)) hl.isList er h1 h2 h3 hlen (fun b _ => ?_) fun out ho eo => ?_
  · have := depth_ints b
    omega
  · rw [dataLe_tups (fun b => b)] at eo
    obtain ⟨ys, h1, h2⟩ := each_back eo
    obtain ⟨ep, he'⟩ := PyProof.Rows.sortedAll_at s.heap its out.toArray
    refine ⟨.ref _, upd H (s.heap.objs.size + 1) (.lst ys), I.laid (t' := s.toks) (fun _ _ => PyProof.Rows.sortedAll_old) (Nat.le_succ _) ⟨?_, out, ep, h1, he'⟩, rfl, q _ _ (I.hok.fresh (Nat.le_succ _)) h2⟩
    rw [h1.length, ho]; exact hlen
end
end K33
/-! K33R3: == and != of instances whose class has its own == -/
namespace K33
open PySem PySem.Spec PyProof.Rows L2
open PySem.W (InstAt Looks findIn isFn)
section
variable {prog : Program} {w : World} {A : Around} {E : Value → Shared → Prop} {s : Shared} {K : PySem.W.Frag} {x y C L f : Addr} {h₀ : Heap} {m : Str → Option Value} {ox : Obj} {od : Option Obj} {tb : Value}
theorem ne_body (X : K.In s.heap) (I : InstAt s.heap x ox C od) (he : findIn K (.ref C) "__eq__" = some (some (.ref f))) (hf : isFn K (.ref f) = true) (hu : A.units < cLine) {Q : PySem.Fin → Shared → Prop}
    (hcall : wpAny (model prog w) A (call (.ref f) [.ref x, .ref y]) (fun v s' => ∃ b, v = .bool b ∧ Q (.done (.ret (.bool (!b)))) s') E s) :
    wpAny (model prog w) A (Builtin.«object.__ne__» ⟨[.ref x, .ref y], []⟩) Q E s := by
  obtain ⟨h, g, d, t, os⟩ := s
  unfold Builtin.«object.__ne__»
  repeat (first
    | with_reducible refine wpAny_cRoomFor hu ?_
    | (refine wpAny_bind (m := callSpecialIfBound? (.ref x) (Str.ofString "__eq__") [.ref y])
        (PySem.W.ifBound_K X I he hf (wpAny_mono hcall (fun r s' hr => by
          obtain ⟨b, rfl, hq⟩ := hr
          repeat (first | exact hq | exact wpAny_pure hq | exact wpAny_truthy_bool hq | (refine wpAny_bind (m := truthy (.bool _)) (wpAny_truthy_bool ?_)) | wp_step)) fun _ _ e => e)))
    | wp_step)
theorem ne_try (X : K.In s.heap) (I : InstAt s.heap x ox C od) (hn : findIn K (.ref C) "__ne__" = some (some (.builtin "object.__ne__"))) (he : findIn K (.ref C) "__eq__" = some (some (.ref f))) (hf : isFn K (.ref f) = true)
    (ho : PySem.W.subIn K (.ref C) (.type "object") = some true) (hu : A.units + 1 < cLine) {Q : Option Value → Shared → Prop}
    (hcall : wpAny (model prog w) A.in1 (call (.ref f) [.ref x, .ref y]) (fun v s' => ∃ b, v = .bool b ∧ Q (some (.bool (!b))) s') E s) :
    wpAny (model prog w) A (tryCompare (.ref x) "__ne__" (.ref y)) Q E s := by
  simp only [tryCompare]
  have FB := F.cmp_object
  have hi : Looks (model prog w) s.heap (isInstance (.ref x) (.type "object")) true := I.type.andThen (PySem.W.looks_subIn X ho)
  have key : wpAny (model prog w) A (call (.builtin "object.__ne__") [.ref x, .ref y]) (fun v s' => ∃ b, v = .bool b ∧ Q (some (.bool b)) s') E s := by
    refine wpAny_call (codeAny_call_builtin FB.ne.plain F.cmpEntry_ne (PySem.W.check_slot F.cmpKind_ne F.cmpSplit_ne hi (F.cmpArgs_ne _ _) ?_))
    refine ne_body (A := A.in1) X I he hf hu (wpAny_mono hcall (fun v s' hv => ?_) fun _ _ e => e)
    obtain ⟨b, rfl, hq⟩ := hv
    exact ⟨b, rfl, _, rfl, hq⟩
  have bnd : wpAny (model prog w) A (callSpecialIfBound? (.ref x) (Str.ofString "__ne__") [.ref y]) (fun r s' => ∃ b, r = some (.bool b) ∧ Q (some (.bool b)) s') E s := by
    simp only [callSpecialIfBound?, bindSpecialIfBound?]
    refine wpAny_holding (wpAny_bind (wpAny_bind (wpAny_bind (I.type.here ((PySem.W.looks_findIn X hn).here ?_)))))
    simp only [FB.ne.bind]
    refine wpAny_bind (wpAny_askSetting (wpAny_ite ?_))
    have fin : wpAny (model prog w) A (call (.builtin "object.__ne__") ([.ref x] ++ [.ref y]) >>= fun v => pure (some v)) (fun r s' => ∃ b, r = some (.bool b) ∧ Q (some (.bool b)) s') E s :=
      wpAny_bind (wpAny_mono key (fun v s' h' => by
        obtain ⟨b', rfl, h⟩ := h'
        exact wpAny_pure ⟨b', rfl, h⟩) fun _ _ h' => h')
    split
    · exact wpAny_bind (wpAny_pure (wpAny_pure fin))
    · exact wpAny_tryCatch (wpAny_bind (wpAny_pure (wpAny_pure fin)))
  refine wpAny_bind (wpAny_mono bnd (fun r s' hr => ?_) fun _ _ e => e)
  obtain ⟨b, rfl, hq⟩ := hr
  exact wpAny_pure hq
theorem ne_rich (hu : A.units + 1 < cLine) (X : K.In s.heap) (I : InstAt s.heap x ox C od) (hb : Looks (model prog w) s.heap (typeOf (.ref y)) tb) (hn : PySem.W.notFirst K C tb = true) {Q : Value → Shared → Prop}
    (one : wpAny (model prog w) A (tryCompare (.ref x) "__ne__" (.ref y)) (fun r s' => ∃ v, r = some v ∧ Q v s') E s) : wpAny (model prog w) A (richCompare .NotEq (.ref x) (.ref y)) Q E s := by
  unfold richCompare
  simp only [oneThing_ref]
  refine wpAny_holding (wpAny_bind (wpAny_cRoomFor (Nat.lt_of_succ_lt hu) ?_))
  rw [cmpInfo_NotEq]
  dsimp only
  refine wpAny_bind (I.type.here (wpAny_bind (hb.here ?_)))
  by_cases q : (Value.ref C != tb) = true
  · have e : PySem.W.subIn K tb (.ref C) = some false := by
      unfold PySem.W.notFirst at hn
      rcases Bool.or_eq_true_iff.mp hn with e | e
      · rw [beq_iff_eq.mp e] at q; simp at q
      · exact beq_iff_eq.mp e
    rw [if_pos q]
    refine wpAny_bind ((PySem.W.looks_subIn X e).here ?_)
    simp only [Bool.false_eq_true, if_false]
    exact wpAny_bind (wpAny_mono one (fun r s' z => by obtain ⟨v, rfl, hq⟩ := z; exact wpAny_pure hq) fun _ _ e => e)
  · rw [if_neg q]
    refine wpAny_bind (wpAny_pure ?_)
    simp only [Bool.false_eq_true, if_false]
    exact wpAny_bind (wpAny_mono one (fun r s' z => by obtain ⟨v, rfl, hq⟩ := z; exact wpAny_pure hq) fun _ _ e => e)
end
section
variable {X : Cx} {C C' f : Addr} {fd : FuncData} {ps : List Str} {k : Nat} {sp : Sp} {CX : CXT} {E : XK}
/-- a == b, a != b of two instances, the left one's class (at C) with the text's own == -/
def rEqO (C C' : Addr) (sp : Sp) (E : XK) : R2 := fun x y H Q => ∃ a b dx dy fs gs, x = .ref a ∧ y = .ref b ∧ H a = some (.ins C dx fs) ∧ H b = some (.ins C' dy gs) ∧ sp [.ref a, .ref b] H (fun v H' => ∃ r, v = .bl r ∧ Q (.bl r) H') E
def rNeO (C C' : Addr) (sp : Sp) (E : XK) : R2 := fun x y H Q => ∃ a b dx dy fs gs, x = .ref a ∧ y = .ref b ∧ H a = some (.ins C dx fs) ∧ H b = some (.ins C' dy gs) ∧ sp [.ref a, .ref b] H (fun v H' => ∃ r, v = .bl r ∧ Q (.bl (!r)) H') E
theorem run_eq {pins : List (Addr × Obj)} {s : Shared} {σ : L2.St} {H : Hp} {a b : Addr} {Q : VK} {A : Around} (F : FnOk X.prog X.w X.K X.mg X.base CX k f fd ps sp) (hb : Binds X.K fd ps []) (hx : Passes CX X E) (hr : Room k A) (hA : A.frames = X.A.frames)
    (I : Inv X pins σ H s) (h : sp [.ref a, .ref b] H Q E) : wpAny (model X.prog X.w) A (call (.ref f) [.ref a, .ref b]) (EP X pins σ Q) X.xe s := by
  have e0 : Env0 X.prog X.w X.K X.mg X.base A X.stack s H := by
    have e := I.env0
    exact ⟨by rw [hA]; exact e.frames, e.mod, e.bs, e.bsz, e.funs, e.frf, e.hok, e.bare⟩
  have hl := F.len _ _ _ _ h
  have bd : BindsTo s fd ⟨[.ref a, .ref b], []⟩ (ps.zip [.ref a, .ref b]) := by
    have := hb s [.ref a, .ref b] I.kIn (by simpa using hl)
    simpa using this
  refine wpAny_call (codeAny_mono (F.run A X.stack s H ⟨[.ref a, .ref b], []⟩ [.ref a, .ref b] [.ref a, .ref b] Q E hr e0 bd (.cons rfl (.cons rfl .nil)) h) fun r s' hq => ?_)
  cases r with
  | error e => exact hx pins σ H s e s' I hq
  | ok fl =>
    cases fl with
    | ret w => exact I.after hq
    | next => exact False.elim hq
    | brk => exact False.elim hq
    | cont => exact False.elim hq
theorem op_eqO (F : FnOk X.prog X.w X.K X.mg X.base CX k f fd ps sp) (hs : findIn X.K (.ref C) "__eq__" = some (some (.ref f))) (hf : isFn X.K (.ref f) = true) (hn : PySem.W.notFirst X.K C (.ref C') = true) (hb : Binds X.K fd ps []) (hx : Passes CX X E) (hr : Room k X.A) :
    OpR X (compareOp .Eq) (rEqO C C' sp E) := by
  intro pins s σ H x y v u Q I rx ry hq
  obtain ⟨a, b, dx, dy, fs, gs, rfl, rfl, ha, hb', h⟩ := hq
  cases rx
  cases ry
  obtain ⟨mA, J, _⟩ := ins_get I.hok ha
  obtain ⟨mB, J', _⟩ := ins_get I.hok hb'
  obtain ⟨od, J, _⟩ := J.look
  obtain ⟨od', J', _⟩ := J'.look
  obtain ⟨m, hF⟩ := I.fr
  show wpAny (model X.prog X.w) X.A (richCompare .Eq (.ref a) (.ref b)) (EP X pins σ Q) X.xe s
  refine PySem.W.cmp_K (op := .Eq) (tb := .ref C') hr.units0 hF I.ok.mod.kin J J'.type hn hs hf (wpAny_mono (run_eq F hb hx hr rfl I h) (fun r s' z => ?_) fun _ _ e => e)
  obtain ⟨w', H', I', rz, r', rfl, q⟩ := z
  cases rz
  exact ⟨.bl r', H', I', rfl, q⟩
theorem op_neO (F : FnOk X.prog X.w X.K X.mg X.base CX k f fd ps sp) (hs : findIn X.K (.ref C) "__eq__" = some (some (.ref f))) (hf : isFn X.K (.ref f) = true) (hne : findIn X.K (.ref C) "__ne__" = some (some (.builtin "object.__ne__"))) (ho : PySem.W.subIn X.K (.ref C) (.type "object") = some true)
    (hn : PySem.W.notFirst X.K C (.ref C') = true) (hb : Binds X.K fd ps []) (hx : Passes CX X E) (hr : Room (k + 1) X.A) :
    OpR X (compareOp .NotEq) (rNeO C C' sp E) := by
  intro pins s σ H x y v u Q I rx ry hq
  obtain ⟨a, b, dx, dy, fs, gs, rfl, rfl, ha, hb', h⟩ := hq
  cases rx
  cases ry
  obtain ⟨mA, J, _⟩ := ins_get I.hok ha
  obtain ⟨mB, J', _⟩ := ins_get I.hok hb'
  obtain ⟨od, J, _⟩ := J.look
  obtain ⟨od', J', _⟩ := J'.look
  have hu : X.A.units + 1 < cLine := hu_of hr
  show wpAny (model X.prog X.w) X.A (richCompare .NotEq (.ref a) (.ref b)) (EP X pins σ Q) X.xe s
  refine ne_rich hu I.kIn J J'.type hn (ne_try I.kIn J hne hs hf ho hu (wpAny_mono (run_eq F hb hx hr.in1 rfl I h) (fun r s' z => ?_) fun _ _ e => e))
  obtain ⟨w', H', I', rz, r', rfl, q⟩ := z
  cases rz
  exact ⟨r', rfl, .bool (!r'), rfl, .bl (!r'), H', I', rfl, q⟩
end
end K33
/-! K33R4: sorted over a tuple of ints -/
namespace K33
open PySem PySem.Spec PyProof.Rows L2
section
variable {prog : Program} {w : World} {A : Around} {E : Value → Shared → Prop} {s : Shared}
theorem collect_tup {l : Addr} {vs : List Value} {Q : List Value → Shared → Prop} (hl : IsTup s.heap l vs.toArray)
    (h : Q vs { s with heap := (s.heap.push (seqObj "list" #[] 0)).update s.heap.objs.size (Obj.mapSeq (· ++ vs.toArray)) }) (hsz : vs.length ≤ sizeLine) :
    wpAny (model prog w) A (collect (.ref l)) Q E s := by
  obtain ⟨o, ho, hc, n, hd⟩ := id hl
  unfold collect
  refine wpAny_bind (wpAny_runValue (codeAny_builtin entry_proto_collect' ?_))
  show wpAny _ _ (do again (.builtin "list.__iadd__" ⟨[← newList [], .ref l], []⟩)) _ _ s
  refine wpAny_bind (wpAny_newList (wpAny_pure ⟨Code.quiet_builtin _ (by decide +kernel), codeAny_builtin entry_list_iadd' ?_⟩))
  show wpAny _ _ (Builtin.List.listExtendWith (.ref s.heap.objs.size) (.ref l) (.ref s.heap.objs.size)) _ _ { s with heap := s.heap.push (seqObj "list" #[] 0) }
  unfold Builtin.List.listExtendWith
  have ho' : (s.heap.push (seqObj "list" #[] 0)).get? l = some o := Heap.get?_push_of_some _ ho
  refine wpAny_bind (wpAny_typeOf (T := "tuple") ⟨o, ho', hc⟩ ?_)
  have ht : (Value.type "tuple" == Value.type "tuple") = true := by rfl
  rw [if_pos (by rw [ht]; simp)]
  refine wpAny_bind (listItems_at ho' hd ?_)
  refine wpAny_bind (listItems_at (xs := #[]) (n := 0) (Heap.get?_push_size _ rfl) rfl ?_)
  rw [if_neg (by simp)]
  refine wpAny_bind (listUpdate_at (xs := #[]) (n := 0) (Heap.get?_push_size _ rfl) rfl ?_ (Nat.zero_le _) (by show (#[] ++ vs.toArray).size ≤ sizeLine + 1; simp only [Array.size_append, List.size_toArray, List.length_nil]; omega))
  refine wpAny_pure ?_
  show wpAny (model prog w) A (do
      let o ← load s.heap.objs.size
      match o.data with
      | .seq xs _ => pure xs.toList
      | _ => unsupported "internal:collect") Q E { s with heap := (s.heap.push (seqObj "list" #[] 0)).update s.heap.objs.size (Obj.mapSeq (· ++ vs.toArray)) }
  refine wpAny_bind (wpAny_load (get?_update_seq (Heap.get?_push_size _ rfl) _) ?_)
  show wpAny _ _ (pure ((#[] : Array Value) ++ vs.toArray).toList) Q E _
  rw [show ((#[] : Array Value) ++ vs.toArray).toList = vs by simp]
  exact wpAny_pure h
theorem sorted_tupI {l : Addr} {vs : List Value} {ns : List Int} {Q : Value → Shared → Prop} (hl : IsTup s.heap l vs.toArray) (hI : IntsAre vs ns) (h64 : vs.length < 64)
    (h : ∀ (out : Array Value) (ns' : List Int), IntsAre out.toList ns' → ns'.Perm ns → ns'.Pairwise (· ≤ ·) → Q (.ref (s.heap.objs.size + 1)) { s with heap := sortedAll s.heap vs out }) :
    wpAny (model prog w) A (call (.builtin "sorted") [.ref l]) Q E s := by
  refine PySem.Calls.call_function_entry kind_sorted plain_sorted entry_sorted (args_sorted1 _) ?_
  unfold Builtin.«sorted»
  refine wpAny_bind (m := checkCount "sorted" 1 1 _) (wpAny_pure ?_)
  refine wpAny_bind (collect_tup hl ?_ (Nat.le_trans (Nat.le_of_lt h64) (by decide)))
  refine wpAny_bind (wpAny_newList ?_)
  have hsz : ((s.heap.push (seqObj "list" #[] 0)).update s.heap.objs.size (Obj.mapSeq (· ++ vs.toArray))).objs.size = s.heap.objs.size + 1 := by
    rw [Heap.size_update, size_push']
  have hoL : (((s.heap.push (seqObj "list" #[] 0)).update s.heap.objs.size (Obj.mapSeq (· ++ vs.toArray))).push (seqObj "list" vs.toArray 0)).get? (s.heap.objs.size + 1) = some (seqObj "list" vs.toArray 0) := by
    rw [← hsz]; exact Heap.get?_push_size _ rfl
  show wpAny _ _ _ _ _ { s with heap := ((s.heap.push (seqObj "list" #[] 0)).update s.heap.objs.size (Obj.mapSeq (· ++ vs.toArray))).push (seqObj "list" vs.toArray 0) }
  rw [hsz]
  refine wpAny_bind (wpAny_holding (wpAny_call_entry slot_list_sort ⟨_, hoL, rfl⟩ entry_list_sort (list_sort_tree hoL hI h64 fun out ns' a1 a2 a3 => ⟨_, rfl, ?_⟩) (args_list_sort _)))
  exact wpAny_pure ⟨_, rfl, h out ns' a1 a2 a3⟩
end
section
variable {X : Cx}
def rSortTup (K : PySem.W.Frag) : List V → Hp → VK → Prop := fun vs H Q => ∃ (a : Addr) (ns : List Int), vs = [V.ref a] ∧ SqT K H a (ns.map V.int) ∧ ns.length < 64 ∧ ∀ (ns' : List Int) (p : Addr), ns'.Perm ns → ns'.Pairwise (· ≤ ·) → H p = none → Q (.ref p) (upd H p (.lst (ns'.map V.int)))
theorem cr_sortedTup : CallR X (.builtin "sorted") (rSortTup X.K) := by
  intro pins s σ H vs us Q I r h
  obtain ⟨a, ns, rfl, hs, h64, q⟩ := h
  obtain ⟨its, rv, hl, _⟩ := I.tuple hs
  rw [Vals.ref1 r]
  have hi := rv.ints
  refine sorted_tupI hl hi (by rw [hi.length]; exact h64) fun out ns' h1 h2 h3 => ?_
  obtain ⟨ep, he'⟩ := PyProof.Rows.sortedAll_at s.heap its out
  have hlen : (ns'.map V.int).length ≤ sizeLine := by rw [List.length_map, h2.length_eq]; exact Nat.le_trans (Nat.le_of_lt h64) (by decide)
  exact ⟨.ref _, upd H (s.heap.objs.size + 1) (.lst (ns'.map V.int)), I.laid (t' := s.toks) (fun _ _ => PyProof.Rows.sortedAll_old) (Nat.le_succ _) ⟨hlen, out.toList, ep, vals_of_ints h1, he'⟩, rfl, q ns' _ h2 h3 (I.hok.fresh (Nat.le_succ _))⟩
end
end K33
/-! K33D1: the small checks, lots as numbers -/
namespace K33
open PySem PySem.Spec PyProof.Rows L2
section
variable {P : Program} {w : World} {K : PySem.W.Frag} {mg : Str → Option Value} {base : Heap}
def spIsInt : Sp := fun vs H Q _ => ∃ n : Int, vs = [.int n] ∧ Q (.bl true) H
theorem ok_is_integer (T : Tx K mg)  : FnOk P w K mg base CX0 1 T.d_is_integer.f T.d_is_integer.fd ["thing"] (spIsInt) := by
  refine T.d_is_integer.F.ok sc_is_integer (fun vs H Q E h => ?_) (fun cdv A outer s H vs Q E hr h => ?_)
  · obtain ⟨n, rfl, _⟩ := h; rfl
  obtain ⟨n, rfl, q⟩ := h
  refine ⟨_, (pss_one (ps_ret (pe_and (pe_callB call_isi (by rfl) T.b_isinstance (by decide +kernel) (pa_cons (pv 0) (pa_cons (pe_bltn (v := .ty "int") rfl T.b_int (by decide +kernel) rfl) pa_nil))) (pe_one (pe_not (pe_callB call_isi (by rfl) T.b_isinstance (by decide +kernel) (pa_cons (pv 0) (pa_cons (pe_bltn (v := .ty "bool") rfl T.b_bool (by decide +kernel) rfl) pa_nil)))))))), ?_⟩
  refine ⟨_, rfl, .int n, .ty "int", .type "int", .type "int", true, rfl, .ty _, .base (.int _), kit_ty (by decide +kernel), true, rfl, iteT ?_⟩
  exact ⟨_, rfl, .int n, .ty "bool", .type "int", .type "bool", false, rfl, .ty _, .base (.int _), kit_ty (by decide +kernel), false, rfl, q⟩
def spBetween : Sp := fun vs H Q _ => ∃ n a b : Int, vs = [.int n, .int a, .int b] ∧ Q (.bl (decide (a ≤ n ∧ n ≤ b))) H
theorem ok_is_between (T : Tx K mg)  : FnOk P w K mg base CX0 2 T.d_is_between.f T.d_is_between.fd ["thing", "least", "most"] (spBetween) := by
  refine T.d_is_between.F.ok sc_is_between (fun vs H Q E h => ?_) (fun cdv A outer s H vs Q E hr h => ?_)
  · obtain ⟨n, a, b, rfl, _⟩ := h; rfl
  obtain ⟨n, a, b, rfl, q⟩ := h
  have G_is_integer := ok_is_integer (P := P) (w := w) (base := base) T
  refine ⟨_, (pss_one (ps_ret (pe_and (pe_call G_is_integer (hr.mono (by decide)) rfl T.d_is_integer.g T.d_is_integer.F.kp (b_is_integer T.d_is_integer.F) .nil pass0 (pa_cons (pv 0) pa_nil)) (pe_one (pe_chain op_le op_le (pv 1) (pv 0) (pv 2)))))), ?_⟩
  refine ⟨_, rfl, n, rfl, true, rfl, iteT ?_⟩
  refine ⟨_, rfl, _, rfl, _, _, rfl, rfl, _, rfl, ?_⟩
  by_cases h1 : a ≤ n
  · have e : decide (a ≤ n ∧ n ≤ b) = decide (n ≤ b) := by simp [h1]
    rw [e] at q
    exact ite_d (fun _ => ⟨_, rfl, _, _, rfl, rfl, q⟩) fun z => absurd h1 z
  · have e : decide (a ≤ n ∧ n ≤ b) = false := by simp [h1]
    rw [e] at q
    exact ite_d (fun z => absurd z h1) fun _ => q
def spIndex : Sp := fun vs H Q _ => ∃ n m : Int, vs = [.int n, .int m] ∧ Q (.bl (decide (0 ≤ n ∧ n < m))) H
theorem ok_is_index (T : Tx K mg)  : FnOk P w K mg base CX0 3 T.d_is_index.f T.d_is_index.fd ["thing", "many"] (spIndex) := by
  refine T.d_is_index.F.ok sc_is_index (fun vs H Q E h => ?_) (fun cdv A outer s H vs Q E hr h => ?_)
  · obtain ⟨n, m, rfl, _⟩ := h; rfl
  obtain ⟨n, m, rfl, q⟩ := h
  have G_is_between := ok_is_between (P := P) (w := w) (base := base) T
  refine ⟨_, (pss_one (ps_ret (pe_call G_is_between (hr.mono (by decide)) rfl T.d_is_between.g T.d_is_between.F.kp (b_is_between T.d_is_between.F) .nil pass0 (pa_cons (pv 0) (pa_cons pe_int (pa_cons (pe_op op_sub (pv 1) pe_int) pa_nil)))))), ?_⟩
  refine ⟨_, rfl, _, rfl, _, _, rfl, rfl, n, 0, m - 1, rfl, ?_⟩
  have e : decide (0 ≤ n ∧ n ≤ m - 1) = decide (0 ≤ n ∧ n < m) := by
    congr 1
    exact propext ⟨fun h => ⟨h.1, by omega⟩, fun h => ⟨h.1, by omega⟩⟩
  rw [e]
  exact q
/-- a strictly ascending list of Nats below m -/
def Lot (m : Nat) (ns : List Nat) : Prop := ns.Pairwise (· < ·) ∧ ∀ n, n ∈ ns → n < m
def spLot : Sp := fun vs H Q _ => ∃ (a : Addr) (ns : List Nat) (m : Nat), vs = [.ref a, vn m] ∧ TupN H a ns ∧ Lot m ns ∧ Q (.bl true) H
theorem ok_is_lot (T : Tx K mg)  : FnOk P w K mg base CX0 4 T.d_is_lot.f T.d_is_lot.fd ["thing", "many"] (spLot) := by
  refine T.d_is_lot.F.ok sc_is_lot (fun vs H Q E h => ?_) (fun cdv A outer s H vs Q E hr h => ?_)
  · obtain ⟨a, ns, m, rfl, _⟩ := h; rfl
  obtain ⟨a, ns, m, rfl, ha, hl, q⟩ := h
  have G_is_index := ok_is_index (P := P) (w := w) (base := base) T
  refine ⟨_, (pss_cons (ps_if (pt_not (pt_val (pe_callB call_isi (by rfl) T.b_isinstance (by decide +kernel) (pa_cons (pv 0) (pa_cons (pe_bltn (v := .ty "tuple") rfl T.b_tuple (by decide +kernel) rfl) pa_nil))))) (pss_one (ps_ret pe_bl)) pss_nil)
  (pss_cons (ps_set (i := 2) sc_is_lot.nd rfl (Or.inl rfl) (pe_un un_neg pe_int))
  (pss_cons (ps_for PassesOwn.never rfl (pi_tup (pv 0)) (pg_name (i := 3) sc_is_lot.nd rfl (Or.inl rfl)) (pss_cons (ps_if (PW.pt (pw_or (pt_not (pt_val (pe_call G_is_index (hr.mono (by decide)) rfl T.d_is_index.g T.d_is_index.F.kp (b_is_index T.d_is_index.F) .nil pass0 (pa_cons (pv 3) (pa_cons (pv 1) pa_nil))))) (pw_or1 (pt_cmpR op_le (pv 3) (pv 2) (nomark _))))) (pss_one (ps_ret pe_bl)) pss_nil)
  (pss_one (ps_set (i := 2) sc_is_lot.nd rfl (Or.inl rfl) (pv 3)))))
  (pss_one (ps_ret pe_bl))))), ?_⟩
  refine ⟨_, rfl, .ref a, .ty "tuple", .type "tuple", .type "tuple", true, rfl, .ty _, .base (.tup ha), kit_ty (by decide +kernel), true, rfl, ?_⟩
  refine iteF ?_
  refine ⟨_, rfl, ?_⟩
  refine ⟨_, rfl, a, rfl, ⟨_, SqT.of ha⟩, for_tup (K := K) (a := a) (xs := ns.map vn) (fun i σ H' => H' = H ∧ ∃ (l : Int) (x : Option V), σ = [some (.ref a), some (vn m), some (.int l), x] ∧ (∀ n, n ∈ ns.drop i → l < n)) ⟨rfl, -1, none, rfl, fun n _ => by omega⟩ (fun i σ H' _ ⟨e, _⟩ => e ▸ SqT.of ha) ?_ ?_⟩
  · rintro i x σ H' hi ⟨rfl, l, y, rfl, hlt⟩
    obtain ⟨n, hn, rfl⟩ := map_at hi
    have hin : n ∈ ns := List.mem_of_getElem? hn
    have hlen : i < ns.length := (List.getElem?_eq_some_iff.mp hn).1
    have hd : ns.drop i = n :: ns.drop (i + 1) := by
      rw [List.drop_eq_getElem_cons hlen]
      congr 1
      exact (List.getElem?_eq_some_iff.mp hn).2
    have h1 : l < (n : Int) := hlt n (by rw [hd]; simp)
    refine ⟨_, rfl, _, rfl, n, m, rfl, _, rfl, ?_⟩
    have e1 : decide (0 ≤ (n : Int) ∧ (n : Int) < m) = true := decide_eq_true ⟨by omega, by have := hl.2 n hin; omega⟩
    rw [e1]
    refine iteF ?_
    refine ⟨_, rfl, _, rfl, _, _, rfl, rfl, _, rfl, ?_⟩
    refine ite_d (fun z => absurd h1 (by omega)) fun _ => ?_
    refine ⟨_, rfl, rfl, n, _, rfl, fun k hk => ?_⟩
    have hp : (n :: ns.drop (i + 1)).Pairwise (· < ·) := by rw [← hd]; exact hl.1.drop
    have := (List.pairwise_cons.mp hp).1 k hk
    omega
  · rintro σ H' ⟨rfl, _⟩
    exact q
/-! ### lots as numbers -/
def maskN (ns : List Nat) : Nat := ns.foldl (fun m i => m ||| 1 <<< i) 0
theorem maskN_snoc (ns : List Nat) (i : Nat) : maskN (ns ++ [i]) = maskN ns ||| 1 <<< i := by unfold maskN; rw [List.foldl_append]; rfl
theorem bitOr_nat (a b : Nat) : PySem.Builtin.bitOr (a : Int) (b : Int) = ((a ||| b : Nat) : Int) := by
  have := Bits.bitOr_pp (x := (a : Int)) (y := (b : Int)) (by omega) (by omega)
  simpa using this
theorem bitAnd_nat (a b : Nat) : PySem.Builtin.bitAnd (a : Int) (b : Int) = ((a &&& b : Nat) : Int) := by
  have := bitAnd_pp (x := (a : Int)) (y := (b : Int)) (by omega) (by omega)
  simpa using this
theorem shl_one (n : Nat) : (1 : Int) * (2 : Int) ^ ((n : Int)).toNat = ((1 <<< n : Nat) : Int) := by
  rw [Int.toNat_natCast, Int.one_mul, Nat.shiftLeft_eq, Nat.one_mul]
  exact (Int.natCast_pow 2 n).symm
def spMaskT : Sp := fun vs H Q _ => ∃ (a : Addr) (ns : List Nat), vs = [.ref a] ∧ TupN H a ns ∧ (∀ n, n ∈ ns → n ≤ 1000) ∧ Q (vn (maskN ns)) H
theorem ok_mask_of_T (T : Tx K mg)  : FnOk P w K mg base CX0 1 T.d_mask_of.f T.d_mask_of.fd ["lot"] (spMaskT) := by
  refine T.d_mask_of.F.ok sc_mask_of (fun vs H Q E h => ?_) (fun cdv A outer s H vs Q E hr h => ?_)
  · obtain ⟨a, ns, rfl, _⟩ := h; rfl
  obtain ⟨a, ns, rfl, ha, hl, q⟩ := h
  refine ⟨_, (pss_cons (ps_set (i := 1) sc_mask_of.nd rfl (Or.inl rfl) pe_int)
  (pss_cons (ps_for PassesOwn.never rfl (pi_tup (pv 0)) (pg_name (i := 2) sc_mask_of.nd rfl (Or.inl rfl)) (pss_one (ps_set (i := 1) sc_mask_of.nd rfl (Or.inl rfl) (pe_op op_or (pv 1) (pe_op op_shl pe_int (pv 2))))))
  (pss_one (ps_ret (pv 1))))), ?_⟩
  refine ⟨_, rfl, a, rfl, ⟨_, SqT.of ha⟩, for_tup (K := K) (a := a) (xs := ns.map vn) (fun i σ H' => H' = H ∧ ∃ (x : Option V), σ = [some (.ref a), some (vn (maskN (ns.take i))), x]) ⟨rfl, none, rfl⟩ (fun i σ H' _ ⟨e, _⟩ => e ▸ SqT.of ha) ?_ ?_⟩
  · rintro i x σ H' hi ⟨rfl, y, rfl⟩
    obtain ⟨n, hn, rfl⟩ := map_at hi
    refine ⟨_, rfl, _, rfl, _, _, rfl, rfl, ⟨by omega, by have := hl n (List.mem_of_getElem? hn); omega, by decide⟩, _, _, rfl, rfl, ?_⟩
    refine ⟨rfl, some (vn n), ?_⟩
    rw [take_more hn, maskN_snoc]
    dsimp only
    rw [shl_one, bitOr_nat]
    rfl
  · rintro σ H' ⟨rfl, y, rfl⟩
    rw [List.length_map, List.take_length]
    exact ⟨_, rfl, q⟩
def spMaskL : Sp := fun vs H Q _ => ∃ (a : Addr) (ns : List Nat), vs = [.ref a] ∧ H a = some (.lst (ns.map vn)) ∧ (∀ n, n ∈ ns → n ≤ 1000) ∧ Q (vn (maskN ns)) H
theorem ok_mask_of_L (T : Tx K mg)  : FnOk P w K mg base CX0 1 T.d_mask_of.f T.d_mask_of.fd ["lot"] (spMaskL) := by
  refine T.d_mask_of.F.ok sc_mask_of (fun vs H Q E h => ?_) (fun cdv A outer s H vs Q E hr h => ?_)
  · obtain ⟨a, ns, rfl, _⟩ := h; rfl
  obtain ⟨a, ns, rfl, ha, hl, q⟩ := h
  refine ⟨_, (pss_cons (ps_set (i := 1) sc_mask_of.nd rfl (Or.inl rfl) pe_int)
  (pss_cons (ps_for PassesOwn.never rfl (pi_list (pv 0)) (pg_name (i := 2) sc_mask_of.nd rfl (Or.inl rfl)) (pss_one (ps_set (i := 1) sc_mask_of.nd rfl (Or.inl rfl) (pe_op op_or (pv 1) (pe_op op_shl pe_int (pv 2))))))
  (pss_one (ps_ret (pv 1))))), ?_⟩
  refine ⟨_, rfl, a, rfl, ⟨_, SqL.of ha⟩, for_list (K := K) (a := a) (xs := ns.map vn) (fun i σ H' => H' = H ∧ ∃ (x : Option V), σ = [some (.ref a), some (vn (maskN (ns.take i))), x]) ⟨rfl, none, rfl⟩ (fun i σ H' _ ⟨e, _⟩ => e ▸ SqL.of ha) ?_ ?_⟩
  · rintro i x σ H' hi ⟨rfl, y, rfl⟩
    obtain ⟨n, hn, rfl⟩ := map_at hi
    refine ⟨_, rfl, _, rfl, _, _, rfl, rfl, ⟨by omega, by have := hl n (List.mem_of_getElem? hn); omega, by decide⟩, _, _, rfl, rfl, ?_⟩
    refine ⟨rfl, some (vn n), ?_⟩
    rw [take_more hn, maskN_snoc]
    dsimp only
    rw [shl_one, bitOr_nat]
    rfl
  · rintro σ H' ⟨rfl, y, rfl⟩
    rw [List.length_map, List.take_length]
    exact ⟨_, rfl, q⟩
end
end K33
/-! K33D2: the lot of a number's digits; where arrows lead -/
namespace K33
open PySem PySem.Spec PyProof.Rows L2
/-- the ascending list of the binary digits of m -/
structure IsBits (l : List Nat) (m : Nat) : Prop where
  srt : l.Pairwise (· < ·)
  mem : ∀ i, i ∈ l ↔ m.testBit i = true
theorem bit_test (m k : Nat) : (PySem.Builtin.bitAnd ((m >>> k : Nat) : Int) 1 != 0) = m.testBit k := by
  have e : PySem.Builtin.bitAnd ((m >>> k : Nat) : Int) ((1 : Nat) : Int) = (((m >>> k) &&& 1 : Nat) : Int) := bitAnd_nat _ _
  rw [show ((1 : Nat) : Int) = 1 from rfl] at e
  rw [e, Nat.testBit_eq_decide_div_mod_eq, Nat.and_one_is_mod, Nat.shiftRight_eq_div_pow]
  by_cases h : m / 2 ^ k % 2 = 1
  · simp [h]
  · have : m / 2 ^ k % 2 = 0 := by omega
    simp [this]
theorem bit_tst {x k : Nat} : (PySem.Builtin.bitAnd ((x : Nat) / 2 ^ ((k : Int)).toNat : Int) 1 != 0) = x.testBit k := by
  rw [← bit_test x k, Nat.shiftRight_eq_div_pow, Int.toNat_natCast]
  congr 2
theorem shr_next (m k : Nat) : ((m >>> k : Nat) : Int) / 2 ^ ((1 : Int)).toNat = ((m >>> (k + 1) : Nat) : Int) := by
  rw [Nat.shiftRight_succ]
  simp
section
variable {P : Program} {w : World} {K : PySem.W.Frag} {mg : Str → Option Value} {base : Heap}
def spLotOf : Sp := fun vs H Q _ => ∃ m : Nat, vs = [vn m] ∧ m < 2 ^ 100 ∧ ∀ p H' l, IsBits l m → Kp [] H H' → H p = none → H' p = some (.tup (l.map vn)) → Q (.ref p) H'
theorem ok_lot_of (T : Tx K mg)  : FnOk P w K mg base CX0 1 T.d_lot_of.f T.d_lot_of.fd ["mask"] (spLotOf) := by
  refine T.d_lot_of.F.ok sc_lot_of (fun vs H Q E h => ?_) (fun cdv A outer s H vs Q E hr h => ?_)
  · obtain ⟨m, rfl, _⟩ := h; rfl
  obtain ⟨m, rfl, hm, q⟩ := h
  refine ⟨_, (pss_cons (ps_set (i := 1) sc_lot_of.nd rfl (Or.inl rfl) (pe_lst pa_nil))
  (pss_cons (ps_set (i := 2) sc_lot_of.nd rfl (Or.inl rfl) pe_int)
  (pss_cons (ps_while PassesOwn.never (pt_cmpR op_gt (pv 0) pe_int (nomark _)) (pss_cons (ps_if (pt_truth (pe_op op_and (pv 0) pe_int) (by intro _; rfl)) (pss_one (ps_expr (pe_bm PySem.F.plainAttrs_list PySem.F.slot_list_append PySem.F.type_list_append mt_append (pv 1) (pa_cons (pv 2) pa_nil)))) pss_nil)
  (pss_cons (ps_set (i := 0) sc_lot_of.nd rfl (Or.inl rfl) (pe_op op_shr (pv 0) pe_int))
  (pss_one (ps_aug (i := 2) sc_lot_of.nd rfl (Or.inl rfl) pe_int ip_add)))))
  (pss_one (ps_ret (pe_callTy call_tuple_of (by rfl) T.b_tuple (by decide +kernel) (pa_cons (pv 1) pa_nil))))))), ?_⟩
  refine ⟨Nat.zero_le _, fun p np => ?_⟩
  refine ⟨fun n σ H' => ∃ k acc, σ = [some (vn (m >>> k)), some (.ref p), some (vn k)] ∧ n = m >>> k ∧ acc.Pairwise (· < ·) ∧ (∀ i, i ∈ acc ↔ i < k ∧ m.testBit i = true) ∧ acc.length ≤ k ∧ Kp [] H H' ∧ H' p = some (.lst (acc.map vn)),
    ⟨m, 0, [], rfl, rfl, List.Pairwise.nil, fun i => by simp, Nat.zero_le _, Kp.mk_new np, upd_same⟩, ?_⟩
  rintro n σ H' ⟨k, acc, rfl, rfl, hs, hmem, hlen, kp, hp⟩
  refine ⟨_, rfl, _, _, rfl, rfl, _, rfl, ?_⟩
  refine ite_d (fun hpos => ⟨fun σ' H' => ∃ m', m' < m >>> k ∧ _, fun _ _ h => h, ?_⟩) (fun hz => ?_)
  · have hk : k < 100 := by
      refine Classical.byContradiction fun hge => ?_
      have : m >>> k = 0 := by
        rw [Nat.shiftRight_eq_div_pow]
        exact Nat.div_eq_of_lt (Nat.lt_of_lt_of_le hm (Nat.pow_le_pow_right (by decide) (by omega)))
      rw [this] at hpos
      exact absurd hpos (by decide)
    have hlt : m >>> (k + 1) < m >>> k := by
      rw [Nat.shiftRight_succ]
      exact Nat.div_lt_self (by omega) (by decide)
    refine ⟨_, rfl, _, _, rfl, rfl, _, rfl, ?_⟩
    refine ite_b (fun hb => ?_) (fun hb => ?_)
    · have hb' : m.testBit k = true := (bit_test m k).symm.trans hb
      refine ⟨_, rfl, .inl ⟨rfl, _, SqL.of hp⟩, _, rfl, p, _, _, rfl, rfl, hp, szl (by rw [List.length_map]; omega), ?_⟩
      refine ⟨_, rfl, _, _, rfl, rfl, (by show (0 : Int) ≤ 1; decide), ?_⟩
      refine ⟨_, rfl, _, _, rfl, rfl, ?_⟩
      refine ⟨_, hlt, k + 1, acc ++ [k], ?_, rfl, ?_, ?_, ?_, kp.put hp trivial (.inr np), ?_⟩
      · dsimp only
        rw [shr_next]; rfl
      · rw [List.pairwise_append]
        exact ⟨hs, by simp, fun a ha b hb2 => by simp at hb2; subst hb2; exact ((hmem a).mp ha).1⟩
      · intro i
        rw [List.mem_append, hmem i, List.mem_singleton]
        constructor
        · rintro (⟨h1, h2⟩ | rfl)
          · exact ⟨by omega, h2⟩
          · exact ⟨by omega, hb'⟩
        · rintro ⟨h1, h2⟩
          by_cases e : i = k
          · exact .inr e
          · exact .inl ⟨by omega, h2⟩
      · simp; omega
      · rw [upd_same, List.map_append]; rfl
    · have hb' : m.testBit k = false := (bit_test m k).symm.trans hb
      refine ⟨_, rfl, _, _, rfl, rfl, (by show (0 : Int) ≤ 1; decide), ?_⟩
      refine ⟨_, rfl, _, _, rfl, rfl, ?_⟩
      refine ⟨_, hlt, k + 1, acc, ?_, rfl, hs, ?_, by omega, kp, hp⟩
      · dsimp only
        rw [shr_next]; rfl
      · intro i
        rw [hmem i]
        constructor
        · rintro ⟨h1, h2⟩; exact ⟨by omega, h2⟩
        · rintro ⟨h1, h2⟩
          have : i ≠ k := fun e => by rw [e, hb'] at h2; cases h2
          exact ⟨by omega, h2⟩
  · have hz' : m >>> k = 0 := by
      revert hz
      generalize m >>> k = y
      omega
    refine ⟨_, rfl, p, _, rfl, .inl ⟨SqL.of hp, fun t nt => ?_⟩⟩
    refine q t _ acc ⟨hs, fun i => ?_⟩ (kp.new nt) (kp.free nt) upd_same
    rw [hmem i]
    constructor
    · exact fun h => h.2
    · intro h
      refine ⟨?_, h⟩
      refine Classical.byContradiction fun hge => ?_
      have : (m >>> k).testBit (i - k) = true := by
        rw [Nat.testBit_shiftRight, show k + (i - k) = i by omega]; exact h
      rw [hz'] at this
      simp at this
end
end K33
/-! K33D3A: led_to, its data -/
namespace K33
open PySem PySem.Spec PyProof.Rows L2
theorem walk_enumT {K : PySem.W.Frag} {a : Addr} {xs : List V} : Walk (IteT K a) xs.length (fun H => SqT K H a xs) (YPair (fun i => some (.int (i : Nat))) (fun i => xs[i]?)) := by
  refine ⟨fun i _ hi q => ⟨xs, xs[i], q, by simp [hi]⟩, fun _ q => ⟨xs, q, Nat.le_refl _⟩, fun i H v H' _ q y => ?_⟩
  obtain ⟨T, x, h1, h2, h3, h4⟩ := y
  exact ⟨T, .int (i : Nat), x, h1, h2, h3, rfl, h4 xs q⟩
/-- what the dict of heads holds of the arrows ps, let by l: f tells each tail's list -/
structure HD (H0 H : Hp) (d : Addr) (kvs : List (Key × V)) (f : Nat → Option Addr) (ps : List (Nat × Nat)) (l : Nat) : Prop where
  len : kvs.length ≤ ps.length
  val : ∀ t : Nat, valV kvs (.inl (t : Int)) = (f t).map V.ref
  at_ : ∀ t a, f t = some a → ∃ hs : List Nat, H a = some (.lst (hs.map vn)) ∧ hs.length ≤ ps.length ∧ ∀ h, h ∈ hs ↔ (t, h) ∈ ps ∧ l.testBit h = true
  no : ∀ t, f t = none → ∀ h, (t, h) ∈ ps → ¬ l.testBit h = true
  inj : ∀ t t' a, f t = some a → f t' = some a → t = t'
  new : ∀ t a, f t = some a → H0 a = none
  dn : H0 d = none
  dk : H d = some (.dK kvs)
/-- how many of the first hundred digits lack -/
def lackN (r : Nat) : Nat := ((List.range 100).filter fun v => !r.testBit v).length
theorem filt_len {p : Nat → Bool} {l : List Nat} {q : Nat → Bool} (h : ∀ x, x ∈ l → q x = true → p x = true) : (l.filter q).length ≤ (l.filter p).length := by
  induction l with
  | nil => exact Nat.le_refl _
  | cons x l ih =>
    have ih' := ih fun y hy => h y (List.mem_cons_of_mem _ hy)
    rw [List.filter_cons, List.filter_cons]
    by_cases hq : q x = true
    · have hp := h x List.mem_cons_self hq
      simp only [hq, hp, if_true, List.length_cons]; omega
    · by_cases hp : p x = true
      · simp only [hq, hp, if_true, List.length_cons, Bool.false_eq_true, if_false]; omega
      · simp only [hq, hp, Bool.false_eq_true, if_false]; exact ih'
theorem filt_lt {p q : Nat → Bool} : ∀ {l : List Nat} {y : Nat}, y ∈ l → (∀ x, x ∈ l → q x = true → p x = true) → p y = true → q y = false → (l.filter q).length < (l.filter p).length
  | [], _, hy, _, _, _ => by cases hy
  | x :: l, y, hy, h, h1, h2 => by
    rw [List.filter_cons, List.filter_cons]
    rcases List.mem_cons.mp hy with rfl | hy
    · have := filt_len (p := p) (q := q) (l := l) fun z hz => h z (List.mem_cons_of_mem _ hz)
      simp only [h1, h2, if_true, List.length_cons, Bool.false_eq_true, if_false]; omega
    · have ih := filt_lt hy (fun z hz => h z (List.mem_cons_of_mem _ hz)) h1 h2
      by_cases hq : q x = true
      · have hp := h x List.mem_cons_self hq
        simp only [hq, hp, if_true, List.length_cons]; omega
      · by_cases hp : p x = true
        · simp only [hq, hp, if_true, List.length_cons, Bool.false_eq_true, if_false]; omega
        · simp only [hq, hp, Bool.false_eq_true, if_false]; exact ih
theorem or_bit (r v i : Nat) : (r ||| 1 <<< v).testBit i = (r.testBit i || decide (i = v)) := by
  rw [Nat.testBit_or, Nat.one_shiftLeft, Nat.testBit_two_pow]
  congr 1
  by_cases h : i = v
  · simp [h]
  · simp [h, Ne.symm h]
theorem lack_or {r v : Nat} (hv : v < 100) (h : r.testBit v = false) : lackN (r ||| 1 <<< v) + 1 ≤ lackN r := by
  unfold lackN
  refine filt_lt (y := v) (List.mem_range.mpr hv) (fun x _ hx => ?_) (by simp [h]) (by simp [or_bit])
  rw [or_bit] at hx
  simp at hx ⊢
  exact hx.1
theorem lack_le (r : Nat) : lackN r ≤ 100 := by
  unfold lackN
  have := List.length_filter_le (fun v => !r.testBit v) (List.range 100)
  simpa using this
theorem asc_len : ∀ {l : List Nat} {n : Nat}, l.Pairwise (· < ·) → (∀ x, x ∈ l → x < n) → l.length ≤ n := by
  have key : ∀ (l : List Nat) (lo n : Nat), l.Pairwise (· < ·) → (∀ x, x ∈ l → lo ≤ x ∧ x < n) → l.length + lo ≤ n ∨ l = [] := by
    intro l
    induction l with
    | nil => intro lo n _ _; exact .inr rfl
    | cons x l ih =>
      intro lo n hp hx
      obtain ⟨h1, h2⟩ := List.pairwise_cons.mp hp
      have hx0 := hx x List.mem_cons_self
      rcases ih (x + 1) n h2 (fun y hy => ⟨h1 y hy, (hx y (List.mem_cons_of_mem _ hy)).2⟩) with q | q
      · left; simp only [List.length_cons]; omega
      · left; subst q; simp; omega
  intro l n hp hx
  rcases key l 0 n hp (fun x h => ⟨Nat.zero_le _, hx x h⟩) with q | q
  · omega
  · subst q; exact Nat.zero_le _
end K33
/-! K33D3T: led_to -/
namespace K33
open PySem PySem.Spec PyProof.Rows L2
section
variable {P : Program} {w : World} {K : PySem.W.Frag} {mg : Str → Option Value} {base : Heap}
/-- the places from begin b on, by arrows ps into places that l lets -/
def spLedT : Sp := fun vs H Q _ => ∃ (a : Addr) (ps : List (Nat × Nat)) (b l : Nat), vs = [.ref a, vn b, vn l, vn 0] ∧ TupP H a ps ∧ ps.length ≤ 1000 ∧ (∀ p, p ∈ ps → p.1 < 100 ∧ p.2 < 100) ∧ b < 2 ^ 100 ∧
  ∀ (r : Nat) H', (∀ v, r.testBit v = true ↔ Rch ps (fun v => l.testBit v = true) (fun v => b.testBit v = true) v) → r < 2 ^ 100 → Kp [] H H' → Q (vn r) H'
theorem ok_led_to_T (T : Tx K mg)  : FnOk P w K mg base CX0 2 T.d_led_to.f T.d_led_to.fd ["arrows", "begin", "let", "barred"] (spLedT) := by
  refine T.d_led_to.F.ok sc_led_to (fun vs H Q E h => ?_) (fun cdv A outer s H vs Q E hr h => ?_)
  · obtain ⟨a, ps, b, l, rfl, _⟩ := h; rfl
  obtain ⟨a, ps, b, l, rfl, ⟨vs, ha, pv0⟩, hlen, hlt, hb, q⟩ := h
  have hu := hu_of hr
  have G_lot_of := ok_lot_of (P := P) (w := w) (base := base) T
  refine ⟨_, (pss_cons (ps_set (i := 4) sc_led_to.nd rfl (Or.inl rfl) pe_dnewK)
  (pss_cons (ps_for PassesOwn.never rfl (pi_enumT rfl T.b_enumerate (pa_cons (pv 0) pa_nil)) (pg_tup rfl (pgs_cons (pg_name (i := 5) sc_led_to.nd rfl (Or.inl rfl)) (pgs_cons (pg_tup rfl (pgs_cons (pg_name (i := 6) sc_led_to.nd rfl (Or.inl rfl)) (pgs_cons (pg_name (i := 7) sc_led_to.nd rfl (Or.inl rfl)) pgs_nil))) pgs_nil))) (pss_one (ps_if (PW.pt (pw_and (pt_truth (pe_op op_and (pe_op op_shr (pv 2) (pv 7)) pe_int) (by intro _; rfl)) (pw_and1 (pt_not (pt_truth (pe_op op_and (pe_op op_shr (pv 3) (pv 5)) pe_int) (by intro _; rfl)))))) (pss_one (ps_expr (pe_bm PySem.F.plainAttrs_list PySem.F.slot_list_append PySem.F.type_list_append mt_append (pe_dsetd (pv 4) (pv 6) (pe_lst pa_nil) ⟨rfl, rfl, rfl, rfl⟩) (pa_cons (pv 7) pa_nil)))) pss_nil)))
  (pss_cons (ps_set (i := 8) sc_led_to.nd rfl (Or.inl rfl) (pv 1))
  (pss_cons (ps_set (i := 9) sc_led_to.nd rfl (Or.inl rfl) (pe_callTy call_list_of (by rfl) T.b_list (by decide +kernel) (pa_cons (pe_call G_lot_of (hr.mono (by decide)) rfl T.d_lot_of.g T.d_lot_of.F.kp (b_lot_of T.d_lot_of.F) .nil pass0 (pa_cons (pv 1) pa_nil)) pa_nil)))
  (pss_cons (ps_while PassesOwn.never (pt_cmpR op_gt (pe_callB call_len_seq (by rfl) T.b_len (by decide +kernel) (pa_cons (pv 9) pa_nil)) pe_int (nomark _)) (pss_one (ps_for PassesOwn.never rfl (pi_list (pe_dget2 hu (pv 4) (pe_bm0 PySem.F.plainAttrs_list PySem.F.slot_list_pop PySem.F.type_list_pop mt_pop (pv 9)) (pe_lst pa_nil) ⟨rfl, rfl, rfl, rfl⟩)) (pg_name (i := 7) sc_led_to.nd rfl (Or.inl rfl)) (pss_one (ps_if (pt_not (pt_truth (pe_op op_and (pe_op op_shr (pv 8) (pv 7)) pe_int) (by intro _; rfl))) (pss_cons (ps_set (i := 8) sc_led_to.nd rfl (Or.inl rfl) (pe_op op_or (pv 8) (pe_op op_shl pe_int (pv 7))))
  (pss_one (ps_expr (pe_bm PySem.F.plainAttrs_list PySem.F.slot_list_append PySem.F.type_list_append mt_append (pv 9) (pa_cons (pv 7) pa_nil))))) pss_nil)))))
  (pss_one (ps_ret (pv 8)))))))), ?_⟩
  -- heads = {}
  intro d nd
  -- for arrow, (tail, head) in enumerate(arrows)
  refine ⟨_, rfl, a, vs, rfl, SqT.of (by rw [upd_ne (ne_of_none ha nd)]; exact ha), for_it walk_enumT (fun i σ H' => ∃ (kvs : List (Key × V)) (f : Nat → Option Addr) (x1 x2 x3 : Option V), σ = [some (.ref a), some (vn b), some (vn l), some (vn 0), some (.ref d), x1, x2, x3, none, none] ∧ HD H H' d kvs f (ps.take i) l ∧ Kp [] H H')
    ⟨[], fun _ => none, none, none, none, rfl, ⟨Nat.zero_le _, fun _ => rfl, fun _ _ h => (nomatch h), fun _ _ _ h => (by simp at h), fun _ _ _ h => (nomatch h), fun _ _ h => (nomatch h), nd, upd_same⟩, Kp.mk_new nd⟩ (fun i σ H' _ ⟨_, _, _, _, _, _, _, kp⟩ => SqT.of (kp.get _ _ ha (by simp))) ?_ ?_⟩
  · rintro i x σ H1 H2 hi ⟨kvs, f, x1, x2, x3, rfl, hd, kp⟩ ⟨TT, i0, y, rfl, nT, rfl, e1, e2⟩
    cases e1
    obtain ⟨p, pa, hp, rfl, hpa⟩ := pv0.at_ e2
    have hpm : p ∈ ps := List.mem_of_getElem? hp
    have hpa1 := kp.tup _ _ hpa
    have k2 : Kp [] H (upd H1 TT (.tup [.int (i : Nat), .ref pa])) := kp.new nT
    refine ⟨TT, _, rfl, SqT.of upd_same, rfl, _, _, rfl, _, _, rfl, pa, _, rfl, SqT.of (k2.tup _ _ hpa), rfl, _, _, rfl, _, _, rfl, rfl, rfl, ?_⟩
    -- if let >> head & 1 and (not barred >> arrow & 1)
    refine ⟨_, rfl, _, rfl, _, _, rfl, rfl, (by show (0 : Int) ≤ _; omega), _, _, rfl, rfl, _, rfl, ?_⟩
    have tk := take_more hp
    have hd2 : HD H (upd H1 TT (.tup [.int (i : Nat), .ref pa])) d kvs f (ps.take i) l := ⟨hd.len, hd.val, fun t c e => let ⟨hs, h1, h2⟩ := hd.at_ t c e; ⟨hs, by rw [upd_ne (ne_of_none h1 nT)]; exact h1, h2⟩, hd.no, hd.inj, hd.new, hd.dn, by rw [upd_ne (ne_of_none hd.dk nT)]; exact hd.dk⟩
    have skip : ¬ l.testBit p.2 = true → HD H (upd H1 TT (.tup [.int (i : Nat), .ref pa])) d kvs f (ps.take (i + 1)) l := fun hn => by
      have mem : ∀ t h, l.testBit h = true → ((t, h) ∈ ps.take (i + 1) ↔ (t, h) ∈ ps.take i) := fun t h hh => by
        rw [tk, List.mem_append, List.mem_singleton]
        constructor
        · rintro (z | z)
          · exact z
          · exact absurd (by rw [← z]; exact hh) hn
        · exact .inl
      have ln : (ps.take i).length ≤ (ps.take (i + 1)).length := by rw [tk]; simp
      refine ⟨Nat.le_trans hd2.len ln, hd2.val, fun t c e => ?_, fun t e h hm hh => hd2.no t e h ((mem t h hh).mp hm) hh, hd2.inj, hd2.new, hd2.dn, hd2.dk⟩
      obtain ⟨hs, h1, h2, h3⟩ := hd2.at_ t c e
      refine ⟨hs, h1, Nat.le_trans h2 ln, fun h => ?_⟩
      rw [h3 h]
      exact ⟨fun ⟨z1, z2⟩ => ⟨(mem t h z2).mpr z1, z2⟩, fun ⟨z1, z2⟩ => ⟨(mem t h z2).mp z1, z2⟩⟩
    refine ite_b (fun hb1 => ?_) (fun hb1 => ?_)
    · rw [bit_tst] at hb1
      refine ⟨_, rfl, _, rfl, _, _, rfl, rfl, (by show (0 : Int) ≤ _; omega), _, _, rfl, rfl, _, rfl, ?_⟩
      have z0 := bit_tst (x := 0) (k := i)
      rw [Nat.zero_testBit] at z0
      refine ite_b (fun _ => ?_) (fun hb2 => ?_)
      · -- heads.setdefault(tail, []).append(head)
        refine ⟨_, rfl, d, rfl, .inl ⟨_, .inl hd2.dk⟩, _, rfl, Nat.zero_le _, fun z nz => ?_⟩
        have k3 : Kp [] H _ := k2.new (o := .lst []) nz
        have hd3 : HD H (upd (upd H1 TT (.tup [.int (i : Nat), .ref pa])) z (.lst [])) d kvs f (ps.take i) l := ⟨hd2.len, hd2.val, fun t c e => let ⟨hs, h1, h2⟩ := hd2.at_ t c e; ⟨hs, by rw [upd_ne (ne_of_none h1 nz)]; exact h1, h2⟩, hd2.no, hd2.inj, hd2.new, hd2.dn, by rw [upd_ne (ne_of_none hd2.dk nz)]; exact hd2.dk⟩
        have hz3 : (upd (upd H1 TT (.tup [.int (i : Nat), .ref pa])) z (.lst [])) z = some (.lst []) := upd_same
        have z0 : H z = none := k2.free nz
        have zf : ∀ t, f t ≠ some z := fun t e => by
          obtain ⟨hs, h1, _⟩ := hd2.at_ t z e
          rw [nz] at h1; cases h1
        have hdz : d ≠ z := ne_of_none hd2.dk nz
        generalize upd (upd H1 TT (.tup [.int (i : Nat), .ref pa])) z (.lst []) = H3 at k3 hd3 hz3 ⊢
        have szk : kvs.length < sizeLine := szl (by have := hd.len; rw [List.length_take] at this; omega)
        refine ⟨kvs, Sum.inl (p.1 : Int), hd3.dk, rfl, szk, fun v hv => ?_, fun hv => ?_⟩
        · -- a list stands there
          rw [hd3.val] at hv
          cases e : f p.1 with
          | none => rw [e] at hv; cases hv
          | some c =>
            rw [e] at hv
            cases hv
            obtain ⟨hs, h1, h2, h3⟩ := hd3.at_ p.1 c e
            have hdc : d ≠ c := ne_of hd3.dk h1 (by intro z; cases z)
            refine ⟨.inl ⟨rfl, _, SqL.of h1⟩, _, rfl, c, _, _, rfl, rfl, h1, szl (by rw [List.length_map]; rw [List.length_take] at h2; omega), ?_⟩
            refine ⟨kvs, f, _, _, _, rfl, ⟨?_, hd3.val, fun t c' e' => ?_, fun t e' h hm hh => ?_, hd3.inj, hd3.new, hd3.dn, by rw [upd_ne hdc]; exact hd3.dk⟩, k3.put h1 trivial (.inr (hd3.new _ _ e))⟩
            · have := hd3.len; rw [tk, List.length_append]; omega
            · by_cases et : t = p.1
              · subst et
                rw [e] at e'
                cases e'
                refine ⟨hs ++ [p.2], by rw [upd_same, List.map_append]; rfl, by rw [tk]; simp; have := h2; rw [List.length_take] at this; omega, fun h => ?_⟩
                rw [List.mem_append, h3 h, List.mem_singleton, tk, List.mem_append, List.mem_singleton]
                constructor
                · rintro (⟨z1, z2⟩ | rfl)
                  · exact ⟨.inl z1, z2⟩
                  · exact ⟨.inr rfl, hb1⟩
                · rintro ⟨z1 | z1, z2⟩
                  · exact .inl ⟨z1, z2⟩
                  · exact .inr (by rw [← z1])
              · have hcc : c' ≠ c := fun z => et (hd3.inj t p.1 c (by rw [← z]; exact e') e)
                obtain ⟨hs', g1, g2, g3⟩ := hd3.at_ t c' e'
                refine ⟨hs', by rw [upd_ne hcc]; exact g1, by rw [tk, List.length_append]; omega, fun h => ?_⟩
                rw [g3 h, tk, List.mem_append, List.mem_singleton]
                constructor
                · exact fun ⟨z1, z2⟩ => ⟨.inl z1, z2⟩
                · rintro ⟨z1 | z1, z2⟩
                  · exact ⟨z1, z2⟩
                  · exact absurd (congrArg Prod.fst z1) et
            · rw [tk, List.mem_append, List.mem_singleton] at hm
              rcases hm with z1 | z1
              · exact hd3.no t e' h z1 hh
              · have : t = p.1 := congrArg Prod.fst z1
                subst this
                rw [e] at e'; cases e'
        · -- a new list
          rw [hd3.val] at hv
          have ef : f p.1 = none := by
            cases e : f p.1 with
            | none => rfl
            | some c => rw [e] at hv; cases hv
          have hz4 : (upd H3 d (.dK (putK kvs (Sum.inl (p.1 : Int)) (.ref z)))) z = some (.lst []) := by rw [upd_ne hdz.symm]; exact hz3
          refine ⟨.inl ⟨rfl, _, SqL.of hz4⟩, _, rfl, z, _, _, rfl, rfl, hz4, (by show (0 : Nat) < sizeLine; exact szl (by decide)), ?_⟩
          have nv : valV kvs (Sum.inl (p.1 : Int)) = none := by rw [hd3.val, ef]; rfl
          have k5 : Kp [] H (upd (upd H3 d (.dK (putK kvs (Sum.inl (p.1 : Int)) (.ref z)))) z (.lst ([] ++ [vn p.2]))) := (k3.put hd3.dk trivial (.inr hd3.dn)).put hz4 trivial (.inr z0)
          refine ⟨putK kvs (Sum.inl (p.1 : Int)) (.ref z), fun t => if t = p.1 then some z else f t, _, _, _, rfl, ⟨?_, fun t => ?_, fun t c' e' => ?_, fun t e' h hm hh => ?_, fun t t' c e1 e2 => ?_, fun t c e1 => ?_, hd3.dn, by rw [upd_ne hdz, upd_same]⟩, k5⟩
          · rw [putK_new _ nv, List.length_append, tk, List.length_append]
            have := hd3.len
            simp only [List.length_singleton]; omega
          · rw [valV_put]
            by_cases et : t = p.1
            · subst et; simp
            · have : ¬ (Sum.inl (t : Int) : Key) = Sum.inl (p.1 : Int) := fun z => et (by have := Sum.inl.inj z; omega)
              rw [if_neg this, if_neg et]; exact hd3.val t
          · by_cases et : t = p.1
            · subst et
              rw [if_pos rfl] at e'
              cases e'
              refine ⟨[p.2], by rw [upd_same]; rfl, by rw [tk]; simp, fun h => ?_⟩
              rw [List.mem_singleton, tk, List.mem_append, List.mem_singleton]
              constructor
              · rintro rfl; exact ⟨.inr rfl, hb1⟩
              · rintro ⟨z1 | z1, z2⟩
                · exact absurd z2 (hd3.no _ ef h z1)
                · rw [← z1]
            · rw [if_neg et] at e'
              have hcz : c' ≠ z := fun q => zf t (q ▸ e')
              obtain ⟨hs', g1, g2, g3⟩ := hd3.at_ t c' e'
              have hcd : c' ≠ d := ne_of g1 hd3.dk (by intro z; cases z)
              refine ⟨hs', by rw [upd_ne hcz, upd_ne hcd]; exact g1, by rw [tk, List.length_append]; omega, fun h => ?_⟩
              rw [g3 h, tk, List.mem_append, List.mem_singleton]
              constructor
              · exact fun ⟨z1, z2⟩ => ⟨.inl z1, z2⟩
              · rintro ⟨z1 | z1, z2⟩
                · exact ⟨z1, z2⟩
                · exact absurd (congrArg Prod.fst z1) et
          · by_cases et : t = p.1
            · subst et; rw [if_pos rfl] at e'; cases e'
            · rw [if_neg et] at e'
              rw [tk, List.mem_append, List.mem_singleton] at hm
              rcases hm with z1 | z1
              · exact hd3.no t e' h z1 hh
              · exact et (congrArg Prod.fst z1)
          · by_cases et : t = p.1
            · by_cases et' : t' = p.1
              · rw [et, et']
              · rw [if_neg et'] at e2
                rw [if_pos et] at e1
                cases e1
                exact absurd e2 (zf t')
            · rw [if_neg et] at e1
              by_cases et' : t' = p.1
              · rw [if_pos et'] at e2
                cases e2
                exact absurd e1 (zf t)
              · rw [if_neg et'] at e2
                exact hd3.inj t t' c e1 e2
          · by_cases et : t = p.1
            · rw [if_pos et] at e1; cases e1; exact z0
            · rw [if_neg et] at e1; exact hd3.new t c e1
      · exact absurd hb2 (by rw [z0]; decide)
    · rw [bit_tst] at hb1
      exact ⟨kvs, f, _, _, _, rfl, skip (by rw [hb1]; decide), k2⟩
  · rintro σ H1 ⟨kvs, f, x1, x2, x3, rfl, hd, kp⟩
    have evs : ps.take vs.length = ps := List.take_of_length_le (by rw [pv0.1]; exact Nat.le_refl _)
    rw [evs] at hd
    -- reached = begin; waiting = list(lot_of(begin))
    refine ⟨_, rfl, ?_⟩
    refine ⟨_, rfl, b, rfl, hb, fun p H2 bl ib k2 np hp => ?_⟩
    refine ⟨p, _, rfl, .inr (SqT.of hp), fun wl nw => ?_⟩
    have wl0 : H wl = none := kp.free (k2.free nw)
    have wd : d ≠ wl := ne_of_none (k2.get _ _ hd.dk (by simp)) nw
    have wf : ∀ t c, f t = some c → c ≠ wl := fun t c e => let ⟨hs, h1, _⟩ := hd.at_ t c e; ne_of_none (k2.get _ _ h1 (by simp)) nw
    have k3 : Kp [] H1 (upd H2 wl (.lst (bl.map vn))) := k2.new nw
    have hw0 : (upd H2 wl (.lst (bl.map vn))) wl = some (.lst (bl.map vn)) := upd_same
    generalize upd H2 wl (.lst (bl.map vn)) = H3 at k3 hw0 ⊢
    have lt_of : ∀ v, Rch ps (fun v => l.testBit v = true) (fun v => b.testBit v = true) v → v < 100 := by
      intro v hv
      induction hv with
      | base v hv =>
        refine Classical.byContradiction fun hge => ?_
        rw [Nat.testBit_lt_two_pow (Nat.lt_of_lt_of_le hb (Nat.pow_le_pow_right (by decide) (by omega)))] at hv
        cases hv
      | step t v _ hm _ _ => exact (hlt _ hm).2
    refine ⟨fun n σ H' => ∃ (r : Nat) (ws : List Nat) (x7 : Option V), σ = [some (.ref a), some (vn b), some (vn l), some (vn 0), some (.ref d), x1, x2, x7, some (vn r), some (.ref wl)] ∧ n = ws.length + lackN r ∧ ws.length + lackN r ≤ 200 ∧
        (∀ v, r.testBit v = true → Rch ps (fun v => l.testBit v = true) (fun v => b.testBit v = true) v) ∧ (∀ v, b.testBit v = true → r.testBit v = true) ∧ (∀ v, v ∈ ws → r.testBit v = true) ∧
        (∀ t, r.testBit t = true → t ∉ ws → ∀ h, (t, h) ∈ ps → l.testBit h = true → r.testBit h = true) ∧ Kp [wl] H3 H' ∧ H' wl = some (.lst (ws.map vn)),
      ⟨_, b, bl, _, rfl, rfl, ?_, fun v h => .base v h, fun _ h => h, fun v h => (ib.mem v).mp h, fun t h1 h2 => absurd ((ib.mem t).mpr h1) h2, Kp.refl, hw0⟩, ?_⟩
    · have h1 := lack_le b
      have h2 : bl.length ≤ 100 := asc_len ib.srt fun x hx => lt_of x (.base x ((ib.mem x).mp hx))
      omega
    rintro n σ H' ⟨r, ws, x7, rfl, rfl, hle, hR, hb0, hws, hcl, kw, hw⟩
    refine ⟨_, rfl, wl, _, rfl, .inl (SqL.of hw), _, _, rfl, rfl, _, rfl, ?_⟩
    refine ite_d (fun hpos => ⟨fun σ' H'' => ∃ m', m' < ws.length + lackN r ∧ _, fun _ _ h => h, ?_⟩) (fun hz => ?_)
    · have hpos' : 0 < ws.length := by rw [List.length_map] at hpos; omega
      have hne : ws ≠ [] := fun z => by rw [z] at hpos'; exact absurd hpos' (by decide)
      obtain ⟨t, ht⟩ : ∃ t, ws = ws.dropLast ++ [t] := ⟨ws.getLast hne, (List.dropLast_concat_getLast hne).symm⟩
      have hlast : (ws.map vn)[(ws.map vn).length - 1]? = some (vn t) := by
        rw [ht, List.map_append, List.length_append, List.getElem?_append_right (by simp)]
        simp
      have hdk : H' d = some (.dK kvs) := kw.get _ _ (k3.get _ _ hd.dk (by simp)) (by simp [wd])
      refine ⟨_, rfl, d, rfl, .inl ⟨kvs, .inl hdk⟩, _, rfl, .inl ⟨rfl, _, SqL.of hw⟩, wl, _, _, rfl, rfl, hw, hlast, Nat.zero_le _, fun z nz => ?_⟩
      have hw4 : (upd H' wl (.lst (ws.map vn).dropLast)) wl = some (.lst (ws.dropLast.map vn)) := by rw [upd_same, List.map_dropLast]
      have kw4 : Kp [wl] H3 (upd H' wl (.lst (ws.map vn).dropLast)) := kw.put hw trivial (.inl (by simp))
      generalize upd H' wl (.lst (ws.map vn).dropLast) = H4 at hw4 kw4 nz ⊢
      have nwz : wl ≠ z := ne_of_none hw4 nz
      have kw5 : Kp [wl] H3 (upd H4 z (.lst [])) := kw4.new nz
      have hw5 : (upd H4 z (.lst [])) wl = some (.lst (ws.dropLast.map vn)) := by rw [upd_ne nwz]; exact hw4
      have hz5 : (upd H4 z (.lst [])) z = some (.lst []) := upd_same
      generalize upd H4 z (.lst []) = H5 at kw5 hw5 hz5 ⊢
      have hd5 : H5 d = some (.dK kvs) := kw5.get _ _ (k3.get _ _ hd.dk (by simp)) (by simp [wd])
      obtain ⟨c, hs, hv, hc, hcw, hin, hall, hln⟩ : ∃ (c : Addr) (hs : List Nat), (valV kvs (Sum.inl (t : Int))).getD (.ref z) = V.ref c ∧ H5 c = some (.lst (hs.map vn)) ∧ c ≠ wl ∧ (∀ h, h ∈ hs → (t, h) ∈ ps ∧ l.testBit h = true) ∧ (∀ h, (t, h) ∈ ps → l.testBit h = true → h ∈ hs) ∧ hs.length ≤ 1000 := by
        rw [hd.val]
        cases e : f t with
        | none => exact ⟨z, [], rfl, hz5, nwz.symm, fun h hh => (nomatch hh), fun h hm hh => absurd hh (hd.no t e h hm), Nat.zero_le _⟩
        | some c =>
          obtain ⟨hs, h1, h2, h3⟩ := hd.at_ t c e
          exact ⟨c, hs, rfl, kw5.get _ _ (k3.get _ _ h1 (by simp)) (by simp [wf t c e]), wf t c e, fun h hh => (h3 h).mp hh, fun h hm hh => (h3 h).mpr ⟨hm, hh⟩, by omega⟩
      refine ⟨_, DGet.k (k := Sum.inl (t : Int)) hd5, ?_⟩
      rw [hv]
      have htr : r.testBit t = true := hws t (by rw [ht]; simp)
      have hlen5 : ws.dropLast.length + 1 = ws.length := by rw [List.length_dropLast]; omega
      refine ⟨c, rfl, ⟨_, SqL.of hc⟩, for_list (K := K) (a := c) (xs := hs.map vn) (fun i σ H'' => ∃ (r' : Nat) (ws' : List Nat) (x7 : Option V), σ = [some (.ref a), some (vn b), some (vn l), some (vn 0), some (.ref d), x1, x2, x7, some (vn r'), some (.ref wl)] ∧ ws'.length + lackN r' + 1 ≤ ws.length + lackN r ∧
          (∀ v, r'.testBit v = true → Rch ps (fun v => l.testBit v = true) (fun v => b.testBit v = true) v) ∧ (∀ v, r.testBit v = true → r'.testBit v = true) ∧ (∀ v, v ∈ ws' → r'.testBit v = true) ∧
          (∀ v, r'.testBit v = true → r.testBit v = true ∨ v ∈ ws') ∧ (∀ v, v ∈ ws.dropLast → v ∈ ws') ∧ (∀ h, h ∈ hs.take i → r'.testBit h = true) ∧ Kp [wl] H3 H'' ∧ H'' wl = some (.lst (ws'.map vn)) ∧ H'' c = some (.lst (hs.map vn)))
        ⟨r, ws.dropLast, _, rfl, by omega, hR, fun _ h => h, fun v h => hws v (List.dropLast_subset _ h), fun _ h => .inl h, fun _ h => h, fun h hh => by simp at hh, kw5, hw5, hc⟩
        (fun i σ H'' _ ⟨_, _, _, _, _, _, _, _, _, _, _, _, _, e⟩ => SqL.of e) ?_ ?_⟩
      · rintro i x σ H6 hi ⟨r', ws', x8, rfl, hle', hR', hrr, hws', hor, hdr, htk, kw6, hw6, hc6⟩
        obtain ⟨h, hh, rfl⟩ := map_at hi
        have hhm : h ∈ hs := List.mem_of_getElem? hh
        obtain ⟨hps, hlb⟩ := hin h hhm
        have h100 : h < 100 := (hlt _ hps).2
        have tkh := take_more hh
        refine ⟨_, rfl, _, rfl, _, _, rfl, rfl, (by show (0 : Int) ≤ _; omega), _, _, rfl, rfl, _, rfl, ?_⟩
        refine ite_b (fun hb1 => ?_) (fun hb1 => ?_)
        · have hb2 : r'.testBit h = false := by
            rw [bit_tst] at hb1
            simpa using hb1
          refine ⟨_, rfl, _, rfl, _, _, rfl, rfl, ⟨by omega, by omega, by decide⟩, _, _, rfl, rfl, ?_⟩
          refine ⟨_, rfl, .inl ⟨rfl, _, SqL.of hw6⟩, _, rfl, wl, _, _, rfl, rfl, hw6, szl (by rw [List.length_map]; omega), ?_⟩
          have lk := lack_or h100 hb2
          refine ⟨r' ||| 1 <<< h, ws' ++ [h], some (vn h), ?_, ?_, fun v hv => ?_, fun v hv => ?_, fun v hv => ?_, fun v hv => ?_, fun v hv => List.mem_append_left _ (hdr v hv), fun v hv => ?_, kw6.put hw6 trivial (.inl (by simp)), ?_, ?_⟩
          · dsimp only
            rw [shl_one, bitOr_nat]; rfl
          · rw [List.length_append, List.length_singleton]; omega
          · rw [or_bit] at hv
            by_cases ev : v = h
            · rw [ev]; exact .step t h (hR t htr) hps hlb
            · simp [ev] at hv; exact hR' v hv
          · rw [or_bit, hrr v hv]; rfl
          · rw [or_bit]
            rcases List.mem_append.mp hv with z1 | z1
            · rw [hws' v z1]; rfl
            · simp at z1; simp [z1]
          · rw [or_bit] at hv
            by_cases ev : v = h
            · right; simp [ev]
            · simp [ev] at hv
              exact (hor v hv).imp (fun z => z) (List.mem_append_left _)
          · rw [or_bit]
            rw [tkh] at hv
            rcases List.mem_append.mp hv with z1 | z1
            · rw [htk v z1]; rfl
            · simp at z1; simp [z1]
          · rw [upd_same, List.map_append]; rfl
          · rw [upd_ne hcw]; exact hc6
        · have hb2 : r'.testBit h = true := by
            rw [bit_tst] at hb1
            simpa using hb1
          refine ⟨r', ws', some (vn h), rfl, hle', hR', hrr, hws', hor, hdr, fun v hv => ?_, kw6, hw6, hc6⟩
          rw [tkh] at hv
          rcases List.mem_append.mp hv with z1 | z1
          · exact htk v z1
          · simp at z1; rw [z1]; exact hb2
      · rintro σ H6 ⟨r', ws', x8, rfl, hle', hR', hrr, hws', hor, hdr, htk, kw6, hw6, hc6⟩
        rw [List.length_map, List.take_length] at htk
        refine ⟨_, by omega, r', ws', x8, rfl, rfl, by omega, hR', fun v hv => hrr v (hb0 v hv), hws', fun t' h1 h2 h hm hh => ?_, kw6, hw6⟩
        have h3 : r.testBit t' = true := (hor t' h1).resolve_right h2
        by_cases et : t' = t
        · subst et; exact htk h (hall h hm hh)
        · refine hrr h (hcl t' h3 (fun z => ?_) h hm hh)
          rw [ht] at z
          rcases List.mem_append.mp z with z1 | z1
          · exact h2 (hdr t' z1)
          · simp at z1; exact et z1
    · have hnil : ws = [] := by
        rw [List.length_map] at hz
        exact List.eq_nil_of_length_eq_zero (by omega)
      subst hnil
      have iff : ∀ v, r.testBit v = true ↔ Rch ps (fun v => l.testBit v = true) (fun v => b.testBit v = true) v := fun v => ⟨hR v, fun h => by
        induction h with
        | base v hv => exact hb0 v hv
        | step t h _ hm ok ih => exact hcl t ih (by simp) h hm ok⟩
      refine ⟨_, rfl, q r H' iff (Nat.lt_pow_two_of_testBit _ fun i hi => ?_) ((kp.add k3).trans kw fun z hz' => ?_)⟩
      · cases e : r.testBit i with
        | false => rfl
        | true => have := lt_of i (hR i e); omega
      · have : z = wl := by simpa using hz'
        subst this; exact .inr wl0
end
end K33
/-! K33D3L: led_to -/
namespace K33
open PySem PySem.Spec PyProof.Rows L2
section
variable {P : Program} {w : World} {K : PySem.W.Frag} {mg : Str → Option Value} {base : Heap}
/-- the places from begin b on, by arrows ps into places that l lets -/
def spLedL : Sp := fun vs H Q _ => ∃ (a : Addr) (ps : List (Nat × Nat)) (b l : Nat), vs = [.ref a, vn b, vn l, vn 0] ∧ LstP H a ps ∧ ps.length ≤ 1000 ∧ (∀ p, p ∈ ps → p.1 < 100 ∧ p.2 < 100) ∧ b < 2 ^ 100 ∧
  ∀ (r : Nat) H', (∀ v, r.testBit v = true ↔ Rch ps (fun v => l.testBit v = true) (fun v => b.testBit v = true) v) → r < 2 ^ 100 → Kp [] H H' → Q (vn r) H'
theorem ok_led_to_L (T : Tx K mg)  : FnOk P w K mg base CX0 2 T.d_led_to.f T.d_led_to.fd ["arrows", "begin", "let", "barred"] (spLedL) := by
  refine T.d_led_to.F.ok sc_led_to (fun vs H Q E h => ?_) (fun cdv A outer s H vs Q E hr h => ?_)
  · obtain ⟨a, ps, b, l, rfl, _⟩ := h; rfl
  obtain ⟨a, ps, b, l, rfl, ⟨vs, ha, pv0⟩, hlen, hlt, hb, q⟩ := h
  have hu := hu_of hr
  have G_lot_of := ok_lot_of (P := P) (w := w) (base := base) T
  refine ⟨_, (pss_cons (ps_set (i := 4) sc_led_to.nd rfl (Or.inl rfl) pe_dnewK)
  (pss_cons (ps_for PassesOwn.never rfl (pi_enum rfl T.b_enumerate (pa_cons (pv 0) pa_nil)) (pg_tup rfl (pgs_cons (pg_name (i := 5) sc_led_to.nd rfl (Or.inl rfl)) (pgs_cons (pg_tup rfl (pgs_cons (pg_name (i := 6) sc_led_to.nd rfl (Or.inl rfl)) (pgs_cons (pg_name (i := 7) sc_led_to.nd rfl (Or.inl rfl)) pgs_nil))) pgs_nil))) (pss_one (ps_if (PW.pt (pw_and (pt_truth (pe_op op_and (pe_op op_shr (pv 2) (pv 7)) pe_int) (by intro _; rfl)) (pw_and1 (pt_not (pt_truth (pe_op op_and (pe_op op_shr (pv 3) (pv 5)) pe_int) (by intro _; rfl)))))) (pss_one (ps_expr (pe_bm PySem.F.plainAttrs_list PySem.F.slot_list_append PySem.F.type_list_append mt_append (pe_dsetd (pv 4) (pv 6) (pe_lst pa_nil) ⟨rfl, rfl, rfl, rfl⟩) (pa_cons (pv 7) pa_nil)))) pss_nil)))
  (pss_cons (ps_set (i := 8) sc_led_to.nd rfl (Or.inl rfl) (pv 1))
  (pss_cons (ps_set (i := 9) sc_led_to.nd rfl (Or.inl rfl) (pe_callTy call_list_of (by rfl) T.b_list (by decide +kernel) (pa_cons (pe_call G_lot_of (hr.mono (by decide)) rfl T.d_lot_of.g T.d_lot_of.F.kp (b_lot_of T.d_lot_of.F) .nil pass0 (pa_cons (pv 1) pa_nil)) pa_nil)))
  (pss_cons (ps_while PassesOwn.never (pt_cmpR op_gt (pe_callB call_len_seq (by rfl) T.b_len (by decide +kernel) (pa_cons (pv 9) pa_nil)) pe_int (nomark _)) (pss_one (ps_for PassesOwn.never rfl (pi_list (pe_dget2 hu (pv 4) (pe_bm0 PySem.F.plainAttrs_list PySem.F.slot_list_pop PySem.F.type_list_pop mt_pop (pv 9)) (pe_lst pa_nil) ⟨rfl, rfl, rfl, rfl⟩)) (pg_name (i := 7) sc_led_to.nd rfl (Or.inl rfl)) (pss_one (ps_if (pt_not (pt_truth (pe_op op_and (pe_op op_shr (pv 8) (pv 7)) pe_int) (by intro _; rfl))) (pss_cons (ps_set (i := 8) sc_led_to.nd rfl (Or.inl rfl) (pe_op op_or (pv 8) (pe_op op_shl pe_int (pv 7))))
  (pss_one (ps_expr (pe_bm PySem.F.plainAttrs_list PySem.F.slot_list_append PySem.F.type_list_append mt_append (pv 9) (pa_cons (pv 7) pa_nil))))) pss_nil)))))
  (pss_one (ps_ret (pv 8)))))))), ?_⟩
  -- heads = {}
  intro d nd
  -- for arrow, (tail, head) in enumerate(arrows)
  refine ⟨_, rfl, a, vs, rfl, SqL.of (by rw [upd_ne (ne_of_none ha nd)]; exact ha), for_it walk_enum (fun i σ H' => ∃ (kvs : List (Key × V)) (f : Nat → Option Addr) (x1 x2 x3 : Option V), σ = [some (.ref a), some (vn b), some (vn l), some (vn 0), some (.ref d), x1, x2, x3, none, none] ∧ HD H H' d kvs f (ps.take i) l ∧ Kp [] H H')
    ⟨[], fun _ => none, none, none, none, rfl, ⟨Nat.zero_le _, fun _ => rfl, fun _ _ h => (nomatch h), fun _ _ _ h => (by simp at h), fun _ _ _ h => (nomatch h), fun _ _ h => (nomatch h), nd, upd_same⟩, Kp.mk_new nd⟩ (fun i σ H' _ ⟨_, _, _, _, _, _, _, kp⟩ => SqL.of (kp.get _ _ ha (by simp))) ?_ ?_⟩
  · rintro i x σ H1 H2 hi ⟨kvs, f, x1, x2, x3, rfl, hd, kp⟩ ⟨TT, i0, y, rfl, nT, rfl, e1, e2⟩
    cases e1
    obtain ⟨p, pa, hp, rfl, hpa⟩ := pv0.at_ e2
    have hpm : p ∈ ps := List.mem_of_getElem? hp
    have hpa1 := kp.tup _ _ hpa
    have k2 : Kp [] H (upd H1 TT (.tup [.int (i : Nat), .ref pa])) := kp.new nT
    refine ⟨TT, _, rfl, SqT.of upd_same, rfl, _, _, rfl, _, _, rfl, pa, _, rfl, SqT.of (k2.tup _ _ hpa), rfl, _, _, rfl, _, _, rfl, rfl, rfl, ?_⟩
    -- if let >> head & 1 and (not barred >> arrow & 1)
    refine ⟨_, rfl, _, rfl, _, _, rfl, rfl, (by show (0 : Int) ≤ _; omega), _, _, rfl, rfl, _, rfl, ?_⟩
    have tk := take_more hp
    have hd2 : HD H (upd H1 TT (.tup [.int (i : Nat), .ref pa])) d kvs f (ps.take i) l := ⟨hd.len, hd.val, fun t c e => let ⟨hs, h1, h2⟩ := hd.at_ t c e; ⟨hs, by rw [upd_ne (ne_of_none h1 nT)]; exact h1, h2⟩, hd.no, hd.inj, hd.new, hd.dn, by rw [upd_ne (ne_of_none hd.dk nT)]; exact hd.dk⟩
    have skip : ¬ l.testBit p.2 = true → HD H (upd H1 TT (.tup [.int (i : Nat), .ref pa])) d kvs f (ps.take (i + 1)) l := fun hn => by
      have mem : ∀ t h, l.testBit h = true → ((t, h) ∈ ps.take (i + 1) ↔ (t, h) ∈ ps.take i) := fun t h hh => by
        rw [tk, List.mem_append, List.mem_singleton]
        constructor
        · rintro (z | z)
          · exact z
          · exact absurd (by rw [← z]; exact hh) hn
        · exact .inl
      have ln : (ps.take i).length ≤ (ps.take (i + 1)).length := by rw [tk]; simp
      refine ⟨Nat.le_trans hd2.len ln, hd2.val, fun t c e => ?_, fun t e h hm hh => hd2.no t e h ((mem t h hh).mp hm) hh, hd2.inj, hd2.new, hd2.dn, hd2.dk⟩
      obtain ⟨hs, h1, h2, h3⟩ := hd2.at_ t c e
      refine ⟨hs, h1, Nat.le_trans h2 ln, fun h => ?_⟩
      rw [h3 h]
      exact ⟨fun ⟨z1, z2⟩ => ⟨(mem t h z2).mpr z1, z2⟩, fun ⟨z1, z2⟩ => ⟨(mem t h z2).mp z1, z2⟩⟩
    refine ite_b (fun hb1 => ?_) (fun hb1 => ?_)
    · rw [bit_tst] at hb1
      refine ⟨_, rfl, _, rfl, _, _, rfl, rfl, (by show (0 : Int) ≤ _; omega), _, _, rfl, rfl, _, rfl, ?_⟩
      have z0 := bit_tst (x := 0) (k := i)
      rw [Nat.zero_testBit] at z0
      refine ite_b (fun _ => ?_) (fun hb2 => ?_)
      · -- heads.setdefault(tail, []).append(head)
        refine ⟨_, rfl, d, rfl, .inl ⟨_, .inl hd2.dk⟩, _, rfl, Nat.zero_le _, fun z nz => ?_⟩
        have k3 : Kp [] H _ := k2.new (o := .lst []) nz
        have hd3 : HD H (upd (upd H1 TT (.tup [.int (i : Nat), .ref pa])) z (.lst [])) d kvs f (ps.take i) l := ⟨hd2.len, hd2.val, fun t c e => let ⟨hs, h1, h2⟩ := hd2.at_ t c e; ⟨hs, by rw [upd_ne (ne_of_none h1 nz)]; exact h1, h2⟩, hd2.no, hd2.inj, hd2.new, hd2.dn, by rw [upd_ne (ne_of_none hd2.dk nz)]; exact hd2.dk⟩
        have hz3 : (upd (upd H1 TT (.tup [.int (i : Nat), .ref pa])) z (.lst [])) z = some (.lst []) := upd_same
        have z0 : H z = none := k2.free nz
        have zf : ∀ t, f t ≠ some z := fun t e => by
          obtain ⟨hs, h1, _⟩ := hd2.at_ t z e
          rw [nz] at h1; cases h1
        have hdz : d ≠ z := ne_of_none hd2.dk nz
        generalize upd (upd H1 TT (.tup [.int (i : Nat), .ref pa])) z (.lst []) = H3 at k3 hd3 hz3 ⊢
        have szk : kvs.length < sizeLine := szl (by have := hd.len; rw [List.length_take] at this; omega)
        refine ⟨kvs, Sum.inl (p.1 : Int), hd3.dk, rfl, szk, fun v hv => ?_, fun hv => ?_⟩
        · -- a list stands there
          rw [hd3.val] at hv
          cases e : f p.1 with
          | none => rw [e] at hv; cases hv
          | some c =>
            rw [e] at hv
            cases hv
            obtain ⟨hs, h1, h2, h3⟩ := hd3.at_ p.1 c e
            have hdc : d ≠ c := ne_of hd3.dk h1 (by intro z; cases z)
            refine ⟨.inl ⟨rfl, _, SqL.of h1⟩, _, rfl, c, _, _, rfl, rfl, h1, szl (by rw [List.length_map]; rw [List.length_take] at h2; omega), ?_⟩
            refine ⟨kvs, f, _, _, _, rfl, ⟨?_, hd3.val, fun t c' e' => ?_, fun t e' h hm hh => ?_, hd3.inj, hd3.new, hd3.dn, by rw [upd_ne hdc]; exact hd3.dk⟩, k3.put h1 trivial (.inr (hd3.new _ _ e))⟩
            · have := hd3.len; rw [tk, List.length_append]; omega
            · by_cases et : t = p.1
              · subst et
                rw [e] at e'
                cases e'
                refine ⟨hs ++ [p.2], by rw [upd_same, List.map_append]; rfl, by rw [tk]; simp; have := h2; rw [List.length_take] at this; omega, fun h => ?_⟩
                rw [List.mem_append, h3 h, List.mem_singleton, tk, List.mem_append, List.mem_singleton]
                constructor
                · rintro (⟨z1, z2⟩ | rfl)
                  · exact ⟨.inl z1, z2⟩
                  · exact ⟨.inr rfl, hb1⟩
                · rintro ⟨z1 | z1, z2⟩
                  · exact .inl ⟨z1, z2⟩
                  · exact .inr (by rw [← z1])
              · have hcc : c' ≠ c := fun z => et (hd3.inj t p.1 c (by rw [← z]; exact e') e)
                obtain ⟨hs', g1, g2, g3⟩ := hd3.at_ t c' e'
                refine ⟨hs', by rw [upd_ne hcc]; exact g1, by rw [tk, List.length_append]; omega, fun h => ?_⟩
                rw [g3 h, tk, List.mem_append, List.mem_singleton]
                constructor
                · exact fun ⟨z1, z2⟩ => ⟨.inl z1, z2⟩
                · rintro ⟨z1 | z1, z2⟩
                  · exact ⟨z1, z2⟩
                  · exact absurd (congrArg Prod.fst z1) et
            · rw [tk, List.mem_append, List.mem_singleton] at hm
              rcases hm with z1 | z1
              · exact hd3.no t e' h z1 hh
              · have : t = p.1 := congrArg Prod.fst z1
                subst this
                rw [e] at e'; cases e'
        · -- a new list
          rw [hd3.val] at hv
          have ef : f p.1 = none := by
            cases e : f p.1 with
            | none => rfl
            | some c => rw [e] at hv; cases hv
          have hz4 : (upd H3 d (.dK (putK kvs (Sum.inl (p.1 : Int)) (.ref z)))) z = some (.lst []) := by rw [upd_ne hdz.symm]; exact hz3
          refine ⟨.inl ⟨rfl, _, SqL.of hz4⟩, _, rfl, z, _, _, rfl, rfl, hz4, (by show (0 : Nat) < sizeLine; exact szl (by decide)), ?_⟩
          have nv : valV kvs (Sum.inl (p.1 : Int)) = none := by rw [hd3.val, ef]; rfl
          have k5 : Kp [] H (upd (upd H3 d (.dK (putK kvs (Sum.inl (p.1 : Int)) (.ref z)))) z (.lst ([] ++ [vn p.2]))) := (k3.put hd3.dk trivial (.inr hd3.dn)).put hz4 trivial (.inr z0)
          refine ⟨putK kvs (Sum.inl (p.1 : Int)) (.ref z), fun t => if t = p.1 then some z else f t, _, _, _, rfl, ⟨?_, fun t => ?_, fun t c' e' => ?_, fun t e' h hm hh => ?_, fun t t' c e1 e2 => ?_, fun t c e1 => ?_, hd3.dn, by rw [upd_ne hdz, upd_same]⟩, k5⟩
          · rw [putK_new _ nv, List.length_append, tk, List.length_append]
            have := hd3.len
            simp only [List.length_singleton]; omega
          · rw [valV_put]
            by_cases et : t = p.1
            · subst et; simp
            · have : ¬ (Sum.inl (t : Int) : Key) = Sum.inl (p.1 : Int) := fun z => et (by have := Sum.inl.inj z; omega)
              rw [if_neg this, if_neg et]; exact hd3.val t
          · by_cases et : t = p.1
            · subst et
              rw [if_pos rfl] at e'
              cases e'
              refine ⟨[p.2], by rw [upd_same]; rfl, by rw [tk]; simp, fun h => ?_⟩
              rw [List.mem_singleton, tk, List.mem_append, List.mem_singleton]
              constructor
              · rintro rfl; exact ⟨.inr rfl, hb1⟩
              · rintro ⟨z1 | z1, z2⟩
                · exact absurd z2 (hd3.no _ ef h z1)
                · rw [← z1]
            · rw [if_neg et] at e'
              have hcz : c' ≠ z := fun q => zf t (q ▸ e')
              obtain ⟨hs', g1, g2, g3⟩ := hd3.at_ t c' e'
              have hcd : c' ≠ d := ne_of g1 hd3.dk (by intro z; cases z)
              refine ⟨hs', by rw [upd_ne hcz, upd_ne hcd]; exact g1, by rw [tk, List.length_append]; omega, fun h => ?_⟩
              rw [g3 h, tk, List.mem_append, List.mem_singleton]
              constructor
              · exact fun ⟨z1, z2⟩ => ⟨.inl z1, z2⟩
              · rintro ⟨z1 | z1, z2⟩
                · exact ⟨z1, z2⟩
                · exact absurd (congrArg Prod.fst z1) et
          · by_cases et : t = p.1
            · subst et; rw [if_pos rfl] at e'; cases e'
            · rw [if_neg et] at e'
              rw [tk, List.mem_append, List.mem_singleton] at hm
              rcases hm with z1 | z1
              · exact hd3.no t e' h z1 hh
              · exact et (congrArg Prod.fst z1)
          · by_cases et : t = p.1
            · by_cases et' : t' = p.1
              · rw [et, et']
              · rw [if_neg et'] at e2
                rw [if_pos et] at e1
                cases e1
                exact absurd e2 (zf t')
            · rw [if_neg et] at e1
              by_cases et' : t' = p.1
              · rw [if_pos et'] at e2
                cases e2
                exact absurd e1 (zf t)
              · rw [if_neg et'] at e2
                exact hd3.inj t t' c e1 e2
          · by_cases et : t = p.1
            · rw [if_pos et] at e1; cases e1; exact z0
            · rw [if_neg et] at e1; exact hd3.new t c e1
      · exact absurd hb2 (by rw [z0]; decide)
    · rw [bit_tst] at hb1
      exact ⟨kvs, f, _, _, _, rfl, skip (by rw [hb1]; decide), k2⟩
  · rintro σ H1 ⟨kvs, f, x1, x2, x3, rfl, hd, kp⟩
    have evs : ps.take vs.length = ps := List.take_of_length_le (by rw [pv0.1]; exact Nat.le_refl _)
    rw [evs] at hd
    -- reached = begin; waiting = list(lot_of(begin))
    refine ⟨_, rfl, ?_⟩
    refine ⟨_, rfl, b, rfl, hb, fun p H2 bl ib k2 np hp => ?_⟩
    refine ⟨p, _, rfl, .inr (SqT.of hp), fun wl nw => ?_⟩
    have wl0 : H wl = none := kp.free (k2.free nw)
    have wd : d ≠ wl := ne_of_none (k2.get _ _ hd.dk (by simp)) nw
    have wf : ∀ t c, f t = some c → c ≠ wl := fun t c e => let ⟨hs, h1, _⟩ := hd.at_ t c e; ne_of_none (k2.get _ _ h1 (by simp)) nw
    have k3 : Kp [] H1 (upd H2 wl (.lst (bl.map vn))) := k2.new nw
    have hw0 : (upd H2 wl (.lst (bl.map vn))) wl = some (.lst (bl.map vn)) := upd_same
    generalize upd H2 wl (.lst (bl.map vn)) = H3 at k3 hw0 ⊢
    have lt_of : ∀ v, Rch ps (fun v => l.testBit v = true) (fun v => b.testBit v = true) v → v < 100 := by
      intro v hv
      induction hv with
      | base v hv =>
        refine Classical.byContradiction fun hge => ?_
        rw [Nat.testBit_lt_two_pow (Nat.lt_of_lt_of_le hb (Nat.pow_le_pow_right (by decide) (by omega)))] at hv
        cases hv
      | step t v _ hm _ _ => exact (hlt _ hm).2
    refine ⟨fun n σ H' => ∃ (r : Nat) (ws : List Nat) (x7 : Option V), σ = [some (.ref a), some (vn b), some (vn l), some (vn 0), some (.ref d), x1, x2, x7, some (vn r), some (.ref wl)] ∧ n = ws.length + lackN r ∧ ws.length + lackN r ≤ 200 ∧
        (∀ v, r.testBit v = true → Rch ps (fun v => l.testBit v = true) (fun v => b.testBit v = true) v) ∧ (∀ v, b.testBit v = true → r.testBit v = true) ∧ (∀ v, v ∈ ws → r.testBit v = true) ∧
        (∀ t, r.testBit t = true → t ∉ ws → ∀ h, (t, h) ∈ ps → l.testBit h = true → r.testBit h = true) ∧ Kp [wl] H3 H' ∧ H' wl = some (.lst (ws.map vn)),
      ⟨_, b, bl, _, rfl, rfl, ?_, fun v h => .base v h, fun _ h => h, fun v h => (ib.mem v).mp h, fun t h1 h2 => absurd ((ib.mem t).mpr h1) h2, Kp.refl, hw0⟩, ?_⟩
    · have h1 := lack_le b
      have h2 : bl.length ≤ 100 := asc_len ib.srt fun x hx => lt_of x (.base x ((ib.mem x).mp hx))
      omega
    rintro n σ H' ⟨r, ws, x7, rfl, rfl, hle, hR, hb0, hws, hcl, kw, hw⟩
    refine ⟨_, rfl, wl, _, rfl, .inl (SqL.of hw), _, _, rfl, rfl, _, rfl, ?_⟩
    refine ite_d (fun hpos => ⟨fun σ' H'' => ∃ m', m' < ws.length + lackN r ∧ _, fun _ _ h => h, ?_⟩) (fun hz => ?_)
    · have hpos' : 0 < ws.length := by rw [List.length_map] at hpos; omega
      have hne : ws ≠ [] := fun z => by rw [z] at hpos'; exact absurd hpos' (by decide)
      obtain ⟨t, ht⟩ : ∃ t, ws = ws.dropLast ++ [t] := ⟨ws.getLast hne, (List.dropLast_concat_getLast hne).symm⟩
      have hlast : (ws.map vn)[(ws.map vn).length - 1]? = some (vn t) := by
        rw [ht, List.map_append, List.length_append, List.getElem?_append_right (by simp)]
        simp
      have hdk : H' d = some (.dK kvs) := kw.get _ _ (k3.get _ _ hd.dk (by simp)) (by simp [wd])
      refine ⟨_, rfl, d, rfl, .inl ⟨kvs, .inl hdk⟩, _, rfl, .inl ⟨rfl, _, SqL.of hw⟩, wl, _, _, rfl, rfl, hw, hlast, Nat.zero_le _, fun z nz => ?_⟩
      have hw4 : (upd H' wl (.lst (ws.map vn).dropLast)) wl = some (.lst (ws.dropLast.map vn)) := by rw [upd_same, List.map_dropLast]
      have kw4 : Kp [wl] H3 (upd H' wl (.lst (ws.map vn).dropLast)) := kw.put hw trivial (.inl (by simp))
      generalize upd H' wl (.lst (ws.map vn).dropLast) = H4 at hw4 kw4 nz ⊢
      have nwz : wl ≠ z := ne_of_none hw4 nz
      have kw5 : Kp [wl] H3 (upd H4 z (.lst [])) := kw4.new nz
      have hw5 : (upd H4 z (.lst [])) wl = some (.lst (ws.dropLast.map vn)) := by rw [upd_ne nwz]; exact hw4
      have hz5 : (upd H4 z (.lst [])) z = some (.lst []) := upd_same
      generalize upd H4 z (.lst []) = H5 at kw5 hw5 hz5 ⊢
      have hd5 : H5 d = some (.dK kvs) := kw5.get _ _ (k3.get _ _ hd.dk (by simp)) (by simp [wd])
      obtain ⟨c, hs, hv, hc, hcw, hin, hall, hln⟩ : ∃ (c : Addr) (hs : List Nat), (valV kvs (Sum.inl (t : Int))).getD (.ref z) = V.ref c ∧ H5 c = some (.lst (hs.map vn)) ∧ c ≠ wl ∧ (∀ h, h ∈ hs → (t, h) ∈ ps ∧ l.testBit h = true) ∧ (∀ h, (t, h) ∈ ps → l.testBit h = true → h ∈ hs) ∧ hs.length ≤ 1000 := by
        rw [hd.val]
        cases e : f t with
        | none => exact ⟨z, [], rfl, hz5, nwz.symm, fun h hh => (nomatch hh), fun h hm hh => absurd hh (hd.no t e h hm), Nat.zero_le _⟩
        | some c =>
          obtain ⟨hs, h1, h2, h3⟩ := hd.at_ t c e
          exact ⟨c, hs, rfl, kw5.get _ _ (k3.get _ _ h1 (by simp)) (by simp [wf t c e]), wf t c e, fun h hh => (h3 h).mp hh, fun h hm hh => (h3 h).mpr ⟨hm, hh⟩, by omega⟩
      refine ⟨_, DGet.k (k := Sum.inl (t : Int)) hd5, ?_⟩
      rw [hv]
      have htr : r.testBit t = true := hws t (by rw [ht]; simp)
      have hlen5 : ws.dropLast.length + 1 = ws.length := by rw [List.length_dropLast]; omega
      refine ⟨c, rfl, ⟨_, SqL.of hc⟩, for_list (K := K) (a := c) (xs := hs.map vn) (fun i σ H'' => ∃ (r' : Nat) (ws' : List Nat) (x7 : Option V), σ = [some (.ref a), some (vn b), some (vn l), some (vn 0), some (.ref d), x1, x2, x7, some (vn r'), some (.ref wl)] ∧ ws'.length + lackN r' + 1 ≤ ws.length + lackN r ∧
          (∀ v, r'.testBit v = true → Rch ps (fun v => l.testBit v = true) (fun v => b.testBit v = true) v) ∧ (∀ v, r.testBit v = true → r'.testBit v = true) ∧ (∀ v, v ∈ ws' → r'.testBit v = true) ∧
          (∀ v, r'.testBit v = true → r.testBit v = true ∨ v ∈ ws') ∧ (∀ v, v ∈ ws.dropLast → v ∈ ws') ∧ (∀ h, h ∈ hs.take i → r'.testBit h = true) ∧ Kp [wl] H3 H'' ∧ H'' wl = some (.lst (ws'.map vn)) ∧ H'' c = some (.lst (hs.map vn)))
        ⟨r, ws.dropLast, _, rfl, by omega, hR, fun _ h => h, fun v h => hws v (List.dropLast_subset _ h), fun _ h => .inl h, fun _ h => h, fun h hh => by simp at hh, kw5, hw5, hc⟩
        (fun i σ H'' _ ⟨_, _, _, _, _, _, _, _, _, _, _, _, _, e⟩ => SqL.of e) ?_ ?_⟩
      · rintro i x σ H6 hi ⟨r', ws', x8, rfl, hle', hR', hrr, hws', hor, hdr, htk, kw6, hw6, hc6⟩
        obtain ⟨h, hh, rfl⟩ := map_at hi
        have hhm : h ∈ hs := List.mem_of_getElem? hh
        obtain ⟨hps, hlb⟩ := hin h hhm
        have h100 : h < 100 := (hlt _ hps).2
        have tkh := take_more hh
        refine ⟨_, rfl, _, rfl, _, _, rfl, rfl, (by show (0 : Int) ≤ _; omega), _, _, rfl, rfl, _, rfl, ?_⟩
        refine ite_b (fun hb1 => ?_) (fun hb1 => ?_)
        · have hb2 : r'.testBit h = false := by
            rw [bit_tst] at hb1
            simpa using hb1
          refine ⟨_, rfl, _, rfl, _, _, rfl, rfl, ⟨by omega, by omega, by decide⟩, _, _, rfl, rfl, ?_⟩
          refine ⟨_, rfl, .inl ⟨rfl, _, SqL.of hw6⟩, _, rfl, wl, _, _, rfl, rfl, hw6, szl (by rw [List.length_map]; omega), ?_⟩
          have lk := lack_or h100 hb2
          refine ⟨r' ||| 1 <<< h, ws' ++ [h], some (vn h), ?_, ?_, fun v hv => ?_, fun v hv => ?_, fun v hv => ?_, fun v hv => ?_, fun v hv => List.mem_append_left _ (hdr v hv), fun v hv => ?_, kw6.put hw6 trivial (.inl (by simp)), ?_, ?_⟩
          · dsimp only
            rw [shl_one, bitOr_nat]; rfl
          · rw [List.length_append, List.length_singleton]; omega
          · rw [or_bit] at hv
            by_cases ev : v = h
            · rw [ev]; exact .step t h (hR t htr) hps hlb
            · simp [ev] at hv; exact hR' v hv
          · rw [or_bit, hrr v hv]; rfl
          · rw [or_bit]
            rcases List.mem_append.mp hv with z1 | z1
            · rw [hws' v z1]; rfl
            · simp at z1; simp [z1]
          · rw [or_bit] at hv
            by_cases ev : v = h
            · right; simp [ev]
            · simp [ev] at hv
              exact (hor v hv).imp (fun z => z) (List.mem_append_left _)
          · rw [or_bit]
            rw [tkh] at hv
            rcases List.mem_append.mp hv with z1 | z1
            · rw [htk v z1]; rfl
            · simp at z1; simp [z1]
          · rw [upd_same, List.map_append]; rfl
          · rw [upd_ne hcw]; exact hc6
        · have hb2 : r'.testBit h = true := by
            rw [bit_tst] at hb1
            simpa using hb1
          refine ⟨r', ws', some (vn h), rfl, hle', hR', hrr, hws', hor, hdr, fun v hv => ?_, kw6, hw6, hc6⟩
          rw [tkh] at hv
          rcases List.mem_append.mp hv with z1 | z1
          · exact htk v z1
          · simp at z1; rw [z1]; exact hb2
      · rintro σ H6 ⟨r', ws', x8, rfl, hle', hR', hrr, hws', hor, hdr, htk, kw6, hw6, hc6⟩
        rw [List.length_map, List.take_length] at htk
        refine ⟨_, by omega, r', ws', x8, rfl, rfl, by omega, hR', fun v hv => hrr v (hb0 v hv), hws', fun t' h1 h2 h hm hh => ?_, kw6, hw6⟩
        have h3 : r.testBit t' = true := (hor t' h1).resolve_right h2
        by_cases et : t' = t
        · subst et; exact htk h (hall h hm hh)
        · refine hrr h (hcl t' h3 (fun z => ?_) h hm hh)
          rw [ht] at z
          rcases List.mem_append.mp z with z1 | z1
          · exact h2 (hdr t' z1)
          · simp at z1; exact et z1
    · have hnil : ws = [] := by
        rw [List.length_map] at hz
        exact List.eq_nil_of_length_eq_zero (by omega)
      subst hnil
      have iff : ∀ v, r.testBit v = true ↔ Rch ps (fun v => l.testBit v = true) (fun v => b.testBit v = true) v := fun v => ⟨hR v, fun h => by
        induction h with
        | base v hv => exact hb0 v hv
        | step t h _ hm ok ih => exact hcl t ih (by simp) h hm ok⟩
      refine ⟨_, rfl, q r H' iff (Nat.lt_pow_two_of_testBit _ fun i hi => ?_) ((kp.add k3).trans kw fun z hz' => ?_)⟩
      · cases e : r.testBit i with
        | false => rfl
        | true => have := lt_of i (hR i e); omega
      · have : z = wl := by simpa using hz'
        subst this; exact .inr wl0
end
end K33
/-! K33D4: maps -/
namespace K33
open PySem PySem.Spec PyProof.Rows L2
/-! ### a map's fields -/
theorem ne_am : ¬ (("kept_many" : Str) = "kept_arrows") := by decide +kernel
theorem ne_gm : ¬ (("kept_many" : Str) = "kept_goals") := by decide +kernel
theorem ne_ga : ¬ (("kept_arrows" : Str) = "kept_goals") := by decide +kernel
theorem ne_lm : ¬ (("kept_many" : Str) = "kept_left") := by decide +kernel
theorem ne_la : ¬ (("kept_arrows" : Str) = "kept_left") := by decide +kernel
theorem ne_lg : ¬ (("kept_goals" : Str) = "kept_left") := by decide +kernel
def mapF (m : V) (a g : V) (l : Addr) : List (Str × V) := putF "kept_left" (.ref l) (putF "kept_goals" g (putF "kept_arrows" a (putF "kept_many" m [])))
theorem mapF_len (m a g : V) (l : Addr) : (mapF m a g l).length = 4 := by
  unfold mapF
  simp [putF, ne_am, ne_gm, ne_ga, ne_lm, ne_la, ne_lg]
theorem mapF_many (m a g : V) (l : Addr) : (mapF m a g l).lookup ("kept_many" : Str) = some m := by
  unfold mapF
  rw [lookup_putF, if_neg ne_lm, lookup_putF, if_neg ne_gm, lookup_putF, if_neg ne_am, lookup_putF, if_pos rfl]
theorem mapF_arrows (m a g : V) (l : Addr) : (mapF m a g l).lookup ("kept_arrows" : Str) = some a := by
  unfold mapF
  rw [lookup_putF, if_neg ne_la, lookup_putF, if_neg ne_ga, lookup_putF, if_pos rfl]
theorem mapF_goals (m a g : V) (l : Addr) : (mapF m a g l).lookup ("kept_goals" : Str) = some g := by
  unfold mapF
  rw [lookup_putF, if_neg ne_lg, lookup_putF, if_pos rfl]
theorem mapF_left (m a g : V) (l : Addr) : (mapF m a g l).lookup ("kept_left" : Str) = some (.ref l) := by
  unfold mapF
  rw [lookup_putF, if_pos rfl]
theorem mapF_no (m a g : V) (l : Addr) {x : Str} (h1 : ¬ x = "kept_many") (h2 : ¬ x = "kept_arrows") (h3 : ¬ x = "kept_goals") (h4 : ¬ x = "kept_left") : (mapF m a g l).lookup x = none := by
  unfold mapF
  rw [lookup_putF, if_neg h4, lookup_putF, if_neg h3, lookup_putF, if_neg h2, lookup_putF, if_neg h1]
  rfl
/-- a class that keeps a map's parts -/
structure KM (K : PySem.W.Frag) (C : Addr) : Prop where
  cl : Cls K C
  n1 : NoAttr K C "kept_many"
  n2 : NoAttr K C "kept_arrows"
  n3 : NoAttr K C "kept_goals"
  n4 : NoAttr K C "kept_left"
/-- a map stands at p, its parts P, its dict at d -/
structure MapAt (C : Addr) (H : Hp) (p : Addr) (P : Pt) (d : Addr) : Prop where
  ob : ∃ dx ar gl, H p = some (.ins C dx (mapF (vn P.many) (.ref ar) (.ref gl) d)) ∧ TupP H ar P.arrows ∧ TupN H gl P.goals
theorem MapAt.keep {S : List Addr} {C : Addr} {H H1 : Hp} {p d : Addr} {P : Pt} (h : MapAt C H p P d) (k : Kp S H H1) (hp : p ∉ S) : MapAt C H1 p P d :=
  let ⟨dx, ar, gl, h1, h2, h3⟩ := h.ob
  ⟨dx, ar, gl, k.get _ _ h1 hp, h2.keep k, h3.keep k⟩
theorem MapAt.at_ {C : Addr} {H : Hp} {p d : Addr} {P : Pt} (h : MapAt C H p P d) : ∃ o, H p = some o := let ⟨_, _, _, h1, _⟩ := h.ob; ⟨_, h1⟩
/-- parts that make a map -/
structure Good (P : Pt) : Prop where
  m2 : 2 ≤ P.many
  m40 : P.many ≤ 40
  len : P.arrows.length ≤ 60
  arr : ∀ a, a ∈ P.arrows → a.1 < P.many ∧ a.2 < P.many ∧ a.1 ≠ a.2
  lot : Lot P.many P.goals
  ne : P.goals ≠ []
  no0 : 0 ∉ P.goals
  rch : ∀ g, g ∈ P.goals → Rch P.arrows (· < P.many) (· = 0) g
theorem bit_all (m v : Nat) : ((2 ^ m - 1 : Nat)).testBit v = decide (v < m) := Nat.testBit_two_pow_sub_one m v
theorem one_bit (v : Nat) : (1 : Nat).testBit v = decide (v = 0) := by
  have := Nat.testBit_two_pow (n := 0) (m := v)
  rw [Nat.pow_zero] at this
  rw [this]
  by_cases h : v = 0
  · simp [h]
  · simp [h, Ne.symm h]
theorem maskN_bit : ∀ (ns : List Nat) (v : Nat), (maskN ns).testBit v = decide (v ∈ ns) := by
  intro ns v
  have key : ∀ (ns : List Nat) (r : Nat), (ns.foldl (fun m i => m ||| 1 <<< i) r).testBit v = (r.testBit v || decide (v ∈ ns)) := by
    intro ns
    induction ns with
    | nil => intro r; simp
    | cons n ns ih =>
      intro r
      rw [List.foldl_cons, ih, or_bit]
      by_cases h : v = n <;> simp [h]
  unfold maskN
  rw [key]
  simp
theorem mask_lt {ns : List Nat} {m : Nat} (h : ∀ n, n ∈ ns → n < m) : maskN ns < 2 ^ m := Nat.lt_pow_two_of_testBit _ fun i hi => by
  rw [maskN_bit]
  exact decide_eq_false fun z => by have := h i z; omega
theorem shl_sub (m : Nat) : (1 : Int) * (2 : Int) ^ ((m : Int)).toNat - 1 = ((2 ^ m - 1 : Nat) : Int) := by
  rw [shl_one, Nat.one_shiftLeft]
  have := Nat.two_pow_pos m
  omega
theorem Rch.imp {as : List (Nat × Nat)} {ok ok' b b' : Nat → Prop} (h1 : ∀ v, ok v → ok' v) (h2 : ∀ v, b v → b' v) {v : Nat} (h : Rch as ok b v) : Rch as ok' b' v := by
  induction h with
  | base v hv => exact .base v (h2 v hv)
  | step t v _ m o ih => exact .step t v ih m (h1 v o)
section
variable {P : Program} {w : World} {K : PySem.W.Frag} {mg : Str → Option Value} {base : Heap}
theorem Tx.kmM (T : Tx K mg) : KM K T.c_Map := ⟨T.k_Map.cl, T.n_Map_kept_many, T.n_Map_kept_arrows, T.n_Map_kept_goals, T.n_Map_kept_left⟩
theorem Tx.kmR (T : Tx K mg) : KM K T.c_RawMap := ⟨T.k_RawMap.cl, T.n_RawMap_kept_many, T.n_RawMap_kept_arrows, T.n_RawMap_kept_goals, T.n_RawMap_kept_left⟩
def spKeep (K : PySem.W.Frag) : Sp := fun vs H Q _ => ∃ (C p dx : Addr) (m a g : V), KM K C ∧ vs = [.ref p, m, a, g] ∧ H p = some (.ins C dx []) ∧
  ∀ d H', H d = none → Kp [p] H H' → H' p = some (.ins C dx (mapF m a g d)) → H' d = some (.dK []) → Q .non H'
theorem ok_Map_keep (T : Tx K mg)  : FnOk P w K mg base CX0 1 T.m_Map_keep.f T.m_Map_keep.fd ["self", "many", "arrows", "goals"] (spKeep K) := by
  refine T.m_Map_keep.F.ok sc_Map_keep (fun vs H Q E h => ?_) (fun cdv A outer s H vs Q E hr h => ?_)
  · obtain ⟨C, p, dx, m, a, g, _, rfl, _⟩ := h; rfl
  obtain ⟨C, p, dx, m, a, g, km, rfl, hp, q⟩ := h
  refine ⟨_, (pss_cons (ps_fld (pv 0) (pv 1) rfl)
  (pss_cons (ps_fld (pv 0) (pv 2) rfl)
  (pss_cons (ps_fld (pv 0) (pv 3) rfl)
  (pss_one (ps_fld (pv 0) pe_dnewK rfl))))), ?_⟩
  refine ⟨_, rfl, _, rfl, p, C, dx, _, rfl, hp, km.cl, km.n1, (by show 0 < 1000; decide), ?_⟩
  refine ⟨_, rfl, _, rfl, p, C, dx, _, rfl, upd_same, km.cl, km.n2, (by show 1 < 1000; decide), ?_⟩
  refine ⟨_, rfl, _, rfl, p, C, dx, _, rfl, upd_same, km.cl, km.n3, (by simp [putF, ne_am]), ?_⟩
  intro d nd
  have npd : p ≠ d := fun z => by rw [z, upd_same] at nd; cases nd
  refine ⟨_, rfl, p, C, dx, _, rfl, (by rw [upd_ne npd]; exact upd_same), km.cl, km.n4, (by simp [putF, ne_am, ne_gm, ne_ga]), ?_⟩
  have nd0 : H d = none := by
    rw [upd_ne npd.symm, upd_ne npd.symm, upd_ne npd.symm] at nd; exact nd
  have k3 : Kp [p] H (upd (upd (upd H p (.ins C dx (putF "kept_many" m []))) p (.ins C dx (putF "kept_arrows" a (putF "kept_many" m [])))) p (.ins C dx (putF "kept_goals" g (putF "kept_arrows" a (putF "kept_many" m []))))) :=
    ((Kp.refl.put hp trivial (.inl (by simp))).put upd_same (by exact trivial) (.inl (by simp))).put upd_same (by exact trivial) (.inl (by simp))
  exact q d _ nd0 ((k3.new nd).put (show upd _ d (.dK []) p = some (.ins C dx (putF "kept_goals" g (putF "kept_arrows" a (putF "kept_many" m [])))) by rw [upd_ne npd]; exact upd_same) (by exact trivial) (.inl (by simp))) upd_same (by rw [upd_ne npd.symm]; exact upd_same)
def spParts (K : PySem.W.Frag) : Sp := fun vs H Q _ => ∃ (C p dx d : Addr) (m a g : V), KM K C ∧ vs = [.ref p] ∧ H p = some (.ins C dx (mapF m a g d)) ∧ ∀ t H', H t = none → Kp [] H H' → H' t = some (.tup [m, a, g]) → Q (.ref t) H'
theorem ok_Map_parts (T : Tx K mg)  : FnOk P w K mg base CX0 1 T.m_Map_parts.f T.m_Map_parts.fd ["self"] (spParts K) := by
  refine T.m_Map_parts.F.ok sc_Map_parts (fun vs H Q E h => ?_) (fun cdv A outer s H vs Q E hr h => ?_)
  · obtain ⟨C, p, dx, d, m, a, g, _, rfl, _⟩ := h; rfl
  obtain ⟨C, p, dx, d, m, a, g, km, rfl, hp, q⟩ := h
  refine ⟨_, (pss_one (ps_ret (pe_tup (pa_cons (pe_fld (pv 0) rfl) (pa_cons (pe_fld (pv 0) rfl) (pa_cons (pe_fld (pv 0) rfl) pa_nil)))))), ?_⟩
  refine ⟨_, rfl, p, C, dx, _, _, rfl, hp, km.cl, km.n1, mapF_many _ _ _ _, _, rfl, p, C, dx, _, _, rfl, hp, km.cl, km.n2, mapF_arrows _ _ _ _, _, rfl, p, C, dx, _, _, rfl, hp, km.cl, km.n3, mapF_goals _ _ _ _, sz (by show 3 ≤ 100000; decide), fun t nt => ?_⟩
  exact q t _ nt (Kp.mk_new nt) upd_same
/-! ### == of two maps that are alike -/
theorem dp_nats {H : Hp} : ∀ ns : List Nat, DpAll K H (ns.map vn) (ns.map fun (n : Nat) => PyData.int (n : Int))
  | [] => .nil
  | n :: ns => .cons (.int _) (dp_nats ns)
theorem dp_pairs {H : Hp} : ∀ {vs : List V} {ps : List (Nat × Nat)}, PairsV H vs ps → DpAll K H vs (ps.map fun p => PyData.tuple [.int (p.1 : Int), .int (p.2 : Int)])
  | [], [], _ => .nil
  | [], _ :: _, h => by have := h.1; simp at this
  | _ :: _, [], h => by have := h.1; simp at this
  | v :: vs, p :: ps, h => by
    obtain ⟨a, h1, h2⟩ := h.2 0 p rfl
    have e : v = .ref a := by simpa using h1
    subst e
    exact .cons (.tup (SqT.of h2) (.cons (.int _) (.cons (.int _) .nil))) (dp_pairs ⟨by have := h.1; simpa using this, fun i q hq => h.2 (i + 1) q hq⟩)
def encP (p : Pt) : PyData := .tuple [.int (p.many : Int), .tuple (p.arrows.map fun p => PyData.tuple [.int (p.1 : Int), .int (p.2 : Int)]), .tuple (p.goals.map fun (n : Nat) => PyData.int (n : Int))]
theorem can_nats : ∀ ns : List Nat, PyData.canLayAll0 (ns.map fun (n : Nat) => PyData.int (n : Int)) = true
  | [] => by simp [PyData.canLayAll0]
  | n :: ns => by simp [PyData.canLayAll0, PyData.canLay0, can_nats ns]
theorem dep_nats : ∀ ns : List Nat, PyData.depthAll (ns.map fun (n : Nat) => PyData.int (n : Int)) ≤ 1
  | [] => by simp [PyData.depthAll]
  | n :: ns => by
    have := dep_nats ns
    simp only [List.map_cons, PyData.depthAll, PyData.depth]; omega
theorem can_pairs : ∀ ps : List (Nat × Nat), PyData.canLayAll0 (ps.map fun p => PyData.tuple [.int (p.1 : Int), .int (p.2 : Int)]) = true
  | [] => by simp [PyData.canLayAll0]
  | p :: ps => by simp [PyData.canLayAll0, PyData.canLay0, can_pairs ps]
theorem dep_pairs : ∀ ps : List (Nat × Nat), PyData.depthAll (ps.map fun p => PyData.tuple [.int (p.1 : Int), .int (p.2 : Int)]) ≤ 5
  | [] => by simp [PyData.depthAll]
  | p :: ps => by
    have := dep_pairs ps
    simp only [List.map_cons, PyData.depthAll, PyData.depth]; omega
theorem shaped_P (p : Pt) : SeqAt.shaped (encP p) = true := by
  unfold SeqAt.shaped encP
  have h1 := dep_nats p.goals
  have h2 := dep_pairs p.arrows
  rw [Bool.and_eq_true]
  refine ⟨by simp [PyData.canLay0, PyData.canLayAll0, can_nats, can_pairs], decide_eq_true ?_⟩
  simp only [PyData.depth, PyData.depthAll]
  omega
theorem eqv_P (p : Pt) : PyData.eqv (encP p) (encP p) = true := SeqAt.eqv_refl _ (SeqAt.canLay_of_shaped (shaped_P p))
def spEqM (C : Addr) (C' : Addr) : Sp := fun vs H Q _ => ∃ (p q : Addr) (P : Pt) (d d' : Addr), vs = [.ref p, .ref q] ∧ MapAt C H p P d ∧ MapAt C' H q P d' ∧ ∀ H', Kp [] H H' → Q (.bl true) H'
theorem ok_eq_M (T : Tx K mg)  : FnOk P w K mg base CX0 2 T.m_Map_eq.f T.m_Map_eq.fd ["self", "other"] (spEqM T.c_Map T.c_Map) := by
  refine T.m_Map_eq.F.ok sc_Map_eq (fun vs H Q E h => ?_) (fun cdv A outer s H vs Q E hr h => ?_)
  · obtain ⟨p, q, _, _, _, rfl, _⟩ := h; rfl
  obtain ⟨p, q, P', d, d', rfl, ⟨dx, ar, gl, h1, h2, h3⟩, ⟨dx', ar', gl', g1, g2, g3⟩, k⟩ := h
  have G_Map_parts := ok_Map_parts (P := P) (w := w) (base := base) T
  refine ⟨_, (pss_one (ps_ret (pe_and (pe_callB (C8.call_isC T.i_Map) (by rfl) T.b_isinstance (by decide +kernel) (pa_cons (pv 1) (pa_cons (pe_glob (v := .ref T.c_Map) rfl T.k_Map.g rfl) pa_nil))) (pe_one (pe_cmpR (op_eqD hr.units) (pe_meth0 (pv 0) T.k_Map.cl T.Map_parts G_Map_parts (hr.mono (by decide)) (b_Map_parts T.m_Map_parts.F) .nil pass0) (pe_meth0 (pv 1) T.k_Map.cl T.Map_parts G_Map_parts (hr.mono (by decide)) (b_Map_parts T.m_Map_parts.F) .nil pass0) (nomark _)))))), ?_⟩
  refine ⟨_, rfl, q, dx', _, rfl, g1, true, rfl, iteT ?_⟩
  refine ⟨_, rfl, p, dx, _, rfl, h1, mapF_no _ _ _ _ (by decide +kernel) (by decide +kernel) (by decide +kernel) (by decide +kernel), T.c_Map, p, dx, d, _, _, _, T.kmM, rfl, h1, fun t H1 nt k1 e1 => ?_⟩
  have g1' := k1.get _ _ g1 (by simp)
  refine ⟨_, rfl, q, dx', _, rfl, g1', mapF_no _ _ _ _ (by decide +kernel) (by decide +kernel) (by decide +kernel) (by decide +kernel), T.c_Map, q, dx', d', _, _, _, T.kmM, rfl, g1', fun t' H2 nt' k2 e2 => ?_⟩
  have k12 := k1.add k2
  obtain ⟨vs, a1, a2⟩ := h2.keep k12
  obtain ⟨vs', b1, b2⟩ := g2.keep k12
  refine ⟨encP P', encP P', .tup (SqT.of (k2.get _ _ e1 (by simp))) (.cons (.int _) (.cons (.tup (SqT.of a1) (dp_pairs a2)) (.cons (.tup (SqT.of (h3.keep k12)) (dp_nats _)) .nil))), .tup (SqT.of e2) (.cons (.int _) (.cons (.tup (SqT.of b1) (dp_pairs b2)) (.cons (.tup (SqT.of (g3.keep k12)) (dp_nats _)) .nil))), shaped_P _, shaped_P _, ?_⟩
  rw [eqv_P]
  exact k _ k12
theorem ok_eq_R (T : Tx K mg)  : FnOk P w K mg base CX0 2 T.m_Map_eq.f T.m_Map_eq.fd ["self", "other"] (spEqM T.c_RawMap T.c_Map) := by
  refine T.m_Map_eq.F.ok sc_Map_eq (fun vs H Q E h => ?_) (fun cdv A outer s H vs Q E hr h => ?_)
  · obtain ⟨p, q, _, _, _, rfl, _⟩ := h; rfl
  obtain ⟨p, q, P', d, d', rfl, ⟨dx, ar, gl, h1, h2, h3⟩, ⟨dx', ar', gl', g1, g2, g3⟩, k⟩ := h
  have G_Map_parts := ok_Map_parts (P := P) (w := w) (base := base) T
  refine ⟨_, (pss_one (ps_ret (pe_and (pe_callB (C8.call_isC T.i_Map) (by rfl) T.b_isinstance (by decide +kernel) (pa_cons (pv 1) (pa_cons (pe_glob (v := .ref T.c_Map) rfl T.k_Map.g rfl) pa_nil))) (pe_one (pe_cmpR (op_eqD hr.units) (pe_meth0 (pv 0) T.k_RawMap.cl T.RawMap_parts G_Map_parts (hr.mono (by decide)) (b_Map_parts T.m_Map_parts.F) .nil pass0) (pe_meth0 (pv 1) T.k_Map.cl T.Map_parts G_Map_parts (hr.mono (by decide)) (b_Map_parts T.m_Map_parts.F) .nil pass0) (nomark _)))))), ?_⟩
  refine ⟨_, rfl, q, dx', _, rfl, g1, true, rfl, iteT ?_⟩
  refine ⟨_, rfl, p, dx, _, rfl, h1, mapF_no _ _ _ _ (by decide +kernel) (by decide +kernel) (by decide +kernel) (by decide +kernel), T.c_RawMap, p, dx, d, _, _, _, T.kmR, rfl, h1, fun t H1 nt k1 e1 => ?_⟩
  have g1' := k1.get _ _ g1 (by simp)
  refine ⟨_, rfl, q, dx', _, rfl, g1', mapF_no _ _ _ _ (by decide +kernel) (by decide +kernel) (by decide +kernel) (by decide +kernel), T.c_Map, q, dx', d', _, _, _, T.kmM, rfl, g1', fun t' H2 nt' k2 e2 => ?_⟩
  have k12 := k1.add k2
  obtain ⟨vs, a1, a2⟩ := h2.keep k12
  obtain ⟨vs', b1, b2⟩ := g2.keep k12
  refine ⟨encP P', encP P', .tup (SqT.of (k2.get _ _ e1 (by simp))) (.cons (.int _) (.cons (.tup (SqT.of a1) (dp_pairs a2)) (.cons (.tup (SqT.of (h3.keep k12)) (dp_nats _)) .nil))), .tup (SqT.of e2) (.cons (.int _) (.cons (.tup (SqT.of b1) (dp_pairs b2)) (.cons (.tup (SqT.of (g3.keep k12)) (dp_nats _)) .nil))), shaped_P _, shaped_P _, ?_⟩
  rw [eqv_P]
  exact k _ k12
end
end K33
/-! K33D5: making maps; the places that count -/
namespace K33
open PySem PySem.Spec PyProof.Rows L2
theorem bitNot_and0 {a r : Nat} (h : ∀ v, a.testBit v = true → r.testBit v = true) : PySem.Builtin.bitAnd (a : Int) (PySem.Builtin.bitNot (r : Int)) = 0 := by
  have hn : ¬ 0 ≤ PySem.Builtin.bitNot (r : Int) := by
    rw [bitNot_nonneg]; omega
  rw [bitAnd_pn (by omega) hn, bitNot_bitNot]
  have e : ((a : Int).toNat &&& (r : Int).toNat) = a := by
    rw [Int.toNat_natCast, Int.toNat_natCast]
    apply Nat.eq_of_testBit_eq
    intro i
    rw [Nat.testBit_and]
    cases e : a.testBit i with
    | false => rfl
    | true => rw [h i e]; rfl
  rw [e]
  omega
/-- the places that count: the start, and those between it and the goals -/
structure Counted (P : Pt) (pl : List Nat) : Prop where
  srt : pl.Pairwise (· < ·)
  mem : ∀ v, v ∈ pl ↔ v = 0 ∨ (Rch P.arrows (· < P.many) (· = 0) v ∧ Rch (P.arrows.map fun a => (a.2, a.1)) (· < P.many) (· ∈ P.goals) v)
theorem Counted.lt {P : Pt} {pl : List Nat} (c : Counted P pl) (h : 0 < P.many) {v : Nat} (hv : v ∈ pl) : v < P.many := by
  rcases (c.mem v).mp hv with e | ⟨h1, _⟩
  · omega
  · cases h1 with
    | base _ e => omega
    | step _ _ _ _ ok => exact ok
theorem Counted.len {P : Pt} {pl : List Nat} (c : Counted P pl) (h : 0 < P.many) : pl.length ≤ P.many := asc_len c.srt fun _ hv => c.lt h hv
section
variable {P : Program} {w : World} {K : PySem.W.Frag} {mg : Str → Option Value} {base : Heap}
def spArrows : Sp := fun vs H Q _ => ∃ (m : Nat) (a : Addr) (ps : List (Nat × Nat)), vs = [vn m, .ref a] ∧ TupP H a ps ∧ (∀ p, p ∈ ps → p.1 < m ∧ p.2 < m ∧ p.1 ≠ p.2) ∧ ∀ H', Kp [] H H' → Q (.bl true) H'
theorem ok_are_arrows (T : Tx K mg)  : FnOk P w K mg base CX0 4 T.d_are_arrows.f T.d_are_arrows.fd ["many", "thing"] (spArrows) := by
  refine T.d_are_arrows.F.ok sc_are_arrows (fun vs H Q E h => ?_) (fun cdv A outer s H vs Q E hr h => ?_)
  · obtain ⟨m, a, ps, rfl, _⟩ := h; rfl
  obtain ⟨m, a, ps, rfl, ⟨vs, ha, pv0⟩, hlt, q⟩ := h
  have G_is_index := ok_is_index (P := P) (w := w) (base := base) T
  refine ⟨_, (pss_cons (ps_if (pt_not (pt_val (pe_callB call_isi (by rfl) T.b_isinstance (by decide +kernel) (pa_cons (pv 1) (pa_cons (pe_bltn (v := .ty "tuple") rfl T.b_tuple (by decide +kernel) rfl) pa_nil))))) (pss_one (ps_ret pe_bl)) pss_nil)
  (pss_cons (ps_for PassesOwn.never rfl (pi_tup (pv 1)) (pg_name (i := 2) sc_are_arrows.nd rfl (Or.inl rfl)) (pss_cons (ps_if (PW.pt (pw_or (pt_not (pt_val (pe_callB call_isi (by rfl) T.b_isinstance (by decide +kernel) (pa_cons (pv 2) (pa_cons (pe_bltn (v := .ty "tuple") rfl T.b_tuple (by decide +kernel) rfl) pa_nil))))) (pw_or (pt_cmpR op_ne (pe_callB call_len_seq (by rfl) T.b_len (by decide +kernel) (pa_cons (pv 2) pa_nil)) pe_int (nomark _)) (pw_or1 (pt_not (pt_val (pe_callB (cr_all rfl) (by rfl) T.b_all (by decide +kernel) (pa_cons (pe_lc (own := [("place", 3)]) (g := (gName 3)) (hs := by intro _; rfl) rfl sc_are_arrows.nd (pi_tup (pv 2)) (blkOk_by (N := ["many", "thing", "pair", "place"]) (sc := defScope s_are_arrows) (own := [("place", 3)]) (by decide +kernel)) (fun _ _ _ _ _ => (pg_name (i := 3) sc_are_arrows.nd rfl (Or.inl rfl) (hf := by exact Or.inr rfl))) (fun _ _ _ _ _ => pts_nil) (fun _ _ _ _ _ => (pe_call G_is_index (hr.mono (by decide)) rfl T.d_is_index.g T.d_is_index.F.kp (b_is_index T.d_is_index.F) .nil pass0 (pa_cons (pv 3) (pa_cons (pv 0) pa_nil))))) pa_nil)))))))) (pss_one (ps_ret pe_bl)) pss_nil)
  (pss_one (ps_if (pt_cmpR op_eq (pe_ix ix_tup (pv 2) pe_int (fun _ _ => rfl)) (pe_ix ix_tup (pv 2) pe_int (fun _ _ => rfl)) (nomark _)) (pss_one (ps_ret pe_bl)) pss_nil))))
  (pss_one (ps_ret pe_bl)))), ?_⟩
  refine ⟨_, rfl, .ref a, .ty "tuple", .type "tuple", .type "tuple", true, rfl, .ty _, .base (.tup ha), kit_ty (by decide +kernel), true, rfl, ?_⟩
  refine iteF ?_
  refine ⟨_, rfl, a, rfl, ⟨_, SqT.of ha⟩, for_tup (K := K) (a := a) (xs := vs) (fun i σ H' => Kp [] H H' ∧ ∃ (x : Option V), σ = [some (vn m), some (.ref a), x, none]) ⟨Kp.refl, none, rfl⟩ (fun i σ H' _ ⟨k, _⟩ => SqT.of (k.tup _ _ ha)) ?_ ?_⟩
  · rintro i x σ H1 hi ⟨k1, y, rfl⟩
    obtain ⟨p, pa, hp, rfl, hpa⟩ := pv0.at_ hi
    obtain ⟨h1, h2, h3⟩ := hlt p (List.mem_of_getElem? hp)
    have hpa1 := k1.tup _ _ hpa
    refine ⟨_, rfl, .ref pa, .ty "tuple", .type "tuple", .type "tuple", true, rfl, .ty _, .base (.tup hpa1), kit_ty (by decide +kernel), true, rfl, ?_⟩
    refine iteF ?_
    refine ⟨_, rfl, pa, _, rfl, .inr (SqT.of hpa1), rfl, _, rfl, ?_⟩
    refine iteF ?_
    refine ⟨_, rfl, pa, rfl, ⟨_, SqT.of hpa1⟩, fun D nD => lc_tup (K := K) (a := pa) (xs := [vn p.1, vn p.2]) (fun j H' => Kp [] H1 H' ∧ H' D = some (.lst ((List.replicate j true).map V.bl))) ⟨Kp.mk_new nD, upd_same⟩ (fun j H' _ ⟨k, _⟩ => SqT.of (k.tup _ _ hpa1)) ?_ ?_⟩
    · rintro j z H2 hj ⟨k2, hD⟩
      refine ⟨rfl, ?_⟩
      obtain ⟨n, rfl, hn⟩ : ∃ n : Nat, z = vn n ∧ n < m := by
        match j, hj with
        | 0, hj => exact ⟨p.1, (Option.some.inj hj).symm, h1⟩
        | 1, hj => exact ⟨p.2, (Option.some.inj hj).symm, h2⟩
      have hj2 : j < 2 := (List.getElem?_eq_some_iff.mp hj).1
      refine ⟨_, rfl, _, rfl, n, m, rfl, ?_⟩
      refine ⟨_, hD, szl (by simp; omega), k2.put hD trivial (.inr nD), ?_⟩
      rw [upd_same, decide_eq_true (show 0 ≤ (n : Int) ∧ (n : Int) < (m : Int) by omega), List.replicate_succ', List.map_append]
      rfl
    · rintro H2 ⟨k2, hD⟩
      refine ⟨D, List.replicate 2 true, rfl, SqL.of hD, _, rfl, ?_⟩
      refine iteF ?_
      have hpa2 := k2.tup _ _ hpa1
      refine ⟨_, rfl, pa, _, 0, _, rfl, rfl, SqT.of hpa2, rfl, _, rfl, pa, _, 1, _, rfl, rfl, SqT.of hpa2, rfl, rfl, _, rfl, ?_⟩
      have e : decide (vn p.1 = vn p.2) = false := decide_eq_false fun z => h3 (by have := V.int.inj z; omega)
      rw [e]
      exact iteF ⟨k1.add k2, _, rfl⟩
  · rintro σ H1 ⟨k1, y, rfl⟩
    exact q H1 k1
def spFrom : Sp := fun vs H Q _ => ∃ (a : Addr) (ps : List (Nat × Nat)) (b l : Nat), vs = [.ref a, vn b, vn l, vn 0] ∧ TupP H a ps ∧ ps.length ≤ 1000 ∧ (∀ p, p ∈ ps → p.1 < 100 ∧ p.2 < 100) ∧ b < 2 ^ 100 ∧
  ∀ (r : Nat) H', (∀ v, r.testBit v = true ↔ Rch (ps.map fun a => (a.2, a.1)) (fun v => l.testBit v = true) (fun v => b.testBit v = true) v) → r < 2 ^ 100 → Kp [] H H' → Q (vn r) H'
theorem ok_led_from (T : Tx K mg)  : FnOk P w K mg base CX0 3 T.d_led_from.f T.d_led_from.fd ["arrows", "ends", "let", "barred"] (spFrom) := by
  refine T.d_led_from.F.ok sc_led_from (fun vs H Q E h => ?_) (fun cdv A outer s H vs Q E hr h => ?_)
  · obtain ⟨a, ps, b, l, rfl, _⟩ := h; rfl
  obtain ⟨a, ps, b, l, rfl, ⟨vs, ha, pv0⟩, hlen, hlt, hb, q⟩ := h
  have G_led_to := ok_led_to_L (P := P) (w := w) (base := base) T
  refine ⟨_, (pss_one (ps_ret (pe_call G_led_to (hr.mono (by decide)) rfl T.d_led_to.g T.d_led_to.F.kp (b_led_to T.d_led_to.F) .nil pass0 (by exact (pa_cons (pe_lc (own := [("tail", 4), ("head", 5)]) (g := (gTup K 2 (gCons (gName 4) (gCons (gName 5) gNil)))) (hs := by intro _; rfl) rfl sc_led_from.nd (pi_tup (pv 0)) (blkOk_by (N := ["arrows", "ends", "let", "barred", "tail", "head"]) (sc := defScope s_led_from) (own := [("tail", 4), ("head", 5)]) (by decide +kernel)) (fun _ _ _ _ _ => (pg_tup rfl (pgs_cons (pg_name (i := 4) sc_led_from.nd rfl (Or.inl rfl) (hf := by exact Or.inr rfl)) (pgs_cons (pg_name (i := 5) sc_led_from.nd rfl (Or.inl rfl) (hf := by exact Or.inr rfl)) pgs_nil)))) (fun _ _ _ _ _ => pts_nil) (fun _ _ _ _ _ => (pe_tup (pa_cons (pv 5) (pa_cons (pv 4) pa_nil))))) (pa_cons (pv 1) (pa_cons (pv 2) (pa_cons (pv 3) pa_nil)))))))), ?_⟩
  refine ⟨_, rfl, a, rfl, ⟨_, SqT.of ha⟩, fun D nD => lc_tup (K := K) (a := a) (xs := vs) (fun j H' => Kp [] H H' ∧ ∃ us, H' D = some (.lst us) ∧ PairsV H' us ((ps.take j).map fun a => (a.2, a.1))) ⟨Kp.mk_new nD, [], upd_same, PairsV.nil⟩ (fun j H' _ ⟨k, _⟩ => SqT.of (k.tup _ _ ha)) ?_ ?_⟩
  · rintro j x H1 hj ⟨k1, us, hD, pv1⟩
    obtain ⟨p, pa, hp, rfl, hpa⟩ := pv0.at_ hj
    have hpa1 := k1.tup _ _ hpa
    refine ⟨pa, _, rfl, SqT.of hpa1, rfl, _, _, rfl, _, _, rfl, rfl, rfl, ?_⟩
    refine ⟨_, rfl, _, rfl, sz (by show 2 ≤ 100000; decide), fun t nt => ?_⟩
    have k2 : Kp [] H1 (upd H1 t (.tup [vn p.2, vn p.1])) := Kp.mk_new nt
    have nDt : D ≠ t := ne_of_none hD nt
    have hj' : j < ps.length := (List.getElem?_eq_some_iff.mp hp).1
    have hus : us.length = j := by rw [pv1.1, List.length_map, List.length_take]; omega
    refine ⟨us, by rw [upd_ne nDt]; exact hD, szl (by omega), (k1.add k2).put (show (upd H1 t (.tup [vn p.2, vn p.1])) D = some (.lst us) by rw [upd_ne nDt]; exact hD) trivial (.inr nD), us ++ [.ref t], upd_same, ?_⟩
    have e : (ps.take (j + 1)).map (fun a => (a.2, a.1)) = ((ps.take j).map fun a => (a.2, a.1)) ++ [(p.2, p.1)] := by rw [take_more hp, List.map_append]; rfl
    rw [e]
    have k3 : Kp [D] H1 (upd (upd H1 t (.tup [vn p.2, vn p.1])) D (.lst (us ++ [.ref t]))) := (k2.weak fun _ m => nomatch m).put (show (upd H1 t (.tup [vn p.2, vn p.1])) D = some (.lst us) by rw [upd_ne nDt]; exact hD) trivial (.inl (by simp))
    exact (pv1.keep k3).snoc (by rw [upd_ne nDt.symm, upd_same])
  · rintro H1 ⟨k1, us, hD, pv1⟩
    have evs : ps.take vs.length = ps := List.take_of_length_le (by rw [pv0.1]; exact Nat.le_refl _)
    rw [evs] at pv1
    refine ⟨_, rfl, _, rfl, _, rfl, D, ps.map (fun a => (a.2, a.1)), b, l, rfl, ⟨us, hD, pv1⟩, by simpa using hlen, fun p hp => ?_, hb, fun r H2 h1 h2 k2 => q r H2 h1 h2 (k1.add k2)⟩
    obtain ⟨p', hp', rfl⟩ := List.mem_map.mp hp
    exact ⟨(hlt p' hp').2, (hlt p' hp').1⟩
def spGoalsMask (K : PySem.W.Frag) : Sp := fun vs H Q _ => ∃ (C p d : Addr) (P : Pt), KM K C ∧ vs = [.ref p] ∧ MapAt C H p P d ∧ (∀ g, g ∈ P.goals → g ≤ 1000) ∧ Q (vn (maskN P.goals)) H
theorem ok_goals_mask (T : Tx K mg)  : FnOk P w K mg base CX0 2 T.d_goals_mask.f T.d_goals_mask.fd ["chart"] (spGoalsMask K) := by
  refine T.d_goals_mask.F.ok sc_goals_mask (fun vs H Q E h => ?_) (fun cdv A outer s H vs Q E hr h => ?_)
  · obtain ⟨C, p, d, P', _, rfl, _⟩ := h; rfl
  obtain ⟨C, p, d, P', km, rfl, ⟨dx, ar, gl, h1, h2, h3⟩, hg, q⟩ := h
  have G_mask_of := ok_mask_of_T (P := P) (w := w) (base := base) T
  refine ⟨_, (pss_one (ps_ret (pe_call G_mask_of (hr.mono (by decide)) rfl T.d_mask_of.g T.d_mask_of.F.kp (b_mask_of T.d_mask_of.F) .nil pass0 (pa_cons (pe_fld (pv 0) rfl) pa_nil)))), ?_⟩
  exact ⟨_, rfl, p, C, dx, _, _, rfl, h1, km.cl, km.n3, mapF_goals _ _ _ _, gl, P'.goals, rfl, h3, hg, q⟩
def spPlacesMask (K : PySem.W.Frag) : Sp := fun vs H Q _ => ∃ (C p d : Addr) (P : Pt), KM K C ∧ vs = [.ref p] ∧ MapAt C H p P d ∧ P.many ≤ 1000 ∧ Q (vn (2 ^ P.many - 1)) H
theorem ok_places_mask (T : Tx K mg)  : FnOk P w K mg base CX0 1 T.d_places_mask.f T.d_places_mask.fd ["chart"] (spPlacesMask K) := by
  refine T.d_places_mask.F.ok sc_places_mask (fun vs H Q E h => ?_) (fun cdv A outer s H vs Q E hr h => ?_)
  · obtain ⟨C, p, d, P', _, rfl, _⟩ := h; rfl
  obtain ⟨C, p, d, P', km, rfl, ⟨dx, ar, gl, h1, h2, h3⟩, hg, q⟩ := h
  refine ⟨_, (pss_one (ps_ret (pe_op op_sub (pe_op op_shl pe_int (pe_fld (pv 0) rfl)) pe_int))), ?_⟩
  refine ⟨_, rfl, p, C, dx, _, _, rfl, h1, km.cl, km.n1, mapF_many _ _ _ _, _, _, rfl, rfl, ⟨by omega, by omega, by decide⟩, _, _, rfl, rfl, ?_⟩
  dsimp only
  rw [shl_sub]
  exact q
def spGoals : Sp := fun vs H Q _ => ∃ (m : Nat) (a g : Addr) (P : Pt), vs = [vn m, .ref a, .ref g] ∧ P.many = m ∧ TupP H a P.arrows ∧ TupN H g P.goals ∧ Good P ∧ ∀ H', Kp [] H H' → Q (.bl true) H'
theorem ok_are_goals (T : Tx K mg)  : FnOk P w K mg base CX0 5 T.d_are_goals.f T.d_are_goals.fd ["many", "arrows", "thing"] (spGoals) := by
  refine T.d_are_goals.F.ok sc_are_goals (fun vs H Q E h => ?_) (fun cdv A outer s H vs Q E hr h => ?_)
  · obtain ⟨m, a, g, P', rfl, _⟩ := h; rfl
  obtain ⟨m, a, g, P', rfl, rfl, ha, hg, G, q⟩ := h
  have G_is_lot := ok_is_lot (P := P) (w := w) (base := base) T
  have G_led_to := ok_led_to_T (P := P) (w := w) (base := base) T
  have G_mask_of := ok_mask_of_T (P := P) (w := w) (base := base) T
  refine ⟨_, (pss_cons (ps_if (PW.pt (pw_or (pt_not (pt_val (pe_call G_is_lot (hr.mono (by decide)) rfl T.d_is_lot.g T.d_is_lot.F.kp (b_is_lot T.d_is_lot.F) .nil pass0 (pa_cons (pv 2) (pa_cons (pv 0) pa_nil))))) (pw_or (pt_cmpR op_eq (pe_callB call_len_seq (by rfl) T.b_len (by decide +kernel) (pa_cons (pv 2) pa_nil)) pe_int (nomark _)) (pw_or1 (pt_cmpR op_eq (pe_ix ix_tup (pv 2) pe_int (fun _ _ => rfl)) pe_int (nomark _)))))) (pss_one (ps_ret pe_bl)) pss_nil)
  (pss_cons (ps_set (i := 3) sc_are_goals.nd rfl (Or.inl rfl) (pe_call G_led_to (hr.mono (by decide)) rfl T.d_led_to.g T.d_led_to.F.kp (b_led_to T.d_led_to.F) .nil pass0 (pa_cons (pv 1) (pa_cons pe_int (pa_cons (pe_op op_sub (pe_op op_shl pe_int (pv 0)) pe_int) (pa_cons pe_int pa_nil))))))
  (pss_one (ps_ret (pe_cmpR op_eq (pe_op op_and (pe_call G_mask_of (hr.mono (by decide)) rfl T.d_mask_of.g T.d_mask_of.F.kp (b_mask_of T.d_mask_of.F) .nil pass0 (pa_cons (pv 2) pa_nil)) (pe_un un_inv (pv 3))) pe_int (nomark _)))))), ?_⟩
  refine ⟨_, rfl, _, rfl, g, P'.goals, P'.many, rfl, hg, G.lot, _, rfl, ?_⟩
  refine iteF ?_
  refine ⟨_, rfl, g, _, rfl, .inr (SqT.of hg), rfl, _, rfl, ?_⟩
  obtain ⟨g0, gr, hgl⟩ : ∃ g0 gr, P'.goals = g0 :: gr := by
    cases e : P'.goals with
    | nil => exact absurd e G.ne
    | cons x y => exact ⟨x, y, rfl⟩
  have e1 : decide (V.int ((P'.goals.map vn).length : Int) = V.int 0) = false := decide_eq_false fun z => by
    have := V.int.inj z
    rw [hgl] at this
    simp at this
    omega
  rw [e1]
  refine iteF ?_
  have hat : atI (P'.goals.map vn) ((0 : Nat) : Int) = some (vn g0) := atI_nat (by rw [hgl]; rfl)
  refine ⟨_, rfl, g, _, 0, _, rfl, rfl, SqT.of hg, hat, rfl, _, rfl, ?_⟩
  have e2 : decide (vn g0 = V.int 0) = false := decide_eq_false fun z => by
    have := V.int.inj z
    have e0 : g0 = 0 := by omega
    exact G.no0 (by rw [hgl, e0]; simp)
  rw [e2]
  refine iteF ?_
  have m40 := G.m40
  refine ⟨_, rfl, _, rfl, _, _, rfl, rfl, ⟨by omega, by omega, by decide⟩, _, _, rfl, rfl, a, P'.arrows, 1, 2 ^ P'.many - 1, ?_, ha, by have := G.len; omega, fun p hp => ?_, by decide, fun r H1 hr1 _ k1 => ?_⟩
  · dsimp only
    rw [shl_sub]; rfl
  · have := G.arr p hp
    exact ⟨by omega, by omega⟩
  refine ⟨_, rfl, g, P'.goals, rfl, hg.keep k1, fun n hn => by have := G.lot.2 n hn; omega, ?_⟩
  refine ⟨_, rfl, _, rfl, _, _, rfl, rfl, rfl, ?_⟩
  dsimp only
  have e3 : PySem.Builtin.bitAnd (maskN P'.goals : Int) (PySem.Builtin.bitNot (r : Int)) = 0 := bitNot_and0 fun v hv => ?_
  · rw [decide_eq_true (show V.int (PySem.Builtin.bitAnd (maskN P'.goals : Int) (PySem.Builtin.bitNot (r : Int))) = V.int 0 by rw [e3])]
    exact q H1 k1
  · rw [maskN_bit] at hv
    refine (hr1 v).mpr ((G.rch v (of_decide_eq_true hv)).imp (fun v hv => ?_) fun v hv => ?_)
    · rw [bit_all]; exact decide_eq_true hv
    · rw [one_bit]; exact decide_eq_true hv
def spMapInit (T : Tx K mg) : Sp := fun vs H Q _ => ∃ (p dx ar gl : Addr) (P : Pt), vs = [.ref p, vn P.many, .ref ar, .ref gl] ∧ H p = some (.ins T.c_Map dx []) ∧ Good P ∧ TupP H ar P.arrows ∧ TupN H gl P.goals ∧
  ∀ d H', H d = none → Kp [p] H H' → MapAt T.c_Map H' p P d → H' d = some (.dK []) → Q .non H'
theorem ok_Map_init (T : Tx K mg)  : FnOk P w K mg base CX0 6 T.m_Map_init.f T.m_Map_init.fd ["self", "many", "arrows", "goals"] (spMapInit T) := by
  refine T.m_Map_init.F.ok sc_Map_init (fun vs H Q E h => ?_) (fun cdv A outer s H vs Q E hr h => ?_)
  · obtain ⟨p, dx, ar, gl, P', rfl, _⟩ := h; rfl
  obtain ⟨p, dx, ar, gl, P', rfl, hp, G, ha, hg, q⟩ := h
  have G_is_between := ok_is_between (P := P) (w := w) (base := base) T
  have G_are_arrows := ok_are_arrows (P := P) (w := w) (base := base) T
  have G_are_goals := ok_are_goals (P := P) (w := w) (base := base) T
  have G_Map_keep := ok_Map_keep (P := P) (w := w) (base := base) T
  refine ⟨_, (pss_cons (ps_if (pt_not (pt_val (pe_call G_is_between (hr.mono (by decide)) rfl T.d_is_between.g T.d_is_between.F.kp (b_is_between T.d_is_between.F) .nil pass0 (pa_cons (pv 1) (pa_cons pe_int (pa_cons (pe_glob (v := .int 40) rfl T.g_MOST_PLACES ⟨_, rfl⟩) pa_nil)))))) (pss_one ps_never) pss_nil)
  (pss_cons (ps_if (PW.pt (pw_or (pt_not (pt_val (pe_call G_are_arrows (hr.mono (by decide)) rfl T.d_are_arrows.g T.d_are_arrows.F.kp (b_are_arrows T.d_are_arrows.F) .nil pass0 (pa_cons (pv 1) (pa_cons (pv 2) pa_nil))))) (pw_or1 (pt_cmpR op_gt (pe_callB call_len_seq (by rfl) T.b_len (by decide +kernel) (pa_cons (pv 2) pa_nil)) (pe_glob (v := .int 60) rfl T.g_MOST_ARROWS ⟨_, rfl⟩) (nomark _))))) (pss_one ps_never) pss_nil)
  (pss_cons (ps_if (pt_not (pt_val (pe_call G_are_goals (hr.mono (by decide)) rfl T.d_are_goals.g T.d_are_goals.F.kp (b_are_goals T.d_are_goals.F) .nil pass0 (pa_cons (pv 1) (pa_cons (pv 2) (pa_cons (pv 3) pa_nil)))))) (pss_one ps_never) pss_nil)
  (pss_one (ps_expr (pe_meth (pv 0) T.k_Map.cl T.Map_keep G_Map_keep (hr.mono (by decide)) (b_Map_keep T.m_Map_keep.F) .nil pass0 (pa_cons (pv 1) (pa_cons (pv 2) (pa_cons (pv 3) pa_nil))))))))), ?_⟩
  have m2 := G.m2
  have m40 := G.m40
  refine ⟨_, rfl, P'.many, 2, 40, rfl, _, rfl, ?_⟩
  rw [decide_eq_true (show (2 : Int) ≤ P'.many ∧ (P'.many : Int) ≤ 40 by omega)]
  refine iteF ?_
  refine ⟨_, rfl, _, rfl, P'.many, ar, P'.arrows, rfl, ha, G.arr, fun H1 k1 => ⟨_, rfl, ?_⟩⟩
  refine iteF ?_
  obtain ⟨vs, a1, a2⟩ := ha.keep k1
  refine ⟨_, rfl, ar, _, rfl, .inr (SqT.of a1), _, _, rfl, rfl, _, rfl, ?_⟩
  refine ite_d (fun z => absurd z (by rw [a2.1]; have := G.len; omega)) fun _ => ?_
  refine ⟨_, rfl, _, rfl, _, rfl, P'.many, ar, gl, P', rfl, rfl, ⟨vs, a1, a2⟩, hg.keep k1, G, fun H2 k2 => ⟨_, rfl, ?_⟩⟩
  refine iteF ?_
  have k12 := k1.add k2
  refine ⟨_, rfl, p, dx, _, rfl, k12.get _ _ hp (by simp), rfl, _, rfl, _, rfl, _, rfl, T.c_Map, p, dx, _, _, _, T.kmM, rfl, k12.get _ _ hp (by simp), fun d H3 nd k3 h3 h4 => ?_⟩
  have k4 : Kp [p] H H3 := (k12.weak fun _ m => nomatch m).trans k3 fun _ m => .inl m
  exact q d H3 (k12.free nd) k4 ⟨dx, ar, gl, h3, ha.keep k4, hg.keep k4⟩ h4
def spRawInit (T : Tx K mg) : Sp := fun vs H Q _ => ∃ (p dx ar gl : Addr) (P : Pt), vs = [.ref p, vn P.many, .ref ar, .ref gl] ∧ H p = some (.ins T.c_RawMap dx []) ∧ TupP H ar P.arrows ∧ TupN H gl P.goals ∧
  ∀ d H', H d = none → Kp [p] H H' → MapAt T.c_RawMap H' p P d → H' d = some (.dK []) → Q .non H'
theorem ok_RawMap_init (T : Tx K mg)  : FnOk P w K mg base CX0 2 T.m_RawMap_init.f T.m_RawMap_init.fd ["self", "many", "arrows", "goals"] (spRawInit T) := by
  refine T.m_RawMap_init.F.ok sc_RawMap_init (fun vs H Q E h => ?_) (fun cdv A outer s H vs Q E hr h => ?_)
  · obtain ⟨p, dx, ar, gl, P', rfl, _⟩ := h; rfl
  obtain ⟨p, dx, ar, gl, P', rfl, hp, ha, hg, q⟩ := h
  have G_Map_keep := ok_Map_keep (P := P) (w := w) (base := base) T
  refine ⟨_, (pss_one (ps_expr (pe_meth (pv 0) T.k_RawMap.cl T.RawMap_keep G_Map_keep (hr.mono (by decide)) (b_Map_keep T.m_Map_keep.F) .nil pass0 (pa_cons (pv 1) (pa_cons (pv 2) (pa_cons (pv 3) pa_nil)))))), ?_⟩
  refine ⟨_, rfl, p, dx, _, rfl, hp, rfl, _, rfl, _, rfl, _, rfl, T.c_RawMap, p, dx, _, _, _, T.kmR, rfl, hp, fun d H3 nd k3 h3 h4 => ?_⟩
  exact q d H3 nd k3 ⟨dx, ar, gl, h3, ha.keep k3, hg.keep k3⟩ h4
def spCounted (K : PySem.W.Frag) : Sp := fun vs H Q _ => ∃ (C p d : Addr) (P : Pt), KM K C ∧ vs = [.ref p] ∧ MapAt C H p P d ∧ Good P ∧ ∀ t pl H', Counted P pl → H t = none → Kp [] H H' → TupN H' t pl → Q (.ref t) H'
theorem ok_counted_places (T : Tx K mg)  : FnOk P w K mg base CX0 4 T.d_counted_places.f T.d_counted_places.fd ["chart"] (spCounted K) := by
  refine T.d_counted_places.F.ok sc_counted_places (fun vs H Q E h => ?_) (fun cdv A outer s H vs Q E hr h => ?_)
  · obtain ⟨C, p, d, P', _, rfl, _⟩ := h; rfl
  obtain ⟨C, p, d, P', km, rfl, M, G, q⟩ := h
  have G_places_mask := ok_places_mask (P := P) (w := w) (base := base) T
  have G_led_to := ok_led_to_T (P := P) (w := w) (base := base) T
  have G_led_from := ok_led_from (P := P) (w := w) (base := base) T
  have G_goals_mask := ok_goals_mask (P := P) (w := w) (base := base) T
  have G_lot_of := ok_lot_of (P := P) (w := w) (base := base) T
  refine ⟨_, (pss_cons (ps_set (i := 1) sc_counted_places.nd rfl (Or.inl rfl) (pe_call G_places_mask (hr.mono (by decide)) rfl T.d_places_mask.g T.d_places_mask.F.kp (b_places_mask T.d_places_mask.F) .nil pass0 (pa_cons (pv 0) pa_nil)))
  (pss_cons (ps_set (i := 2) sc_counted_places.nd rfl (Or.inl rfl) (pe_call G_led_to (hr.mono (by decide)) rfl T.d_led_to.g T.d_led_to.F.kp (b_led_to T.d_led_to.F) .nil pass0 (pa_cons (pe_fld (pv 0) rfl) (pa_cons pe_int (pa_cons (pv 1) (pa_cons pe_int pa_nil))))))
  (pss_cons (ps_set (i := 3) sc_counted_places.nd rfl (Or.inl rfl) (pe_call G_led_from (hr.mono (by decide)) rfl T.d_led_from.g T.d_led_from.F.kp (b_led_from T.d_led_from.F) .nil pass0 (pa_cons (pe_fld (pv 0) rfl) (pa_cons (pe_call G_goals_mask (hr.mono (by decide)) rfl T.d_goals_mask.g T.d_goals_mask.F.kp (b_goals_mask T.d_goals_mask.F) .nil pass0 (pa_cons (pv 0) pa_nil)) (pa_cons (pv 1) (pa_cons pe_int pa_nil))))))
  (pss_one (ps_ret (pe_call G_lot_of (hr.mono (by decide)) rfl T.d_lot_of.g T.d_lot_of.F.kp (b_lot_of T.d_lot_of.F) .nil pass0 (pa_cons (pe_op op_or (pe_op op_and (pv 2) (pv 3)) pe_int) pa_nil))))))), ?_⟩
  have m40 := G.m40
  have glt : ∀ g, g ∈ P'.goals → g < P'.many := G.lot.2
  refine ⟨_, rfl, C, p, d, P', km, rfl, M, by omega, ?_⟩
  obtain ⟨dx, ar, gl, h1, h2, h3⟩ := id M.ob
  have alt : ∀ p, p ∈ P'.arrows → p.1 < 100 ∧ p.2 < 100 := fun p hp => by have := G.arr p hp; exact ⟨by omega, by omega⟩
  refine ⟨_, rfl, p, C, dx, _, _, rfl, h1, km.cl, km.n2, mapF_arrows _ _ _ _, _, rfl, ar, P'.arrows, 1, 2 ^ P'.many - 1, rfl, h2, by have := G.len; omega, alt, by decide, fun r1 H1 hr1 lt1 k1 => ?_⟩
  have M1 := M.keep k1 (by simp)
  refine ⟨_, rfl, p, C, dx, _, _, rfl, k1.get _ _ h1 (by simp), km.cl, km.n2, mapF_arrows _ _ _ _, _, rfl, C, p, d, P', km, rfl, M1, fun g hg => by have := glt g hg; omega, ?_⟩
  have mlt : maskN P'.goals < 2 ^ 100 := Nat.lt_of_lt_of_le (mask_lt glt) (Nat.pow_le_pow_right (by decide) (by omega))
  refine ⟨_, rfl, ar, P'.arrows, maskN P'.goals, 2 ^ P'.many - 1, rfl, h2.keep k1, by have := G.len; omega, alt, mlt, fun r2 H2 hr2 lt2 k2 => ?_⟩
  have rl : (r1 &&& r2 ||| 1) < 2 ^ 100 := Nat.or_lt_two_pow (Nat.and_lt_two_pow _ lt2) (by decide)
  refine ⟨_, rfl, _, rfl, _, _, rfl, rfl, _, _, rfl, rfl, r1 &&& r2 ||| 1, ?_, rl, fun t H3 l ib k3 nt ht => ?_⟩
  · dsimp only
    rw [bitAnd_nat, show (1 : Int) = ((1 : Nat) : Int) from rfl, bitOr_nat]
    rfl
  have k12 := k1.add k2
  refine q t l H3 ⟨ib.srt, fun v => ?_⟩ (k12.free nt) (k12.add k3) ht
  rw [ib.mem, Nat.testBit_or, Nat.testBit_and, one_bit, Bool.or_eq_true, Bool.and_eq_true, hr1, hr2, decide_eq_true_eq]
  have c1 : ∀ v, Rch P'.arrows (fun v => (2 ^ P'.many - 1).testBit v = true) (fun v => (1 : Nat).testBit v = true) v ↔ Rch P'.arrows (· < P'.many) (· = 0) v := fun v =>
    ⟨fun h => h.imp (fun v hv => by rw [bit_all] at hv; exact of_decide_eq_true hv) fun v hv => by rw [one_bit] at hv; exact of_decide_eq_true hv,
     fun h => h.imp (fun v hv => by rw [bit_all]; exact decide_eq_true hv) fun v hv => by rw [one_bit]; exact decide_eq_true hv⟩
  have c2 : ∀ v, Rch (P'.arrows.map fun a => (a.2, a.1)) (fun v => (2 ^ P'.many - 1).testBit v = true) (fun v => (maskN P'.goals).testBit v = true) v ↔ Rch (P'.arrows.map fun a => (a.2, a.1)) (· < P'.many) (· ∈ P'.goals) v := fun v =>
    ⟨fun h => h.imp (fun v hv => by rw [bit_all] at hv; exact of_decide_eq_true hv) fun v hv => by rw [maskN_bit] at hv; exact of_decide_eq_true hv,
     fun h => h.imp (fun v hv => by rw [bit_all]; exact decide_eq_true hv) fun v hv => by rw [maskN_bit]; exact decide_eq_true hv⟩
  rw [c1, c2]
  exact or_comm
def spChecked (K : PySem.W.Frag) : Sp := fun vs H Q _ => ∃ (C p d : Addr) (P : Pt), KM K C ∧ vs = [.ref p] ∧ MapAt C H p P d ∧ Good P ∧ P.many ≤ 9 ∧ ∀ t pl H', Counted P pl → H t = none → Kp [] H H' → TupN H' t pl → Q (.ref t) H'
theorem ok_check_counted (T : Tx K mg)  : FnOk P w K mg base CX0 5 T.d_check_counted.f T.d_check_counted.fd ["chart"] (spChecked K) := by
  refine T.d_check_counted.F.ok sc_check_counted (fun vs H Q E h => ?_) (fun cdv A outer s H vs Q E hr h => ?_)
  · obtain ⟨C, p, d, P', _, rfl, _⟩ := h; rfl
  obtain ⟨C, p, d, P', km, rfl, M, G, m9, q⟩ := h
  have G_counted_places := ok_counted_places (P := P) (w := w) (base := base) T
  refine ⟨_, (pss_cons (ps_set (i := 1) sc_check_counted.nd rfl (Or.inl rfl) (pe_call G_counted_places (hr.mono (by decide)) rfl T.d_counted_places.g T.d_counted_places.F.kp (b_counted_places T.d_counted_places.F) .nil pass0 (pa_cons (pv 0) pa_nil)))
  (pss_cons (ps_if (pt_cmpR op_gt (pe_callB call_len_seq (by rfl) T.b_len (by decide +kernel) (pa_cons (pv 1) pa_nil)) (pe_glob (v := .int 9) rfl T.g_MOST_COUNTED ⟨_, rfl⟩) (nomark _)) (pss_one ps_never) pss_nil)
  (pss_one (ps_ret (pv 1))))), ?_⟩
  refine ⟨_, rfl, C, p, d, P', km, rfl, M, G, fun t pl H1 c nt k1 ht => ?_⟩
  refine ⟨_, rfl, t, _, rfl, .inr (SqT.of ht), _, _, rfl, rfl, _, rfl, ?_⟩
  refine ite_d (fun z => absurd z ?_) fun _ => ⟨_, rfl, q t pl H1 c nt k1 ht⟩
  have := c.len (by have := G.m2; omega)
  rw [List.length_map]
  omega
end
end K33
/-! K33D6: the search's object; what leads into a place, whether it goes on -/
namespace K33
open PySem PySem.Spec PyProof.Rows L2
/-- the truth of a value, as a test -/
def tTruK (K : PySem.W.Frag) (te : TE) : TT := fun σ H Q => te σ H fun x H' => ∃ k, TruV K x H' k ∧ Q k H'
/-! ### digits -/
def bl (n m : Nat) : List Nat := (List.range n).filter fun i => m.testBit i
theorem bl_mem {n m i : Nat} : i ∈ bl n m ↔ i < n ∧ m.testBit i = true := by simp [bl]
theorem bl_srt {n m : Nat} : (bl n m).Pairwise (· < ·) := List.Pairwise.filter _ List.pairwise_lt_range
theorem bl_nd {n m : Nat} : (bl n m).Nodup := bl_srt.imp fun h => Nat.ne_of_lt h
theorem asc_nd {l : List Nat} (h : l.Pairwise (· < ·)) : l.Nodup := h.imp fun h => Nat.ne_of_lt h
theorem asc_eq {l r : List Nat} (h1 : l.Pairwise (· < ·)) (h2 : r.Pairwise (· < ·)) (h : ∀ i, i ∈ l ↔ i ∈ r) : l = r :=
  List.Perm.eq_of_pairwise (fun a b _ _ h h' => absurd h (by omega)) h1 h2 ((List.perm_ext_iff_of_nodup (asc_nd h1) (asc_nd h2)).mpr h)
theorem lt_bit {m n i : Nat} (hm : m < 2 ^ n) (h : m.testBit i = true) : i < n := by
  refine Classical.byContradiction fun hge => ?_
  have : m.testBit i = false := Nat.testBit_lt_two_pow (Nat.lt_of_lt_of_le hm (Nat.pow_le_pow_right (by decide) (by omega)))
  rw [this] at h; cases h
theorem IsBits.eq {l : List Nat} {n m : Nat} (h : IsBits l m) (hm : m < 2 ^ n) : l = bl n m :=
  asc_eq h.srt bl_srt fun i => by rw [h.mem, bl_mem]; exact ⟨fun z => ⟨lt_bit hm z, z⟩, fun z => z.2⟩
theorem sub_and_bit : ∀ (i a b : Nat), (a - (a &&& b)).testBit i = (a.testBit i && !b.testBit i)
  | 0, a, b => by
    have h1 : (a &&& b).testBit 0 = (a.testBit 0 && b.testBit 0) := Nat.testBit_and a b 0
    have h2 : a &&& b ≤ a := Nat.and_le_left
    simp only [Nat.testBit_zero] at h1 ⊢
    generalize a &&& b = x at h1 h2
    by_cases ha : a % 2 = 1
    · by_cases hb : b % 2 = 1
      · simp only [ha, hb, decide_true, Bool.and_self, decide_eq_true_eq] at h1
        have : ¬ (a - x) % 2 = 1 := by omega
        simp [ha, hb, this]
      · simp only [ha, hb, decide_true, decide_false, Bool.and_false, decide_eq_false_iff_not] at h1
        have : (a - x) % 2 = 1 := by omega
        simp [ha, hb, this]
    · simp only [ha, decide_false, Bool.false_and, decide_eq_false_iff_not] at h1
      have : ¬ (a - x) % 2 = 1 := by omega
      simp [ha, this]
  | i + 1, a, b => by
    have ih := sub_and_bit i (a / 2) (b / 2)
    rw [Nat.testBit_succ, Nat.testBit_succ, Nat.testBit_succ, ← ih]
    congr 1
    have h1 : (a &&& b) / 2 = a / 2 &&& b / 2 := Nat.and_div_two
    have h2 : a &&& b ≤ a := Nat.and_le_left
    have h3 : (a &&& b).testBit 0 = (a.testBit 0 && b.testBit 0) := Nat.testBit_and a b 0
    simp only [Nat.testBit_zero] at h3
    rw [← h1]
    generalize a &&& b = x at h2 h3
    have h4 : x % 2 ≤ a % 2 := by
      by_cases ha : a % 2 = 1
      · omega
      · simp only [ha, decide_false, Bool.false_and, decide_eq_false_iff_not] at h3
        omega
    omega
/-- the digit p taken out of m -/
def clr (m p : Nat) : Nat := m - (m &&& 1 <<< p)
theorem clr_bit (m p i : Nat) : (clr m p).testBit i = (m.testBit i && !decide (i = p)) := by
  unfold clr
  rw [sub_and_bit, Nat.one_shiftLeft, Nat.testBit_two_pow]
  congr 2
  by_cases h : i = p
  · simp [h]
  · simp [h, Ne.symm h]
theorem clr_int (m p : Nat) : PySem.Builtin.bitAnd (m : Int) (PySem.Builtin.bitNot ((1 <<< p : Nat) : Int)) = (clr m p : Int) := by
  have hn : ¬ (0 : Int) ≤ PySem.Builtin.bitNot ((1 <<< p : Nat) : Int) := by
    intro z
    exact (bitNot_nonneg.mp z) (Int.natCast_nonneg _)
  rw [bitAnd_pn (Int.natCast_nonneg _) hn, bitNot_bitNot, Int.toNat_natCast, Int.toNat_natCast]
  unfold clr
  have h2 : m &&& 1 <<< p ≤ m := Nat.and_le_left
  omega
theorem clr_le {m p : Nat} : clr m p ≤ m := Nat.sub_le _ _
theorem clr_bl {n m p : Nat} : bl n (clr m p) = (bl n m).erase p :=
  asc_eq bl_srt (bl_srt.sublist (List.erase_sublist)) fun i => by
    rw [bl_nd.mem_erase_iff, bl_mem, bl_mem, clr_bit]
    by_cases h : i = p <;> simp [h]
theorem set_bl {n m p : Nat} (hp : p < n) (h : m.testBit p = false) : (bl n m ++ [p]).Perm (bl n (m ||| 1 <<< p)) := by
  refine (List.perm_ext_iff_of_nodup ?_ bl_nd).mpr fun i => ?_
  · rw [List.nodup_append]
    exact ⟨bl_nd, by simp, fun a ha b hb e => by simp at hb; subst hb; subst e; have := (bl_mem.mp ha).2; rw [h] at this; cases this⟩
  · rw [List.mem_append, bl_mem, bl_mem, or_bit, List.mem_singleton]
    by_cases e : i = p
    · subst e; simp [hp]
    · simp [e]
theorem bl_succ (n m : Nat) : bl (n + 1) m = bl n m ++ if m.testBit n = true then [n] else [] := by
  unfold bl
  rw [List.range_succ, List.filter_append]
  congr 1
  by_cases h : m.testBit n = true <;> simp [h]
theorem bl_len (n m : Nat) : (bl n m).length ≤ n := by
  have := List.length_filter_le (fun i => m.testBit i) (List.range n)
  rw [List.length_range] at this
  exact this
theorem nd_len : ∀ {n : Nat} {l : List Nat}, l.Nodup → (∀ x, x ∈ l → x < n) → l.length ≤ n
  | 0, [], _, _ => Nat.le_refl _
  | 0, x :: _, _, h => absurd (h x List.mem_cons_self) (by omega)
  | n + 1, l, nd, h => by
    have := nd_len (n := n) (l := l.erase n) (nd.sublist List.erase_sublist) fun x hx => by
      have h1 := (nd.mem_erase_iff).mp hx
      have := h x h1.2
      omega
    rw [List.length_erase] at this
    split at this <;> omega
/-! ### the search's fields -/
theorem se_ps : ¬ (("places" : Str) = "size") := by decide +kernel
theorem se_pm : ¬ (("places" : Str) = "many") := by decide +kernel
theorem se_pe : ¬ (("places" : Str) = "ends") := by decide +kernel
theorem se_pk : ¬ (("places" : Str) = "known") := by decide +kernel
theorem se_sm : ¬ (("size" : Str) = "many") := by decide +kernel
theorem se_se : ¬ (("size" : Str) = "ends") := by decide +kernel
theorem se_sk : ¬ (("size" : Str) = "known") := by decide +kernel
theorem se_me : ¬ (("many" : Str) = "ends") := by decide +kernel
theorem se_mk : ¬ (("many" : Str) = "known") := by decide +kernel
theorem se_ek : ¬ (("ends" : Str) = "known") := by decide +kernel
def serF (p n m e k : V) : List (Str × V) := putF "known" k (putF "ends" e (putF "many" m (putF "size" n (putF "places" p []))))
theorem serF_places (p n m e k : V) : (serF p n m e k).lookup ("places" : Str) = some p := by
  unfold serF
  rw [lookup_putF, if_neg se_pk, lookup_putF, if_neg se_pe, lookup_putF, if_neg se_pm, lookup_putF, if_neg se_ps, lookup_putF, if_pos rfl]
theorem serF_size (p n m e k : V) : (serF p n m e k).lookup ("size" : Str) = some n := by
  unfold serF
  rw [lookup_putF, if_neg se_sk, lookup_putF, if_neg se_se, lookup_putF, if_neg se_sm, lookup_putF, if_pos rfl]
theorem serF_many (p n m e k : V) : (serF p n m e k).lookup ("many" : Str) = some m := by
  unfold serF
  rw [lookup_putF, if_neg se_mk, lookup_putF, if_neg se_me, lookup_putF, if_pos rfl]
theorem serF_ends (p n m e k : V) : (serF p n m e k).lookup ("ends" : Str) = some e := by
  unfold serF
  rw [lookup_putF, if_neg se_ek, lookup_putF, if_pos rfl]
theorem serF_known (p n m e k : V) : (serF p n m e k).lookup ("known" : Str) = some k := by
  unfold serF
  rw [lookup_putF, if_pos rfl]
theorem serF_no (p n m e k : V) {x : Str} (h1 : ¬ x = "places") (h2 : ¬ x = "size") (h3 : ¬ x = "many") (h4 : ¬ x = "ends") (h5 : ¬ x = "known") : (serF p n m e k).lookup x = none := by
  unfold serF
  rw [lookup_putF, if_neg h5, lookup_putF, if_neg h4, lookup_putF, if_neg h3, lookup_putF, if_neg h2, lookup_putF, if_neg h1]
  rfl
/-- what a search is made of: the places, how many arrows lead from number to number, the numbers where one may stop -/
structure Sd where
  pl : List Nat
  M : Nat → Nat → Nat
  ends : Nat
def Sd.n (D : Sd) : Nat := D.pl.length
def Sd.en (D : Sd) (i : Nat) : Prop := D.ends.testBit i = true
def optV : Option Int → V
  | none => .non
  | some x => .int x
/-- v answers for the taken t and the later l -/
def Ans (D : Sd) (H : Hp) (t l : Nat) (v : V) : Prop := ∃ (a : Addr) (b : Option Int) (y : V), v = .ref a ∧ H a = some (.tup [optV b, y]) ∧ IsBest D.M D.en (bl D.n t) (bl D.n l) b ∧
  ∀ w, b = some w → l ≠ 0 → ∃ q, y = vn q ∧ q ∈ bl D.n l ∧ Cv D.M D.en (bl D.n t) (bl D.n l) q (some w)
theorem Ans.keep {D : Sd} {H H1 : Hp} {t l : Nat} {v : V} {S : List Addr} (h : Ans D H t l v) (k : Kp S H H1) : Ans D H1 t l v :=
  let ⟨a, b, y, h1, h2, h3⟩ := h; ⟨a, b, y, h1, k.tup _ _ h2, h3⟩
/-- the dict of what is known -/
structure Memo (D : Sd) (H : Hp) (kvs : List (List Key × V)) : Prop where
  nd : (kvs.map (·.1)).Nodup
  val : ∀ k v, valV kvs k = some v → ∃ t l : Nat, k = [.inl (t : Int), .inl (l : Int)] ∧ Ans D H t l v
  lt : ∀ k, k ∈ kvs.map (·.1) → ∃ t l : Nat, k = [.inl (t : Int), .inl (l : Int)] ∧ t < 2 ^ 9 ∧ l < 2 ^ 9
def codeK : List Key → Nat
  | [.inl t, .inl l] => t.toNat * 512 + l.toNat
  | _ => 0
theorem map_nd {α β : Type} {f : α → β} : ∀ {l : List α}, l.Nodup → (∀ x y, x ∈ l → y ∈ l → f x = f y → x = y) → (l.map f).Nodup
  | [], _, _ => List.nodup_nil
  | x :: l, nd, h => by
    obtain ⟨h1, h2⟩ := List.nodup_cons.mp nd
    rw [List.map_cons, List.nodup_cons]
    refine ⟨fun m => ?_, map_nd h2 fun a b ha hb => h a b (List.mem_cons_of_mem _ ha) (List.mem_cons_of_mem _ hb)⟩
    obtain ⟨y, hy, e⟩ := List.mem_map.mp m
    have := h x y List.mem_cons_self (List.mem_cons_of_mem _ hy) e.symm
    exact h1 (this ▸ hy)
theorem Memo.len {D : Sd} {H : Hp} {kvs : List (List Key × V)} (h : Memo D H kvs) : kvs.length < sizeLine := by
  have : ((kvs.map (·.1)).map codeK).length ≤ 262144 := nd_len (map_nd h.nd fun x y hx hy e => ?_) fun c hc => ?_
  · simp only [List.length_map] at this
    exact Nat.lt_of_le_of_lt this (by decide)
  · obtain ⟨t, l, rfl, h1, h2⟩ := h.lt x hx
    obtain ⟨t', l', rfl, h3, h4⟩ := h.lt y hy
    simp only [codeK, Int.toNat_natCast] at e
    have e1 : t = t' := by omega
    have e2 : l = l' := by omega
    rw [e1, e2]
  · obtain ⟨k, hk, rfl⟩ := List.mem_map.mp hc
    obtain ⟨t, l, rfl, h1, h2⟩ := h.lt k hk
    simp only [codeK, Int.toNat_natCast]
    omega
theorem Memo.keep {D : Sd} {H H1 : Hp} {S : List Addr} {kvs : List (List Key × V)} (h : Memo D H kvs) (k : Kp S H H1) : Memo D H1 kvs :=
  ⟨h.nd, fun q v e => let ⟨t, l, h1, h2⟩ := h.val q v e; ⟨t, l, h1, h2.keep k⟩, h.lt⟩
theorem Memo.put {D : Sd} {H : Hp} {kvs : List (List Key × V)} {t l : Nat} {v : V} (h : Memo D H kvs) (ht : t < 2 ^ 9) (hl : l < 2 ^ 9) (a : Ans D H t l v) (hn : valV kvs [.inl (t : Int), .inl (l : Int)] = none) : Memo D H (putK kvs [.inl (t : Int), .inl (l : Int)] v) := by
  refine ⟨nd_putK v h.nd hn, fun k u e => ?_, fun k hk => ?_⟩
  · rw [valV_put] at e
    by_cases z : k = [.inl (t : Int), .inl (l : Int)]
    · rw [if_pos z] at e; cases e; exact ⟨t, l, z, a⟩
    · rw [if_neg z] at e; exact h.val k u e
  · rw [putK_new v hn, List.map_append, List.mem_append] at hk
    rcases hk with z | z
    · exact h.lt k z
    · exact ⟨t, l, by simpa using z, ht, hl⟩
/-- the search stands at s, its dict at kn -/
structure SOb (C : Addr) (H : Hp) (s kn : Addr) (D : Sd) : Prop where
  ob : ∃ (dx pa ml : Addr) (rows : List Addr), H s = some (.ins C dx (serF (.ref pa) (vn D.n) (.ref ml) (vn D.ends) (.ref kn))) ∧ TupN H pa D.pl ∧ H ml = some (.lst (rows.map V.ref)) ∧ rows.length = D.n ∧
    ∀ i r, rows[i]? = some r → H r = some (.lst ((List.range D.n).map fun j => vn (D.M i j)))
  n9 : D.n ≤ 9
  me : ∃ kvs, H kn = some (.dT kvs) ∧ Memo D H kvs
section
variable {C : Addr} {H H1 : Hp} {s kn : Addr} {D : Sd}
theorem SOb.keep (h : SOb C H s kn D) (k : Kp [] H H1) : SOb C H1 s kn D := by
  obtain ⟨dx, pa, ml, rows, h1, h2, h3, h4, h5⟩ := h.ob
  obtain ⟨kvs, m1, m2⟩ := h.me
  exact ⟨⟨dx, pa, ml, rows, k.get _ _ h1 (by simp), h2.keep k, k.get _ _ h3 (by simp), h4, fun i r e => k.get _ _ (h5 i r e) (by simp)⟩, h.n9, kvs, k.get _ _ m1 (by simp), m2.keep k⟩
theorem SOb.put (h : SOb C H s kn D) (k : Kp [kn] H H1) {kvs : List (List Key × V)} (e : H1 kn = some (.dT kvs)) (m : Memo D H1 kvs) : SOb C H1 s kn D := by
  obtain ⟨dx, pa, ml, rows, h1, h2, h3, h4, h5⟩ := h.ob
  obtain ⟨kvs', m1, _⟩ := h.me
  have ne : ∀ {b o}, H b = some o → (∀ q, o ≠ .dT q) → b ∉ [kn] := fun {b o} hb n z => by
    have z' : b = kn := by simpa using z
    rw [z', m1] at hb
    exact n _ (Option.some.inj hb).symm
  exact ⟨⟨dx, pa, ml, rows, k.get _ _ h1 (ne h1 (by intro q z; cases z)), h2.keep k, k.get _ _ h3 (ne h3 (by intro q z; cases z)), h4, fun i r e => k.get _ _ (h5 i r e) (ne (h5 i r e) (by intro q z; cases z))⟩, h.n9, kvs, e, m⟩
end
theorem nsum : ∀ {l : List Nat} {f : Nat → Nat}, (l.map fun t => ((f t : Nat) : Int)).sum = (((l.map f).sum : Nat) : Int)
  | [], f => rfl
  | x :: l, f => by
    have ih := @nsum l f
    simp only [List.map_cons, List.sum_cons, ih]
    omega
section
variable {P : Program} {w : World} {K : PySem.W.Frag} {mg : Str → Option Value} {base : Heap}
theorem SOb.row {C : Addr} {H : Hp} {D : Sd} {rows : List Addr} {i : Nat} (hi : i < D.n) (h4 : rows.length = D.n) : ∃ r, rows[i]? = some r ∧ atI (rows.map V.ref) ((i : Nat) : Int) = some (.ref r) := by
  have hi' : i < rows.length := by omega
  exact ⟨rows[i], List.getElem?_eq_getElem hi', atI_nat (by rw [List.getElem?_map, List.getElem?_eq_getElem hi']; rfl)⟩
theorem row_at {n j : Nat} {f : Nat → V} (hj : j < n) : atI ((List.range n).map f) ((j : Nat) : Int) = some (f j) := atI_nat (by rw [List.getElem?_map, List.getElem?_range hj]; rfl)
def spInto (T : Tx K mg) : Sp := fun vs H Q _ => ∃ (s kn : Addr) (D : Sd) (t p : Nat), vs = [.ref s, vn t, vn p] ∧ SOb T.c_Search H s kn D ∧ p < D.n ∧ ∀ H', Kp [] H H' → Q (vn (inn D.M (bl D.n t) p)) H'
theorem ok_into (T : Tx K mg)  : FnOk P w K mg base CX0 1 T.m_Search_into.f T.m_Search_into.fd ["self", "taken", "place"] (spInto T) := by
  refine T.m_Search_into.F.ok sc_Search_into (fun vs H Q E h => ?_) (fun cdv A outer s H vs Q E hr h => ?_)
  · obtain ⟨s, kn, D, t, p, rfl, _⟩ := h; rfl
  obtain ⟨sa, kn, D, t, p, rfl, hS, hp, q⟩ := h
  obtain ⟨dx, pa, ml, rows, o1, o2, o3, o4, o5⟩ := hS.ob
  have n9 := hS.n9
  refine ⟨_, (pss_one (ps_ret (pe_callB (cr_sum rfl) (by rfl) T.b_sum (by decide +kernel) (pa_cons (pe_lc (own := [("tail", 3)]) (g := (gName 3)) (tt := (tTruK K _)) (te := (tOp (rIxL K) (tOp (rIxL K) (tFld K _ "many") _) _)) (hs := by intro _; rfl) rfl sc_Search_into.nd (pi_range1 rfl T.b_range (pa_cons (pe_fld (pv 0) rfl) pa_nil)) (blkOk_by (N := ["self", "taken", "place", "tail"]) (sc := defScope s_Search_into) (own := [("tail", 3)]) (by decide +kernel)) (fun _ _ _ _ _ => (pg_name (i := 3) sc_Search_into.nd rfl (Or.inl rfl) (hf := by exact Or.inr rfl))) (fun _ _ _ _ _ => (by exact (pts_one (pt_truth (pe_op op_and (pe_op op_shr (pv 1) (pv 3)) pe_int) (by intro _; rfl))))) (fun _ _ _ _ _ => (pe_ix ix_list (pe_ix ix_list (pe_fld (pv 0) rfl) (pv 3) (fun _ _ => rfl)) (pv 2) (fun _ _ => rfl)))) pa_nil)))), ?_⟩
  refine ⟨_, rfl, sa, _, dx, _, _, rfl, o1, T.k_Search.cl, T.n_Search_size, serF_size _ _ _ _ _, D.n, rfl, by omega, by omega, fun L nL => ?_⟩
  refine lc_range (lo := 0) (n := ((D.n : Nat) : Int).toNat) (fun j H' => Kp [] H H' ∧ H' L = some (.lst (((bl j t).map fun t => ((D.M t p : Nat) : Int)).map V.int))) ⟨Kp.mk_new nL, upd_same⟩ ?_ ?_
  · rintro i H1 hi ⟨k1, hL⟩
    rw [Int.toNat_natCast] at hi
    refine ⟨rfl, ?_⟩
    rw [Int.zero_add]
    refine ⟨_, rfl, _, rfl, _, _, rfl, rfl, (by show (0 : Int) ≤ _; omega), _, _, rfl, rfl, _, rfl, ?_⟩
    refine ite_b (fun hb => ?_) (fun hb => ?_)
    · rw [bit_tst] at hb
      obtain ⟨r, r1, r2⟩ := SOb.row (C := T.c_Search) (H := H) hi o4
      refine ⟨_, rfl, sa, _, dx, _, _, rfl, k1.get _ _ o1 (by simp), T.k_Search.cl, T.n_Search_many, serF_many _ _ _ _ _, _, rfl, ml, _, _, _, rfl, rfl, SqL.of (k1.get _ _ o3 (by simp)), r2, _, rfl, r, _, _, _, rfl, rfl, SqL.of (k1.get _ _ (o5 i r r1) (by simp)), row_at hp, ?_⟩
      refine ⟨_, hL, szl (by simp only [List.length_map]; have := bl_len i t; omega), k1.put hL trivial (.inr nL), ?_⟩
      rw [upd_same, bl_succ, if_pos hb, List.map_append, List.map_append]
      rfl
    · rw [bit_tst] at hb
      refine ⟨k1, ?_⟩
      rw [bl_succ, hb]
      simpa using hL
  · rintro H1 ⟨k1, hL⟩
    rw [Int.toNat_natCast] at hL
    refine ⟨L, _, rfl, SqL.of hL, ?_⟩
    rw [nsum]
    exact q H1 k1
def spGoes (T : Tx K mg) : Sp := fun vs H Q _ => ∃ (s kn : Addr) (D : Sd) (p l : Nat), vs = [.ref s, vn p, vn l] ∧ SOb T.c_Search H s kn D ∧ p < D.n ∧ ∀ H', Kp [] H H' → Q (.bl ((bl D.n l).any fun h => decide (0 < D.M p h))) H'
theorem ok_goes_on (T : Tx K mg)  : FnOk P w K mg base CX0 1 T.m_Search_goes_on.f T.m_Search_goes_on.fd ["self", "place", "later"] (spGoes T) := by
  refine T.m_Search_goes_on.F.ok sc_Search_goes_on (fun vs H Q E h => ?_) (fun cdv A outer s H vs Q E hr h => ?_)
  · obtain ⟨s, kn, D, t, p, rfl, _⟩ := h; rfl
  obtain ⟨sa, kn, D, p, t, rfl, hS, hp, q⟩ := h
  obtain ⟨dx, pa, ml, rows, o1, o2, o3, o4, o5⟩ := hS.ob
  have n9 := hS.n9
  obtain ⟨r, r1, r2⟩ := SOb.row (C := T.c_Search) (H := H) hp o4
  refine ⟨_, (pss_one (ps_ret (pe_callB (cr_any rfl) (by rfl) T.b_any (by decide +kernel) (pa_cons (pe_lc (own := [("head", 3)]) (g := (gName 3)) (tt := (tTruK K _)) (te := (tOp _ (tOp (rIxL K) (tOp (rIxL K) (tFld K _ "many") _) _) _)) (hs := by intro _; rfl) rfl sc_Search_goes_on.nd (pi_range1 rfl T.b_range (pa_cons (pe_fld (pv 0) rfl) pa_nil)) (blkOk_by (N := ["self", "place", "later", "head"]) (sc := defScope s_Search_goes_on) (own := [("head", 3)]) (by decide +kernel)) (fun _ _ _ _ _ => (pg_name (i := 3) sc_Search_goes_on.nd rfl (Or.inl rfl) (hf := by exact Or.inr rfl))) (fun _ _ _ _ _ => (by exact (pts_one (pt_truth (pe_op op_and (pe_op op_shr (pv 2) (pv 3)) pe_int) (by intro _; rfl))))) (fun _ _ _ _ _ => (pe_cmpR op_gt (pe_ix ix_list (pe_ix ix_list (pe_fld (pv 0) rfl) (pv 1) (fun _ _ => rfl)) (pv 3) (fun _ _ => rfl)) pe_int (nomark _)))) pa_nil)))), ?_⟩
  refine ⟨_, rfl, sa, _, dx, _, _, rfl, o1, T.k_Search.cl, T.n_Search_size, serF_size _ _ _ _ _, D.n, rfl, by omega, by omega, fun L nL => ?_⟩
  refine lc_range (lo := 0) (n := ((D.n : Nat) : Int).toNat) (fun j H' => Kp [] H H' ∧ H' L = some (.lst (((bl j t).map fun h => decide (0 < D.M p h)).map V.bl))) ⟨Kp.mk_new nL, upd_same⟩ ?_ ?_
  · rintro i H1 hi ⟨k1, hL⟩
    rw [Int.toNat_natCast] at hi
    refine ⟨rfl, ?_⟩
    rw [Int.zero_add]
    refine ⟨_, rfl, _, rfl, _, _, rfl, rfl, (by show (0 : Int) ≤ _; omega), _, _, rfl, rfl, _, rfl, ?_⟩
    refine ite_b (fun hb => ?_) (fun hb => ?_)
    · rw [bit_tst] at hb
      refine ⟨_, rfl, sa, _, dx, _, _, rfl, k1.get _ _ o1 (by simp), T.k_Search.cl, T.n_Search_many, serF_many _ _ _ _ _, _, rfl, ml, _, _, _, rfl, rfl, SqL.of (k1.get _ _ o3 (by simp)), r2, _, rfl, r, _, _, _, rfl, rfl, SqL.of (k1.get _ _ (o5 p r r1) (by simp)), row_at hi, _, _, rfl, rfl, ?_⟩
      refine ⟨_, hL, szl (by simp only [List.length_map]; have := bl_len i t; omega), k1.put hL trivial (.inr nL), ?_⟩
      rw [upd_same, bl_succ, if_pos hb, List.map_append, List.map_append]
      have e : decide (((D.M p i : Nat) : Int) > 0) = decide (0 < D.M p i) := decide_eq_decide.mpr (by omega)
      simp only [List.map_cons, List.map_nil, ← e]
    · rw [bit_tst] at hb
      refine ⟨k1, ?_⟩
      rw [bl_succ, hb]
      simpa using hL
  · rintro H1 ⟨k1, hL⟩
    rw [Int.toNat_natCast] at hL
    refine ⟨L, _, rfl, SqL.of hL, ?_⟩
    rw [List.any_map]
    exact q H1 k1
end
end K33
/-! K33D7: the best of the places to come -/
namespace K33
open PySem PySem.Spec PyProof.Rows L2
theorem Memo.set {D : Sd} {H : Hp} {kvs : List (List Key × V)} {t l : Nat} {v : V} (h : Memo D H kvs) (ht : t < 2 ^ 9) (hl : l < 2 ^ 9) (a : Ans D H t l v) : Memo D H (putK kvs [.inl (t : Int), .inl (l : Int)] v) := by
  cases hn : valV kvs [.inl (t : Int), .inl (l : Int)] with
  | none => exact h.put ht hl a hn
  | some u =>
    have e : (putK kvs [.inl (t : Int), .inl (l : Int)] v).map (·.1) = kvs.map (·.1) := by
      unfold putK
      rw [if_pos (by rw [valV_any, hn]; rfl), List.map_map]
      refine List.map_congr_left fun kv _ => ?_
      show (if kv.1 = _ then (kv.1, v) else kv).1 = kv.1
      split <;> rfl
    refine ⟨by rw [e]; exact h.nd, fun k u e => ?_, fun k hk => h.lt k (by rw [e] at hk; exact hk)⟩
    rw [valV_put] at e
    by_cases z : k = [.inl (t : Int), .inl (l : Int)]
    · rw [if_pos z] at e; cases e; exact ⟨t, l, z, a⟩
    · rw [if_neg z] at e; exact h.val k u e
theorem bl_ne {n m : Nat} (hm : m < 2 ^ n) (h : m ≠ 0) : bl n m ≠ [] := by
  obtain ⟨i, hi⟩ := Nat.exists_testBit_of_ne_zero h
  exact List.ne_nil_of_mem (bl_mem.mpr ⟨lt_bit hm hi, hi⟩)
theorem bl_zero (n : Nat) : bl n 0 = [] := by
  unfold bl
  rw [List.filter_eq_nil_iff]
  intro i _
  simp
theorem p9 {n m : Nat} (hn : n ≤ 9) (h : m < 2 ^ n) : m < 2 ^ 9 := Nat.lt_of_lt_of_le h (Nat.pow_le_pow_right (by decide) hn)
theorem p100 {n m : Nat} (hn : n ≤ 9) (h : m < 2 ^ n) : m < 2 ^ 100 := Nat.lt_of_lt_of_le h (Nat.pow_le_pow_right (by decide) (by omega))
/-- a call of best or of best_of is allowed -/
structure Ask (D : Sd) (t l k : Nat) : Prop where
  ht : t < 2 ^ D.n
  hl : l < 2 ^ D.n
  dj : ∀ i, l.testBit i = true → t.testBit i = false
  hk : (bl D.n l).length ≤ k
theorem Ask.next {D : Sd} {t l k p : Nat} (h : Ask D t l (k + 1)) (hp : p ∈ bl D.n l) : Ask D (t ||| 1 <<< p) (clr l p) k := by
  obtain ⟨pn, pb⟩ := bl_mem.mp hp
  refine ⟨Nat.or_lt_two_pow h.ht ?_, Nat.lt_of_le_of_lt clr_le h.hl, fun i hi => ?_, ?_⟩
  · rw [Nat.one_shiftLeft]; exact Nat.pow_lt_pow_right (by decide) pn
  · rw [clr_bit, Bool.and_eq_true, Bool.not_eq_true', decide_eq_false_iff_not] at hi
    rw [or_bit, h.dj i hi.1, decide_eq_false hi.2]; rfl
  · rw [clr_bl, List.length_erase_of_mem hp]
    have := h.hk
    omega
theorem flowIf {tt : TT} {tb te : TS} {D : Ends} {σ : L2.St} {H : Hp} (Pre : Bool → Hp → Prop) (all : ∀ b H', Pre b H' → if b = true then tb D σ H' else te D σ H') (m : ∀ Q' : Bool → Hp → Prop, (∀ b H', Pre b H' → Q' b H') → tt σ H Q') : tIfS tt tb te D σ H := m _ all
/-- a test, read by what is known of its answer -/
theorem flow {Q : Bool → Hp → Prop} {G : (Bool → Hp → Prop) → Prop} (Pre : Bool → Hp → Prop) (all : ∀ b H', Pre b H' → Q b H') (m : ∀ Q' : Bool → Hp → Prop, (∀ b H', Pre b H' → Q' b H') → G Q') : G Q := m Q all
section
variable {P : Program} {w : World} {K : PySem.W.Frag} {mg : Str → Option Value} {base : Heap}
def spBest (T : Tx K mg) (k : Nat) : Sp := fun vs H Q _ => ∃ (s kn : Addr) (D : Sd) (t l : Nat), vs = [.ref s, vn t, vn l] ∧ SOb T.c_Search H s kn D ∧ Ask D t l k ∧
  ∀ v H', Kp [kn] H H' → SOb T.c_Search H' s kn D → Ans D H' t l v → Q v H'
def spBestOf (T : Tx K mg) (k : Nat) : Sp := fun vs H Q _ => ∃ (s kn : Addr) (D : Sd) (t l : Nat), vs = [.ref s, vn t, vn l] ∧ SOb T.c_Search H s kn D ∧ Ask D t l k ∧ l ≠ 0 ∧
  ∀ v H', Kp [kn] H H' → SOb T.c_Search H' s kn D → Ans D H' t l v → Q v H'
theorem no_into : (¬ (("into" : Str) = "places")) ∧ (¬ (("into" : Str) = "size")) ∧ (¬ (("into" : Str) = "many")) ∧ (¬ (("into" : Str) = "ends")) ∧ (¬ (("into" : Str) = "known")) := by decide +kernel
theorem no_goes : (¬ (("goes_on" : Str) = "places")) ∧ (¬ (("goes_on" : Str) = "size")) ∧ (¬ (("goes_on" : Str) = "many")) ∧ (¬ (("goes_on" : Str) = "ends")) ∧ (¬ (("goes_on" : Str) = "known")) := by decide +kernel
theorem no_best : (¬ (("best" : Str) = "places")) ∧ (¬ (("best" : Str) = "size")) ∧ (¬ (("best" : Str) = "many")) ∧ (¬ (("best" : Str) = "ends")) ∧ (¬ (("best" : Str) = "known")) := by decide +kernel
theorem no_best_of : (¬ (("best_of" : Str) = "places")) ∧ (¬ (("best_of" : Str) = "size")) ∧ (¬ (("best_of" : Str) = "many")) ∧ (¬ (("best_of" : Str) = "ends")) ∧ (¬ (("best_of" : Str) = "known")) := by decide +kernel
theorem no_order : (¬ (("order_of" : Str) = "places")) ∧ (¬ (("order_of" : Str) = "size")) ∧ (¬ (("order_of" : Str) = "many")) ∧ (¬ (("order_of" : Str) = "ends")) ∧ (¬ (("order_of" : Str) = "known")) := by decide +kernel
theorem no_greatest : (¬ (("greatest" : Str) = "places")) ∧ (¬ (("greatest" : Str) = "size")) ∧ (¬ (("greatest" : Str) = "many")) ∧ (¬ (("greatest" : Str) = "ends")) ∧ (¬ (("greatest" : Str) = "known")) := by decide +kernel
theorem no_lots : (¬ (("lots" : Str) = "places")) ∧ (¬ (("lots" : Str) = "size")) ∧ (¬ (("lots" : Str) = "many")) ∧ (¬ (("lots" : Str) = "ends")) ∧ (¬ (("lots" : Str) = "known")) := by decide +kernel
theorem ser_no {x : Str} {p n m e k : V} (h : ¬ x = "places" ∧ ¬ x = "size" ∧ ¬ x = "many" ∧ ¬ x = "ends" ∧ ¬ x = "known") : (serF p n m e k).lookup x = none := serF_no _ _ _ _ _ h.1 h.2.1 h.2.2.1 h.2.2.2.1 h.2.2.2.2
theorem SOb.ins {C : Addr} {H : Hp} {s kn : Addr} {D : Sd} (h : SOb C H s kn D) : ∃ dx pa ml, H s = some (.ins C dx (serF (.ref pa) (vn D.n) (.ref ml) (vn D.ends) (.ref kn))) ∧ TupN H pa D.pl := let ⟨dx, pa, ml, _, h1, h2, _⟩ := h.ob; ⟨dx, pa, ml, h1, h2⟩
theorem ok_best (T : Tx K mg) {k : Nat} (G_Search_best_of : FnOk P w K mg base CX0 (2 * k + 3) T.m_Search_best_of.f T.m_Search_best_of.fd ["self", "taken", "later"] (spBestOf T k)) : FnOk P w K mg base CX0 (2 * k + 4) T.m_Search_best.f T.m_Search_best.fd ["self", "taken", "later"] (spBest T k) := by
  refine T.m_Search_best.F.ok sc_Search_best (fun vs H Q E h => ?_) (fun cdv A outer s H vs Q E hr h => ?_)
  · obtain ⟨s, kn, D, t, l, rfl, _⟩ := h; rfl
  obtain ⟨sa, kn, D, t, l, rfl, hS, hA, q⟩ := h
  have hu := hu_of hr
  have n9 := hS.n9
  refine ⟨_, (pss_cons (ps_if (pt_cmpR op_eq (pv 2) pe_int (nomark _)) (pss_one (ps_ret (pe_tup (pa_cons pe_int (pa_cons pe_non pa_nil))))) pss_nil)
  (pss_cons (ps_set (i := 3) sc_Search_best.nd rfl (Or.inl rfl) (pe_tup (pa_cons (pv 1) (pa_cons (pv 2) pa_nil))))
  (pss_cons (ps_if (pt_cmp (pc_dnotin hu (pv 3) (pe_fld (pv 0) rfl))) (pss_one (ps_dput hu (pe_fld (pv 0) rfl) (pv 3) (pe_meth (pv 0) T.k_Search.cl T.Search_best_of G_Search_best_of (hr.mono (by omega)) (b_Search_best_of T.m_Search_best_of.F) .nil pass0 (pa_cons (pv 1) (pa_cons (pv 2) pa_nil))) rfl)) pss_nil)
  (pss_one (ps_ret (pe_dget hu (pe_fld (pv 0) rfl) (pv 3) (fun _ _ => rfl))))))), ?_⟩
  refine ⟨_, rfl, rfl, _, rfl, ?_⟩
  refine ite_d (fun c => ?_) (fun c => ?_)
  · have c' : l = 0 := by have := V.int.inj c; omega
    subst c'
    refine ⟨sz (by show 2 ≤ 100000; decide), fun a na => ?_⟩
    refine q _ _ (Kp.weak (Kp.mk_new na) fun _ m => nomatch m) (hS.keep (Kp.mk_new na)) ⟨a, some 0, .non, rfl, upd_same, ?_, fun w _ h => absurd rfl h⟩
    rw [bl_zero]
    exact best_nil
  · have c' : l ≠ 0 := fun e => c (by rw [e]; rfl)
    refine ⟨_, rfl, _, rfl, sz (by show 2 ≤ 100000; decide), fun ka nka => ?_⟩
    have k1 : Kp [] H (upd H ka (.tup [vn t, vn l])) := Kp.mk_new nka
    have hS1 := hS.keep k1
    have hka : (upd H ka (.tup [vn t, vn l])) ka = some (.tup (([.inl (t : Int), .inl (l : Int)] : List Key).map kV)) := upd_same
    generalize upd H ka (.tup [vn t, vn l]) = H1 at k1 hS1 hka ⊢
    obtain ⟨dx, pa, ml, o1, _⟩ := hS1.ins
    obtain ⟨kvs, e1, m1⟩ := hS1.me
    refine ⟨_, rfl, _, rfl, sa, _, dx, _, _, rfl, o1, T.k_Search.cl, T.n_Search_known, serF_known _ _ _ _ _, kn, _, rfl, DGet.t e1 hka, _, rfl, ?_⟩
    cases hv : valV kvs [.inl (t : Int), .inl (l : Int)] with
    | none =>
      refine iteT ?_
      refine ⟨_, rfl, sa, dx, _, rfl, o1, ser_no no_best_of, _, rfl, _, rfl, sa, kn, D, t, l, rfl, hS1, hA, c', fun v H2 k2 hS2 a2 => ?_⟩
      obtain ⟨dx2, pa2, ml2, o2, _⟩ := hS2.ins
      obtain ⟨kvs2, e2, m2⟩ := hS2.me
      have hka2 := k2.tup _ _ hka
      refine ⟨_, rfl, sa, _, dx2, _, _, rfl, o2, T.k_Search.cl, T.n_Search_known, serF_known _ _ _ _ _, _, rfl, kn, _, rfl, DPut.t e2 hka2 m2.len, ?_⟩
      have k3 : Kp [kn] H2 (upd H2 kn (.dT (putK kvs2 [.inl (t : Int), .inl (l : Int)] v))) := Kp.mk_put e2 (by exact trivial)
      have e3 : (upd H2 kn (.dT (putK kvs2 [.inl (t : Int), .inl (l : Int)] v))) kn = some (.dT (putK kvs2 [.inl (t : Int), .inl (l : Int)] v)) := upd_same
      have hS3 := hS2.put k3 e3 ((m2.set (p9 n9 hA.ht) (p9 n9 hA.hl) a2).keep k3)
      generalize upd H2 kn (.dT (putK kvs2 [.inl (t : Int), .inl (l : Int)] v)) = H3 at k3 e3 hS3 ⊢
      obtain ⟨dx3, pa3, ml3, o3, _⟩ := hS3.ins
      have g := DGet.t e3 (k3.tup _ _ hka2)
      rw [valV_put, if_pos rfl] at g
      refine ⟨_, rfl, sa, _, dx3, _, _, rfl, o3, T.k_Search.cl, T.n_Search_known, serF_known _ _ _ _ _, _, rfl, kn, v, rfl, g, ?_⟩
      refine q v H3 ((k1.weak fun _ m => nomatch m).trans (k2.trans k3 fun _ m => .inl m) fun _ m => .inl m) hS3 (a2.keep k3)
    | some v =>
      refine iteF ?_
      have g := DGet.t e1 hka
      rw [hv] at g
      refine ⟨_, rfl, sa, _, dx, _, _, rfl, o1, T.k_Search.cl, T.n_Search_known, serF_known _ _ _ _ _, _, rfl, kn, v, rfl, g, ?_⟩
      obtain ⟨t', l', ek, a⟩ := m1.val _ _ hv
      have e2 : t = t' ∧ l = l' := by
        simp only [List.cons.injEq, Sum.inl.injEq, and_true] at ek
        omega
      obtain ⟨rfl, rfl⟩ := e2
      exact q v H1 (k1.weak fun _ m => nomatch m) hS1 a
structure InvB (C : Addr) (H0 : Hp) (sa kn : Addr) (D : Sd) (t l i : Nat) (σ : L2.St) (H : Hp) : Prop where
  ex : ∃ (fa : Addr) (b : Option Int) (y : V) (pq : Option Nat) (x4 x5 x6 x7 : Option V), σ = [some (.ref sa), some (vn t), some (vn l), some (.ref fa), x4, x5, x6, x7] ∧ H fa = some (.tup [optV b, y]) ∧
    Fd D.M D.en (bl D.n t) (bl D.n l) ((bl D.n l).take i) b pq ∧ ∀ q, pq = some q → y = vn q
  k : Kp [kn] H0 H
  ob : SOb C H sa kn D
theorem ok_best_of (T : Tx K mg) {k : Nat} (G_Search_best : FnOk P w K mg base CX0 (2 * k + 4) T.m_Search_best.f T.m_Search_best.fd ["self", "taken", "later"] (spBest T k)) : FnOk P w K mg base CX0 (2 * k + 5) T.m_Search_best_of.f T.m_Search_best_of.fd ["self", "taken", "later"] (spBestOf T (k + 1)) := by
  refine T.m_Search_best_of.F.ok sc_Search_best_of (fun vs H Q E h => ?_) (fun cdv A outer s H vs Q E hr h => ?_)
  · obtain ⟨s, kn, D, t, l, rfl, _⟩ := h; rfl
  obtain ⟨sa, kn, D, t, l, rfl, hS, hA, l0, q⟩ := h
  have n9 := hS.n9
  have G_lot_of := ok_lot_of (P := P) (w := w) (base := base) T
  have G_Search_into := ok_into (P := P) (w := w) (base := base) T
  have G_Search_goes_on := ok_goes_on (P := P) (w := w) (base := base) T
  refine ⟨_, (pss_cons (ps_set (i := 3) sc_Search_best_of.nd rfl (Or.inl rfl) (pe_tup (pa_cons pe_non (pa_cons pe_non pa_nil))))
  (pss_cons (ps_for PassesOwn.never rfl (pi_tup (pe_call G_lot_of (hr.mono (by omega)) rfl T.d_lot_of.g T.d_lot_of.F.kp (b_lot_of T.d_lot_of.F) .nil pass0 (pa_cons (pv 2) pa_nil))) (pg_name (i := 4) sc_Search_best_of.nd rfl (Or.inl rfl)) (pss_cons (ps_set (i := 5) sc_Search_best_of.nd rfl (Or.inl rfl) (pe_op op_and (pv 2) (pe_un un_inv (pe_op op_shl pe_int (pv 4)))))
  (pss_cons (ps_set (i := 6) sc_Search_best_of.nd rfl (Or.inl rfl) (pe_meth (pv 0) T.k_Search.cl T.Search_into G_Search_into (hr.mono (by omega)) (b_Search_into T.m_Search_into.F) .nil pass0 (pa_cons (pv 1) (pa_cons (pv 4) pa_nil))))
  (pss_one (ps_if (PW.pt (pw_and (pt_cmpR op_gt (pv 6) pe_int (nomark _)) (pw_and1 (PW.pt (pw_or (pt_truth (pe_op op_and (pe_op op_shr (pe_fld (pv 0) rfl) (pv 4)) pe_int) (by intro _; rfl)) (pw_or1 (pt_val (pe_meth (pv 0) T.k_Search.cl T.Search_goes_on G_Search_goes_on (hr.mono (by omega)) (b_Search_goes_on T.m_Search_goes_on.F) .nil pass0 (pa_cons (pv 4) (pa_cons (pv 5) pa_nil)))))))))) (pss_cons (ps_set (i := 7) sc_Search_best_of.nd rfl (Or.inl rfl) (pe_ix ix_tup (pe_meth (pv 0) T.k_Search.cl T.Search_best G_Search_best (hr.mono (by omega)) (b_Search_best T.m_Search_best.F) .nil pass0 (pa_cons (pe_op op_or (pv 1) (pe_op op_shl pe_int (pv 4))) (pa_cons (pv 5) pa_nil))) pe_int (fun _ _ => rfl)))
  (pss_one (ps_if (PW.pt (pw_and (pt_cmpR op_notN (pv 7) pe_non (nomark _)) (pw_and1 (PW.pt (pw_or (pt_cmpR op_isN (pe_ix ix_tup (pv 3) pe_int (fun _ _ => rfl)) pe_non (nomark _)) (pw_or1 (pt_cmpR op_lt (pe_ix ix_tup (pv 3) pe_int (fun _ _ => rfl)) (pe_op op_add (pe_op op_sub (pv 6) pe_int) (pv 7)) (nomark _)))))))) (pss_one (ps_set (i := 3) sc_Search_best_of.nd rfl (Or.inl rfl) (pe_tup (pa_cons (pe_op op_add (pe_op op_sub (pv 6) pe_int) (pv 7)) (pa_cons (pv 4) pa_nil))))) pss_nil))) pss_nil)))))
  (pss_one (ps_ret (pv 3))))), ?_⟩
  refine ⟨sz (by show 2 ≤ 100000; decide), fun f0 nf0 => ?_⟩
  have k0 : Kp [] H (upd H f0 (.tup [.non, .non])) := Kp.mk_new nf0
  have hf0 : (upd H f0 (.tup [.non, .non])) f0 = some (.tup [.non, .non]) := upd_same
  generalize upd H f0 (.tup [.non, .non]) = H0 at k0 hf0 ⊢
  refine ⟨_, rfl, l, rfl, p100 n9 hA.hl, fun tp H1 lt ib k1 nt ht => ?_⟩
  have elt := ib.eq hA.hl
  subst elt
  have k01 := k0.add k1
  refine ⟨tp, rfl, ⟨_, SqT.of ht⟩, for_tup (K := K) (a := tp) (xs := (bl D.n l).map vn) (InvB T.c_Search H1 sa kn D t l)
    ⟨⟨f0, none, .non, none, none, none, none, none, rfl, k1.tup _ _ hf0, fd_nil, fun _ h => (nomatch h)⟩, Kp.refl, hS.keep k01⟩ (fun i σ H' _ v => SqT.of (v.k.tup _ _ ht)) ?_ ?_⟩
  · rintro i x σ H2 hi ⟨⟨fa, b, y, pq, x4, x5, x6, x7, rfl, hfa, fd, hy⟩, k2, hS2⟩
    obtain ⟨p, hp, rfl⟩ := map_at hi
    have pm : p ∈ bl D.n l := List.mem_of_getElem? hp
    obtain ⟨pn, pb⟩ := bl_mem.mp pm
    have tk := take_more hp
    have tb : t.testBit p = false := hA.dj p pb
    obtain ⟨dx, pa, ml, o2, _⟩ := hS2.ins
    refine ⟨_, rfl, _, rfl, _, _, rfl, rfl, ⟨by omega, by omega, by decide⟩, _, rfl, _, _, rfl, rfl, ?_⟩
    dsimp only
    rw [shl_one, clr_int]
    refine ⟨_, rfl, sa, dx, _, rfl, o2, ser_no no_into, _, rfl, _, rfl, sa, kn, D, t, p, rfl, hS2, pn, fun H3 k3 => ?_⟩
    have k23 := k2.add k3
    have hS3 := hS2.keep k3
    have hfa3 := k3.tup _ _ hfa
    dsimp only [gName]
    refine flowIf (fun b H4 => Kp [] H3 H4 ∧ (b = true ↔ 0 < inn D.M (bl D.n t) p ∧ (D.en p ∨ ∃ h, h ∈ (bl D.n l).erase p ∧ 0 < D.M p h))) ?_ ?_
    · rintro b1 H4 ⟨k4, hb1⟩
      have k24 := k23.add k4
      have hS4 := hS3.keep k4
      have hfa4 := k4.tup _ _ hfa3
      refine ite_b (fun c1 => ?_) (fun c1 => ?_)
      · obtain ⟨c2, c3⟩ := hb1.mp c1
        obtain ⟨dx4, pa4, ml4, o4, _⟩ := hS4.ins
        refine ⟨_, rfl, sa, dx4, _, rfl, o4, ser_no no_best, _, rfl, _, rfl, _, _, rfl, rfl, ⟨by omega, by omega, by decide⟩, _, _, rfl, rfl, _, rfl, sa, kn, D, t ||| 1 <<< p, clr l p, ?_, hS4, hA.next pm, ?_⟩
        · dsimp only
          rw [shl_one, bitOr_nat]
          rfl
        intro v H5 k5 hS5 a5
        obtain ⟨a, bb, y5, rfl, ha, hbest, _⟩ := a5
        rw [clr_bl] at hbest
        have hbest' := best_perm (set_bl pn tb).symm (List.Perm.refl _) hbest
        have cv : Cv D.M D.en (bl D.n t) (bl D.n l) p (bb.map fun x => (inn D.M (bl D.n t) p : Int) - 1 + x) := .inl ⟨c2, c3, bb, hbest', rfl⟩
        have k25 := k24.trans k5 fun _ m => .inl m
        have hfa5 := k5.tup _ _ hfa4
        refine ⟨a, _, 0, _, rfl, rfl, SqT.of ha, rfl, ?_⟩
        dsimp only [gName]
        refine flowIf (fun b2 H6 => H6 = H5 ∧ (b2 = true ↔ ∃ x, bb = some x ∧ ∀ w, b = some w → w < (inn D.M (bl D.n t) p : Int) - 1 + x)) ?_ ?_
        · rintro b2 H6 ⟨rfl, hb2⟩
          refine ite_b (fun c4 => ?_) (fun c4 => ?_)
          · obtain ⟨x, rfl, hx⟩ := hb2.mp c4
            refine ⟨_, rfl, _, _, rfl, rfl, _, rfl, _, _, rfl, rfl, _, rfl, sz (by show 2 ≤ 100000; decide), fun f2 nf2 => ?_⟩
            have k6 : Kp [] H6 (upd H6 f2 (.tup [.int ((inn D.M (bl D.n t) p : Int) - 1 + x), vn p])) := Kp.mk_new nf2
            refine ⟨⟨f2, some ((inn D.M (bl D.n t) p : Int) - 1 + x), vn p, some p, _, _, _, _, rfl, upd_same, ?_, fun q hq => by cases hq; rfl⟩, k25.add k6, hS5.keep k6⟩
            rw [tk]
            exact fd_more fd cv hx
          · refine ⟨⟨fa, b, y, pq, _, _, _, _, rfl, hfa5, ?_, hy⟩, k25, hS5⟩
            rw [tk]
            refine fd_keep fd cv fun e he => ?_
            cases bb with
            | none => cases he
            | some x =>
              cases b with
              | none => exact absurd (hb2.mpr ⟨x, rfl, fun _ h => (nomatch h)⟩) (by rw [c4]; decide)
              | some w =>
                refine ⟨w, rfl, ?_⟩
                cases he
                refine Int.not_lt.mp fun hlt => ?_
                exact absurd (hb2.mpr ⟨x, rfl, fun w' h => by cases h; exact hlt⟩) (by rw [c4]; decide)
        · intro Q' hQ
          refine ⟨_, rfl, rfl, _, rfl, ?_⟩
          cases bb with
          | none => exact iteF (hQ false H5 ⟨rfl, by simp⟩)
          | some x =>
            refine iteT ?_
            refine ⟨_, rfl, fa, _, 0, _, rfl, rfl, SqT.of hfa5, rfl, rfl, _, rfl, ?_⟩
            cases b with
            | none => exact iteT (hQ true H5 ⟨rfl, by simp⟩)
            | some w =>
              refine iteF ?_
              refine ⟨_, rfl, fa, _, 0, _, rfl, rfl, SqT.of hfa5, rfl, _, rfl, _, _, rfl, rfl, _, rfl, _, _, rfl, rfl, _, _, rfl, rfl, _, rfl, ?_⟩
              exact hQ _ H5 ⟨rfl, by simp⟩
      · refine ⟨⟨fa, b, y, pq, _, _, _, _, rfl, hfa4, ?_, hy⟩, k24, hS4⟩
        rw [tk]
        exact fd_keep fd (.inr ⟨fun z => absurd (hb1.mpr z) (by rw [c1]; decide), rfl⟩) fun e he => (nomatch he)
    · intro Q' hQ
      refine ⟨_, rfl, _, _, rfl, rfl, _, rfl, ?_⟩
      refine ite_d (fun c1 => ?_) (fun c1 => hQ false H3 ⟨Kp.refl, by simp; omega⟩)
      obtain ⟨dx3, pa3, ml3, o3, _⟩ := hS3.ins
      refine ⟨_, rfl, sa, _, dx3, _, _, rfl, o3, T.k_Search.cl, T.n_Search_ends, serF_ends _ _ _ _ _, _, rfl, _, _, rfl, rfl, (by show (0 : Int) ≤ _; omega), _, _, rfl, rfl, _, rfl, ?_⟩
      refine ite_b (fun hb => ?_) (fun hb => ?_)
      · rw [bit_tst] at hb
        exact hQ true H3 ⟨Kp.refl, iff_of_true rfl ⟨by omega, .inl hb⟩⟩
      · rw [bit_tst] at hb
        refine ⟨_, rfl, sa, dx3, _, rfl, o3, ser_no no_goes, _, rfl, _, rfl, sa, kn, D, p, clr l p, rfl, hS3, pn, fun H4 k4 => ⟨_, rfl, hQ _ H4 ⟨k4, ?_⟩⟩⟩
        rw [clr_bl, List.any_eq_true]
        constructor
        · rintro ⟨h, h1, h2⟩
          exact ⟨by omega, .inr ⟨h, h1, of_decide_eq_true h2⟩⟩
        · rintro ⟨_, h | ⟨h, h1, h2⟩⟩
          · rw [show D.en p = (D.ends.testBit p = true) from rfl, hb] at h
            cases h
          · exact ⟨h, h1, decide_eq_true h2⟩
  · rintro σ H2 ⟨⟨fa, b, y, pq, x4, x5, x6, x7, rfl, hfa, fd, hy⟩, k2, hS2⟩
    rw [List.length_map, List.take_length] at fd
    refine ⟨_, rfl, q _ H2 ((k01.weak fun _ m => nomatch m).trans k2 fun _ m => .inl m) hS2 ⟨fa, b, y, rfl, hfa, fd_best (bl_ne hA.hl l0) fd, fun w hw _ => ?_⟩⟩
    obtain ⟨z, h1, h2, h3⟩ := fd.at_ w hw
    exact ⟨z, hy z h1, h2, h3⟩
end
end K33
/-! K33D8: a search made -/
namespace K33
open PySem PySem.Spec PyProof.Rows L2
section
variable {P : Program} {w : World} {K : PySem.W.Frag} {mg : Str → Option Value} {base : Heap}
theorem best_none (T : Tx K mg) : FnOk P w K mg base CX0 (2 * 0 + 3) T.m_Search_best_of.f T.m_Search_best_of.fd ["self", "taken", "later"] (spBestOf T 0) := by
  have no : ∀ vs H Q E, ¬ spBestOf T 0 vs H Q E := fun vs H Q E h => by
    obtain ⟨s, kn, D, t, l, _, _, a, l0, _⟩ := h
    have h1 := a.hk
    exact bl_ne a.hl l0 (List.eq_nil_of_length_eq_zero (by omega))
  exact ⟨fun vs H Q E h => absurd h (no vs H Q E), fun A outer s H args us vs Q E _ _ _ _ h => absurd h (no vs H Q E)⟩
theorem best_all (T : Tx K mg) : ∀ k : Nat, FnOk P w K mg base CX0 (2 * k + 4) T.m_Search_best.f T.m_Search_best.fd ["self", "taken", "later"] (spBest T k)
  | 0 => ok_best T (best_none T)
  | k + 1 => ok_best T (k := k + 1) (ok_best_of T (best_all T k))
end
/-- a dict comprehension over what Walk tells -/
theorem dc_it {J : It} {n : Nat} {G : Hp → Prop} {Y : Nat → Hp → V → Hp → Prop} (w : Walk J n G Y) {g : TG} {tt : TT} {tk tv : TE} {vs : List Nat} {σ : L2.St} {H1 : Hp} {D : Addr} {Qd : Hp → Prop} (Pv : Nat → Hp → Prop) (h0 : Pv 0 (upd H1 D (.dK []))) (hG : ∀ i H, i ≤ n → Pv i H → G H)
    (hs : ∀ i x H H', i < n → Pv i H → Y i H x H' → g x (wipe σ vs) H' fun σ2 H2 => wipe σ2 vs = wipe σ vs ∧ tt σ2 H2 fun b H3 =>
      if b = true then tk σ2 H3 fun y H4 => tv σ2 H4 fun z H5 => ∃ kvs k, y = kV k ∧ H5 D = some (.dK kvs) ∧ kvs.length < sizeLine ∧ Pv (i + 1) (upd H5 D (.dK (putK kvs k z))) else Pv (i + 1) H3) (hd : ∀ H, Pv n H → Qd H) :
    ∃ W : Nat → Nat → Hp → Prop, (∃ m, W 0 m (upd H1 D (.dK []))) ∧ ∀ i m H, W i m H →
      (J.stop i H ∧ Qd H) ∨ (J.go i H ∧ ∃ Nx : Hp → Prop, (∀ H', Nx H' → ∃ m', m' < m ∧ W (i + 1) m' H') ∧ ∀ x H', J.yld i H x H' → g x (wipe σ vs) H' fun σ2 H2 => wipe σ2 vs = wipe σ vs ∧ tt σ2 H2 fun b H3 =>
        if b = true then tk σ2 H3 fun y H4 => tv σ2 H4 fun z H5 => ∃ kvs k, y = kV k ∧ H5 D = some (.dK kvs) ∧ kvs.length < sizeLine ∧ Nx (upd H5 D (.dK (putK kvs k z))) else Nx H3) := by
  refine ⟨fun i m H => m = n - i ∧ i ≤ n ∧ Pv i H, ⟨n, by simp, Nat.zero_le _, h0⟩, ?_⟩
  rintro i m H ⟨rfl, hi, p⟩
  have q := hG i H hi p
  by_cases hlt : i < n
  · exact .inr ⟨w.goes i H hlt q, Pv (i + 1), fun H' p' => ⟨n - (i + 1), by omega, rfl, hlt, p'⟩, fun x H' y => hs i x H H' hlt p (w.yields i H x H' hlt q y)⟩
  · have e : i = n := by omega
    subst e
    exact .inl ⟨w.stops H q, hd H p⟩
theorem lt_take {l : List Nat} {i x : Nat} (nd : l.Nodup) (h : l[i]? = some x) : x ∉ l.take i := by
  intro m
  have e : l = l.take i ++ l.drop i := (List.take_append_drop i l).symm
  rw [e] at nd
  have d := (List.nodup_append.mp nd).2.2
  have hd : x ∈ l.drop i := by
    have hi := (List.getElem?_eq_some_iff.mp h).1
    rw [List.drop_eq_getElem_cons hi]
    have := (List.getElem?_eq_some_iff.mp h).2
    rw [this]; exact List.mem_cons_self
  exact d x m x hd rfl
theorem idx_at {l : List Nat} {i x : Nat} (nd : l.Nodup) (h : l[i]? = some x) : l.idxOf x = i := by
  obtain ⟨hi, rfl⟩ := List.getElem?_eq_some_iff.mp h
  exact nd.idxOf_getElem i hi
/-- the dict of the places' numbers -/
structure NumD (H : Hp) (nm : Addr) (l : List Nat) (k : Nat) : Prop where
  ex : ∃ kvs : List (Key × V), H nm = some (.dK kvs) ∧ kvs.length ≤ k ∧ ∀ v : Nat, valV kvs (.inl (v : Int)) = if v ∈ l.take k then some (vn (l.idxOf v)) else none
theorem NumD.keep {S : List Addr} {H H1 : Hp} {nm : Addr} {l : List Nat} {k : Nat} (h : NumD H nm l k) (kp : Kp S H H1) (n : nm ∉ S) : NumD H1 nm l k := let ⟨kvs, h1, h2⟩ := h.ex; ⟨kvs, kp.get _ _ h1 n, h2⟩
theorem NumD.nil {H : Hp} {nm : Addr} {l : List Nat} (h : H nm = some (.dK [])) : NumD H nm l 0 := ⟨[], h, Nat.zero_le _, fun v => by simp [valV]⟩
theorem NumD.put {H1 : Hp} {nm : Addr} {l : List Nat} {k x : Nat} {kvs : List (Key × V)} (nd : l.Nodup) (hx : l[k]? = some x) (h1 : kvs.length ≤ k) (h2 : ∀ v : Nat, valV kvs (.inl (v : Int)) = if v ∈ l.take k then some (vn (l.idxOf v)) else none)
    (e : H1 nm = some (.dK (putK kvs (.inl (x : Int)) (vn k)))) : NumD H1 nm l (k + 1) := by
  have hn : valV kvs (.inl (x : Int)) = none := by rw [h2, if_neg (lt_take nd hx)]
  refine ⟨_, e, ?_, fun v => ?_⟩
  · rw [putK_new _ hn, List.length_append]
    show kvs.length + 1 ≤ k + 1
    omega
  · have mem : v ∈ l.take (k + 1) ↔ v ∈ l.take k ∨ v = x := by rw [take_more hx, List.mem_append, List.mem_singleton]
    rw [valV_put]
    by_cases z : v = x
    · rw [if_pos (by rw [z]), if_pos (mem.mpr (.inr z)), z, idx_at nd hx]
    · have z' : ¬ (Sum.inl (v : Int) : Key) = .inl (x : Int) := fun q => z (by have := Sum.inl.inj q; omega)
      rw [if_neg z', h2]
      by_cases y : v ∈ l.take k
      · rw [if_pos y, if_pos (mem.mpr (.inl y))]
      · rw [if_neg y, if_neg (fun q => (mem.mp q).elim y z)]
theorem NumD.get {H : Hp} {nm : Addr} {l : List Nat} {v : Nat} (h : NumD H nm l l.length) : ∃ o, DGet H nm (vn v) o ∧ o = if v ∈ l then some (vn (l.idxOf v)) else none := by
  obtain ⟨kvs, h1, _, h3⟩ := h.ex
  refine ⟨_, DGet.k (k := .inl (v : Int)) h1, ?_⟩
  rw [h3, List.take_length]
/-- the number's place -/
def plc (pl : List Nat) (i : Nat) : Nat := pl.getD i 0
def SD (P : Pt) (pl : List Nat) : Sd := ⟨pl, fun i j => PM P.arrows (plc pl i) (plc pl j), maskN (P.goals.map fun g => pl.idxOf g)⟩
theorem plc_at {pl : List Nat} {i : Nat} (h : i < pl.length) : pl[i]? = some (plc pl i) := by
  unfold plc
  rw [List.getElem?_eq_getElem h, List.getD_eq_getElem?_getD, List.getElem?_eq_getElem h]; rfl
theorem plc_idx {pl : List Nat} {v : Nat} (h : v ∈ pl) : plc pl (pl.idxOf v) = v := by
  have hi := List.idxOf_lt_length_of_mem h
  unfold plc
  rw [List.getD_eq_getElem?_getD, List.getElem?_eq_getElem hi, List.getElem_idxOf hi]; rfl
theorem idx_plc {pl : List Nat} (nd : pl.Nodup) {i : Nat} (h : i < pl.length) : pl.idxOf (plc pl i) = i := idx_at nd (plc_at h)
theorem plc_mem {pl : List Nat} {i : Nat} (h : i < pl.length) : plc pl i ∈ pl := List.mem_of_getElem? (plc_at h)
/-- the matrix's rows -/
def Rows (H0 H : Hp) (n : Nat) (M : Nat → Nat → Nat) (ml : Addr) (rows : List Addr) (k : Nat) : Prop :=
  H ml = some (.lst (rows.map V.ref)) ∧ rows.length = k ∧ (∀ i r, rows[i]? = some r → H r = some (.lst ((List.range n).map fun j => vn (M i j))) ∧ H0 r = none ∧ r ≠ ml) ∧ rows.Nodup ∧ H0 ml = none
theorem pm_snoc (as : List (Nat × Nat)) (t h x y : Nat) : PM (as ++ [(t, h)]) x y = PM as x y + if t = x ∧ h = y ∧ y ≠ 0 then 1 else 0 := by
  unfold PM
  by_cases hy : y = 0
  · simp [hy]
  · rw [if_neg hy, if_neg hy, List.count_append]
    by_cases h1 : t = x <;> by_cases h2 : h = y <;> simp [h1, h2, hy]
theorem range_set {n j : Nat} {f : Nat → V} {v : V} (hj : j < n) : ((List.range n).map f).set j v = (List.range n).map fun i => if i = j then v else f i := by
  apply List.ext_getElem?
  intro i
  rw [List.getElem?_set]
  by_cases h : j = i
  · subst h
    simp [hj]
  · rw [if_neg h]
    by_cases hi : i < n
    · rw [List.getElem?_map, List.getElem?_map, List.getElem?_range hi]
      simp [Ne.symm h]
    · rw [List.getElem?_map, List.getElem?_map, List.getElem?_eq_none (by simp; omega)]; rfl
theorem ixN_n {n j : Nat} (hj : j < n) : ixN n (j : Int) = some j := by
  unfold ixN
  rw [if_pos (by omega), if_pos (by omega)]
  simp
theorem rep_row (n : Nat) : (List.replicate n [V.int 0]).flatten = (List.range n).map fun _ => vn 0 := by
  induction n with
  | zero => rfl
  | succ n ih =>
    rw [List.replicate_succ', List.range_succ, List.flatten_append, List.map_append, ih]
    rfl
theorem Rows.keep {H0 H H1 : Hp} {n k : Nat} {M : Nat → Nat → Nat} {ml : Addr} {rows : List Addr} (h : Rows H0 H n M ml rows k) (kp : Kp [] H H1) : Rows H0 H1 n M ml rows k :=
  ⟨kp.get _ _ h.1 (by simp), h.2.1, fun i r e => ⟨kp.get _ _ (h.2.2.1 i r e).1 (by simp), (h.2.2.1 i r e).2⟩, h.2.2.2⟩
theorem Counted.goals {P : Pt} {pl : List Nat} (c : Counted P pl) (G : Good P) {g : Nat} (hg : g ∈ P.goals) : g ∈ pl := (c.mem g).mpr (.inr ⟨G.rch g hg, .base g hg⟩)
section
variable {P : Program} {w : World} {K : PySem.W.Frag} {mg : Str → Option Value} {base : Heap}
def spSearch (T : Tx K mg) : Sp := fun vs H Q _ => ∃ (p dx c d t C : Addr) (P : Pt) (pl : List Nat), vs = [.ref p, .ref c, .ref t] ∧ H p = some (.ins T.c_Search dx []) ∧ KM K C ∧ MapAt C H c P d ∧ Good P ∧ Counted P pl ∧ TupN H t pl ∧ pl.length ≤ 9 ∧
  ∀ kn H', H kn = none → Kp [p] H H' → SOb T.c_Search H' p kn (SD P pl) → Q .non H'
theorem ok_Search_init (T : Tx K mg)  : FnOk P w K mg base CX0 2 T.m_Search_init.f T.m_Search_init.fd ["self", "chart", "places"] (spSearch T) := by
  refine T.m_Search_init.F.ok sc_Search_init (fun vs H Q E h => ?_) (fun cdv A outer s H vs Q E hr h => ?_)
  · obtain ⟨p, dx, c, d, t, C, P', pl, rfl, _⟩ := h; rfl
  obtain ⟨p, dx, c, d, t, C, P', pl, rfl, hp, km, M, G, cn, ht, n9, q⟩ := h
  have hu := hu_of hr
  have G_mask_of := ok_mask_of_L (P := P) (w := w) (base := base) T
  have nd := asc_nd cn.srt
  refine ⟨_, (pss_cons (ps_fld (pv 0) (pv 2) rfl)
  (pss_cons (ps_fld (pv 0) (pe_callB call_len_seq (by rfl) T.b_len (by decide +kernel) (pa_cons (pv 2) pa_nil)) rfl)
  (pss_cons (ps_asg (pe_dc (own := [("index", 6), ("place", 7)]) (g := (gTup K 2 (gCons (gName 6) (gCons (gName 7) gNil)))) (hs := by intro _; rfl) rfl sc_Search_init.nd (pi_enumT rfl T.b_enumerate (pa_cons (pv 2) pa_nil)) (blkOk_by (N := ["self", "chart", "places", "number", "tail", "head", "index", "place", "goal"]) (sc := defScope s_Search_init) (own := [("index", 6), ("place", 7)]) (by decide +kernel)) (fun _ _ _ _ _ => (pg_tup rfl (pgs_cons (pg_name (i := 6) sc_Search_init.nd rfl (Or.inl rfl) (hf := by exact Or.inr rfl)) (pgs_cons (pg_name (i := 7) sc_Search_init.nd rfl (Or.inl rfl) (hf := by exact Or.inr rfl)) pgs_nil)))) (fun _ _ _ _ _ => pts_nil) (fun _ _ _ _ _ => (pv 7)) (fun _ _ _ _ _ => (pv 6))) (pg_name (i := 3) sc_Search_init.nd rfl (Or.inr rfl)) rfl)
  (pss_cons (ps_fld (pv 0) (pe_lc (own := [("place", 7)]) (g := (gName 7)) (te := (tOp _ _ (tFld K _ "size"))) (hs := by intro _; rfl) rfl sc_Search_init.nd (pi_tup (pv 2)) (blkOk_by (N := ["self", "chart", "places", "number", "tail", "head", "index", "place", "goal"]) (sc := defScope s_Search_init) (own := [("place", 7)]) (by decide +kernel)) (fun _ _ _ _ _ => (pg_name (i := 7) sc_Search_init.nd rfl (Or.inl rfl) (hf := by exact Or.inr rfl))) (fun _ _ _ _ _ => pts_nil) (fun _ _ _ _ _ => (pe_op op_rep (pe_lst (pa_cons pe_int pa_nil)) (pe_fld (pv 0) rfl)))) rfl)
  (pss_cons (ps_for PassesOwn.never rfl (pi_tup (pe_fld (pv 1) rfl)) (pg_tup rfl (pgs_cons (pg_name (i := 4) sc_Search_init.nd rfl (Or.inl rfl)) (pgs_cons (pg_name (i := 5) sc_Search_init.nd rfl (Or.inl rfl)) pgs_nil))) (pss_one (ps_if (PW.pt (pw_and (pt_cmp (pc_din hu (pv 4) (pv 3))) (pw_and (pt_cmp (pc_din hu (pv 5) (pv 3))) (pw_and1 (pt_cmpR op_ne (pv 5) pe_int (nomark _)))))) (pss_one (ps_augS (pe_ix ix_list (pe_fld (pv 0) rfl) (pe_dget hu (pv 3) (pv 4) (fun _ _ => rfl)) (fun _ _ => rfl)) (pe_dget hu (pv 3) (pv 5) (fun _ _ => rfl)) get_list pe_int ip_add set_list)) pss_nil)))
  (pss_cons (ps_fld (pv 0) (pe_call G_mask_of (hr.mono (by omega)) rfl T.d_mask_of.g T.d_mask_of.F.kp (b_mask_of T.d_mask_of.F) .nil pass0 (by exact (pa_cons (pe_lc (own := [("goal", 8)]) (g := (gName 8)) (hs := by intro _; rfl) rfl sc_Search_init.nd (pi_tup (pe_fld (pv 1) rfl)) (blkOk_by (N := ["self", "chart", "places", "number", "tail", "head", "index", "place", "goal"]) (sc := defScope s_Search_init) (own := [("goal", 8)]) (by decide +kernel)) (fun _ _ _ _ _ => (pg_name (i := 8) sc_Search_init.nd rfl (Or.inl rfl) (hf := by exact Or.inr rfl))) (fun _ _ _ _ _ => pts_nil) (fun _ _ _ _ _ => (pe_dget hu (pv 3) (pv 8) (fun _ _ => rfl)))) pa_nil))) rfl)
  (pss_one (ps_fld (pv 0) pe_dnewT rfl)))))))), ?_⟩
  -- self.places
  refine ⟨_, rfl, _, rfl, p, T.c_Search, dx, _, rfl, hp, T.k_Search.cl, T.n_Search_places, (by show 0 < 1000; decide), ?_⟩
  have k1 : Kp [p] H (upd H p (.ins T.c_Search dx (putF "places" (.ref t) []))) := Kp.refl.put hp trivial (.inl (by simp))
  have h1 : (upd H p (.ins T.c_Search dx (putF "places" (.ref t) []))) p = some (.ins T.c_Search dx (putF "places" (.ref t) [])) := upd_same
  generalize upd H p (.ins T.c_Search dx (putF "places" (.ref t) [])) = H1 at k1 h1 ⊢
  -- self.size
  refine ⟨_, rfl, t, _, rfl, .inr (SqT.of (ht.keep k1)), _, rfl, p, T.c_Search, dx, _, rfl, h1, T.k_Search.cl, T.n_Search_size, (by simp [putF]), ?_⟩
  rw [List.length_map]
  have k2 : Kp [p] H (upd H1 p (.ins T.c_Search dx (putF "size" (vn pl.length) (putF "places" (.ref t) [])))) := k1.put h1 trivial (.inl (by simp))
  have h2 : (upd H1 p (.ins T.c_Search dx (putF "size" (vn pl.length) (putF "places" (.ref t) [])))) p = some (.ins T.c_Search dx (putF "size" (vn pl.length) (putF "places" (.ref t) []))) := upd_same
  generalize upd H1 p (.ins T.c_Search dx (putF "size" (vn pl.length) (putF "places" (.ref t) []))) = H2 at k2 h2 ⊢
  -- number
  refine ⟨_, rfl, t, _, rfl, SqT.of (ht.keep k2), fun nm nnm => dc_it walk_enumT (fun i H' => Kp [] H2 H' ∧ NumD H' nm pl i) ⟨Kp.mk_new nnm, NumD.nil upd_same⟩ (fun i H' _ ⟨k, _⟩ => SqT.of ((ht.keep k2).keep k)) ?_ ?_⟩
  · rintro i x H3 H4 hi ⟨k3, hN⟩ ⟨TT, i0, y, rfl, nT, rfl, e1, e2⟩
    cases e1
    obtain ⟨v, hv, rfl⟩ := map_at e2
    have k4 : Kp [] H3 (upd H3 TT (.tup [.int (i : Nat), vn v])) := Kp.mk_new nT
    obtain ⟨kvs, n1, n2, n3⟩ := (hN.keep k4 (by simp)).ex
    refine ⟨TT, _, rfl, SqT.of upd_same, rfl, _, _, rfl, _, _, rfl, rfl, rfl, ?_⟩
    refine ⟨_, rfl, _, rfl, kvs, .inl (v : Int), rfl, n1, ?_, (k3.add k4).put n1 (by exact trivial) (.inr nnm), NumD.put nd hv n2 n3 upd_same⟩
    have := (List.getElem?_eq_some_iff.mp hv).1
    exact szl (by omega)
  rintro H3 ⟨k3, hN⟩
  rw [List.length_map] at hN
  -- self.many
  have h3 := k3.get _ _ h2 (by simp)
  have k03 := k2.add k3
  refine ⟨_, rfl, t, rfl, ⟨_, SqT.of (ht.keep k03)⟩, fun ml nml => lc_tup (K := K) (a := t) (xs := pl.map vn) (fun j H' => Kp [] H3 H' ∧ ∃ rows, Rows H3 H' pl.length (fun _ _ => 0) ml rows j)
    ⟨Kp.mk_new nml, [], upd_same, rfl, fun i r e => (by simp at e), List.nodup_nil, nml⟩ (fun j H' _ ⟨k, _⟩ => SqT.of ((ht.keep k03).keep k)) ?_ ?_⟩
  · rintro j x H4 hj ⟨k4, rows, r1, r2, r3, r4, r5⟩
    refine ⟨rfl, sz (by show 1 ≤ 100000; decide), fun z nz => ?_⟩
    have k5 : Kp [] H4 (upd H4 z (.lst [.int 0])) := Kp.mk_new nz
    have hz : (upd H4 z (.lst [.int 0])) z = some (.lst [.int 0]) := upd_same
    have nml5 : ml ≠ z := ne_of_none r1 nz
    generalize upd H4 z (.lst [.int 0]) = H5 at k5 hz ⊢
    refine ⟨_, rfl, p, _, dx, _, _, rfl, (k4.add k5).get _ _ h3 (by simp), T.k_Search.cl, T.n_Search_size, by rw [lookup_putF, if_pos rfl], z, _, _, rfl, rfl, hz, by omega, by omega, by simp; exact sz (by omega), fun r nr => ?_⟩
    rw [Int.toNat_natCast, rep_row]
    have k6 : Kp [] H4 (upd H5 r (.lst ((List.range pl.length).map fun _ => vn 0))) := k5.new nr
    have r1' := k6.get _ _ r1 (by simp)
    have hj' := (List.getElem?_eq_some_iff.mp hj).1
    rw [List.length_map] at hj'
    have nr4 : H4 r = none := k5.free nr
    refine ⟨_, r1', szl (by simp; omega), (k4.add k6).put r1' trivial (.inr nml), rows ++ [r], ?_, by simp; omega, ?_, ?_, r5⟩
    · rw [upd_same, List.map_append]; rfl
    · intro i r' e
      by_cases hi : i < rows.length
      · rw [List.getElem?_append_left hi] at e
        obtain ⟨s1, s2, s3⟩ := r3 i r' e
        refine ⟨?_, s2, s3⟩
        rw [upd_ne s3]
        exact k6.get _ _ s1 (by simp)
      · have hi' : i = rows.length := by
          have := (List.getElem?_eq_some_iff.mp e).1
          simp at this; omega
        subst hi'
        simp at e
        subst e
        have : r ≠ ml := (ne_of_none r1 nr4).symm
        exact ⟨by rw [upd_ne this, upd_same], k4.free nr4, this⟩
    · rw [List.nodup_append]
      refine ⟨r4, by simp, fun a ha b hb e => ?_⟩
      simp at hb
      subst hb; subst e
      obtain ⟨i, hi, e⟩ := List.getElem_of_mem ha
      have := (r3 i _ (by rw [List.getElem?_eq_getElem hi, e])).1
      rw [nr4] at this; cases this
  rintro H4 ⟨k4, rows, R0⟩
  rw [List.length_map] at R0
  have k04 := k03.add k4
  have h4 := k4.get _ _ h3 (by simp)
  refine ⟨_, rfl, p, T.c_Search, dx, _, rfl, h4, T.k_Search.cl, T.n_Search_many, (by simp [putF, se_ps]), ?_⟩
  have npm : p ≠ ml := ne_of_none h3 R0.2.2.2.2
  have npr : ∀ i r, rows[i]? = some r → r ≠ p := fun i r e z => by
    have := (R0.2.2.1 i r e).2.1
    rw [z, h3] at this; cases this
  have nnm4 := (hN.keep k4 (by simp))
  obtain ⟨kvs, n1, n2, n3⟩ := nnm4.ex
  have nmp : nm ≠ p := fun z => by rw [z, h4] at n1; cases n1
  have nml0 : H ml = none := k03.free R0.2.2.2.2
  have R5 : Rows H (upd H4 p (.ins T.c_Search dx (putF "many" (.ref ml) (putF "size" (vn pl.length) (putF "places" (.ref t) []))))) pl.length (fun _ _ => 0) ml rows pl.length :=
    ⟨by rw [upd_ne npm.symm]; exact R0.1, R0.2.1, fun i r e => ⟨by rw [upd_ne (npr i r e)]; exact (R0.2.2.1 i r e).1, k03.free (R0.2.2.1 i r e).2.1, (R0.2.2.1 i r e).2.2⟩, R0.2.2.2.1, nml0⟩
  have N5 : NumD (upd H4 p (.ins T.c_Search dx (putF "many" (.ref ml) (putF "size" (vn pl.length) (putF "places" (.ref t) []))))) nm pl pl.length := ⟨kvs, by rw [upd_ne nmp]; exact n1, n2, n3⟩
  have k5 : Kp [p] H (upd H4 p (.ins T.c_Search dx (putF "many" (.ref ml) (putF "size" (vn pl.length) (putF "places" (.ref t) []))))) := k04.put h4 trivial (.inl (by simp))
  have h5 : (upd H4 p (.ins T.c_Search dx (putF "many" (.ref ml) (putF "size" (vn pl.length) (putF "places" (.ref t) []))))) p = some (.ins T.c_Search dx (putF "many" (.ref ml) (putF "size" (vn pl.length) (putF "places" (.ref t) [])))) := upd_same
  generalize upd H4 p (.ins T.c_Search dx (putF "many" (.ref ml) (putF "size" (vn pl.length) (putF "places" (.ref t) [])))) = H5 at k5 h5 R5 N5 ⊢
  -- the arrows
  obtain ⟨dxc, ar, gl, m1, m2, m3⟩ := id M.ob
  have ncp : c ≠ p := fun z => by
    rw [z, hp] at m1
    have := HO.ins.inj (Option.some.inj m1)
    have e := mapF_many (vn P'.many) (.ref ar) (.ref gl) d
    rw [← this.2.2] at e
    cases e
  obtain ⟨vs, a1, a2⟩ := m2
  refine ⟨_, rfl, c, C, dxc, _, _, rfl, k5.get _ _ m1 (by simp [ncp]), km.cl, km.n2, mapF_arrows _ _ _ _, ar, rfl, ⟨_, SqT.of (k5.tup _ _ a1)⟩, for_tup (K := K) (a := ar) (xs := vs) (fun j σ H' => Kp [p] H H' ∧ H' p = some (.ins T.c_Search dx (putF "many" (.ref ml) (putF "size" (vn pl.length) (putF "places" (.ref t) [])))) ∧
      Rows H H' pl.length (fun x y => PM (P'.arrows.take j) (plc pl x) (plc pl y)) ml rows pl.length ∧ NumD H' nm pl pl.length ∧ ∃ x4 x5 x6 x7 x8 : Option V, σ = [some (.ref p), some (.ref c), some (.ref t), some (.ref nm), x4, x5, x6, x7, x8])
    ⟨k5, h5, ?_, N5, none, none, none, none, none, rfl⟩ (fun j σ H' _ ⟨k, _⟩ => SqT.of (k.tup _ _ a1)) ?_ ?_⟩
  · have e : (fun x y => PM (P'.arrows.take 0) (plc pl x) (plc pl y)) = fun _ _ => 0 := by
      funext x y
      simp [PM]
    rw [e]; exact R5
  · rintro j x σ H6 hj ⟨k6, h6, R6, N6, x4, x5, x6, x7, x8, rfl⟩
    obtain ⟨ar', pa, hp', rfl, hpa⟩ := a2.at_ hj
    have hpa6 := k6.tup _ _ hpa
    obtain ⟨tl, hd⟩ := ar'
    have tk := take_more hp'
    refine ⟨pa, _, rfl, SqT.of hpa6, rfl, _, _, rfl, _, _, rfl, rfl, ?_⟩
    obtain ⟨o1, g1, e1⟩ := N6.get (v := tl)
    obtain ⟨o2, g2, e2⟩ := N6.get (v := hd)
    have same : (¬ (tl ∈ pl ∧ hd ∈ pl ∧ hd ≠ 0)) → ∀ x y, x < pl.length → y < pl.length → PM (P'.arrows.take (j + 1)) (plc pl x) (plc pl y) = PM (P'.arrows.take j) (plc pl x) (plc pl y) := fun hn x y hx hy => by
      rw [tk, pm_snoc, if_neg]
      · rfl
      · rintro ⟨z1, z2, z3⟩
        exact hn ⟨z1 ▸ plc_mem hx, z2 ▸ plc_mem hy, z2 ▸ z3⟩
    have skip : (¬ (tl ∈ pl ∧ hd ∈ pl ∧ hd ≠ 0)) → Rows H H6 pl.length (fun x y => PM (P'.arrows.take (j + 1)) (plc pl x) (plc pl y)) ml rows pl.length := fun hn => by
      refine ⟨R6.1, R6.2.1, fun i r e => ⟨?_, (R6.2.2.1 i r e).2⟩, R6.2.2.2⟩
      rw [(R6.2.2.1 i r e).1]
      have hi := (List.getElem?_eq_some_iff.mp e).1
      rw [R6.2.1] at hi
      congr 2
      exact List.map_congr_left fun y hy => congrArg vn (same hn i y hi (List.mem_range.mp hy)).symm
    refine flowIf (fun b H' => H' = H6 ∧ (b = true ↔ tl ∈ pl ∧ hd ∈ pl ∧ hd ≠ 0)) ?_ ?_
    · rintro b H7 ⟨rfl, hb⟩
      refine ite_b (fun c1 => ?_) (fun c1 => ?_)
      · obtain ⟨z1, z2, z3⟩ := hb.mp c1
        rw [if_pos z1] at e1
        rw [if_pos z2] at e2
        subst e1; subst e2
        have hi1 := List.idxOf_lt_length_of_mem z1
        have hi2 := List.idxOf_lt_length_of_mem z2
        obtain ⟨r, r1, r2⟩ := SOb.row (C := T.c_Search) (H := H7) (D := SD P' pl) hi1 R6.2.1
        obtain ⟨s1, s2, s3⟩ := R6.2.2.1 _ _ r1
        refine ⟨_, rfl, p, _, dx, _, _, rfl, h6, T.k_Search.cl, T.n_Search_many, by rw [lookup_putF, if_pos rfl], _, rfl, _, rfl, nm, _, rfl, g1, ml, _, _, _, rfl, rfl, SqL.of R6.1, r2, _, rfl, _, rfl, nm, _, rfl, g2, ?_⟩
        refine ⟨r, _, _, _, rfl, rfl, SqL.of s1, by rw [List.getElem?_map, List.getElem?_range hi2]; rfl, _, _, rfl, rfl, ?_⟩
        refine ⟨r, _, _, _, rfl, rfl, s1, ixN_n (by simpa using hi2), ?_⟩
        have nrp := npr _ _ r1
        refine ⟨k6.put s1 (by exact trivial) (.inr s2), by rw [upd_ne nrp.symm]; exact h6, ?_, ?_, _, _, _, _, _, rfl⟩
        · refine ⟨by rw [upd_ne s3.symm]; exact R6.1, R6.2.1, fun i r' e => ⟨?_, (R6.2.2.1 i r' e).2⟩, R6.2.2.2⟩
          have hi := (List.getElem?_eq_some_iff.mp e).1
          rw [R6.2.1] at hi
          by_cases eq : r' = r
          · subst eq
            have ei : i = pl.idxOf tl := by
              have hi' := (List.getElem?_eq_some_iff.mp e).1
              have hj' := (List.getElem?_eq_some_iff.mp r1).1
              exact (List.getElem_inj (h₀ := hi') (h₁ := hj') R6.2.2.2.1).mp ((List.getElem?_eq_some_iff.mp e).2.trans (List.getElem?_eq_some_iff.mp r1).2.symm)
            subst ei
            rw [upd_same, range_set hi2]
            congr 2
            refine List.map_congr_left fun y hy => ?_
            dsimp only
            rw [tk, pm_snoc, plc_idx z1]
            by_cases ey : y = pl.idxOf hd
            · subst ey
              rw [if_pos rfl, plc_idx z2, if_pos ⟨rfl, rfl, z3⟩]
              rfl
            · rw [if_neg ey, if_neg]
              · rfl
              · rintro ⟨_, z, _⟩
                exact ey (by rw [z, idx_plc nd (List.mem_range.mp hy)])
          · rw [upd_ne eq, (R6.2.2.1 i r' e).1]
            congr 2
            refine List.map_congr_left fun y hy => ?_
            dsimp only
            rw [tk, pm_snoc, if_neg]
            · rfl
            · rintro ⟨z, _, _⟩
              have ei : pl.idxOf tl = i := by rw [z, idx_plc nd hi]
              rw [← ei] at e
              exact eq (Option.some.inj (e.symm.trans r1))
        · obtain ⟨kvs, n1, n2⟩ := N6.ex
          refine ⟨kvs, ?_, n2⟩
          have : nm ≠ r := fun z => by rw [z, s1] at n1; cases n1
          rw [upd_ne this]; exact n1
      · exact ⟨k6, h6, skip (fun z => by rw [hb.mpr z] at c1; cases c1), N6, _, _, _, _, _, rfl⟩
    · intro Q' hQ
      refine ⟨_, rfl, _, rfl, nm, o1, rfl, g1, _, rfl, ?_⟩
      by_cases z1 : tl ∈ pl
      · rw [if_pos z1] at e1; subst e1
        refine iteT ?_
        refine ⟨_, rfl, _, rfl, nm, o2, rfl, g2, _, rfl, ?_⟩
        by_cases z2 : hd ∈ pl
        · rw [if_pos z2] at e2; subst e2
          refine iteT ?_
          refine ⟨_, rfl, rfl, _, rfl, hQ _ H6 ⟨rfl, ?_⟩⟩
          rw [Bool.not_eq_true', decide_eq_false_iff_not]
          exact ⟨fun z => ⟨z1, z2, fun e => z (by rw [e]; rfl)⟩, fun z e => z.2.2 (by have := V.int.inj e; omega)⟩
        · rw [if_neg z2] at e2; subst e2
          exact iteF (hQ false H6 ⟨rfl, by simp [z2]⟩)
      · rw [if_neg z1] at e1; subst e1
        exact iteF (hQ false H6 ⟨rfl, by simp [z1]⟩)
  -- self.ends
  rintro σ H6 ⟨k6, h6, R6, N6, x4, x5, x6, x7, x8, rfl⟩
  have el : P'.arrows.take vs.length = P'.arrows := List.take_of_length_le (by rw [a2.1]; exact Nat.le_refl _)
  rw [el] at R6
  refine ⟨_, rfl, c, C, dxc, _, _, rfl, k6.get _ _ m1 (by simp [ncp]), km.cl, km.n3, mapF_goals _ _ _ _, gl, rfl, ⟨_, SqT.of (m3.keep k6)⟩, fun L nL => lc_tup (K := K) (a := gl) (xs := P'.goals.map vn) (fun j H' => Kp [] H6 H' ∧ H' L = some (.lst (((P'.goals.take j).map fun g => pl.idxOf g).map vn)))
    ⟨Kp.mk_new nL, upd_same⟩ (fun j H' _ ⟨k, _⟩ => SqT.of ((m3.keep k6).keep k)) ?_ ?_⟩
  · rintro j x H7 hj ⟨k7, hL⟩
    obtain ⟨g, hg, rfl⟩ := map_at hj
    have gm := cn.goals G (List.mem_of_getElem? hg)
    obtain ⟨o1, g1, e1⟩ := (N6.keep k7 (by simp)).get (v := g)
    rw [if_pos gm] at e1
    subst e1
    refine ⟨rfl, _, rfl, _, rfl, nm, _, rfl, g1, _, hL, ?_, k7.put hL trivial (.inr nL), ?_⟩
    · have h1 := G.lot.1
      have := asc_len h1 G.lot.2
      have := G.m40
      exact szl (by simp; omega)
    · rw [upd_same, take_more hg, List.map_append, List.map_append]; rfl
  rintro H7 ⟨k7, hL⟩
  rw [List.length_map, List.take_length] at hL
  refine ⟨L, P'.goals.map fun g => pl.idxOf g, rfl, hL, fun n hn => ?_, ?_⟩
  · obtain ⟨g, hg, rfl⟩ := List.mem_map.mp hn
    have := List.idxOf_lt_length_of_mem (cn.goals G hg)
    omega
  have k07 := k6.add k7
  have h7 := k7.get _ _ h6 (by simp)
  have R7 := R6.keep k7
  refine ⟨_, rfl, p, T.c_Search, dx, _, rfl, h7, T.k_Search.cl, T.n_Search_ends, (by simp [putF, se_ps, se_pm, se_sm]), ?_⟩
  -- self.known
  intro kn nkn
  have npk : p ≠ kn := fun z => by rw [z, upd_same] at nkn; cases nkn
  have nkn7 : H7 kn = none := by rw [upd_ne npk.symm] at nkn; exact nkn
  have h8 : (upd (upd H7 p (.ins T.c_Search dx (putF "ends" (vn (maskN (P'.goals.map fun g => pl.idxOf g))) (putF "many" (.ref ml) (putF "size" (vn pl.length) (putF "places" (.ref t) [])))))) kn (.dT [])) p = some (.ins T.c_Search dx (putF "ends" (vn (maskN (P'.goals.map fun g => pl.idxOf g))) (putF "many" (.ref ml) (putF "size" (vn pl.length) (putF "places" (.ref t) []))))) := by
    rw [upd_ne npk]; exact upd_same
  refine ⟨_, rfl, p, T.c_Search, dx, _, rfl, h8, T.k_Search.cl, T.n_Search_known, (by simp [putF, se_ps, se_pm, se_sm, se_pe, se_se, se_me]), ?_⟩
  have k8 := ((k07.put (o := .ins T.c_Search dx (putF "ends" (vn (maskN (P'.goals.map fun g => pl.idxOf g))) (putF "many" (.ref ml) (putF "size" (vn pl.length) (putF "places" (.ref t) []))))) h7 trivial (.inl (by simp))).new (o := .dT []) nkn).put (o := .ins T.c_Search dx (serF (.ref t) (vn pl.length) (.ref ml) (vn (maskN (P'.goals.map fun g => pl.idxOf g))) (.ref kn))) h8 (by exact trivial) (.inl (by simp))
  refine q kn _ (k07.free nkn7) k8 ⟨⟨dx, t, ml, rows, upd_same, ht.keep k8, ?_, R7.2.1, fun i r e => ?_⟩, n9, [], ?_, ⟨List.nodup_nil, fun k v e => (by simp [valV] at e), fun k hk => (by simp at hk)⟩⟩
  · rw [upd_ne npm.symm, upd_ne (ne_of_none R7.1 nkn7), upd_ne npm.symm]; exact R7.1
  · have h9 := (R7.2.2.1 i r e).1
    rw [upd_ne (npr i r e), upd_ne (ne_of_none h9 nkn7), upd_ne (npr i r e)]; exact h9
  · rw [upd_ne npk.symm]; exact upd_same
end
end K33
/-! K33D9: the greatest, the lots, an order -/
namespace K33
open PySem PySem.Spec PyProof.Rows L2
theorem and_not (a r : Nat) : PySem.Builtin.bitAnd (a : Int) (PySem.Builtin.bitNot (r : Int)) = ((a - (a &&& r) : Nat) : Int) := by
  have hn : ¬ (0 : Int) ≤ PySem.Builtin.bitNot (r : Int) := by
    intro z
    exact (bitNot_nonneg.mp z) (Int.natCast_nonneg _)
  rw [bitAnd_pn (Int.natCast_nonneg _) hn, bitNot_bitNot, Int.toNat_natCast, Int.toNat_natCast]
  have h2 : a &&& r ≤ a := Nat.and_le_left
  omega
theorem and_not0 (a r : Nat) : V.int (PySem.Builtin.bitAnd (a : Int) (PySem.Builtin.bitNot (r : Int))) = V.int 0 ↔ ∀ i, a.testBit i = true → r.testBit i = true := by
  rw [and_not]
  constructor
  · intro h i hi
    have h0 : a - (a &&& r) = 0 := by have := V.int.inj h; omega
    have := sub_and_bit i a r
    rw [h0, hi, Nat.zero_testBit] at this
    simpa using this.symm
  · intro h
    have : a - (a &&& r) = 0 := by
      apply Nat.eq_of_testBit_eq
      intro i
      rw [sub_and_bit, Nat.zero_testBit]
      cases e : a.testBit i with
      | false => rfl
      | true => rw [h i e]; rfl
    rw [this]; rfl
/-- l may be taken, its excess e -/
structure Cnd (D : Sd) (l : Nat) (e : Int) : Prop where
  en : ∀ i, D.ends.testBit i = true → l.testBit i = true
  go : ∃ h, h ∈ bl D.n l ∧ 0 < D.M 0 h
  be : IsBest D.M D.en (bl D.n 1) (bl D.n l) (some e)
/-- f is the greatest excess of all -/
structure TopG (D : Sd) (f : Option Int) : Prop where
  up : ∀ l, l % 2 = 0 → l < 2 ^ D.n → ∀ e, Cnd D l e → ∃ w, f = some w ∧ e ≤ w
  at_ : ∀ w, f = some w → ∃ l, l % 2 = 0 ∧ l < 2 ^ D.n ∧ Cnd D l w
theorem ask1 {D : Sd} {l : Nat} (n0 : 0 < D.n) (n9 : D.n ≤ 9) (hl : l < 2 ^ D.n) (h2 : l % 2 = 0) : Ask D 1 l 9 := by
  refine ⟨?_, hl, fun i hi => ?_, Nat.le_trans (bl_len _ _) n9⟩
  · have : 2 ^ 1 ≤ 2 ^ D.n := Nat.pow_le_pow_right (by decide) n0
    omega
  · rw [one_bit]
    refine decide_eq_false fun e => ?_
    rw [e, Nat.testBit_zero] at hi
    simp at hi
    omega
theorem rg2 : ∀ n : Nat, 0 < n → n ≤ 9 → RgC 0 ((1 : Int) * (2 : Int) ^ ((n : Int)).toNat) 2 (2 ^ (n - 1))
  | 1, _, _ => by unfold RgC; decide
  | 2, _, _ => by unfold RgC; decide
  | 3, _, _ => by unfold RgC; decide
  | 4, _, _ => by unfold RgC; decide
  | 5, _, _ => by unfold RgC; decide
  | 6, _, _ => by unfold RgC; decide
  | 7, _, _ => by unfold RgC; decide
  | 8, _, _ => by unfold RgC; decide
  | 9, _, _ => by unfold RgC; decide
  | n + 10, _, h => absurd h (by omega)
theorem half_pow {n i : Nat} (n0 : 0 < n) : i < 2 ^ (n - 1) ↔ 2 * i < 2 ^ n := by
  obtain ⟨m, rfl⟩ : ∃ m, n = m + 1 := ⟨n - 1, by omega⟩
  rw [Nat.pow_succ, Nat.add_sub_cancel]
  omega
section
variable {P : Program} {w : World} {K : PySem.W.Frag} {mg : Str → Option Value} {base : Heap}
def spOrder (T : Tx K mg) : Sp := fun vs H Q _ => ∃ (s kn : Addr) (D : Sd) (l : Nat), vs = [.ref s, vn l] ∧ SOb T.c_Search H s kn D ∧ 0 < D.n ∧ l < 2 ^ D.n ∧ l % 2 = 0 ∧ (l = 0 ∨ ∃ w, IsBest D.M D.en (bl D.n 1) (bl D.n l) (some w)) ∧
  ∀ (r : Addr) (os : List Nat) H', Kp [kn] H H' → SOb T.c_Search H' s kn D → H' r = some (.lst (os.map vn)) → (∀ o, o ∈ os → o < D.n) → os.length ≤ 10 → Q (.ref r) H'
structure InvO (C : Addr) (H0 : Hp) (sa kn r : Addr) (D : Sd) (n : Nat) (σ : L2.St) (H : Hp) : Prop where
  ex : ∃ (t l : Nat) (os : List Nat) (x4 : Option V), σ = [some (.ref sa), some (vn l), some (.ref r), some (vn t), x4] ∧ n = l ∧ Ask D t l 9 ∧ (l = 0 ∨ ∃ w, IsBest D.M D.en (bl D.n t) (bl D.n l) (some w)) ∧ H r = some (.lst (os.map vn)) ∧ (∀ o, o ∈ os → o < D.n) ∧ os.length + (bl D.n l).length ≤ 10
  k : Kp [kn] H0 H
  ob : SOb C H sa kn D
theorem ok_order (T : Tx K mg)  : FnOk P w K mg base CX0 23 T.m_Search_order_of.f T.m_Search_order_of.fd ["self", "later"] (spOrder T) := by
  refine T.m_Search_order_of.F.ok sc_Search_order_of (fun vs H Q E h => ?_) (fun cdv A outer s H vs Q E hr h => ?_)
  · obtain ⟨s, kn, D, l, rfl, _⟩ := h; rfl
  obtain ⟨sa, kn, D, l, rfl, hS, n0, hl, h2, hb, q⟩ := h
  have n9 := hS.n9
  have G_Search_best := best_all (P := P) (w := w) (base := base) T 9
  refine ⟨_, (pss_cons (ps_set (i := 2) sc_Search_order_of.nd rfl (Or.inl rfl) (pe_lst (pa_cons pe_int pa_nil)))
  (pss_cons (ps_set (i := 3) sc_Search_order_of.nd rfl (Or.inl rfl) pe_int)
  (pss_cons (ps_while PassesOwn.never (pt_cmpR op_gt (pv 1) pe_int (nomark _)) (pss_cons (ps_set (i := 4) sc_Search_order_of.nd rfl (Or.inl rfl) (pe_ix ix_tup (pe_meth (pv 0) T.k_Search.cl T.Search_best G_Search_best (hr.mono (by omega)) (b_Search_best T.m_Search_best.F) .nil pass0 (pa_cons (pv 3) (pa_cons (pv 1) pa_nil))) pe_int (fun _ _ => rfl)))
  (pss_cons (ps_expr (pe_bm PySem.F.plainAttrs_list PySem.F.slot_list_append PySem.F.type_list_append mt_append (pv 2) (pa_cons (pv 4) pa_nil)))
  (pss_cons (ps_set (i := 3) sc_Search_order_of.nd rfl (Or.inl rfl) (pe_op op_or (pv 3) (pe_op op_shl pe_int (pv 4))))
  (pss_one (ps_set (i := 1) sc_Search_order_of.nd rfl (Or.inl rfl) (pe_op op_and (pv 1) (pe_un un_inv (pe_op op_shl pe_int (pv 4))))))))))
  (pss_one (ps_ret (pv 2)))))), ?_⟩
  refine ⟨sz (by show 1 ≤ 100000; decide), fun r nr => ?_⟩
  have hr0 : (upd H r (.lst [.int 0])) r = some (.lst (([0] : List Nat).map vn)) := upd_same
  have k0 : Kp [] H (upd H r (.lst [.int 0])) := Kp.mk_new nr
  generalize upd H r (.lst [.int 0]) = H0 at hr0 k0 ⊢
  refine ⟨InvO T.c_Search H sa kn r D, ⟨l, ⟨1, l, [0], none, rfl, rfl, ask1 n0 n9 hl h2, hb, hr0, (fun o ho => by simp at ho; omega), (by have := bl_len D.n l; simp; omega)⟩, k0.weak fun _ m => (nomatch m), hS.keep k0⟩, ?_⟩
  rintro n σ H1 ⟨⟨t, l, os, x4, rfl, rfl, hA, hb, hos, hlt, hlen⟩, k1, hS1⟩
  refine ⟨_, rfl, _, _, rfl, rfl, _, rfl, ?_⟩
  refine ite_d (fun hpos => ⟨fun σ' H' => ∃ m', m' < n ∧ InvO T.c_Search H sa kn r D m' σ' H', fun _ _ h => h, ?_⟩) (fun hz => ?_)
  · have l0 : n ≠ 0 := by omega
    obtain ⟨w0, hw0⟩ := hb.resolve_left l0
    obtain ⟨dx, pa, ml, o1, _⟩ := hS1.ins
    refine ⟨_, rfl, sa, dx, _, rfl, o1, ser_no no_best, _, rfl, _, rfl, sa, kn, D, t, n, rfl, hS1, hA, fun v H2 k2 hS2 a2 => ?_⟩
    obtain ⟨a, b, y, rfl, ha, hbest, hq⟩ := a2
    have eb := best_one hbest hw0
    subst eb
    obtain ⟨p, rfl, pm, cv⟩ := hq w0 rfl l0
    obtain ⟨pn, pb⟩ := bl_mem.mp pm
    refine ⟨a, _, 1, _, rfl, rfl, SqT.of ha, rfl, ?_⟩
    obtain ⟨kvs, m1, _⟩ := hS1.me
    have nrk : r ∉ [kn] := fun z => by
      have z' : r = kn := by simpa using z
      rw [z', m1] at hos; cases hos
    have hos2 := k2.get _ _ hos nrk
    refine ⟨_, rfl, .inl ⟨rfl, _, SqL.of hos2⟩, _, rfl, r, _, _, rfl, rfl, hos2, szl (by rw [List.length_map]; omega), ?_⟩
    refine ⟨_, rfl, _, rfl, _, _, rfl, rfl, ⟨by omega, by omega, by decide⟩, _, _, rfl, rfl, ?_⟩
    refine ⟨_, rfl, _, rfl, _, _, rfl, rfl, ⟨by omega, by omega, by decide⟩, _, rfl, _, _, rfl, rfl, ?_⟩
    dsimp only
    rw [shl_one, clr_int, bitOr_nat]
    have hlt' : clr n p < n := by
      refine Nat.lt_of_le_of_ne clr_le fun e => ?_
      have := clr_bit n p p
      rw [e, pb] at this
      simp at this
    have hA9 : Ask D t n (9 + 1) := ⟨hA.ht, hA.hl, hA.dj, by have := hA.hk; omega⟩
    have kk : Kp [r] H2 (upd H2 r (.lst (os.map vn ++ [vn p]))) := Kp.mk_put hos2 (by exact trivial)
    have kH : Kp [kn] H (upd H2 r (.lst (os.map vn ++ [vn p]))) := (k1.trans k2 fun _ m => .inl m).put hos2 (by exact trivial) (.inr nr)
    refine ⟨clr n p, hlt', ⟨t ||| 1 <<< p, clr n p, os ++ [p], _, rfl, rfl, hA9.next pm, ?_, ?_, ?_, ?_⟩, kH, ?_⟩
    · right
      rcases cv with ⟨_, _, b', hb', e⟩ | ⟨_, e⟩
      · cases b' with
        | none => cases e
        | some x =>
          refine ⟨x, ?_⟩
          rw [clr_bl]
          exact best_perm (set_bl pn (hA.dj p pb)) (List.Perm.refl _) hb'
      · cases e
    · rw [upd_same, List.map_append]; rfl
    · intro o ho
      rcases List.mem_append.mp ho with z | z
      · exact hlt o z
      · have : o = p := by simpa using z
        omega
    · rw [clr_bl, List.length_erase_of_mem pm, List.length_append]
      have := List.length_pos_of_mem pm
      simp only [List.length_cons, List.length_nil]
      omega
    · obtain ⟨kvs2, m2, m3⟩ := hS2.me
      exact hS.put kH (show (upd H2 r (.lst (os.map vn ++ [vn p]))) kn = some (.dT kvs2) by rw [upd_ne (fun z => nrk (by simp [z]))]; exact m2) (m3.keep kk)
  · refine ⟨_, rfl, q r os H1 k1 hS1 hos hlt (by omega)⟩
def spGreatest (T : Tx K mg) : Sp := fun vs H Q _ => ∃ (s kn : Addr) (D : Sd), vs = [.ref s] ∧ SOb T.c_Search H s kn D ∧ 0 < D.n ∧
  ∀ (a r : Addr) (f : Option Int) (os : List Nat) H', Kp [kn] H H' → SOb T.c_Search H' s kn D → H' a = some (.tup [optV f, .ref r]) → H' r = some (.lst (os.map vn)) → (∀ o, o ∈ os → o < D.n) → os.length ≤ 10 → TopG D f → Q (.ref a) H'
structure InvG (C : Addr) (H0 : Hp) (sa kn : Addr) (D : Sd) (i : Nat) (σ : L2.St) (H : Hp) : Prop where
  ex : ∃ (fa : Addr) (f : Option Int) (lt : Nat) (x2 x3 : Option V), σ = [some (.ref sa), some (.ref fa), x2, x3] ∧ H fa = some (.tup [optV f, vn lt]) ∧
    (∀ j, j < i → ∀ e, Cnd D (2 * j) e → ∃ w, f = some w ∧ e ≤ w) ∧ (∀ w, f = some w → lt % 2 = 0 ∧ lt < 2 ^ D.n ∧ Cnd D lt w) ∧ (f = none → lt = 0)
  k : Kp [kn] H0 H
  ob : SOb C H sa kn D
theorem ok_greatest (T : Tx K mg)  : FnOk P w K mg base CX0 24 T.m_Search_greatest.f T.m_Search_greatest.fd ["self"] (spGreatest T) := by
  refine T.m_Search_greatest.F.ok sc_Search_greatest (fun vs H Q E h => ?_) (fun cdv A outer s H vs Q E hr h => ?_)
  · obtain ⟨s, kn, D, rfl, _⟩ := h; rfl
  obtain ⟨sa, kn, D, rfl, hS, n0, q⟩ := h
  have n9 := hS.n9
  have G_Search_best := best_all (P := P) (w := w) (base := base) T 9
  have G_Search_goes_on := ok_goes_on (P := P) (w := w) (base := base) T
  have G_Search_order_of := ok_order (P := P) (w := w) (base := base) T
  refine ⟨_, (pss_cons (ps_set (i := 1) sc_Search_greatest.nd rfl (Or.inl rfl) (pe_tup (pa_cons pe_non (pa_cons pe_int pa_nil))))
  (pss_cons (ps_for PassesOwn.never rfl (pi_range3 rfl T.b_range (pa_cons pe_int (pa_cons (pe_op op_shl pe_int (pe_fld (pv 0) rfl)) (pa_cons pe_int pa_nil)))) (pg_name (i := 2) sc_Search_greatest.nd rfl (Or.inl rfl)) (pss_one (ps_if (PW.pt (pw_and (pt_cmpR op_eq (pe_op op_and (pe_fld (pv 0) rfl) (pe_un un_inv (pv 2))) pe_int (nomark _)) (pw_and1 (pt_val (pe_meth (pv 0) T.k_Search.cl T.Search_goes_on G_Search_goes_on (hr.mono (by omega)) (b_Search_goes_on T.m_Search_goes_on.F) .nil pass0 (pa_cons pe_int (pa_cons (pv 2) pa_nil))))))) (pss_cons (ps_set (i := 3) sc_Search_greatest.nd rfl (Or.inl rfl) (pe_ix ix_tup (pe_meth (pv 0) T.k_Search.cl T.Search_best G_Search_best (hr.mono (by omega)) (b_Search_best T.m_Search_best.F) .nil pass0 (pa_cons pe_int (pa_cons (pv 2) pa_nil))) pe_int (fun _ _ => rfl)))
  (pss_one (ps_if (PW.pt (pw_and (pt_cmpR op_notN (pv 3) pe_non (nomark _)) (pw_and1 (PW.pt (pw_or (pt_cmpR op_isN (pe_ix ix_tup (pv 1) pe_int (fun _ _ => rfl)) pe_non (nomark _)) (pw_or1 (pt_cmpR op_lt (pe_ix ix_tup (pv 1) pe_int (fun _ _ => rfl)) (pv 3) (nomark _)))))))) (pss_one (ps_set (i := 1) sc_Search_greatest.nd rfl (Or.inl rfl) (pe_tup (pa_cons (pv 3) (pa_cons (pv 2) pa_nil))))) pss_nil))) pss_nil)))
  (pss_one (ps_ret (pe_tup (pa_cons (pe_ix ix_tup (pv 1) pe_int (fun _ _ => rfl)) (pa_cons (pe_meth (pv 0) T.k_Search.cl T.Search_order_of G_Search_order_of (hr.mono (by omega)) (b_Search_order_of T.m_Search_order_of.F) .nil pass0 (pa_cons (pe_ix ix_tup (pv 1) pe_int (fun _ _ => rfl)) pa_nil)) pa_nil))))))), ?_⟩
  refine ⟨sz (by show 2 ≤ 100000; decide), fun f0 nf0 => ?_⟩
  have k0 : Kp [] H (upd H f0 (.tup [.non, .int 0])) := Kp.mk_new nf0
  have hf0 : (upd H f0 (.tup [.non, .int 0])) f0 = some (.tup [.non, .int 0]) := upd_same
  generalize upd H f0 (.tup [.non, .int 0]) = H0 at k0 hf0 ⊢
  have hS0 := hS.keep k0
  obtain ⟨dx0, pa0, ml0, o0, _⟩ := hS0.ins
  refine ⟨_, rfl, sa, _, dx0, _, _, rfl, o0, T.k_Search.cl, T.n_Search_size, serF_size _ _ _ _ _, _, _, rfl, rfl, ⟨by omega, by omega, by decide⟩, _, _, _, _, rfl, rg2 D.n n0 n9, for_rangeC (InvG T.c_Search H sa kn D)
    ⟨⟨f0, none, 0, none, none, rfl, hf0, fun j h => absurd h (by omega), fun _ h => (nomatch h), fun _ => rfl⟩, k0.weak fun _ m => (nomatch m), hS0⟩ ?_ ?_⟩
  · rintro i σ H1 hi ⟨⟨fa, f, lt, x2, x3, rfl, hfa, up, at_, nn⟩, k1, hS1⟩
    rw [show (0 : Int) + (i : Nat) * 2 = ((2 * i : Nat) : Int) by omega]
    have hl := (half_pow n0).mp hi
    have he : (2 * i) % 2 = 0 := by omega
    generalize hli : 2 * i = l at hl he
    have skip : (∀ e, Cnd D l e → ∃ w, f = some w ∧ e ≤ w) → ∀ j, j < i + 1 → ∀ e, Cnd D (2 * j) e → ∃ w, f = some w ∧ e ≤ w := fun h j hj e c => by
      by_cases z : j = i
      · subst z; rw [hli] at c; exact h e c
      · exact up j (by omega) e c
    refine flowIf (fun b H' => Kp [] H1 H' ∧ (b = true ↔ (∀ i, D.ends.testBit i = true → l.testBit i = true) ∧ ∃ h, h ∈ bl D.n l ∧ 0 < D.M 0 h)) ?_ ?_
    · rintro b1 H2 ⟨k2, hb1⟩
      have hS2 := hS1.keep k2
      have k12 := k1.add k2
      have hfa2 := k2.tup _ _ hfa
      refine ite_b (fun c1 => ?_) (fun c1 => ?_)
      · obtain ⟨c2, c3⟩ := hb1.mp c1
        obtain ⟨dx, pa, ml, o1, _⟩ := hS2.ins
        refine ⟨_, rfl, sa, dx, _, rfl, o1, ser_no no_best, _, rfl, sa, kn, D, 1, l, rfl, hS2, ask1 n0 n9 hl he, fun v H3 k3 hS3 a3 => ?_⟩
        obtain ⟨a, b, y, rfl, ha, hbest, _⟩ := a3
        have k13 := k12.trans k3 fun _ m => .inl m
        have hfa3 := k3.tup _ _ hfa2
        have cnd : ∀ e, Cnd D l e → b = some e := fun e c => best_one hbest c.be
        refine ⟨a, _, 0, _, rfl, rfl, SqT.of ha, rfl, ?_⟩
        dsimp only [gName]
        refine flowIf (fun b2 H' => H' = H3 ∧ (b2 = true ↔ ∃ x, b = some x ∧ ∀ w, f = some w → w < x)) ?_ ?_
        · rintro b2 H4 ⟨rfl, hb2⟩
          refine ite_b (fun c4 => ?_) (fun c4 => ?_)
          · obtain ⟨x, rfl, hx⟩ := hb2.mp c4
            refine ⟨_, rfl, _, rfl, sz (by show 2 ≤ 100000; decide), fun f2 nf2 => ?_⟩
            have k4 : Kp [] H4 (upd H4 f2 (.tup [.int x, vn l])) := Kp.mk_new nf2
            refine ⟨⟨f2, some x, l, _, _, rfl, upd_same, fun j hj e c => ⟨x, rfl, ?_⟩, fun w hw => ?_, fun z => (nomatch z)⟩, k13.add k4, hS3.keep k4⟩
            · by_cases z : j = i
              · subst z; rw [hli] at c
                have := Option.some.inj (cnd e c)
                omega
              · obtain ⟨w, hw, le⟩ := up j (by omega) e c
                have := hx w hw
                omega
            · cases hw
              exact ⟨he, hl, c2, c3, hbest⟩
          · refine ⟨⟨fa, f, lt, _, _, rfl, hfa3, skip fun e c => ?_, at_, nn⟩, k13, hS3⟩
            have eb := cnd e c
            subst eb
            cases f with
            | none => exact absurd (hb2.mpr ⟨e, rfl, fun _ h => (nomatch h)⟩) (by rw [c4]; decide)
            | some w =>
              refine ⟨w, rfl, ?_⟩
              refine Int.not_lt.mp fun hlt => ?_
              exact absurd (hb2.mpr ⟨e, rfl, fun w' h => by cases h; exact hlt⟩) (by rw [c4]; decide)
        · intro Q' hQ
          refine ⟨_, rfl, rfl, _, rfl, ?_⟩
          cases b with
          | none => exact iteF (hQ false H3 ⟨rfl, by simp⟩)
          | some x =>
            refine iteT ?_
            refine ⟨_, rfl, fa, _, 0, _, rfl, rfl, SqT.of hfa3, rfl, rfl, _, rfl, ?_⟩
            cases f with
            | none => exact iteT (hQ true H3 ⟨rfl, by simp⟩)
            | some w =>
              refine iteF ?_
              refine ⟨_, rfl, fa, _, 0, _, rfl, rfl, SqT.of hfa3, rfl, _, rfl, _, _, rfl, rfl, _, rfl, ?_⟩
              exact hQ _ H3 ⟨rfl, by simp⟩
      · exact ⟨⟨fa, f, lt, _, _, rfl, hfa2, skip fun e c => absurd (hb1.mpr ⟨c.en, c.go⟩) (by rw [c1]; decide), at_, nn⟩, k12, hS2⟩
    · intro Q' hQ
      obtain ⟨dx, pa, ml, o1, _⟩ := hS1.ins
      refine ⟨_, rfl, sa, _, dx, _, _, rfl, o1, T.k_Search.cl, T.n_Search_ends, serF_ends _ _ _ _ _, _, rfl, _, rfl, _, _, rfl, rfl, rfl, _, rfl, ?_⟩
      refine ite_d (fun c => ?_) (fun c => ?_)
      · have c' := (and_not0 _ _).mp c
        refine ⟨_, rfl, sa, dx, _, rfl, o1, ser_no no_goes, _, rfl, sa, kn, D, 0, l, rfl, hS1, n0, fun H2 k2 => ⟨_, rfl, hQ _ H2 ⟨k2, ?_⟩⟩⟩
        rw [List.any_eq_true]
        exact ⟨fun ⟨h, h1, h2⟩ => ⟨c', h, h1, of_decide_eq_true h2⟩, fun ⟨_, h, h1, h2⟩ => ⟨h, h1, decide_eq_true h2⟩⟩
      · exact hQ false H1 ⟨Kp.refl, by
          constructor
          · intro z; cases z
          · exact fun z => absurd ((and_not0 _ _).mpr z.1) c⟩
  · rintro σ H1 ⟨⟨fa, f, lt, x2, x3, rfl, hfa, up, at_, nn⟩, k1, hS1⟩
    obtain ⟨dx, pa, ml, o1, _⟩ := hS1.ins
    refine ⟨_, rfl, fa, _, 0, _, rfl, rfl, SqT.of hfa, rfl, _, rfl, sa, dx, _, rfl, o1, ser_no no_order, _, rfl, fa, _, 1, _, rfl, rfl, SqT.of hfa, rfl, sa, kn, D, lt, rfl, hS1, n0, ?_⟩
    have hlt : lt < 2 ^ D.n ∧ lt % 2 = 0 ∧ (lt = 0 ∨ ∃ w, IsBest D.M D.en (bl D.n 1) (bl D.n lt) (some w)) := by
      cases f with
      | none => rw [nn rfl]; exact ⟨Nat.two_pow_pos _, rfl, .inl rfl⟩
      | some w => obtain ⟨z1, z2, z3⟩ := at_ w rfl; exact ⟨z2, z1, .inr ⟨w, z3.be⟩⟩
    refine ⟨hlt.1, hlt.2.1, hlt.2.2, fun r os H2 k2 hS2 hr2 hos hlen => ⟨sz (by show 2 ≤ 100000; decide), fun a na => ?_⟩⟩
    have k3 : Kp [] H2 (upd H2 a (.tup [optV f, .ref r])) := Kp.mk_new na
    refine q a r f os _ ((k1.trans k2 fun _ m => .inl m).add k3) (hS2.keep k3) upd_same (k3.get _ _ hr2 (by simp)) hos hlen ⟨fun l h2 hl e c => ?_, fun w hw => ?_⟩
    · obtain ⟨j, rfl⟩ : ∃ j, l = 2 * j := ⟨l / 2, by omega⟩
      exact up j ((half_pow n0).mpr hl) e c
    · obtain ⟨z1, z2, z3⟩ := at_ w hw
      exact ⟨lt, z1, z2, z3⟩
def spLots (T : Tx K mg) : Sp := fun vs H Q _ => ∃ (s kn : Addr) (D : Sd) (W : Int), vs = [.ref s, .int W] ∧ SOb T.c_Search H s kn D ∧ 0 < D.n ∧
  ∀ (r : Addr) (ls : List Nat) H', Kp [kn] H H' → SOb T.c_Search H' s kn D → H r = none → H' r = some (.lst (ls.map vn)) → ls.Nodup → (∀ l, l ∈ ls ↔ l % 2 = 0 ∧ l < 2 ^ D.n ∧ Cnd D l W) → Q (.ref r) H'
structure InvL (C : Addr) (H0 : Hp) (sa kn r : Addr) (D : Sd) (W : Int) (i : Nat) (σ : L2.St) (H : Hp) : Prop where
  ex : ∃ (ls : List Nat) (x3 : Option V), σ = [some (.ref sa), some (.int W), some (.ref r), x3] ∧ H r = some (.lst (ls.map vn)) ∧ ls.Nodup ∧ ls.length ≤ i ∧ (∀ l, l ∈ ls ↔ ∃ j, j < i ∧ l = 2 * j ∧ Cnd D l W)
  k : Kp [kn] H0 H
  ob : SOb C H sa kn D
theorem ok_lots (T : Tx K mg)  : FnOk P w K mg base CX0 24 T.m_Search_lots.f T.m_Search_lots.fd ["self", "excess"] (spLots T) := by
  refine T.m_Search_lots.F.ok sc_Search_lots (fun vs H Q E h => ?_) (fun cdv A outer s H vs Q E hr h => ?_)
  · obtain ⟨s, kn, D, W, rfl, _⟩ := h; rfl
  obtain ⟨sa, kn, D, W, rfl, hS, n0, q⟩ := h
  have n9 := hS.n9
  have G_Search_best := best_all (P := P) (w := w) (base := base) T 9
  have G_Search_goes_on := ok_goes_on (P := P) (w := w) (base := base) T
  refine ⟨_, (pss_cons (ps_set (i := 2) sc_Search_lots.nd rfl (Or.inl rfl) (pe_lst pa_nil))
  (pss_cons (ps_for PassesOwn.never rfl (pi_range3 rfl T.b_range (pa_cons pe_int (pa_cons (pe_op op_shl pe_int (pe_fld (pv 0) rfl)) (pa_cons pe_int pa_nil)))) (pg_name (i := 3) sc_Search_lots.nd rfl (Or.inl rfl)) (pss_one (ps_if (PW.pt (pw_and (pt_cmpR op_eq (pe_op op_and (pe_fld (pv 0) rfl) (pe_un un_inv (pv 3))) pe_int (nomark _)) (pw_and (pt_val (pe_meth (pv 0) T.k_Search.cl T.Search_goes_on G_Search_goes_on (hr.mono (by omega)) (b_Search_goes_on T.m_Search_goes_on.F) .nil pass0 (pa_cons pe_int (pa_cons (pv 3) pa_nil)))) (pw_and1 (pt_cmpR op_eq (pe_ix ix_tup (pe_meth (pv 0) T.k_Search.cl T.Search_best G_Search_best (hr.mono (by omega)) (b_Search_best T.m_Search_best.F) .nil pass0 (pa_cons pe_int (pa_cons (pv 3) pa_nil))) pe_int (fun _ _ => rfl)) (pv 1) (nomark _)))))) (pss_one (ps_expr (pe_bm PySem.F.plainAttrs_list PySem.F.slot_list_append PySem.F.type_list_append mt_append (pv 2) (pa_cons (pv 3) pa_nil)))) pss_nil)))
  (pss_one (ps_ret (pv 2))))), ?_⟩
  refine ⟨Nat.zero_le _, fun r nr => ?_⟩
  have k0 : Kp [] H (upd H r (.lst [])) := Kp.mk_new nr
  have hr0 : (upd H r (.lst [])) r = some (.lst []) := upd_same
  generalize upd H r (.lst []) = H0 at k0 hr0 ⊢
  have hS0 := hS.keep k0
  obtain ⟨dx0, pa0, ml0, o0, _⟩ := hS0.ins
  have hp : 2 ^ (D.n - 1) ≤ 256 := Nat.le_trans (Nat.pow_le_pow_right (by decide) (by omega : D.n - 1 ≤ 8)) (by decide)
  refine ⟨_, rfl, sa, _, dx0, _, _, rfl, o0, T.k_Search.cl, T.n_Search_size, serF_size _ _ _ _ _, _, _, rfl, rfl, ⟨by omega, by omega, by decide⟩, _, _, _, _, rfl, rg2 D.n n0 n9, for_rangeC (InvL T.c_Search H sa kn r D W)
    ⟨⟨[], none, rfl, hr0, List.nodup_nil, Nat.zero_le _, fun l => by simp⟩, k0.weak fun _ m => (nomatch m), hS0⟩ ?_ ?_⟩
  · rintro i σ H1 hi ⟨⟨ls, x3, rfl, hls, nd, len, mem⟩, k1, hS1⟩
    rw [show (0 : Int) + (i : Nat) * 2 = ((2 * i : Nat) : Int) by omega]
    have hl := (half_pow n0).mp hi
    have he : (2 * i) % 2 = 0 := by omega
    have hi' := hi
    generalize hli : 2 * i = l at hl he
    have nrk : r ∉ [kn] := fun z => by
      have z' : r = kn := by simpa using z
      obtain ⟨kvs, m1, _⟩ := hS1.me
      rw [z', m1] at hls; cases hls
    refine flowIf (fun b H' => Kp [kn] H1 H' ∧ SOb T.c_Search H' sa kn D ∧ (b = true ↔ Cnd D l W)) ?_ ?_
    · rintro b1 H2 ⟨k2, hS2, hb1⟩
      have k12 := k1.trans k2 fun _ m => .inl m
      have hls2 := k2.get _ _ hls nrk
      refine ite_b (fun c1 => ?_) (fun c1 => ?_)
      · have c := hb1.mp c1
        refine ⟨_, rfl, .inl ⟨rfl, _, SqL.of hls2⟩, _, rfl, r, _, _, rfl, rfl, hls2, szl (by rw [List.length_map]; omega), ?_⟩
        have kk : Kp [r] H2 (upd H2 r (.lst (ls.map vn ++ [vn l]))) := Kp.mk_put hls2 (by exact trivial)
        have kH : Kp [kn] H (upd H2 r (.lst (ls.map vn ++ [vn l]))) := k12.put hls2 (by exact trivial) (.inr nr)
        obtain ⟨kvs2, m2, m3⟩ := hS2.me
        refine ⟨⟨ls ++ [l], _, rfl, by rw [upd_same, List.map_append]; rfl, ?_, by rw [List.length_append]; simp; omega, fun x => ?_⟩, kH, hS.put kH (show (upd H2 r (.lst (ls.map vn ++ [vn l]))) kn = some (.dT kvs2) by rw [upd_ne (fun z => nrk (by simp [z]))]; exact m2) (m3.keep kk)⟩
        · rw [List.nodup_append]
          refine ⟨nd, by simp, fun a ha b hb e => ?_⟩
          obtain ⟨j, hj, rfl, _⟩ := (mem a).mp ha
          have : b = l := by simpa using hb
          omega
        · rw [List.mem_append, mem, List.mem_singleton]
          constructor
          · rintro (⟨j, h1, h2, h3⟩ | rfl)
            · exact ⟨j, by omega, h2, h3⟩
            · exact ⟨i, by omega, hli.symm, c⟩
          · rintro ⟨j, h1, h2, h3⟩
            by_cases z : j = i
            · right; rw [h2, z, hli]
            · exact .inl ⟨j, by omega, h2, h3⟩
      · refine ⟨⟨ls, _, rfl, hls2, nd, by omega, fun x => ?_⟩, k12, hS2⟩
        rw [mem]
        constructor
        · rintro ⟨j, h1, h2, h3⟩
          exact ⟨j, by omega, h2, h3⟩
        · rintro ⟨j, h1, h2, h3⟩
          have : j ≠ i := fun z => by
            rw [z, hli] at h2
            rw [h2] at h3
            rw [hb1.mpr h3] at c1; cases c1
          exact ⟨j, by omega, h2, h3⟩
    · intro Q' hQ
      have kr : Kp [kn] H1 H1 := Kp.refl
      obtain ⟨dx, pa, ml, o1, _⟩ := hS1.ins
      refine ⟨_, rfl, sa, _, dx, _, _, rfl, o1, T.k_Search.cl, T.n_Search_ends, serF_ends _ _ _ _ _, _, rfl, _, rfl, _, _, rfl, rfl, rfl, _, rfl, ?_⟩
      refine ite_d (fun c => ?_) (fun c => ?_)
      · have c' := (and_not0 _ _).mp c
        refine ⟨_, rfl, sa, dx, _, rfl, o1, ser_no no_goes, _, rfl, sa, kn, D, 0, l, rfl, hS1, n0, fun H2 k2 => ⟨_, rfl, ?_⟩⟩
        have hS2 := hS1.keep k2
        have k2' : Kp [kn] H1 H2 := k2.weak fun _ m => nomatch m
        refine ite_b (fun b1 => ?_) (fun b1 => ?_)
        · obtain ⟨dx2, pa2, ml2, o2, _⟩ := hS2.ins
          refine ⟨_, rfl, sa, dx2, _, rfl, o2, ser_no no_best, _, rfl, sa, kn, D, 1, l, rfl, hS2, ask1 n0 n9 hl he, fun v H3 k3 hS3 a3 => ?_⟩
          obtain ⟨a, b, y, rfl, ha, hbest, _⟩ := a3
          refine ⟨a, _, 0, _, rfl, rfl, SqT.of ha, rfl, _, rfl, ?_⟩
          have k23 := k2'.trans k3 fun _ m => .inl m
          have cc : Cnd D l W ↔ b = some W := ⟨fun z => best_one hbest z.be, fun z => ⟨c', by
            rw [List.any_eq_true] at b1
            obtain ⟨h, h1, h2⟩ := b1
            exact ⟨h, h1, of_decide_eq_true h2⟩, by rw [← z]; exact hbest⟩⟩
          cases b with
          | none => exact ⟨rfl, _, rfl, hQ _ H3 ⟨k23, hS3, by rw [cc]; simp [optV]⟩⟩
          | some x => exact ⟨rfl, _, rfl, hQ _ H3 ⟨k23, hS3, by rw [cc]; simp [optV]⟩⟩
        · refine hQ false H2 ⟨k2', hS2, ⟨fun z => (nomatch z), fun z => ?_⟩⟩
          rw [show ((bl D.n l).any fun h => decide (0 < D.M 0 h)) = true from List.any_eq_true.mpr (let ⟨h, h1, h2⟩ := z.go; ⟨h, h1, decide_eq_true h2⟩)] at b1
          cases b1
      · exact hQ false H1 ⟨kr, hS1, ⟨fun z => (nomatch z), fun z => absurd ((and_not0 _ _).mpr z.en) c⟩⟩
  · rintro σ H1 ⟨⟨ls, x3, rfl, hls, nd, len, mem⟩, k1, hS1⟩
    refine ⟨_, rfl, q r ls H1 k1 hS1 nr hls nd fun l => ?_⟩
    rw [mem]
    constructor
    · rintro ⟨j, h1, h2, h3⟩
      exact ⟨by omega, by rw [h2]; exact (half_pow n0).mp h1, h3⟩
    · rintro ⟨h1, h2, h3⟩
      obtain ⟨j, rfl⟩ : ∃ j, l = 2 * j := ⟨l / 2, by omega⟩
      exact ⟨j, (half_pow n0).mpr h2, rfl, h3⟩
end
end K33
/-! K33D10: a map turned about -/
namespace K33
open PySem PySem.Spec PyProof.Rows L2
section
variable {P : Program} {w : World} {K : PySem.W.Frag} {mg : Str → Option Value} {base : Heap}
theorem lot_one {P' : Pt} (G : Good P') (h : P'.goals.length ≤ 1) : ∃ g, P'.goals = [g] ∧ g < P'.many ∧ g ≠ 0 := by
  cases e : P'.goals with
  | nil => exact absurd e G.ne
  | cons g r =>
    rw [e] at h
    have : r = [] := List.eq_nil_of_length_eq_zero (by simp only [List.length_cons] at h; omega)
    subst this
    exact ⟨g, rfl, G.lot.2 g (by rw [e]; simp), fun z => G.no0 (by rw [e, z]; simp)⟩
def spOne (T : Tx K mg) : Sp := fun vs H Q E => ∃ (C p d : Addr) (P : Pt), KM K C ∧ vs = [.ref p] ∧ MapAt C H p P d ∧ (1 < P.goals.length → E (.ref T.c_Many) none H) ∧ (P.goals.length ≤ 1 → Q .non H)
theorem ok_check_one (T : Tx K mg)  : FnOk P w K mg base (L2.CX P w) 1 T.d_check_one_goal.f T.d_check_one_goal.fd ["chart"] (spOne T) := by
  refine T.d_check_one_goal.F.okX sc_check_one_goal (fun vs H Q E h => ?_) (fun cdv A outer s H vs Q E hr h => ?_)
  · obtain ⟨C, p, d, P', _, rfl, _⟩ := h; rfl
  obtain ⟨C, p, d, P', km, rfl, ⟨dx, ar, gl, h1, h2, h3⟩, q1, q2⟩ := h
  refine ⟨_, (pss_one (ps_if (pt_cmpR op_gt (pe_callB call_len_seq (by rfl) T.b_len (by decide +kernel) (pa_cons (pe_fld (pv 0) rfl) pa_nil)) pe_int (nomark _)) (pss_one (ps_raise rfl (takes_of rfl rfl rfl rfl) (pmk_own0 PySem.F.excBase_ValueError T.many_x T.many_g T.many_k (raises_own T.many_b T.many_t) rfl))) pss_nil)), ?_⟩
  refine ⟨_, rfl, p, C, dx, _, _, rfl, h1, km.cl, km.n3, mapF_goals _ _ _ _, gl, _, rfl, .inr (SqT.of h3), _, _, rfl, rfl, _, rfl, ?_⟩
  refine ite_d (fun c => q1 (by rw [List.length_map] at c; omega)) (fun c => q2 (by rw [List.length_map] at c; omega))
/-- the numbers of a turned map -/
theorem rg_nat (m : Nat) : rgV 0 (m : Int) = (List.range m).map vn := by
  unfold rgV
  rw [show ((m : Int) - 0).toNat = m by omega]
  exact List.map_congr_left fun i _ => by rw [Int.zero_add]
theorem sw_list {m g : Nat} (h0 : g ≠ 0) (hm : g < m) : (((List.range m).map vn).set 0 (vn g)).set g (vn 0) = (List.range m).map fun v => vn (sw g v) := by
  rw [range_set (show 0 < m by omega), range_set hm]
  refine List.map_congr_left fun v _ => ?_
  unfold sw
  by_cases h1 : v = g
  · rw [if_pos h1, h1, if_neg h0, if_pos rfl]
  · rw [if_neg h1]
    by_cases h2 : v = 0
    · rw [if_pos h2, if_pos h2]
    · rw [if_neg h2, if_neg h2, if_neg h1]
def spTurned (T : Tx K mg) : Sp := fun vs H Q E => ∃ (C p d : Addr) (P : Pt), KM K C ∧ vs = [.ref p] ∧ MapAt C H p P d ∧ P.many ≤ 40 ∧ P.arrows.length ≤ 60 ∧ (∀ a, a ∈ P.arrows → a.1 < P.many ∧ a.2 < P.many) ∧ (1 < P.goals.length → E (.ref T.c_Many) none H) ∧
  (P.goals.length ≤ 1 → ∃ g, P.goals = [g] ∧ g < P.many ∧ g ≠ 0 ∧ ∀ p' d' H', H p' = none → H d' = none → Kp [] H H' → MapAt T.c_RawMap H' p' (turnP P g) d' → H' d' = some (.dK []) → Q (.ref p') H')
theorem ok_turned (T : Tx K mg)  : FnOk P w K mg base (L2.CX P w) 4 T.d_turned.f T.d_turned.fd ["chart"] (spTurned T) := by
  refine T.d_turned.F.okX sc_turned (fun vs H Q E h => ?_) (fun cdv A outer s H vs Q E hr h => ?_)
  · obtain ⟨C, p, d, P', _, rfl, _⟩ := h; rfl
  obtain ⟨C, p, d, P', km, rfl, M, m40, len, arr, q1, q2⟩ := h
  have G_check_one_goal := ok_check_one (P := P) (w := w) (base := base) T
  have G_RawMap_init := ok_RawMap_init (P := P) (w := w) (base := base) T
  refine ⟨_, (pss_cons (ps_expr (pe_call G_check_one_goal (hr.mono (by omega)) rfl T.d_check_one_goal.g T.d_check_one_goal.F.kp (b_check_one_goal T.d_check_one_goal.F) .nil (passes_call (takes_of rfl rfl rfl rfl) (fun _ _ _ _ h => h)) (pa_cons (pv 0) pa_nil)))
  (pss_cons (ps_set (i := 1) sc_turned.nd rfl (Or.inl rfl) (pe_ix ix_tup (pe_fld (pv 0) rfl) pe_int (fun _ _ => rfl)))
  (pss_cons (ps_set (i := 2) sc_turned.nd rfl (Or.inr rfl) (pe_listRg (by rfl) rfl T.b_list (prg_1 rfl T.b_range (pe_fld (pv 0) rfl))))
  (pss_cons (ps_asg (pv 1) (pg_sub (pv 2) pe_int set_list))
  (pss_cons (ps_asg pe_int (pg_sub (pv 2) (pv 1) set_list))
  (pss_cons (ps_set (i := 3) sc_turned.nd rfl (Or.inl rfl) (pe_callTy call_tuple_of (by rfl) T.b_tuple (by decide +kernel) (pa_cons (pe_lc (own := [("tail", 4), ("head", 5)]) (g := (gTup K 2 (gCons (gName 4) (gCons (gName 5) gNil)))) (te := (tTup (tCons (tOp (rIxL K) _ _) (tCons (tOp (rIxL K) _ _) tNil)))) (hs := by intro _; rfl) rfl sc_turned.nd (pi_tup (pe_fld (pv 0) rfl)) (blkOk_by (N := ["chart", "goal", "number", "arrows", "tail", "head"]) (sc := defScope s_turned) (own := [("tail", 4), ("head", 5)]) (by decide +kernel)) (fun _ _ _ _ _ => (pg_tup rfl (pgs_cons (pg_name (i := 4) sc_turned.nd rfl (Or.inl rfl) (hf := by exact Or.inr rfl)) (pgs_cons (pg_name (i := 5) sc_turned.nd rfl (Or.inl rfl) (hf := by exact Or.inr rfl)) pgs_nil)))) (fun _ _ _ _ _ => pts_nil) (fun _ _ _ _ _ => (pe_tup (pa_cons (pe_ix ix_list (pv 2) (pv 5) (fun _ _ => rfl)) (pa_cons (pe_ix ix_list (pv 2) (pv 4) (fun _ _ => rfl)) pa_nil))))) pa_nil)))
  (pss_one (ps_ret (pe_make T.mk_RawMap G_RawMap_init (hr.mono (by omega)) rfl T.k_RawMap.g (b_RawMap_init T.m_RawMap_init.F) .nil pass0 (pa_cons (pe_fld (pv 0) rfl) (pa_cons (pv 3) (pa_cons (pe_fld (pv 0) rfl) pa_nil)))))))))))), ?_⟩
  refine ⟨_, rfl, C, p, d, P', km, rfl, M, q1, fun h1 => ?_⟩
  obtain ⟨g, hg, gm, g0, q⟩ := q2 h1
  obtain ⟨dx, ar, gl, o1, ⟨vs, a1, a2⟩, o3⟩ := id M.ob
  refine ⟨_, rfl, p, C, dx, _, _, rfl, o1, km.cl, km.n3, mapF_goals _ _ _ _, gl, _, 0, _, rfl, rfl, SqT.of o3, by rw [hg]; rfl, ?_⟩
  refine ⟨_, rfl, p, C, dx, _, _, rfl, o1, km.cl, km.n1, mapF_many _ _ _ _, _, rfl, RgOk.of_le (by omega) (by omega) (by omega) (by omega), fun nm nnm => ?_⟩
  have k1 : Kp [] H (upd H nm (.lst (rgV 0 (P'.many : Int)))) := Kp.mk_new nnm
  have n1 : (upd H nm (.lst (rgV 0 (P'.many : Int)))) nm = some (.lst ((List.range P'.many).map vn)) := by rw [upd_same, rg_nat]
  generalize upd H nm (.lst (rgV 0 (P'.many : Int))) = H1 at k1 n1 ⊢
  refine ⟨_, rfl, _, rfl, nm, _, _, 0, rfl, rfl, n1, ixN_n (by simp; omega), ?_⟩
  have k2 : Kp [] H (upd H1 nm (.lst (((List.range P'.many).map vn).set 0 (vn g)))) := k1.put n1 (by exact trivial) (.inr nnm)
  have n2 : (upd H1 nm (.lst (((List.range P'.many).map vn).set 0 (vn g)))) nm = some (.lst (((List.range P'.many).map vn).set 0 (vn g))) := upd_same
  generalize upd H1 nm (.lst (((List.range P'.many).map vn).set 0 (vn g))) = H2 at k2 n2 ⊢
  refine ⟨_, rfl, _, rfl, nm, _, _, g, rfl, rfl, n2, ixN_n (by simp; omega), ?_⟩
  have k3 : Kp [] H (upd H2 nm (.lst ((((List.range P'.many).map vn).set 0 (vn g)).set g (vn 0)))) := k2.put n2 (by exact trivial) (.inr nnm)
  have n3 : (upd H2 nm (.lst ((((List.range P'.many).map vn).set 0 (vn g)).set g (vn 0)))) nm = some (.lst ((List.range P'.many).map fun v => vn (sw g v))) := by rw [upd_same, sw_list g0 gm]
  have e3 : (V.int 0) = vn 0 := rfl
  rw [e3]
  generalize upd H2 nm (.lst ((((List.range P'.many).map vn).set 0 (vn g)).set g (vn 0))) = H3 at k3 n3 ⊢
  refine ⟨_, rfl, p, C, dx, _, _, rfl, k3.get _ _ o1 (by simp), km.cl, km.n2, mapF_arrows _ _ _ _, ar, rfl, ⟨_, SqT.of (k3.tup _ _ a1)⟩, fun L nL => lc_tup (K := K) (a := ar) (xs := vs) (fun j H' => Kp [] H3 H' ∧ ∃ us, H' L = some (.lst us) ∧ PairsV H' us ((P'.arrows.take j).map fun a => (sw g a.2, sw g a.1))) ⟨Kp.mk_new nL, [], upd_same, PairsV.nil⟩ (fun j H' _ ⟨k, _⟩ => SqT.of ((k3.add k).tup _ _ a1)) ?_ ?_⟩
  · rintro j x H4 hj ⟨k4, us, hL, pv⟩
    obtain ⟨a, pa, hp, rfl, hpa⟩ := a2.at_ hj
    have hpa4 := (k3.add k4).tup _ _ hpa
    obtain ⟨b1, b2⟩ := arr a (List.mem_of_getElem? hp)
    have n4 := SqL.of (K := K) (k4.get _ _ n3 (by simp))
    refine ⟨pa, _, rfl, SqT.of hpa4, rfl, _, _, rfl, _, _, rfl, rfl, rfl, ?_⟩
    refine ⟨_, rfl, _, rfl, nm, _, _, _, rfl, rfl, n4, row_at b2, _, rfl, _, rfl, nm, _, _, _, rfl, rfl, n4, row_at b1, sz (by show 2 ≤ 100000; decide), fun t nt => ?_⟩
    have k5 : Kp [] H4 (upd H4 t (.tup [vn (sw g a.2), vn (sw g a.1)])) := Kp.mk_new nt
    have nLt : L ≠ t := ne_of_none hL nt
    have hj' : j < P'.arrows.length := (List.getElem?_eq_some_iff.mp hp).1
    have hus : us.length = j := by rw [pv.1, List.length_map, List.length_take]; omega
    have hL5 : (upd H4 t (.tup [vn (sw g a.2), vn (sw g a.1)])) L = some (.lst us) := by rw [upd_ne nLt]; exact hL
    refine ⟨us, hL5, szl (by omega), (k4.add k5).put hL5 trivial (.inr nL), us ++ [.ref t], upd_same, ?_⟩
    rw [take_more hp, List.map_append]
    have k6 : Kp [L] H4 (upd (upd H4 t (.tup [vn (sw g a.2), vn (sw g a.1)])) L (.lst (us ++ [.ref t]))) := (k5.weak fun _ m => nomatch m).put hL5 trivial (.inl (by simp))
    exact (pv.keep k6).snoc (p := (sw g a.2, sw g a.1)) (by rw [upd_ne nLt.symm, upd_same])
  · rintro H4 ⟨k4, us, hL, pv⟩
    have el : P'.arrows.take vs.length = P'.arrows := List.take_of_length_le (by rw [a2.1]; exact Nat.le_refl _)
    rw [el] at pv
    refine ⟨L, us, rfl, .inl ⟨SqL.of hL, fun at_ nat => ?_⟩⟩
    have k5 : Kp [] H4 (upd H4 at_ (.tup us)) := Kp.mk_new nat
    have t5 : TupP (upd H4 at_ (.tup us)) at_ (turnP P' g).arrows := ⟨us, upd_same, pv.keep k5⟩
    generalize upd H4 at_ (.tup us) = H5 at k5 t5 ⊢
    have k05 := (k3.add k4).add k5
    have o5 := k05.get _ _ o1 (by simp)
    refine ⟨_, rfl, p, C, dx, _, _, rfl, o5, km.cl, km.n1, mapF_many _ _ _ _, _, rfl, _, rfl, p, C, dx, _, _, rfl, o5, km.cl, km.n3, mapF_goals _ _ _ _, ?_⟩
    intro p' dx' np nd' ne
    have k6 : Kp [] H5 (upd (upd H5 dx' (.own p')) p' (.ins T.c_RawMap dx' [])) := (Kp.mk_new nd').new (by rw [upd_ne ne.symm]; exact np)
    have o6 : (upd (upd H5 dx' (.own p')) p' (.ins T.c_RawMap dx' [])) p' = some (.ins T.c_RawMap dx' []) := upd_same
    generalize upd (upd H5 dx' (.own p')) p' (.ins T.c_RawMap dx' []) = H6 at k6 o6 ⊢
    refine ⟨p', dx', at_, gl, turnP P' g, rfl, o6, t5.keep k6, o3.keep (k05.add k6), fun d' H7 nd7 k7 m7 hd => ⟨rfl, ?_⟩⟩
    have np0 := k05.free np
    exact q p' d' H7 np0 ((k05.add k6).free nd7) ((((k05.add k6).weak (S' := [p']) fun _ m => nomatch m).trans k7 fun _ m => .inl m).drop np0) m7 hd
end
end K33
/-! K33 mathematics 4: what the search finds is what the parts are -/
namespace K33
open L2
theorem part_rch {P : Pt} {o : List Nat} {e : Int} (h : IsPart P o e) {v : Nat} (hv : v ∈ o) : Rch P.arrows (· < P.many) (· = 0) v := by
  have key : ∀ n v, v ∈ o → o.idxOf v ≤ n → Rch P.arrows (· < P.many) (· = 0) v := by
    intro n
    induction n with
    | zero =>
      intro v hv hn
      by_cases h0 : v = 0
      · exact .base v h0
      · obtain ⟨t, m, f⟩ := h.inn v hv h0
        have := ((fwd_idx h.nd _).mp f).2.2
        simp only at this
        omega
    | succ n ih =>
      intro v hv hn
      by_cases h0 : v = 0
      · exact .base v h0
      · obtain ⟨t, m, f⟩ := h.inn v hv h0
        obtain ⟨ht, _, lt⟩ := (fwd_idx h.nd _).mp f
        exact .step t v (ih t ht (by simp only at lt; omega)) m (h.lt v hv)
  exact key _ v hv (Nat.le_refl _)
theorem part_lead {P : Pt} {o : List Nat} {e : Int} (h : IsPart P o e) {v : Nat} (hv : v ∈ o) : Rch (P.arrows.map fun a => (a.2, a.1)) (· < P.many) (· ∈ P.goals) v := by
  have key : ∀ n v, v ∈ o → o.length ≤ n + o.idxOf v → Rch (P.arrows.map fun a => (a.2, a.1)) (· < P.many) (· ∈ P.goals) v := by
    intro n
    induction n with
    | zero =>
      intro v hv hn
      have := List.idxOf_lt_length_of_mem hv
      omega
    | succ n ih =>
      intro v hv hn
      by_cases h0 : v ∈ P.goals
      · exact .base v h0
      · obtain ⟨t, m, f⟩ := h.out v hv h0
        obtain ⟨_, ht, lt⟩ := (fwd_idx h.nd _).mp f
        exact .step t v (ih t ht (by simp only at lt; omega)) (List.mem_map.mpr ⟨(v, t), m, rfl⟩) (h.lt v hv)
  exact key o.length v hv (by omega)
theorem Counted.part {P : Pt} {pl : List Nat} (c : Counted P pl) {o : List Nat} {e : Int} (h : IsPart P o e) {v : Nat} (hv : v ∈ o) : v ∈ pl := (c.mem v).mpr (.inr ⟨part_rch h hv, part_lead h hv⟩)
theorem Counted.zero {P : Pt} {pl : List Nat} (c : Counted P pl) : 0 ∈ pl := (c.mem 0).mpr (.inl rfl)
theorem Counted.pos {P : Pt} {pl : List Nat} (c : Counted P pl) : 0 < pl.length := List.length_pos_of_mem c.zero
theorem Counted.plc0 {P : Pt} {pl : List Nat} (c : Counted P pl) : plc pl 0 = 0 := by
  have h := plc_idx c.zero
  have hi := List.idxOf_lt_length_of_mem c.zero
  by_cases z : pl.idxOf 0 = 0
  · rw [z] at h; exact h
  · have h1 := (List.getElem?_eq_some_iff.mp (plc_at hi)).2
    have := (List.pairwise_iff_getElem.mp c.srt) 0 (pl.idxOf 0) c.pos hi (by omega)
    rw [h1, h] at this
    omega
theorem Counted.idx0 {P : Pt} {pl : List Nat} (c : Counted P pl) : pl.idxOf 0 = 0 := by
  have := idx_plc (asc_nd c.srt) c.pos
  rw [c.plc0] at this
  exact this
theorem Good.pos {P : Pt} (G : Good P) : 0 < P.many := by have := G.m2; omega
section
variable {P : Pt} {pl : List Nat}
theorem en_eq (G : Good P) (c : Counted P pl) : (SD P pl).en = fun a => plc pl a ∈ P.goals := by
  funext i
  show ((maskN (P.goals.map fun g => pl.idxOf g)).testBit i = true) = _
  rw [maskN_bit]
  apply propext
  rw [decide_eq_true_eq, List.mem_map]
  constructor
  · rintro ⟨g, hg, rfl⟩
    rw [plc_idx (c.goals G hg)]; exact hg
  · intro h
    refine ⟨_, h, ?_⟩
    by_cases hi : i < pl.length
    · exact idx_plc (asc_nd c.srt) hi
    · have : plc pl i = 0 := by unfold plc; rw [List.getD_eq_getElem?_getD, List.getElem?_eq_none (by omega)]; rfl
      rw [this] at h
      exact absurd h G.no0
theorem plc_nd (c : Counted P pl) {o : List Nat} (nd : o.Nodup) (lt : ∀ v, v ∈ o → v < pl.length) : (o.map (plc pl)).Nodup :=
  map_nd nd fun x y hx hy e => by rw [← idx_plc (asc_nd c.srt) (lt x hx), e, idx_plc (asc_nd c.srt) (lt y hy)]
theorem to_part (G : Good P) (c : Counted P pl) {o : List Nat} (nd : (0 :: o).Nodup) (lt : ∀ v, v ∈ o → v < pl.length) (en : ∀ i, (SD P pl).ends.testBit i = true → i ∈ o) (go : ∃ h, h ∈ o ∧ 0 < (SD P pl).M 0 h) (vd : Vd (SD P pl).M (SD P pl).en [0] o) :
    IsPart P (0 :: o.map (plc pl)) (Vl (SD P pl).M [0] o) := by
  rw [en_eq G c] at vd
  have e0 : [0] = ([0] : List Nat).map (plc pl) := by rw [List.map_cons, c.plc0]; rfl
  refine (part_iff G.no0).mpr ⟨?_, G.pos, fun v hv => ?_, fun g hg => ?_, ?_, ?_, ?_⟩
  · have := plc_nd c nd (fun v hv => (List.mem_cons.mp hv).elim (fun e => by rw [e]; exact c.pos) (lt v))
    rw [List.map_cons, c.plc0] at this
    exact this
  · obtain ⟨i, hi, rfl⟩ := List.mem_map.mp hv
    exact c.lt G.pos (plc_mem (lt i hi))
  · have : (maskN (P.goals.map fun g => pl.idxOf g)).testBit (pl.idxOf g) = true := by
      rw [maskN_bit]
      exact decide_eq_true (List.mem_map.mpr ⟨g, hg, rfl⟩)
    exact List.mem_map.mpr ⟨_, en _ this, plc_idx (c.goals G hg)⟩
  · obtain ⟨h, h1, h2⟩ := go
    refine ⟨plc pl h, List.mem_map.mpr ⟨h, h1, rfl⟩, ?_⟩
    have h2' : 0 < PM P.arrows (plc pl 0) (plc pl h) := h2
    rw [c.plc0] at h2'
    exact h2'
  · have hv := vd_map (M := PM P.arrows) (en := (· ∈ P.goals)) (P := plc pl) (ts := [0]) (o := o)
    rw [← e0] at hv
    exact hv.mpr vd
  · have hv := vl_map (M := PM P.arrows) (P := plc pl) (ts := [0]) (o := o)
    rw [← e0] at hv
    exact hv.symm
theorem of_part (G : Good P) (c : Counted P pl) {o' : List Nat} {e : Int} (h : IsPart P o' e) : ∃ o, o' = 0 :: o.map (plc pl) ∧ (0 :: o).Nodup ∧ (∀ v, v ∈ o → v < pl.length) ∧ (∀ i, (SD P pl).ends.testBit i = true → i ∈ o) ∧
    (∃ h, h ∈ o ∧ 0 < (SD P pl).M 0 h) ∧ Vd (SD P pl).M (SD P pl).en [0] o ∧ e = Vl (SD P pl).M [0] o := by
  obtain ⟨r, rfl⟩ : ∃ r, o' = 0 :: r := by
    have := h.hd
    cases o' with
    | nil => cases this
    | cons x r => simp at this; exact ⟨r, by rw [this]⟩
  have inp : ∀ v, v ∈ r → v ∈ pl := fun v hv => c.part h (by simp [hv])
  have er : (r.map fun v => pl.idxOf v).map (plc pl) = r := by
    rw [List.map_map]
    conv => rhs; rw [← List.map_id r]
    exact List.map_congr_left fun v hv => plc_idx (inp v hv)
  obtain ⟨nd, _, lt, gl, ⟨y, y1, y2⟩, vd, ev⟩ := (part_iff G.no0).mp h
  have e0 : [0] = ([0] : List Nat).map (plc pl) := by rw [List.map_cons, c.plc0]; rfl
  refine ⟨r.map fun v => pl.idxOf v, by rw [er], ?_, fun v hv => ?_, fun i hi => ?_, ?_, ?_, ?_⟩
  · have : ((0 :: r).map fun v => pl.idxOf v).Nodup := map_nd nd fun x y hx hy e => by
      have hx' : x ∈ pl := (List.mem_cons.mp hx).elim (fun z => z ▸ c.zero) (inp x)
      have hy' : y ∈ pl := (List.mem_cons.mp hy).elim (fun z => z ▸ c.zero) (inp y)
      rw [← plc_idx hx', e, plc_idx hy']
    rw [List.map_cons, c.idx0] at this
    exact this
  · obtain ⟨x, hx, rfl⟩ := List.mem_map.mp hv
    exact List.idxOf_lt_length_of_mem (inp x hx)
  · have : (maskN (P.goals.map fun g => pl.idxOf g)).testBit i = true := hi
    rw [maskN_bit, decide_eq_true_eq, List.mem_map] at this
    obtain ⟨g, hg, rfl⟩ := this
    exact List.mem_map.mpr ⟨g, gl g hg, rfl⟩
  · refine ⟨pl.idxOf y, List.mem_map.mpr ⟨y, y1, rfl⟩, ?_⟩
    show 0 < PM P.arrows (plc pl 0) (plc pl (pl.idxOf y))
    rw [c.plc0, plc_idx (inp y y1)]
    exact y2
  · rw [en_eq G c]
    have hv := vd_map (M := PM P.arrows) (en := (· ∈ P.goals)) (P := plc pl) (ts := [0]) (o := r.map fun v => pl.idxOf v)
    rw [← e0, er] at hv
    exact hv.mp vd
  · have hv := vl_map (M := PM P.arrows) (P := plc pl) (ts := [0]) (o := r.map fun v => pl.idxOf v)
    rw [← e0, er] at hv
    rw [ev]
    exact hv
theorem bl_one {n : Nat} (h : 0 < n) : bl n 1 = [0] := asc_eq bl_srt (by simp) fun i => by
  rw [bl_mem, one_bit, decide_eq_true_eq, List.mem_singleton]
  omega
theorem bl_mask {n : Nat} {o : List Nat} (nd : o.Nodup) (lt : ∀ v, v ∈ o → v < n) : (bl n (maskN o)).Perm o :=
  (List.perm_ext_iff_of_nodup bl_nd nd).mpr fun i => by
    rw [bl_mem, maskN_bit, decide_eq_true_eq]
    exact ⟨fun h => h.2, fun h => ⟨lt i h, h⟩⟩
theorem best_ex {M : Nat → Nat → Nat} {en : Nat → Prop} {ts S : List Nat} {B : Int} (hB : ∀ o, o.Perm S → Vd M en ts o → Vl M ts o ≤ B) : ∀ (n : Nat) (o : List Nat), o.Perm S → Vd M en ts o → (B - Vl M ts o).toNat ≤ n → ∃ e, IsBest M en ts S (some e) ∧ Vl M ts o ≤ e
  | 0, o, hp, hv, hn => ⟨Vl M ts o, ⟨⟨o, hp, hv, rfl⟩, fun o' hp' hv' => by have := hB o' hp' hv'; omega⟩, Int.le_refl _⟩
  | n + 1, o, hp, hv, hn => by
    by_cases h : ∃ o', o'.Perm S ∧ Vd M en ts o' ∧ Vl M ts o < Vl M ts o'
    · obtain ⟨o', h1, h2, h3⟩ := h
      obtain ⟨e, h4, h5⟩ := best_ex hB n o' h1 h2 (by have := hB o' h1 h2; omega)
      exact ⟨e, h4, by omega⟩
    · exact ⟨Vl M ts o, ⟨⟨o, hp, hv, rfl⟩, fun o' hp' hv' => Int.not_lt.mp fun z => h ⟨o', hp', hv', z⟩⟩, Int.le_refl _⟩
/-- W is the greatest excess of the parts -/
structure MaxE (P : Pt) (W : Int) : Prop where
  ex : ∃ o, IsPart P o W
  up : ∀ o e, IsPart P o e → e ≤ W
/-- the ascending lot of a part with the excess W -/
def IsLot (P : Pt) (W : Int) (b : List Int) : Prop := ∃ o l : List Nat, IsPart P o W ∧ l.Pairwise (· < ·) ∧ l.Perm o ∧ b = l.map fun (v : Nat) => (v : Int)
/-- bs are the lots of the parts with the excess W, each once -/
structure LotsB (P : Pt) (W : Int) (bs : List (List Int)) : Prop where
  nd : bs.Nodup
  mem : ∀ b, b ∈ bs ↔ IsLot P W b
theorem cnd_part (G : Good P) (c : Counted P pl) {l : Nat} {e : Int} (h2 : l % 2 = 0) (h : Cnd (SD P pl) l e) : ∃ o : List Nat, o.Perm (bl pl.length l) ∧ IsPart P (0 :: o.map (plc pl)) e := by
  obtain ⟨o, hp, hv, he⟩ := h.be.1
  have hb : bl (SD P pl).n 1 = [0] := bl_one c.pos
  rw [hb] at hv he
  have z : l.testBit 0 = false := by rw [Nat.testBit_zero]; exact decide_eq_false (by omega)
  refine ⟨o, hp, ?_⟩
  rw [← he]
  refine to_part G c ?_ (fun v hv => (bl_mem.mp (hp.mem_iff.mp hv)).1) (fun i hi => ?_) ?_ hv
  · rw [List.nodup_cons]
    refine ⟨fun m => ?_, hp.nodup_iff.mpr bl_nd⟩
    have := (bl_mem.mp (hp.mem_iff.mp m)).2
    rw [z] at this; cases this
  · refine hp.mem_iff.mpr (bl_mem.mpr ⟨?_, h.en i hi⟩)
    have : (maskN (P.goals.map fun g => pl.idxOf g)).testBit i = true := hi
    rw [maskN_bit, decide_eq_true_eq, List.mem_map] at this
    obtain ⟨g, hg, rfl⟩ := this
    exact List.idxOf_lt_length_of_mem (c.goals G hg)
  · obtain ⟨y, y1, y2⟩ := h.go
    exact ⟨y, hp.mem_iff.mpr y1, y2⟩
theorem part_cnd (G : Good P) (c : Counted P pl) {o' : List Nat} {e : Int} (h : IsPart P o' e) : ∃ (o : List Nat) (l : Nat) (e' : Int), o' = 0 :: o.map (plc pl) ∧ (bl pl.length l).Perm o ∧ l % 2 = 0 ∧ l < 2 ^ pl.length ∧ Cnd (SD P pl) l e' ∧ e ≤ e' := by
  obtain ⟨o, rfl, nd, lt, en, go, vd, ev⟩ := of_part G c h
  obtain ⟨n0, nd'⟩ := List.nodup_cons.mp nd
  have hp := bl_mask nd' lt
  have hb : bl (SD P pl).n 1 = [0] := bl_one c.pos
  have z : (maskN o).testBit 0 = false := by rw [maskN_bit]; exact decide_eq_false n0
  have m2 : maskN o % 2 = 0 := by
    rw [Nat.testBit_zero, decide_eq_false_iff_not] at z
    omega
  have bound : ∀ q, q.Perm (bl pl.length (maskN o)) → Vd (SD P pl).M (SD P pl).en [0] q → Vl (SD P pl).M [0] q ≤ P.arrows.length + 1 := fun q hq hv => by
    have hqo := hq.trans hp
    have := (to_part G c (o := q) (by
      rw [List.nodup_cons]
      exact ⟨fun m => n0 (hqo.mem_iff.mp m), hqo.nodup_iff.mpr nd'⟩) (fun v hv => lt v (hqo.mem_iff.mp hv)) (fun i hi => hqo.mem_iff.mpr (en i hi)) (let ⟨y, y1, y2⟩ := go; ⟨y, hqo.mem_iff.mpr y1, y2⟩) hv).ex
    have := List.length_filter_le (fwd (0 :: q.map (plc pl))) P.arrows
    omega
  obtain ⟨e', h1, h2⟩ := best_ex bound _ o hp.symm vd (Nat.le_refl _)
  refine ⟨o, maskN o, e', rfl, hp, m2, mask_lt lt, ⟨fun i hi => ?_, ?_, ?_⟩, by rw [ev]; exact h2⟩
  · rw [maskN_bit]; exact decide_eq_true (en i hi)
  · obtain ⟨y, y1, y2⟩ := go
    exact ⟨y, hp.mem_iff.mpr y1, y2⟩
  · rw [hb]; exact h1
theorem top_max (G : Good P) (c : Counted P pl) {f : Option Int} (h : TopG (SD P pl) f) : ∃ W, f = some W ∧ MaxE P W := by
  have up : ∀ o e, IsPart P o e → ∃ w, f = some w ∧ e ≤ w := fun o e hp => by
    obtain ⟨_, l, e', _, _, h2, hl, cn, le⟩ := part_cnd G c hp
    obtain ⟨w, hw, le'⟩ := h.up l h2 hl e' cn
    exact ⟨w, hw, by omega⟩
  obtain ⟨o, e, hp⟩ := part_exists G.pos G.no0 G.ne G.rch
  obtain ⟨W, hW, _⟩ := up o e hp
  refine ⟨W, hW, ?_, fun o e hp => ?_⟩
  · obtain ⟨l, h2, hl, cn⟩ := h.at_ W hW
    obtain ⟨q, _, hq⟩ := cnd_part G c h2 cn
    exact ⟨_, hq⟩
  · obtain ⟨w, hw, le⟩ := up o e hp
    rw [hW] at hw
    cases hw
    exact le
/-- the lot of the number l -/
def lotB (pl : List Nat) (l : Nat) : List Int := (0 :: (bl pl.length l).map (plc pl)).map fun (v : Nat) => (v : Int)
theorem plc_lt (c : Counted P pl) {i j : Nat} (h : i < j) (hj : j < pl.length) : plc pl i < plc pl j := by
  have h1 := (List.getElem?_eq_some_iff.mp (plc_at (show i < pl.length by omega))).2
  have h2 := (List.getElem?_eq_some_iff.mp (plc_at hj)).2
  rw [← h1, ← h2]
  exact (List.pairwise_iff_getElem.mp c.srt) i j (by omega) hj h
theorem lot_srt (c : Counted P pl) (l : Nat) (h2 : l % 2 = 0) : (0 :: (bl pl.length l).map (plc pl)).Pairwise (· < ·) := by
  have z : l.testBit 0 = false := by rw [Nat.testBit_zero]; exact decide_eq_false (by omega)
  rw [List.pairwise_cons]
  refine ⟨fun v hv => ?_, ?_⟩
  · obtain ⟨i, hi, rfl⟩ := List.mem_map.mp hv
    obtain ⟨h1, h3⟩ := bl_mem.mp hi
    have : i ≠ 0 := fun e => by rw [e, z] at h3; cases h3
    have := plc_lt c (show 0 < i by omega) h1
    rw [c.plc0] at this
    exact this
  · rw [List.pairwise_map]
    have h : (bl pl.length l).Pairwise fun i j => i < j := bl_srt
    exact h.imp_of_mem fun hi hj h => plc_lt c h (bl_mem.mp hj).1
theorem cast_inj {l r : List Nat} (h : (l.map fun (v : Nat) => (v : Int)) = r.map fun (v : Nat) => (v : Int)) : l = r := by
  have e : ∀ l : List Nat, (l.map fun (v : Nat) => (v : Int)).map Int.toNat = l := fun l => by
    rw [List.map_map]
    conv => rhs; rw [← List.map_id l]
    exact List.map_congr_left fun v _ => Int.toNat_natCast v
  rw [← e l, h, e r]
theorem lots_b (G : Good P) (c : Counted P pl) {W : Int} (hW : MaxE P W) {ls : List Nat} (nd : ls.Nodup) (mem : ∀ l, l ∈ ls ↔ l % 2 = 0 ∧ l < 2 ^ pl.length ∧ Cnd (SD P pl) l W) : LotsB P W (ls.map (lotB pl)) := by
  refine ⟨map_nd nd fun x y hx hy e => ?_, fun b => ?_⟩
  · obtain ⟨_, x2, _⟩ := (mem x).mp hx
    obtain ⟨_, y2, _⟩ := (mem y).mp hy
    have e1 := cast_inj e
    have e2 := (List.cons.inj e1).2
    have e3 : bl pl.length x = bl pl.length y := by
      have k : ∀ l : Nat, ((bl pl.length l).map (plc pl)).map (fun v => pl.idxOf v) = bl pl.length l := fun l => by
        rw [List.map_map]
        conv => rhs; rw [← List.map_id (bl pl.length l)]
        exact List.map_congr_left fun i hi => idx_plc (asc_nd c.srt) (bl_mem.mp hi).1
      rw [← k x, e2, k y]
    apply Nat.eq_of_testBit_eq
    intro i
    have hm : i ∈ bl pl.length x ↔ i ∈ bl pl.length y := by rw [e3]
    rw [bl_mem, bl_mem] at hm
    have hx' : x.testBit i = true → i < pl.length := lt_bit x2
    have hy' : y.testBit i = true → i < pl.length := lt_bit y2
    rw [Bool.eq_iff_iff]
    exact ⟨fun z => (hm.mp ⟨hx' z, z⟩).2, fun z => (hm.mpr ⟨hy' z, z⟩).2⟩
  · rw [List.mem_map]
    constructor
    · rintro ⟨l, hl, rfl⟩
      obtain ⟨h2, _, cn⟩ := (mem l).mp hl
      obtain ⟨o, hp, hq⟩ := cnd_part G c h2 cn
      exact ⟨_, _, hq, lot_srt c l h2, (hp.symm.map _).cons 0, rfl⟩
    · rintro ⟨o', l', hp, hs, hpm, rfl⟩
      obtain ⟨o, l, e', rfl, ho, h2, hl, cn, le⟩ := part_cnd G c hp
      obtain ⟨q, _, hq⟩ := cnd_part G c h2 cn
      have e1 : e' = W := by have := hW.up _ _ hq; omega
      subst e1
      refine ⟨l, (mem l).mpr ⟨h2, hl, cn⟩, ?_⟩
      unfold lotB
      congr 1
      refine asc_eq (lot_srt c l h2) hs fun i => ?_
      rw [hpm.mem_iff]
      exact ((ho.map (plc pl)).cons 0).mem_iff
end
/-! ### turned about -/
theorem good_turn {P : Pt} {g : Nat} (G : Good P) (hg : P.goals = [g]) (gm : g < P.many) (g0 : g ≠ 0) : Good (turnP P g) := by
  obtain ⟨o, e, hp⟩ := part_exists G.pos G.no0 G.ne G.rch
  have hp' := part_turn hg gm hp
  refine ⟨G.m2, G.m40, by show (P.arrows.map _).length ≤ 60; rw [List.length_map]; exact G.len, fun a ha => ?_, G.lot, G.ne, G.no0, fun v hv => part_rch hp' (hp'.gl v hv)⟩
  obtain ⟨b, hb, rfl⟩ := List.mem_map.mp ha
  obtain ⟨h1, h2, h3⟩ := G.arr b hb
  exact ⟨sw_lt gm h2, sw_lt gm h1, fun z => h3 (sw_inj g _ _ z).symm⟩
theorem max_turn {P : Pt} {g : Nat} {W : Int} (hg : P.goals = [g]) (gm : g < P.many) (h : MaxE P W) : MaxE (turnP P g) W := by
  obtain ⟨o, ho⟩ := h.ex
  refine ⟨⟨_, part_turn hg gm ho⟩, fun o e hp => ?_⟩
  have := part_turn (p := turnP P g) hg gm hp
  rw [turn_turn] at this
  exact h.up _ _ this
theorem max_one {P : Pt} {W W' : Int} (h : MaxE P W) (h' : MaxE P W') : W = W' := by
  obtain ⟨o, ho⟩ := h.ex
  obtain ⟨o', ho'⟩ := h'.ex
  have h1 := h.up _ _ ho'
  have h2 := h'.up _ _ ho
  omega
theorem lots_perm {P : Pt} {W : Int} {bs cs : List (List Int)} (h : LotsB P W bs) (h' : LotsB P W cs) : bs.Perm cs := (List.perm_ext_iff_of_nodup h.nd h'.nd).mpr fun b => by rw [h.mem, h'.mem]
theorem srt_perm {bs cs : List (List Int)} (h : bs.Perm cs) : srt bs = srt cs := by
  have tr : ∀ a b c : List Int, decide (a ≤ b) = true → decide (b ≤ c) = true → decide (a ≤ c) = true := fun a b c h1 h2 => decide_eq_true (List.le_trans (of_decide_eq_true h1) (of_decide_eq_true h2))
  have tot : ∀ a b : List Int, (decide (a ≤ b) || decide (b ≤ a)) = true := fun a b => by
    rw [Bool.or_eq_true, decide_eq_true_eq, decide_eq_true_eq]
    exact List.le_total a b
  refine List.Perm.eq_of_pairwise (fun a b _ _ h1 h2 => List.le_antisymm (of_decide_eq_true h1) (of_decide_eq_true h2)) (List.pairwise_mergeSort tr tot bs) (List.pairwise_mergeSort tr tot cs) ?_
  exact (List.mergeSort_perm bs _).trans (h.trans (List.mergeSort_perm cs _).symm)
end K33
/-! K33D11: the greatest part of a map, the lots of all greatest parts -/
namespace K33
open PySem PySem.Spec PyProof.Rows L2
section
variable {S : List Addr} {H H1 : Hp} {a : Addr} {vs : List V} {bs : List (List Int)} {b : List Int}
theorem TupsV.keep (h : TupsV H vs bs) (k : Kp S H H1) : TupsV H1 vs bs := ⟨h.1, fun i b e => let ⟨a, h1, h2⟩ := h.2 i b e; ⟨a, h1, k.tup _ _ h2⟩⟩
theorem TupsV.nil : TupsV H [] [] := ⟨rfl, fun i p h => by simp at h⟩
theorem TupsV.snoc (h : TupsV H vs bs) (e : H a = some (.tup (b.map V.int))) : TupsV H (vs ++ [.ref a]) (bs ++ [b]) := by
  refine ⟨by simp [h.1], fun i q hq => ?_⟩
  by_cases hi : i < bs.length
  · rw [List.getElem?_append_left hi] at hq
    obtain ⟨c, h1, h2⟩ := h.2 i q hq
    exact ⟨c, by rw [List.getElem?_append_left (by rw [h.1]; exact hi)]; exact h1, h2⟩
  · have hi' : i = bs.length := by
      have := (List.getElem?_eq_some_iff.mp hq).1
      simp at this; omega
    subst hi'
    simp at hq
    subst hq
    exact ⟨a, by rw [← h.1]; simp, e⟩
end
def AllN (kvs : List (Key × V)) : Prop := ∀ k v, valV kvs k = some v → ∃ n : Nat, v = vn n
section
variable {P : Program} {w : World} {K : PySem.W.Frag} {mg : Str → Option Value} {base : Heap}
def spForward (K : PySem.W.Frag) : Sp := fun vs H Q _ => ∃ (C p d t : Addr) (P : Pt) (os : List Nat), KM K C ∧ vs = [.ref p, .ref t] ∧ MapAt C H p P d ∧ P.arrows.length ≤ 1000 ∧ os.length ≤ 1000 ∧ TupN H t os ∧ ∀ r H', Kp [] H H' → Q (.ref r) H'
theorem ok_forward (T : Tx K mg)  : FnOk P w K mg base CX0 1 T.d_forward_arrows.f T.d_forward_arrows.fd ["chart", "order"] (spForward K) := by
  refine T.d_forward_arrows.F.ok sc_forward_arrows (fun vs H Q E h => ?_) (fun cdv A outer s H vs Q E hr h => ?_)
  · obtain ⟨C, p, d, t, P', os, _, rfl, _⟩ := h; rfl
  obtain ⟨C, p, d, t, P', os, km, rfl, ⟨dx, ar, gl, h1, ⟨vs, a1, a2⟩, h3⟩, len, olen, ht, q⟩ := h
  have hu := hu_of hr
  refine ⟨_, (pss_cons (ps_setDc (i := 2) (own := [("index", 7), ("place", 8)]) (g := (gTup K 2 (gCons (gName 7) (gCons (gName 8) gNil)))) (hs := by intro _; rfl) rfl sc_forward_arrows.nd rfl rfl (sw_trueD rfl rfl rfl (by decide +kernel)) (pi_enumT rfl T.b_enumerate (pa_cons (pv 1) pa_nil)) (blkOk_by (N := ["chart", "order", "at", "found", "arrow", "tail", "head", "index", "place"]) (sc := defScope s_forward_arrows) (own := [("index", 7), ("place", 8)]) (by decide +kernel)) (fun _ _ _ _ _ => (pg_tup rfl (pgs_cons (pg_name (i := 7) sc_forward_arrows.nd rfl (Or.inl rfl) (hf := by exact Or.inr rfl)) (pgs_cons (pg_name (i := 8) sc_forward_arrows.nd rfl (Or.inl rfl) (hf := by exact Or.inr rfl)) pgs_nil)))) (fun _ _ _ _ _ => pts_nil) (fun _ _ _ _ _ => (pv 8)) (fun _ _ _ _ _ => (pv 7)))
  (pss_cons (ps_set (i := 3) sc_forward_arrows.nd rfl (Or.inl rfl) (pe_lst pa_nil))
  (pss_cons (ps_for PassesOwn.never rfl (pi_enumT rfl T.b_enumerate (pa_cons (pe_fld (pv 0) rfl) pa_nil)) (pg_tup rfl (pgs_cons (pg_name (i := 4) sc_forward_arrows.nd rfl (Or.inl rfl)) (pgs_cons (pg_tup rfl (pgs_cons (pg_name (i := 5) sc_forward_arrows.nd rfl (Or.inl rfl)) (pgs_cons (pg_name (i := 6) sc_forward_arrows.nd rfl (Or.inl rfl)) pgs_nil))) pgs_nil))) (pss_one (ps_if (PW.pt (pw_and (pt_cmp (pc_din hu (pv 5) (pv 2))) (pw_and (pt_cmp (pc_din hu (pv 6) (pv 2))) (pw_and1 (pt_cmpR op_lt (pe_dget hu (pv 2) (pv 5) (fun _ _ => rfl)) (pe_dget hu (pv 2) (pv 6) (fun _ _ => rfl)) (nomark _)))))) (pss_one (ps_expr (pe_bm PySem.F.plainAttrs_list PySem.F.slot_list_append PySem.F.type_list_append mt_append (pv 3) (pa_cons (pv 4) pa_nil)))) pss_nil)))
  (pss_one (ps_ret (pe_callTy call_tuple_of (by rfl) T.b_tuple (by decide +kernel) (pa_cons (pv 3) pa_nil))))))), ?_⟩
  refine ⟨_, rfl, t, _, rfl, SqT.of ht, fun nm nnm => dc_it walk_enumT (fun i H' => Kp [] H H' ∧ ∃ kvs : List (Key × V), H' nm = some (.dK kvs) ∧ kvs.length ≤ i ∧ AllN kvs) ⟨Kp.mk_new nnm, [], upd_same, Nat.zero_le _, fun k v e => (by simp [valV] at e)⟩ (fun i H' _ ⟨k, _⟩ => SqT.of (ht.keep k)) ?_ ?_⟩
  · rintro i x H3 H4 hi ⟨k3, kvs, n1, n2, n3⟩ ⟨TT, i0, y, rfl, nT, rfl, e1, e2⟩
    cases e1
    obtain ⟨v, hv, rfl⟩ := map_at e2
    have k4 : Kp [] H3 (upd H3 TT (.tup [.int (i : Nat), vn v])) := Kp.mk_new nT
    have n4 := k4.get _ _ n1 (by simp)
    rw [List.length_map] at hi
    refine ⟨TT, _, rfl, SqT.of upd_same, rfl, _, _, rfl, _, _, rfl, rfl, rfl, ?_⟩
    refine ⟨_, rfl, _, rfl, kvs, .inl (v : Int), rfl, n4, szl (by omega), (k3.add k4).put n4 (by exact trivial) (.inr nnm), _, upd_same, ?_, fun k u e => ?_⟩
    · unfold putK
      split
      · rw [List.length_map]; omega
      · rw [List.length_append]; simp; omega
    · rw [valV_put] at e
      split at e
      · cases e; exact ⟨i, rfl⟩
      · exact n3 k u e
  rintro H2 ⟨k2, kvs, n1, n2, n3⟩
  refine ⟨Nat.zero_le _, fun L nL => ?_⟩
  have k3 : Kp [] H2 (upd H2 L (.lst [])) := Kp.mk_new nL
  have hL : (upd H2 L (.lst [])) L = some (.lst []) := upd_same
  generalize upd H2 L (.lst []) = H3 at k3 hL ⊢
  have k03 := k2.add k3
  have n4 := k3.get _ _ n1 (by simp)
  have nLH : H L = none := k2.free nL
  have nmL : nm ≠ L := fun z => by rw [z, hL] at n4; cases n4
  have gt : ∀ (H' : Hp) (v : Nat), H' nm = some (.dK kvs) → ∃ o : Option Nat, DGet H' nm (vn v) (o.map vn) := fun H' v e => by
    have := DGet.k (k := .inl (v : Int)) e
    cases ev : valV kvs (.inl (v : Int)) with
    | none => exact ⟨none, by rw [ev] at this; exact this⟩
    | some u =>
      obtain ⟨n, rfl⟩ := n3 _ _ ev
      exact ⟨some n, by rw [ev] at this; exact this⟩
  refine ⟨_, rfl, p, C, dx, _, _, rfl, k03.get _ _ h1 (by simp), km.cl, km.n2, mapF_arrows _ _ _ _, ar, vs, rfl, SqT.of (k03.tup _ _ a1), for_it walk_enumT (fun j σ H' => Kp [] H H' ∧ H' nm = some (.dK kvs) ∧ (∃ ns : List Nat, H' L = some (.lst (ns.map vn)) ∧ ns.length ≤ j) ∧ ∃ x4 x5 x6 x7 x8 : Option V, σ = [some (.ref p), some (.ref t), some (.ref nm), some (.ref L), x4, x5, x6, x7, x8])
    ⟨k03, n4, ⟨[], hL, Nat.le_refl _⟩, _, _, _, _, _, rfl⟩ (fun j σ H' _ ⟨k, _⟩ => SqT.of (k.tup _ _ a1)) ?_ ?_⟩
  · rintro j x σ H4 H5 hj ⟨k4, n5, ⟨ns, hL4, ln⟩, x4, x5, x6, x7, x8, rfl⟩ ⟨TT, i0, y, rfl, nT, rfl, e1, e2⟩
    cases e1
    obtain ⟨⟨tl, hd⟩, pa, hp, rfl, hpa⟩ := a2.at_ e2
    rw [a2.1] at hj
    have k5 : Kp [] H4 (upd H4 TT (.tup [.int (j : Nat), .ref pa])) := Kp.mk_new nT
    have hT : (upd H4 TT (.tup [.int (j : Nat), .ref pa])) TT = some (.tup [.int (j : Nat), .ref pa]) := upd_same
    generalize upd H4 TT (.tup [.int (j : Nat), .ref pa]) = H5 at k5 hT ⊢
    have k45 := k4.add k5
    have n6 := k5.get _ _ n5 (by simp)
    have hL5 := k5.get _ _ hL4 (by simp)
    obtain ⟨o1, g1⟩ := gt H5 tl n6
    obtain ⟨o2, g2⟩ := gt H5 hd n6
    refine ⟨TT, _, rfl, SqT.of hT, rfl, _, _, rfl, _, _, rfl, pa, _, rfl, SqT.of (k45.tup _ _ hpa), rfl, _, _, rfl, _, _, rfl, rfl, rfl, ?_⟩
    refine flowIf (fun b H' => H' = H5) ?_ ?_
    · rintro b H6 rfl
      refine ite_b (fun c1 => ?_) (fun c1 => ?_)
      · refine ⟨_, rfl, .inl ⟨rfl, _, SqL.of hL5⟩, _, rfl, L, _, _, rfl, rfl, hL5, szl (by rw [List.length_map]; omega), ?_⟩
        refine ⟨k45.put hL5 (by exact trivial) (.inr nLH), by rw [upd_ne nmL]; exact n6, ⟨ns ++ [j], by rw [upd_same, List.map_append]; rfl, by rw [List.length_append]; simp; omega⟩, _, _, _, _, _, rfl⟩
      · exact ⟨k45, n6, ⟨ns, hL5, by omega⟩, _, _, _, _, _, rfl⟩
    · intro Q' hQ
      refine ⟨_, rfl, _, rfl, nm, _, rfl, g1, _, rfl, ?_⟩
      cases o1 with
      | none => exact iteF (hQ false H5 rfl)
      | some u1 =>
        refine iteT ?_
        refine ⟨_, rfl, _, rfl, nm, _, rfl, g2, _, rfl, ?_⟩
        cases o2 with
        | none => exact iteF (hQ false H5 rfl)
        | some u2 =>
          refine iteT ?_
          exact ⟨_, rfl, _, rfl, nm, _, rfl, g1, _, rfl, _, rfl, nm, _, rfl, g2, _, _, rfl, rfl, _, rfl, hQ _ H5 rfl⟩
  · rintro σ H4 ⟨k4, n5, ⟨ns, hL4, ln⟩, x4, x5, x6, x7, x8, rfl⟩
    exact ⟨_, rfl, L, _, rfl, .inl ⟨SqL.of hL4, fun r nr => q r _ (k4.new nr)⟩⟩
def spGrOf (K : PySem.W.Frag) : Sp := fun vs H Q _ => ∃ (C p d : Addr) (P : Pt), KM K C ∧ vs = [.ref p] ∧ MapAt C H p P d ∧ H d = some (.dK []) ∧ Good P ∧ P.many ≤ 9 ∧ ∀ (a : Addr) (W : Int) (y : V) H', Kp [d] H H' → H' a = some (.tup [.int W, y]) → MaxE P W → Q (.ref a) H'
theorem ok_greatest_of (T : Tx K mg)  : FnOk P w K mg base CX0 25 T.d_greatest_of.f T.d_greatest_of.fd ["chart"] (spGrOf K) := by
  refine T.d_greatest_of.F.ok sc_greatest_of (fun vs H Q E h => ?_) (fun cdv A outer s H vs Q E hr h => ?_)
  · obtain ⟨C, p, d, P', _, rfl, _⟩ := h; rfl
  obtain ⟨C, p, d, P', km, rfl, M, hd, G, m9, q⟩ := h
  have hu := hu_of hr
  have G_check_counted := ok_check_counted (P := P) (w := w) (base := base) T
  have G_Search_init := ok_Search_init (P := P) (w := w) (base := base) T
  have G_Search_greatest := ok_greatest (P := P) (w := w) (base := base) T
  have G_forward_arrows := ok_forward (P := P) (w := w) (base := base) T
  refine ⟨_, (pss_cons (ps_if (pt_cmp (pc_dnotin hu pe_str (pe_fld (pv 0) rfl))) (pss_cons (ps_set (i := 1) sc_greatest_of.nd rfl (Or.inr rfl) (pe_make T.mk_Search G_Search_init (hr.mono (by omega)) rfl T.k_Search.g (b_Search_init T.m_Search_init.F) .nil pass0 (pa_cons (pv 0) (pa_cons (pe_call G_check_counted (hr.mono (by omega)) rfl T.d_check_counted.g T.d_check_counted.F.kp (b_check_counted T.d_check_counted.F) .nil pass0 (pa_cons (pv 0) pa_nil)) pa_nil))))
  (pss_cons (ps_asg (pe_meth0 (pv 1) T.k_Search.cl T.Search_greatest G_Search_greatest (hr.mono (by omega)) (b_Search_greatest T.m_Search_greatest.F) .nil pass0) (pg_tup rfl (pgs_cons (pg_name (i := 2) sc_greatest_of.nd rfl (Or.inl rfl)) (pgs_cons (pg_name (i := 3) sc_greatest_of.nd rfl (Or.inl rfl)) pgs_nil))))
  (pss_cons (ps_set (i := 4) sc_greatest_of.nd rfl (Or.inl rfl) (pe_callTy call_tuple_of (by rfl) T.b_tuple (by decide +kernel) (pa_cons (pe_lc (own := [("number", 5)]) (g := (gName 5)) (te := (tOp (rIxT K) (tFld K _ "places") _)) (hs := by intro _; rfl) rfl sc_greatest_of.nd (pi_list (pv 3)) (blkOk_by (N := ["chart", "search", "excess", "order", "places", "number"]) (sc := defScope s_greatest_of) (own := [("number", 5)]) (by decide +kernel)) (fun _ _ _ _ _ => (pg_name (i := 5) sc_greatest_of.nd rfl (Or.inl rfl) (hf := by exact Or.inr rfl))) (fun _ _ _ _ _ => pts_nil) (fun _ _ _ _ _ => (pe_ix ix_tup (pe_fld (pv 1) rfl) (pv 5) (fun _ _ => rfl)))) pa_nil)))
  (pss_one (ps_dput hu (pe_fld (pv 0) rfl) pe_str (pe_tup (pa_cons (pv 2) (pa_cons (pe_tup (pa_cons (pv 4) (pa_cons (pe_call G_forward_arrows (hr.mono (by omega)) rfl T.d_forward_arrows.g T.d_forward_arrows.F.kp (b_forward_arrows T.d_forward_arrows.F) .nil pass0 (pa_cons (pv 0) (pa_cons (pv 4) pa_nil))) pa_nil))) pa_nil))) rfl))))) pss_nil)
  (pss_one (ps_ret (pe_dget hu (pe_fld (pv 0) rfl) pe_str (fun _ _ => rfl))))), ?_⟩
  obtain ⟨dx, ar, gl, o1, _⟩ := id M.ob
  refine ⟨_, rfl, p, C, dx, _, _, rfl, o1, km.cl, km.n4, mapF_left _ _ _ _, d, _, rfl, DGet.k (k := .inr "part") hd, _, rfl, ?_⟩
  refine iteT ?_
  -- search
  refine ⟨_, rfl, _, rfl, C, p, d, P', km, rfl, M, G, m9, fun t pl H1 cn nt k1 ht => ?_⟩
  intro x dx' nx ndx ne
  have pl9 : pl.length ≤ 9 := Nat.le_trans (cn.len G.pos) m9
  have k2 : Kp [] H1 (upd (upd H1 dx' (.own x)) x (.ins T.c_Search dx' [])) := (Kp.mk_new ndx).new (by rw [upd_ne ne.symm]; exact nx)
  have o2 : (upd (upd H1 dx' (.own x)) x (.ins T.c_Search dx' [])) x = some (.ins T.c_Search dx' []) := upd_same
  generalize upd (upd H1 dx' (.own x)) x (.ins T.c_Search dx' []) = H2 at k2 o2 ⊢
  have M2 := (M.keep k1 (by simp)).keep k2 (by simp)
  refine ⟨x, dx', p, d, t, C, P', pl, rfl, o2, km, M2, G, cn, ht.keep k2, pl9, fun kn H3 nkn k3 hS => ⟨rfl, ?_⟩⟩
  have k03 : Kp [] H H3 := ((k1.add k2).weak (S' := [x]) (fun _ m => nomatch m)).trans k3 (fun _ m => .inl m) |>.drop (k1.free nx)
  obtain ⟨dxs, pa, ml, s1, s2⟩ := hS.ins
  -- excess, order
  refine ⟨_, rfl, x, dxs, _, rfl, s1, ser_no no_greatest, x, kn, SD P' pl, rfl, hS, cn.pos, fun a r f os H4 k4 hS4 ha hr4 hos hlen top => ?_⟩
  obtain ⟨W, rfl, hW⟩ := top_max G cn top
  refine ⟨a, _, rfl, SqT.of ha, rfl, _, _, rfl, _, _, rfl, rfl, ?_⟩
  have nknH : H kn = none := (k1.add k2).free nkn
  have k04 : Kp [] H H4 := ((k03.weak (S' := [kn]) (fun _ m => nomatch m)).trans k4 (fun _ m => .inl m)).drop nknH
  obtain ⟨dxt, pat, mlt, s3, s4⟩ := hS4.ins
  -- places
  refine ⟨_, rfl, r, rfl, ⟨_, SqL.of hr4⟩, fun L nL => lc_list (K := K) (a := r) (xs := os.map vn) (fun j H' => Kp [] H4 H' ∧ H' L = some (.lst (((os.take j).map (plc pl)).map vn))) ⟨Kp.mk_new nL, upd_same⟩ (fun j H' _ ⟨k, _⟩ => SqL.of (k.get _ _ hr4 (by simp))) ?_ ?_⟩
  · rintro j y H5 hj ⟨k5, hL⟩
    obtain ⟨o, ho, rfl⟩ := map_at hj
    have hj' := (List.getElem?_eq_some_iff.mp ho).1
    have on := hos o (List.mem_of_getElem? ho)
    refine ⟨rfl, _, rfl, x, _, dxt, _, _, rfl, k5.get _ _ s3 (by simp), T.k_Search.cl, T.n_Search_places, serF_places _ _ _ _ _, _, rfl, pat, _, _, _, rfl, rfl, SqT.of (s4.keep k5), atI_nat (v := vn (plc pl o)) (by rw [List.getElem?_map]; exact congrArg (Option.map vn) (plc_at (pl := pl) on)), ?_⟩
    refine ⟨_, hL, szl (by simp; omega), k5.put hL trivial (.inr nL), ?_⟩
    rw [upd_same, take_more ho, List.map_append, List.map_append]; rfl
  rintro H5 ⟨k5, hL⟩
  rw [List.length_map, List.take_length] at hL
  refine ⟨L, _, rfl, .inl ⟨SqL.of hL, fun pt npt => ?_⟩⟩
  have k6 : Kp [] H5 (upd H5 pt (.tup ((os.map (plc pl)).map vn))) := Kp.mk_new npt
  have ht6 : TupN (upd H5 pt (.tup ((os.map (plc pl)).map vn))) pt (os.map (plc pl)) := upd_same
  generalize upd H5 pt (.tup ((os.map (plc pl)).map vn)) = H6 at k6 ht6 ⊢
  have k06 := (k04.add k5).add k6
  have M6 := M.keep k06 (by simp)
  -- kept
  refine ⟨_, rfl, _, rfl, _, rfl, _, rfl, C, p, d, pt, P', os.map (plc pl), km, rfl, M6, by have := G.len; omega, by simp; omega, ht6, fun fr H7 k7 => ⟨sz (by show 2 ≤ 100000; decide), fun it nit => ⟨sz (by show 2 ≤ 100000; decide), fun ot not_ => ?_⟩⟩⟩
  have k8 : Kp [] H7 (upd (upd H7 it (.tup [.ref pt, .ref fr])) ot (.tup [.int W, .ref it])) := (Kp.mk_new nit).new not_
  have h8 : (upd (upd H7 it (.tup [.ref pt, .ref fr])) ot (.tup [.int W, .ref it])) ot = some (.tup [.int W, .ref it]) := upd_same
  have eo : optV (some W) = .int W := rfl
  rw [eo]
  generalize upd (upd H7 it (.tup [.ref pt, .ref fr])) ot (.tup [.int W, .ref it]) = H8 at k8 h8 ⊢
  have k08 := (k06.add k7).add k8
  have hd8 := k08.get _ _ hd (by simp)
  have ndp : d ≠ p := fun z => by rw [z, o1] at hd; cases hd
  have ndo : ot ≠ d := fun z => by rw [z, hd8] at h8; cases h8
  refine ⟨_, rfl, p, C, dx, _, _, rfl, k08.get _ _ o1 (by simp), km.cl, km.n4, mapF_left _ _ _ _, d, _, rfl, DPut.k (k := .inr "part") hd8 (szl (by show 0 < 100000; decide)), ?_⟩
  have k9 : Kp [d] H8 (upd H8 d (.dK (putK [] (.inr "part") (.ref ot)))) := Kp.mk_put hd8 (by exact trivial)
  have h9 : (upd H8 d (.dK (putK [] (.inr "part") (.ref ot)))) d = some (.dK (putK [] (.inr "part") (.ref ot))) := upd_same
  have k09 := (k08.weak (S' := [d]) (fun _ m => nomatch m)).trans k9 (fun _ m => .inl m)
  generalize upd H8 d (.dK (putK [] (.inr "part") (.ref ot))) = H9 at k9 h9 k09 ⊢
  have g9 := DGet.k (k := .inr "part") h9
  rw [valV_put, if_pos rfl] at g9
  refine ⟨_, rfl, p, C, dx, _, _, rfl, k09.get _ _ o1 (by simp [ndp.symm]), km.cl, km.n4, mapF_left _ _ _ _, d, _, rfl, g9, ?_⟩
  exact q ot W _ H9 k09 (k9.tup _ _ h8) hW
def spWorst (K : PySem.W.Frag) : Sp := fun vs H Q _ => ∃ (C p d : Addr) (P : Pt), KM K C ∧ vs = [.ref p] ∧ MapAt C H p P d ∧ H d = some (.dK []) ∧ Good P ∧ P.many ≤ 9 ∧ ∀ (W : Int) H', Kp [d] H H' → MaxE P W → Q (.int W) H'
theorem ok_worst (T : Tx K mg)  : FnOk P w K mg base CX0 26 T.d_worst.f T.d_worst.fd ["chart"] (spWorst K) := by
  refine T.d_worst.F.ok sc_worst (fun vs H Q E h => ?_) (fun cdv A outer s H vs Q E hr h => ?_)
  · obtain ⟨C, p, d, P', _, rfl, _⟩ := h; rfl
  obtain ⟨C, p, d, P', km, rfl, M, hd, G, m9, q⟩ := h
  have G_greatest_of := ok_greatest_of (P := P) (w := w) (base := base) T
  refine ⟨_, (pss_one (ps_ret (pe_ix ix_tup (pe_call G_greatest_of (hr.mono (by omega)) rfl T.d_greatest_of.g T.d_greatest_of.F.kp (b_greatest_of T.d_greatest_of.F) .nil pass0 (pa_cons (pv 0) pa_nil)) pe_int (fun _ _ => rfl)))), ?_⟩
  exact ⟨_, rfl, C, p, d, P', km, rfl, M, hd, G, m9, fun a W y H1 k1 ha hW => ⟨a, _, 0, _, rfl, rfl, SqT.of ha, rfl, q W H1 k1 hW⟩⟩
def spGrLots (K : PySem.W.Frag) : Sp := fun vs H Q _ => ∃ (C p d : Addr) (P : Pt), KM K C ∧ vs = [.ref p] ∧ MapAt C H p P d ∧ Good P ∧ P.many ≤ 9 ∧ ∀ (r : Addr) (ys : List V) (W : Int) (bs : List (List Int)) H', Kp [] H H' → H' r = some (.lst ys) → TupsV H' ys (srt bs) → MaxE P W → LotsB P W bs → Q (.ref r) H'
theorem ok_gr_lots (T : Tx K mg)  : FnOk P w K mg base CX0 25 T.d_greatest_lots.f T.d_greatest_lots.fd ["chart"] (spGrLots K) := by
  refine T.d_greatest_lots.F.ok sc_greatest_lots (fun vs H Q E h => ?_) (fun cdv A outer s H vs Q E hr h => ?_)
  · obtain ⟨C, p, d, P', _, rfl, _⟩ := h; rfl
  obtain ⟨C, p, d, P', km, rfl, M, G, m9, q⟩ := h
  have G_check_counted := ok_check_counted (P := P) (w := w) (base := base) T
  have G_Search_init := ok_Search_init (P := P) (w := w) (base := base) T
  have G_Search_greatest := ok_greatest (P := P) (w := w) (base := base) T
  have G_Search_lots := ok_lots (P := P) (w := w) (base := base) T
  have G_lot_of := ok_lot_of (P := P) (w := w) (base := base) T
  refine ⟨_, (pss_cons (ps_set (i := 1) sc_greatest_lots.nd rfl (Or.inr rfl) (pe_make T.mk_Search G_Search_init (hr.mono (by omega)) rfl T.k_Search.g (b_Search_init T.m_Search_init.F) .nil pass0 (pa_cons (pv 0) (pa_cons (pe_call G_check_counted (hr.mono (by omega)) rfl T.d_check_counted.g T.d_check_counted.F.kp (b_check_counted T.d_check_counted.F) .nil pass0 (pa_cons (pv 0) pa_nil)) pa_nil))))
  (pss_cons (ps_set (i := 2) sc_greatest_lots.nd rfl (Or.inl rfl) (pe_lst pa_nil))
  (pss_cons (ps_for PassesOwn.never rfl (pi_list (pe_meth (pv 1) T.k_Search.cl T.Search_lots G_Search_lots (hr.mono (by omega)) (b_Search_lots T.m_Search_lots.F) .nil pass0 (pa_cons (pe_ix ix_tup (pe_meth0 (pv 1) T.k_Search.cl T.Search_greatest G_Search_greatest (hr.mono (by omega)) (b_Search_greatest T.m_Search_greatest.F) .nil pass0) pe_int (fun _ _ => rfl)) pa_nil))) (pg_name (i := 3) sc_greatest_lots.nd rfl (Or.inl rfl)) (pss_one (ps_expr (pe_bm PySem.F.plainAttrs_list PySem.F.slot_list_append PySem.F.type_list_append mt_append (pv 2) (pa_cons (pe_op op_catA (pe_tup (pa_cons pe_int pa_nil)) (pe_callTy call_tuple_of (by rfl) T.b_tuple (by decide +kernel) (pa_cons (pe_callB cr_sorted (by rfl) T.b_sorted (by decide +kernel) (pa_cons (pe_lc (own := [("number", 4)]) (g := (gName 4)) (te := (tOp (rIxT K) (tFld K _ "places") _)) (hs := by intro _; rfl) rfl sc_greatest_lots.nd (pi_tup (pe_call G_lot_of (hr.mono (by omega)) rfl T.d_lot_of.g T.d_lot_of.F.kp (b_lot_of T.d_lot_of.F) .nil pass0 (pa_cons (pv 3) pa_nil))) (blkOk_by (N := ["chart", "search", "found", "later", "number"]) (sc := defScope s_greatest_lots) (own := [("number", 4)]) (by decide +kernel)) (fun _ _ _ _ _ => (pg_name (i := 4) sc_greatest_lots.nd rfl (Or.inl rfl) (hf := by exact Or.inr rfl))) (fun _ _ _ _ _ => pts_nil) (fun _ _ _ _ _ => (pe_ix ix_tup (pe_fld (pv 1) rfl) (pv 4) (fun _ _ => rfl)))) pa_nil)) pa_nil))) pa_nil)))))
  (pss_one (ps_ret (pe_callB (cr_sortedTI hr.units) (by rfl) T.b_sorted (by decide +kernel) (pa_cons (pv 2) pa_nil))))))), ?_⟩
  -- search
  refine ⟨_, rfl, _, rfl, C, p, d, P', km, rfl, M, G, m9, fun t pl H1 cn nt k1 ht => ?_⟩
  intro x dx' nx ndx ne
  have pl9 : pl.length ≤ 9 := Nat.le_trans (cn.len G.pos) m9
  have k2 : Kp [] H1 (upd (upd H1 dx' (.own x)) x (.ins T.c_Search dx' [])) := (Kp.mk_new ndx).new (by rw [upd_ne ne.symm]; exact nx)
  have o2 : (upd (upd H1 dx' (.own x)) x (.ins T.c_Search dx' [])) x = some (.ins T.c_Search dx' []) := upd_same
  generalize upd (upd H1 dx' (.own x)) x (.ins T.c_Search dx' []) = H2 at k2 o2 ⊢
  have M2 := (M.keep k1 (by simp)).keep k2 (by simp)
  refine ⟨x, dx', p, d, t, C, P', pl, rfl, o2, km, M2, G, cn, ht.keep k2, pl9, fun kn H3 nkn k3 hS => ⟨rfl, ?_⟩⟩
  have k03 : Kp [] H H3 := ((k1.add k2).weak (S' := [x]) (fun _ m => nomatch m)).trans k3 (fun _ m => .inl m) |>.drop (k1.free nx)
  have nknH : H kn = none := (k1.add k2).free nkn
  -- found
  refine ⟨Nat.zero_le _, fun L nL => ?_⟩
  have k4 : Kp [] H3 (upd H3 L (.lst [])) := Kp.mk_new nL
  have hL : (upd H3 L (.lst [])) L = some (.lst []) := upd_same
  have nLH : H L = none := k03.free nL
  have hS4 := hS.keep k4
  have k04 := k03.add k4
  generalize upd H3 L (.lst []) = H4 at k4 hL hS4 k04 ⊢
  obtain ⟨dxs, pa, ml, s1, s2⟩ := hS4.ins
  refine ⟨_, rfl, x, dxs, _, rfl, s1, ser_no no_lots, _, rfl, x, dxs, _, rfl, s1, ser_no no_greatest, x, kn, SD P' pl, rfl, hS4, cn.pos, fun a r f os H5 k5 hS5 ha _ _ _ top => ?_⟩
  obtain ⟨W, rfl, hW⟩ := top_max G cn top
  have k05 : Kp [] H H5 := ((k04.weak (S' := [kn]) (fun _ m => nomatch m)).trans k5 (fun _ m => .inl m)).drop nknH
  obtain ⟨dxt, pat, mlt, s3, s4⟩ := hS5.ins
  obtain ⟨kvs, mk, _⟩ := hS4.me
  have nLk : L ∉ [kn] := fun z => by
    have z' : L = kn := by simpa using z
    rw [z', mk] at hL; cases hL
  have hL5 := k5.get _ _ hL nLk
  obtain ⟨kvs5, mk5, _⟩ := hS5.me
  refine ⟨a, _, 0, _, rfl, rfl, SqT.of ha, rfl, x, kn, SD P' pl, W, rfl, hS5, cn.pos, fun rl ls H6 k6 hS6 nrl hrl nd mem => ?_⟩
  have k06 : Kp [] H H6 := ((k05.weak (S' := [kn]) (fun _ m => nomatch m)).trans k6 (fun _ m => .inl m)).drop nknH
  have hL6 := k6.get _ _ hL5 nLk
  have nrL : rl ≠ L := fun z => by rw [z, hL5] at nrl; cases nrl
  obtain ⟨dxu, pau, mlu, s5, s6⟩ := hS6.ins
  have nLx : L ≠ x := fun z => by rw [z, s5] at hL6; cases hL6
  have lslen : ls.length ≤ 512 := nd_len nd fun l hl => by
    have := ((mem l).mp hl).2.1
    exact p9 pl9 this
  refine ⟨rl, rfl, ⟨_, SqL.of hrl⟩, for_list (K := K) (a := rl) (xs := ls.map vn) (fun j σ H' => Kp [L] H6 H' ∧ Kp [] H H' ∧ (∃ ys, H' L = some (.lst ys) ∧ TupsV H' ys ((ls.take j).map (lotB pl))) ∧ ∃ x3 x4 : Option V, σ = [some (.ref p), some (.ref x), some (.ref L), x3, x4])
    ⟨Kp.refl, k06, ⟨[], hL6, TupsV.nil⟩, _, _, rfl⟩ (fun j σ H' _ ⟨k, _⟩ => SqL.of (k.get _ _ hrl (by simp [nrL]))) ?_ ?_⟩
  · rintro j y σ H7 hj ⟨k7, k07, ⟨ys, hL7, hys⟩, x3, x4, rfl⟩
    obtain ⟨l, hl, rfl⟩ := map_at hj
    have hj' := (List.getElem?_eq_some_iff.mp hl).1
    obtain ⟨l2, lp, cnd⟩ := (mem l).mp (List.mem_of_getElem? hl)
    have s7 := k7.get _ _ s5 (by simp [nLx.symm])
    have s8 := s6.keep k7
    refine ⟨_, rfl, .inl ⟨rfl, _, SqL.of hL7⟩, ?_⟩
    refine ⟨sz (by show 1 ≤ 100000; decide), fun z nz => ?_⟩
    have k8 : Kp [] H7 (upd H7 z (.tup [.int 0])) := Kp.mk_new nz
    have hz : (upd H7 z (.tup [.int 0])) z = some (.tup [.int 0]) := upd_same
    generalize upd H7 z (.tup [.int 0]) = H8 at k8 hz ⊢
    refine ⟨_, rfl, l, rfl, p100 pl9 lp, fun tp H9 lt ib k9 ntp htp => ?_⟩
    have elt := ib.eq lp
    subst elt
    refine ⟨tp, rfl, ⟨_, SqT.of htp⟩, fun N nN => lc_tup (K := K) (a := tp) (xs := (bl pl.length l).map vn) (fun i H' => Kp [] H9 H' ∧ H' N = some (.lst ((((bl pl.length l).take i).map (plc pl)).map vn))) ⟨Kp.mk_new nN, upd_same⟩ (fun i H' _ ⟨k, _⟩ => SqT.of (k.tup _ _ htp)) ?_ ?_⟩
    · rintro i u H10 hi ⟨k10, hN⟩
      obtain ⟨o, ho, rfl⟩ := map_at hi
      have hi' := (List.getElem?_eq_some_iff.mp ho).1
      have on := (bl_mem.mp (List.mem_of_getElem? ho)).1
      have k810 := (k8.add k9).add k10
      have := bl_len pl.length l
      refine ⟨rfl, _, rfl, x, _, dxu, _, _, rfl, k810.get _ _ s7 (by simp), T.k_Search.cl, T.n_Search_places, serF_places _ _ _ _ _, _, rfl, pau, _, _, _, rfl, rfl, SqT.of (s8.keep k810), atI_nat (v := vn (plc pl o)) (by rw [List.getElem?_map]; exact congrArg (Option.map vn) (plc_at (pl := pl) on)), ?_⟩
      refine ⟨_, hN, szl (by simp; omega), k10.put hN trivial (.inr nN), ?_⟩
      rw [upd_same, take_more ho, List.map_append, List.map_append]; rfl
    rintro H10 ⟨k10, hN⟩
    rw [List.length_map, List.take_length] at hN
    have k810 := (k8.add k9).add k10
    have em : ((bl pl.length l).map (plc pl)).map vn = (((bl pl.length l).map (plc pl)).map fun (v : Nat) => (v : Int)).map V.int := by rw [List.map_map (g := V.int)]; rfl
    rw [em] at hN
    refine ⟨N, _, rfl, SqL.of hN, by have := bl_len pl.length l; simp; omega, fun ns' sp hperm hpw nsp => ?_⟩
    have ens : ns' = ((bl pl.length l).map (plc pl)).map fun (v : Nat) => (v : Int) := by
      refine List.Perm.eq_of_pairwise (le := fun a b => a ≤ b) (fun a b _ _ h1 h2 => by omega) hpw ?_ hperm
      rw [List.pairwise_map]
      exact (List.pairwise_cons.mp (lot_srt cn l l2)).2.imp fun h => by omega
    subst ens
    refine ⟨sp, _, rfl, .inl ⟨SqL.of upd_same, fun tt ntt => ?_⟩⟩
    have k11 : Kp [] H10 (upd (upd H10 sp (.lst ((((bl pl.length l).map (plc pl)).map fun (v : Nat) => (v : Int)).map V.int))) tt (.tup ((((bl pl.length l).map (plc pl)).map fun (v : Nat) => (v : Int)).map V.int))) := (Kp.mk_new nsp).new ntt
    have htt : (upd (upd H10 sp (.lst ((((bl pl.length l).map (plc pl)).map fun (v : Nat) => (v : Int)).map V.int))) tt (.tup ((((bl pl.length l).map (plc pl)).map fun (v : Nat) => (v : Int)).map V.int))) tt = some (.tup ((((bl pl.length l).map (plc pl)).map fun (v : Nat) => (v : Int)).map V.int)) := upd_same
    generalize upd (upd H10 sp (.lst ((((bl pl.length l).map (plc pl)).map fun (v : Nat) => (v : Int)).map V.int))) tt (.tup ((((bl pl.length l).map (plc pl)).map fun (v : Nat) => (v : Int)).map V.int)) = H11 at k11 htt ⊢
    have k811 := k810.add k11
    have hz11 := ((k9.add k10).add k11).tup _ _ hz
    have bln : bl pl.length l ≠ [] := by
      obtain ⟨y, y1, _⟩ := cnd.go
      exact List.ne_nil_of_mem y1
    refine ⟨z, tt, _, _, rfl, rfl, SqT.of hz11, SqT.of htt, sz (by have := bl_len pl.length l; simp; omega), fun e => (by simp at e), fun _ e => absurd e (by simp [bln]), fun _ _ ft nft => ?_⟩
    have k12 : Kp [] H11 (upd H11 ft (.tup ([.int 0] ++ (((bl pl.length l).map (plc pl)).map fun (v : Nat) => (v : Int)).map V.int))) := Kp.mk_new nft
    have hft : (upd H11 ft (.tup ([.int 0] ++ (((bl pl.length l).map (plc pl)).map fun (v : Nat) => (v : Int)).map V.int))) ft = some (.tup ((lotB pl l).map V.int)) := upd_same
    generalize upd H11 ft (.tup ([.int 0] ++ (((bl pl.length l).map (plc pl)).map fun (v : Nat) => (v : Int)).map V.int)) = H12 at k12 hft ⊢
    have k812 := k811.add k12
    have hL12 := k812.get _ _ hL7 (by simp)
    have yl : ys.length ≤ j := by rw [hys.1]; simp; omega
    refine ⟨L, _, _, rfl, rfl, hL12, szl (by omega), ?_⟩
    have kw : Kp [L] H7 (upd H12 L (.lst (ys ++ [.ref ft]))) := (k812.weak fun _ m => nomatch m).put hL12 (by exact trivial) (.inl (by simp))
    refine ⟨k7.trans kw fun _ m => .inl m, (k07.add k812).put hL12 (by exact trivial) (.inr nLH), ⟨_, upd_same, ?_⟩, _, _, rfl⟩
    rw [take_more hl, List.map_append]
    refine (hys.keep kw).snoc (b := lotB pl l) ?_
    have : ft ≠ L := fun e => by rw [e, hL12] at hft; cases hft
    rw [upd_ne this]; exact hft
  · rintro σ H7 ⟨k7, k07, ⟨ys, hL7, hys⟩, x3, x4, rfl⟩
    rw [List.length_map, List.take_length] at hys
    have LB := lots_b G cn hW nd mem
    refine ⟨_, rfl, L, ys, _, rfl, SqL.of hL7, hys, fun b hb => ?_, fun zs r' nr' hzs => ?_⟩
    · obtain ⟨l, _, rfl⟩ := List.mem_map.mp hb
      unfold lotB
      simp
    · exact q r' zs W _ _ (k07.new nr') upd_same (hzs.keep (Kp.mk_new nr')) hW LB
end
end K33
/-! K33L1: the law's hand, what is drawn, shuffled -/
namespace K33
open PySem PySem.Spec PyProof.Rows L2
theorem flowSeq {t u : TS} {D : Ends} {σ : L2.St} {H : Hp} (Pre : L2.St → Hp → Prop) (all : ∀ σ' H', Pre σ' H' → u D σ' H') (m : ∀ N : L2.St → Hp → Prop, (∀ σ' H', Pre σ' H' → N σ' H') → t { D with nx := N } σ H) : tSeq t u D σ H := m _ all
theorem fmod_in {i : Int} {n : Nat} (h : 0 < n) : 0 ≤ i.fmod n ∧ i.fmod n < n := ⟨Int.fmod_nonneg_of_pos i (by omega), Int.fmod_lt_of_pos i (by omega)⟩
theorem fmod_inI {i n : Int} (h : 0 < n) : 0 ≤ i.fmod n ∧ i.fmod n < n := ⟨Int.fmod_nonneg_of_pos i h, Int.fmod_lt_of_pos i h⟩
/-- the law's hand at h, its cells at ca -/
structure Hand (H : Hp) (h ca : Addr) (cells : List Int) : Prop where
  hd : ∃ i b s k : Int, H h = some (.lst [.ref ca, .int i, .int b, .int s, .int k]) ∧ 0 ≤ i
  ce : H ca = some (.lst (cells.map V.int))
  ne : ca ≠ h
theorem Hand.keep {H H1 : Hp} {h ca : Addr} {cells : List Int} {S : List Addr} (x : Hand H h ca cells) (k : Kp S H H1) (h1 : h ∉ S) (h2 : ca ∉ S) : Hand H1 h ca cells :=
  let ⟨i, b, s, z, e, p⟩ := x.hd
  ⟨⟨i, b, s, z, k.get _ _ e h1, p⟩, k.get _ _ x.ce h2, x.ne⟩
theorem Hand.new {H H1 : Hp} {h ca : Addr} {cells : List Int} (x : Hand H h ca cells) (k : Kp [] H H1) : Hand H1 h ca cells := x.keep k (by simp) (by simp)
/-- a list made later is stored into -/
theorem Hand.put {H H1 : Hp} {h ca L : Addr} {cells : List Int} {o : HO} (x : Hand H1 h ca cells) (x0 : Hand H h ca cells) (n : H L = none) : Hand (upd H1 L o) h ca cells := by
  obtain ⟨i, b, s, z, e, p⟩ := x.hd
  obtain ⟨_, _, _, _, e0, _⟩ := x0.hd
  exact ⟨⟨i, b, s, z, by rw [upd_ne (ne_of_none e0 n)]; exact e, p⟩, by rw [upd_ne (ne_of_none x0.ce n)]; exact x.ce, x.ne⟩
section
variable {P : Program} {w : World} {K : PySem.W.Frag} {mg : Str → Option Value} {base : Heap}
def spHand (K : PySem.W.Frag) : Sp := fun vs H Q _ => ∃ (a : Addr) (ns : List Int), vs = [.ref a] ∧ SqL K H a (ns.map V.int) ∧ ∀ h ca cells H', H h = none → Kp [] H H' → Hand H' h ca cells → Q (.ref h) H'
theorem ok_law_hand (T : Tx K mg)  : FnOk P w K mg base CX0 1 T.d_law_hand.f T.d_law_hand.fd ["_law_script"] (spHand K) := by
  refine T.d_law_hand.F.ok sc_law_hand (fun vs H Q E h => ?_) (fun cdv A outer s H vs Q E hr h => ?_)
  · obtain ⟨a, ns, rfl, _⟩ := h; rfl
  obtain ⟨a, ns, rfl, ha, q⟩ := h
  refine ⟨_, (pss_cons (ps_setLc (i := 1) (own := [("_law_cell", 2)]) (g := (gName 2)) (hs := by intro _; rfl) rfl sc_law_hand.nd rfl rfl (sw_true rfl rfl rfl (by decide +kernel)) (pi_list (pe_slice sl_list (pv 0) po_none (po_some pe_int))) (blkOk_by (N := ["_law_script", "_law_cells", "_law_cell"]) (sc := defScope s_law_hand) (own := [("_law_cell", 2)]) (by decide +kernel)) (fun _ _ _ _ _ => (pg_name (i := 2) sc_law_hand.nd rfl (Or.inl rfl) (hf := by exact Or.inr rfl))) (fun _ _ _ _ _ => pts_nil) (fun _ _ _ _ _ => (pe_callB call_abs (by rfl) T.b_abs (by decide +kernel) (pa_cons (pe_callTy call_int1 (by rfl) T.b_int (by decide +kernel) (pa_cons (pv 2) pa_nil)) pa_nil))))
  (pss_one (ps_ret (pe_lst (pa_cons (pv 1) (pa_cons pe_int (pa_cons pe_int (pa_cons (pe_op op_add pe_int (pe_callB call_len_seq (by rfl) T.b_len (by decide +kernel) (pa_cons (pv 1) pa_nil))) (pa_cons pe_int pa_nil))))))))), ?_⟩
  refine ⟨_, rfl, _, rfl, a, _, rfl, ha, fun sl nsl => ?_⟩
  have k1 : Kp [] H (upd H sl (.lst (cutV (ns.map V.int) none (some 63)))) := Kp.mk_new nsl
  have ec : cutV (ns.map V.int) none (some 63) = (ns.take 63).map V.int := by
    unfold cutV
    rw [show HT.sIx (ns.map V.int).length 0 none = 0 from rfl, show HT.sIx (ns.map V.int).length (ns.map V.int).length (some 63) = min 63 (ns.map V.int).length from HT.sIx_nat _ _ 63, List.drop_zero, Nat.sub_zero, List.length_map, List.map_take]
    by_cases z : 63 ≤ ns.length
    · rw [Nat.min_eq_left z]
    · rw [Nat.min_eq_right (by omega), List.take_of_length_le (by simp), List.take_of_length_le (by simp; omega)]
  have h1 : (upd H sl (.lst (cutV (ns.map V.int) none (some 63)))) sl = some (.lst ((ns.take 63).map V.int)) := by rw [upd_same, ec]
  generalize upd H sl (.lst (cutV (ns.map V.int) none (some 63))) = H1 at k1 h1 ⊢
  refine ⟨sl, rfl, ⟨_, SqL.of h1⟩, fun ca nca => lc_list (K := K) (a := sl) (xs := (ns.take 63).map V.int) (fun j H' => Kp [] H1 H' ∧ ∃ cs : List Int, H' ca = some (.lst (cs.map V.int)) ∧ cs.length ≤ j) ⟨Kp.mk_new nca, [], upd_same, Nat.le_refl _⟩ (fun j H' _ ⟨k, _⟩ => SqL.of (k.get _ _ h1 (by simp))) ?_ ?_⟩
  · rintro j x H2 hj ⟨k2, cs, hc, lc⟩
    have hj' := (List.getElem?_eq_some_iff.mp hj).1
    rw [List.getElem?_map] at hj
    obtain ⟨i, rfl⟩ : ∃ i : Int, x = .int i := by
      cases e : (ns.take 63)[j]? with
      | none => rw [e] at hj; cases hj
      | some i => rw [e] at hj; exact ⟨i, (Option.some.inj hj).symm⟩
    rw [List.length_map, List.length_take] at hj'
    refine ⟨rfl, _, rfl, .inl ⟨i, rfl, i, rfl, ?_⟩⟩
    refine ⟨_, hc, szl (by rw [List.length_map]; omega), k2.put hc trivial (.inr nca), cs ++ [if i < 0 then -i else i], ?_, by simp; omega⟩
    rw [upd_same, List.map_append]; rfl
  rintro H2 ⟨k2, cs, hc, lc⟩
  refine ⟨_, rfl, _, rfl, ca, _, rfl, .inl (SqL.of hc), _, _, rfl, rfl, sz (by show 5 ≤ 100000; decide), fun h nh => ?_⟩
  have k3 := (k1.add k2).new (o := .lst [.ref ca, .int 0, .int 0, .int (1 + ((cs.map V.int).length : Nat)), .int 0]) nh
  have nch : ca ≠ h := ne_of_none hc nh
  exact q h ca cs _ ((k1.add k2).free nh) k3 ⟨⟨_, _, _, _, upd_same, by decide⟩, by rw [upd_ne nch]; exact hc, nch⟩
def spDraw : Sp := fun vs H Q _ => ∃ (h ca : Addr) (cells : List Int) (n : Nat), vs = [.ref h, vn n] ∧ Hand H h ca cells ∧ 0 < n ∧ n ≤ 100000 ∧ ∀ (r : Nat) H', Kp [h] H H' → Hand H' h ca cells → r < n → Q (vn r) H'
theorem ok_law_draw (T : Tx K mg)  : FnOk P w K mg base CX0 1 T.d_law_draw.f T.d_law_draw.fd ["_law_hand_here", "_law_many"] (spDraw) := by
  refine T.d_law_draw.F.ok sc_law_draw (fun vs H Q E h => ?_) (fun cdv A outer s H vs Q E hr h => ?_)
  · obtain ⟨h, ca, cells, n, rfl, _⟩ := h; rfl
  obtain ⟨h, ca, cells, n, rfl, hh, n0, n1, q⟩ := h
  refine ⟨_, (pss_cons (ps_if (PW.pt (pw_and (pt_cmpR op_eq (pe_ix ix_list (pv 0) pe_int (fun _ _ => rfl)) pe_int (nomark _)) (pw_and1 (pt_cmpR op_lt (pe_ix ix_list (pv 0) pe_int (fun _ _ => rfl)) (pe_callB call_len_seq (by rfl) T.b_len (by decide +kernel) (pa_cons (pe_ix ix_list (pv 0) pe_int (fun _ _ => rfl)) pa_nil)) (nomark _))))) (pss_cons (ps_set (i := 2) sc_law_draw.nd rfl (Or.inl rfl) (pe_ix ix_list (pe_ix ix_list (pv 0) pe_int (fun _ _ => rfl)) (pe_ix ix_list (pv 0) pe_int (fun _ _ => rfl)) (fun _ _ => rfl)))
  (pss_cons (ps_asg (pe_op op_add (pe_ix ix_list (pv 0) pe_int (fun _ _ => rfl)) pe_int) (pg_sub (pv 0) pe_int set_list))
  (pss_cons (ps_asg (pe_op op_modN (pe_callTy call_int1 (by rfl) T.b_int (by decide +kernel) (pa_cons (pe_op op_add (pe_op op_add (pe_op op_mul (pe_ix ix_list (pv 0) pe_int (fun _ _ => rfl)) pe_int) (pv 2)) pe_int) pa_nil)) pe_int) (pg_sub (pv 0) pe_int set_list))
  (pss_one (ps_if (pt_cmpR op_ge (pv 2) (pe_op op_pow pe_int pe_int) (nomark _)) (pss_one (ps_asg (pv 2) (pg_sub (pv 0) pe_int set_list))) pss_nil))))) pss_nil)
  (pss_cons (ps_if (pt_cmpR op_gt (pe_ix ix_list (pv 0) pe_int (fun _ _ => rfl)) pe_int (nomark _)) (pss_cons (ps_set (i := 3) sc_law_draw.nd rfl (Or.inl rfl) (pe_op op_modN (pe_callTy call_int1 (by rfl) T.b_int (by decide +kernel) (pa_cons (pe_ix ix_list (pv 0) pe_int (fun _ _ => rfl)) pa_nil)) (pv 1)))
  (pss_cons (ps_asg (pe_op op_fdivN (pe_ix ix_list (pv 0) pe_int (fun _ _ => rfl)) (pv 1)) (pg_sub (pv 0) pe_int set_list))
  (pss_one (ps_ret (pv 3))))) pss_nil)
  (pss_cons (ps_asg (pe_op op_add (pe_ix ix_list (pv 0) pe_int (fun _ _ => rfl)) pe_int) (pg_sub (pv 0) pe_int set_list))
  (pss_cons (ps_set (i := 4) sc_law_draw.nd rfl (Or.inl rfl) (pe_op op_modN (pe_callTy call_int1 (by rfl) T.b_int (by decide +kernel) (pa_cons (pe_op op_mul (pe_callTy call_int1 (by rfl) T.b_int (by decide +kernel) (pa_cons (pe_op op_add (pe_ix ix_list (pv 0) pe_int (fun _ _ => rfl)) (pe_op op_mul pe_int (pe_ix ix_list (pv 0) pe_int (fun _ _ => rfl)))) pa_nil)) pe_int) pa_nil)) pe_int))
  (pss_cons (ps_set (i := 4) sc_law_draw.nd rfl (Or.inl rfl) (pe_op op_modN (pe_callTy call_int1 (by rfl) T.b_int (by decide +kernel) (pa_cons (pe_op op_mul (pv 4) (pe_op op_add (pe_op op_fdivN (pv 4) pe_int) pe_int)) pa_nil)) pe_int))
  (pss_cons (ps_set (i := 4) sc_law_draw.nd rfl (Or.inl rfl) (pe_op op_modN (pe_callTy call_int1 (by rfl) T.b_int (by decide +kernel) (pa_cons (pe_op op_mul (pv 4) (pe_op op_add (pe_op op_fdivN (pv 4) pe_int) pe_int)) pa_nil)) pe_int))
  (pss_one (ps_ret (pe_op op_modN (pe_callTy call_int1 (by rfl) T.b_int (by decide +kernel) (pa_cons (pe_op op_fdivN (pv 4) pe_int) pa_nil)) (pv 1)))))))))), ?_⟩
  have fin : ∀ (x : Int) H', Kp [h] H H' → Hand H' h ca cells → Q (.int (x.fmod n)) H' := fun x H' k hh' => by
    obtain ⟨b1, b2⟩ := fmod_in (i := x) n0
    have e : x.fmod n = (((x.fmod n).toNat : Nat) : Int) := by omega
    rw [e]
    exact q _ H' k hh' (by omega)
  refine flowSeq (fun σ' H' => Kp [h] H H' ∧ Hand H' h ca cells ∧ ∃ x2 : Option V, σ' = [some (.ref h), some (vn n), x2, none, none]) ?_ ?_
  · rintro σ' H1 ⟨k1, hh1, x2, rfl⟩
    refine flowSeq (fun σ' H' => Kp [h] H H' ∧ Hand H' h ca cells ∧ ∃ x2 : Option V, σ' = [some (.ref h), some (vn n), x2, none, none]) ?_ ?_
    · rintro σ' H1 ⟨k1, hh1, x2, rfl⟩
      obtain ⟨i, b, s', k, e1, i0⟩ := hh1.hd
      refine ⟨_, rfl, h, _, 4, _, rfl, rfl, SqL.of e1, rfl, _, _, rfl, rfl, _, rfl, h, _, _, 4, rfl, rfl, e1, rfl, ?_⟩
      have k2 := k1.put (o := .lst (([.ref ca, .int i, .int b, .int s', .int k] : List V).set 4 (.int (k + 1)))) e1 trivial (.inl (by simp))
      have h2 : Hand (upd H1 h (.lst (([.ref ca, .int i, .int b, .int s', .int k] : List V).set 4 (.int (k + 1))))) h ca cells := ⟨⟨i, b, s', k + 1, upd_same, i0⟩, by rw [upd_ne hh1.ne]; exact hh1.ce, hh1.ne⟩
      have e2 : (upd H1 h (.lst (([.ref ca, .int i, .int b, .int s', .int k] : List V).set 4 (.int (k + 1))))) h = some (.lst [.ref ca, .int i, .int b, .int s', .int (k + 1)]) := upd_same
      dsimp only
      generalize upd H1 h (.lst (([.ref ca, .int i, .int b, .int s', .int k] : List V).set 4 (.int (k + 1)))) = H2 at k2 h2 e2 ⊢
      refine ⟨_, rfl, h, _, 3, _, rfl, rfl, SqL.of e2, rfl, _, rfl, h, _, 4, _, rfl, rfl, SqL.of e2, rfl, _, _, rfl, rfl, .inl ⟨by decide, by decide⟩, _, _, rfl, rfl, .inl ⟨_, rfl, _, _, rfl, rfl, .inr ⟨by decide, by decide⟩, .inl ⟨_, rfl, _, _, rfl, rfl, (by intro z; exact absurd z (by decide)), ?_⟩⟩⟩
      obtain ⟨a1, a2⟩ := fmod_inI (i := ((s' + 7919 * (k + 1)) * 48271)) (n := 2147483647) (by decide)
      refine ⟨_, rfl, _, rfl, _, _, rfl, rfl, ⟨by decide, by decide⟩, _, _, rfl, rfl, _, _, rfl, rfl, .inl ⟨?_, ?_⟩, .inl ⟨_, rfl, _, _, rfl, rfl, (by intro z; exact absurd z (by decide)), ?_⟩⟩
      · omega
      · omega
      obtain ⟨b1, b2⟩ := fmod_inI (i := (((s' + 7919 * (k + 1)) * 48271).fmod 2147483647 * ((((s' + 7919 * (k + 1)) * 48271).fmod 2147483647).fdiv 1009 + 69621))) (n := 2147483647) (by decide)
      refine ⟨_, rfl, _, rfl, _, _, rfl, rfl, ⟨by decide, by decide⟩, _, _, rfl, rfl, _, _, rfl, rfl, .inl ⟨?_, ?_⟩, .inl ⟨_, rfl, _, _, rfl, rfl, (by intro z; exact absurd z (by decide)), ?_⟩⟩
      · omega
      · omega
      refine ⟨_, rfl, _, _, rfl, rfl, ⟨by decide, by decide⟩, .inl ⟨_, rfl, _, rfl, _, _, rfl, rfl, by show (n : Int) ≠ 0; omega, ?_⟩⟩
      exact fin _ H2 k2 h2
    · intro N hN
      obtain ⟨i, b, s', k, e1, i0⟩ := hh1.hd
      refine ⟨_, rfl, h, _, 2, _, rfl, rfl, SqL.of e1, rfl, _, _, rfl, rfl, _, rfl, ?_⟩
      refine ite_d (fun c => ?_) (fun c => hN _ H1 ⟨k1, hh1, x2, rfl⟩)
      refine ⟨_, rfl, h, _, 2, _, rfl, rfl, SqL.of e1, rfl, .inl ⟨_, rfl, _, rfl, _, _, rfl, rfl, by show (n : Int) ≠ 0; omega, ?_⟩⟩
      refine ⟨_, rfl, h, _, 2, _, rfl, rfl, SqL.of e1, rfl, _, rfl, _, _, rfl, rfl, ⟨by omega, by omega⟩, _, rfl, h, _, _, 2, rfl, rfl, e1, rfl, ?_⟩
      refine ⟨_, rfl, ?_⟩
      refine fin _ _ (k1.put e1 trivial (.inl (by simp))) ⟨⟨i, _, s', k, upd_same, i0⟩, by rw [upd_ne hh1.ne]; exact hh1.ce, hh1.ne⟩
  · intro N hN
    obtain ⟨i, b, s', k, e1, i0⟩ := hh.hd
    refine flowIf (fun t H' => H' = H ∧ (t = true → i < cells.length)) ?_ ?_
    · rintro t H' ⟨rfl, ht⟩
      refine ite_b (fun c => ?_) (fun c => hN _ H' ⟨Kp.refl, hh, none, rfl⟩)
      have il := ht c
      obtain ⟨j, rfl⟩ : ∃ j : Nat, i = j := ⟨i.toNat, by omega⟩
      have jl : j < cells.length := by omega
      have hat : atI (cells.map V.int) ((j : Nat) : Int) = some (.int cells[j]) := atI_nat (by rw [List.getElem?_map, List.getElem?_eq_getElem jl]; rfl)
      refine ⟨_, rfl, h, _, 0, _, rfl, rfl, SqL.of e1, rfl, _, rfl, h, _, 1, _, rfl, rfl, SqL.of e1, rfl, ca, _, _, _, rfl, rfl, SqL.of hh.ce, hat, ?_⟩
      refine ⟨_, rfl, h, _, 1, _, rfl, rfl, SqL.of e1, rfl, _, _, rfl, rfl, _, rfl, h, _, _, 1, rfl, rfl, e1, rfl, ?_⟩
      have k1 := (Kp.refl (S := [h]) (H := H')).put (o := .lst (([.ref ca, .int (j : Nat), .int b, .int s', .int k] : List V).set 1 (.int ((j : Nat) + 1)))) e1 trivial (.inl (by simp))
      have e2 : (upd H' h (.lst (([.ref ca, .int (j : Nat), .int b, .int s', .int k] : List V).set 1 (.int ((j : Nat) + 1))))) h = some (.lst [.ref ca, .int ((j : Nat) + 1), .int b, .int s', .int k]) := upd_same
      have c2 : (upd H' h (.lst (([.ref ca, .int (j : Nat), .int b, .int s', .int k] : List V).set 1 (.int ((j : Nat) + 1))))) ca = some (.lst (cells.map V.int)) := by rw [upd_ne hh.ne]; exact hh.ce
      dsimp only
      generalize upd H' h (.lst (([.ref ca, .int (j : Nat), .int b, .int s', .int k] : List V).set 1 (.int ((j : Nat) + 1)))) = H2 at k1 e2 c2 ⊢
      refine ⟨_, rfl, h, _, 3, _, rfl, rfl, SqL.of e2, rfl, _, _, rfl, rfl, .inr ⟨by decide, by decide⟩, _, rfl, _, _, rfl, rfl, _, _, rfl, rfl, .inl ⟨_, rfl, _, _, rfl, rfl, (by intro z; exact absurd z (by decide)), _, rfl, h, _, _, 3, rfl, rfl, e2, rfl, ?_⟩⟩
      dsimp only
      generalize hs3 : ((s' * 69621 + cells[j] + 11).fmod 2147483629) = s3
      have k3 := k1.put (o := .lst (([.ref ca, .int ((j : Nat) + 1), .int b, .int s', .int k] : List V).set 3 (.int s3))) e2 trivial (.inl (by simp))
      have e3 : (upd H2 h (.lst (([.ref ca, .int ((j : Nat) + 1), .int b, .int s', .int k] : List V).set 3 (.int s3)))) h = some (.lst [.ref ca, .int ((j : Nat) + 1), .int b, .int s3, .int k]) := upd_same
      have c3 : (upd H2 h (.lst (([.ref ca, .int ((j : Nat) + 1), .int b, .int s', .int k] : List V).set 3 (.int s3)))) ca = some (.lst (cells.map V.int)) := by rw [upd_ne hh.ne]; exact c2
      generalize upd H2 h (.lst (([.ref ca, .int ((j : Nat) + 1), .int b, .int s', .int k] : List V).set 3 (.int s3))) = H3 at k3 e3 c3 ⊢
      refine ⟨_, rfl, _, _, rfl, rfl, ⟨by decide, by decide, by decide⟩, _, _, rfl, rfl, _, rfl, ?_⟩
      refine ite_b (fun c4 => ?_) (fun c4 => ?_)
      · refine ⟨_, rfl, _, rfl, h, _, _, 2, rfl, rfl, e3, rfl, ?_⟩
        exact hN _ _ ⟨k3.put e3 trivial (.inl (by simp)), ⟨⟨_, _, _, _, upd_same, by omega⟩, by rw [upd_ne hh.ne]; exact c3, hh.ne⟩, _, rfl⟩
      · exact hN _ _ ⟨k3, ⟨⟨_, _, _, _, e3, by omega⟩, c3, hh.ne⟩, _, rfl⟩
    · intro Q' hQ
      refine ⟨_, rfl, h, _, 2, _, rfl, rfl, SqL.of e1, rfl, rfl, _, rfl, ?_⟩
      refine ite_d (fun c => ?_) (fun c => hQ false H ⟨rfl, fun z => (nomatch z)⟩)
      refine ⟨_, rfl, h, _, 1, _, rfl, rfl, SqL.of e1, rfl, _, rfl, h, _, 0, _, rfl, rfl, SqL.of e1, rfl, ca, _, rfl, .inl (SqL.of hh.ce), _, _, rfl, rfl, _, rfl, hQ _ H ⟨rfl, fun z => ?_⟩⟩
      have := of_decide_eq_true z
      rw [List.length_map] at this
      exact this
end
end K33
/-! K33L2: the law's lists shuffled, tails, renamed parts -/
namespace K33
open PySem PySem.Spec PyProof.Rows L2
/-! ### permuted values -/
def decN : V → Nat
  | .int i => i.toNat
  | _ => 0
theorem dec_perm {ys : List V} {l : List Nat} (h : ys.Perm (l.map vn)) : ∃ ns : List Nat, ns.Perm l ∧ ys = ns.map vn := by
  refine ⟨ys.map decN, ?_, ?_⟩
  · have := h.map decN
    rw [List.map_map] at this
    have e : (l.map (decN ∘ vn)) = l := by
      conv => rhs; rw [← List.map_id l]
      exact List.map_congr_left fun x _ => Int.toNat_natCast x
    rw [e] at this
    exact this
  · rw [List.map_map]
    conv => lhs; rw [← List.map_id ys]
    refine List.map_congr_left fun y hy => ?_
    obtain ⟨x, _, rfl⟩ := List.mem_map.mp (h.mem_iff.mp hy)
    show vn x = vn (decN (vn x))
    rw [show decN (vn x) = x from Int.toNat_natCast x]
def decP (H : Hp) : V → Nat × Nat
  | .ref a => match H a with
    | some (.tup [.int i, .int j]) => (i.toNat, j.toNat)
    | _ => (0, 0)
  | _ => (0, 0)
theorem decP_at {H : Hp} {a : Addr} {p : Nat × Nat} (h : H a = some (.tup [vn p.1, vn p.2])) : decP H (.ref a) = p := by
  obtain ⟨x, y⟩ := p
  simp only [decP, h, Int.toNat_natCast]
theorem pairs_map {H : Hp} {vs : List V} {ps : List (Nat × Nat)} (h : PairsV H vs ps) : ps = vs.map (decP H) := by
  apply List.ext_getElem?
  intro i
  rw [List.getElem?_map]
  cases e : ps[i]? with
  | none =>
    have := List.getElem?_eq_none_iff.mp e
    rw [List.getElem?_eq_none (by rw [h.1]; exact this)]; rfl
  | some p =>
    obtain ⟨a, h1, h2⟩ := h.2 i p e
    rw [h1, Option.map_some, decP_at h2]
theorem pairs_perm {H : Hp} {vs us : List V} {ps : List (Nat × Nat)} (h : PairsV H vs ps) (p : us.Perm vs) : ∃ qs, qs.Perm ps ∧ PairsV H us qs := by
  refine ⟨us.map (decP H), ?_, by simp, fun i q hq => ?_⟩
  · have := p.map (decP H)
    rw [← pairs_map h] at this
    exact this
  · rw [List.getElem?_map] at hq
    cases e : us[i]? with
    | none => rw [e] at hq; cases hq
    | some u =>
      rw [e] at hq
      have hm : u ∈ vs := p.mem_iff.mp (List.mem_of_getElem? e)
      obtain ⟨j, hj, ej⟩ := List.getElem_of_mem hm
      obtain ⟨q', a, _, rfl, h3⟩ := h.at_ (i := j) (x := u) (by rw [List.getElem?_eq_getElem hj, ej])
      have : decP H (.ref a) = q := Option.some.inj hq
      rw [decP_at h3] at this
      subst this
      exact ⟨a, rfl, h3⟩
theorem asc_of {l : List Nat} (nd : l.Nodup) {ns : List Int} (hp : ns.Perm (l.map fun (v : Nat) => (v : Int))) (hs : ns.Pairwise (· ≤ ·)) : ∃ gs : List Nat, ns = gs.map (fun (v : Nat) => (v : Int)) ∧ gs.Perm l ∧ gs.Pairwise (· < ·) := by
  have e : ns = (ns.map Int.toNat).map (fun (v : Nat) => (v : Int)) := by
    rw [List.map_map]
    conv => lhs; rw [← List.map_id ns]
    refine List.map_congr_left fun y hy => ?_
    obtain ⟨x, _, rfl⟩ := List.mem_map.mp (hp.mem_iff.mp hy)
    show (x : Int) = ((x : Int).toNat : Int)
    rw [Int.toNat_natCast]
  have p2 : (ns.map Int.toNat).Perm l := by
    have := hp.map Int.toNat
    rw [List.map_map] at this
    have e : (l.map (Int.toNat ∘ fun (v : Nat) => (v : Int))) = l := by
      conv => rhs; rw [← List.map_id l]
      exact List.map_congr_left fun x _ => Int.toNat_natCast x
    rw [e] at this
    exact this
  refine ⟨_, e, p2, ?_⟩
  have nd2 := p2.nodup_iff.mpr nd
  rw [e, List.pairwise_map] at hs
  exact (hs.and nd2).imp fun ⟨h1, h2⟩ => by omega
theorem erase_perm {α : Type} : ∀ {l : List α} {i : Nat} (h : i < l.length), (l[i] :: l.eraseIdx i).Perm l
  | x :: l, 0, _ => List.Perm.refl _
  | x :: l, i + 1, h => by
    have ih := erase_perm (l := l) (i := i) (by simpa using h)
    exact (List.Perm.swap _ _ _).trans (ih.cons x)
section
variable {P : Program} {w : World} {K : PySem.W.Frag} {mg : Str → Option Value} {base : Heap}
def spShuf (K : PySem.W.Frag) : Sp := fun vs H Q _ => ∃ (h ca : Addr) (cells : List Int) (a : Addr) (xs : List V), vs = [.ref h, .ref a] ∧ Hand H h ca cells ∧ SqL K H a xs ∧ xs.length ≤ 1000 ∧
  ∀ (r : Addr) (ys : List V) H', H r = none → Kp [h] H H' → Hand H' h ca cells → H' r = some (.lst ys) → ys.Perm xs → Q (.ref r) H'
theorem ok_shuffled (T : Tx K mg)  : FnOk P w K mg base CX0 2 T.d_law_shuffled.f T.d_law_shuffled.fd ["_law_hand_here", "_law_things"] (spShuf K) := by
  refine T.d_law_shuffled.F.ok sc_law_shuffled (fun vs H Q E h => ?_) (fun cdv A outer s H vs Q E hr h => ?_)
  · obtain ⟨h, ca, cells, a, xs, rfl, _⟩ := h; rfl
  obtain ⟨h, ca, cells, a, xs, rfl, hh, ha, len, q⟩ := h
  have G_law_draw := ok_law_draw (P := P) (w := w) (base := base) T
  refine ⟨_, (pss_cons (ps_set (i := 2) sc_law_shuffled.nd rfl (Or.inl rfl) (pe_callTy call_list_of (by rfl) T.b_list (by decide +kernel) (pa_cons (pv 1) pa_nil)))
  (pss_cons (ps_set (i := 3) sc_law_shuffled.nd rfl (Or.inl rfl) (pe_lst pa_nil))
  (pss_cons (ps_while PassesOwn.never (pt_cmpR op_gt (pe_callB call_len_seq (by rfl) T.b_len (by decide +kernel) (pa_cons (pv 2) pa_nil)) pe_int (nomark _)) (pss_one (ps_expr (pe_bm PySem.F.plainAttrs_list PySem.F.slot_list_append PySem.F.type_list_append mt_append (pv 3) (pa_cons (pe_bm PySem.F.plainAttrs_list PySem.F.slot_list_pop PySem.F.type_list_pop mt_popAt (pv 2) (pa_cons (pe_call G_law_draw (hr.mono (by omega)) rfl T.d_law_draw.g T.d_law_draw.F.kp (b_law_draw T.d_law_draw.F) .nil pass0 (pa_cons (pv 0) (pa_cons (pe_callB call_len_seq (by rfl) T.b_len (by decide +kernel) (pa_cons (pv 2) pa_nil)) pa_nil))) pa_nil)) pa_nil)))))
  (pss_one (ps_ret (pv 3)))))), ?_⟩
  refine ⟨_, rfl, a, _, rfl, .inl ha, fun L nL => ?_⟩
  have k1 : Kp [] H (upd H L (.lst xs)) := Kp.mk_new nL
  have hL : (upd H L (.lst xs)) L = some (.lst xs) := upd_same
  generalize upd H L (.lst xs) = H1 at k1 hL ⊢
  refine ⟨Nat.zero_le _, fun F nF => ?_⟩
  have nLF : L ≠ F := ne_of_none hL nF
  have k2 := k1.new (o := .lst []) nF
  have hF : (upd H1 F (.lst [])) F = some (.lst []) := upd_same
  have hL2 : (upd H1 F (.lst [])) L = some (.lst xs) := by rw [upd_ne nLF]; exact hL
  have nFH := k1.free nF
  generalize upd H1 F (.lst []) = H2 at k2 hF hL2 ⊢
  refine ⟨fun n σ H' => Kp [h] H H' ∧ Hand H' h ca cells ∧ ∃ us fs : List V, n = us.length ∧ H' L = some (.lst us) ∧ H' F = some (.lst fs) ∧ (fs ++ us).Perm xs ∧ σ = [some (.ref h), some (.ref a), some (.ref L), some (.ref F)],
    ⟨_, k2.weak fun _ m => (nomatch m), hh.new k2, xs, [], rfl, hL2, hF, List.Perm.refl _, rfl⟩, ?_⟩
  rintro n σ H3 ⟨k3, hh3, us, fs, rfl, hL3, hF3, hp, rfl⟩
  have nLh : L ∉ [h] := fun z => by
    obtain ⟨_, _, _, _, e0, _⟩ := hh.hd
    rw [← show L = h by simpa using z, nL] at e0; cases e0
  have nFh : F ∉ [h] := fun z => by
    obtain ⟨_, _, _, _, e0, _⟩ := hh.hd
    rw [← show F = h by simpa using z, nFH] at e0; cases e0
  have plen : fs.length + us.length = xs.length := by have := hp.length_eq; rw [List.length_append] at this; exact this
  refine ⟨_, rfl, L, _, rfl, .inl (SqL.of hL3), _, _, rfl, rfl, _, rfl, ?_⟩
  refine ite_d (fun hpos => ⟨fun σ' H' => ∃ m', m' < us.length ∧ (Kp [h] H H' ∧ Hand H' h ca cells ∧ ∃ us fs : List V, m' = us.length ∧ H' L = some (.lst us) ∧ H' F = some (.lst fs) ∧ (fs ++ us).Perm xs ∧ σ' = [some (.ref h), some (.ref a), some (.ref L), some (.ref F)]), fun _ _ h => h, ?_⟩) (fun hz => ?_)
  · have upos : 0 < us.length := by omega
    refine ⟨_, rfl, .inl ⟨rfl, _, SqL.of hF3⟩, _, rfl, .inl ⟨rfl, _, SqL.of hL3⟩, _, rfl, _, rfl, L, _, rfl, .inl (SqL.of hL3), h, ca, cells, us.length, rfl, hh3, upos, by omega, fun r H4 k4 hh4 hr4 => ?_⟩
    have hL4 := k4.get _ _ hL3 nLh
    have hF4 := k4.get _ _ hF3 nFh
    refine ⟨L, us, _, r, us[r], rfl, rfl, hL4, by omega, by omega, (ixN_seq (ixN_n hr4)).1, List.getElem?_eq_getElem hr4, ?_⟩
    have k5 := (k3.trans k4 fun _ m => .inl m).put (o := .lst (us.eraseIdx r)) hL4 trivial (.inr nL)
    have hh5 := hh4.put (o := .lst (us.eraseIdx r)) hh nL
    have hF5 : (upd H4 L (.lst (us.eraseIdx r))) F = some (.lst fs) := by rw [upd_ne nLF.symm]; exact hF4
    refine ⟨F, fs, us[r], rfl, rfl, hF5, szl (by omega), ?_⟩
    refine ⟨us.length - 1, by omega, k5.put hF5 (by exact trivial) (.inr nFH), hh5.put hh nFH, us.eraseIdx r, fs ++ [us[r]], by rw [List.length_eraseIdx_of_lt hr4], by rw [upd_ne nLF]; exact upd_same, upd_same, ?_, rfl⟩
    refine List.Perm.trans ?_ hp
    rw [List.append_assoc]
    exact (erase_perm hr4).append_left fs
  · have u0 : us = [] := List.eq_nil_of_length_eq_zero (by omega)
    subst u0
    rw [List.append_nil] at hp
    exact ⟨_, rfl, q F fs H3 nFH k3 hh3 hF3 hp⟩
theorem flat_all {ns : List Nat} : (ns.map vn).all flatV = true := by
  rw [List.all_eq_true]
  intro x hx
  obtain ⟨n, _, rfl⟩ := List.mem_map.mp hx
  rfl
theorem inV_nat {v : Nat} {ns : List Nat} : inV (vn v) (ns.map vn) = decide (v ∈ ns) := by
  unfold inV
  rw [List.any_map, Bool.eq_iff_iff, List.any_eq_true, decide_eq_true_eq]
  constructor
  · rintro ⟨x, hx, e⟩
    have : (x : Int) = v := by simpa [eqV] using e
    have : x = v := by omega
    exact this ▸ hx
  · intro h
    exact ⟨v, h, by simp [eqV]⟩
def spTail (K : PySem.W.Frag) : Sp := fun vs H Q _ => ∃ (h ca : Addr) (cells : List Int) (pa ga : Addr) (ps : List (Nat × Nat)) (gs : List Nat) (v : Nat), vs = [.ref h, .ref pa, .ref ga, vn v] ∧ Hand H h ca cells ∧ LstP H pa ps ∧ H ga = some (.lst (gs.map vn)) ∧ pa ≠ h ∧ ga ≠ h ∧ 0 ∉ gs ∧ ps.length ≤ 1000 ∧
  ∀ (r : Nat) H', Kp [h] H H' → Hand H' h ca cells → (r = 0 ∨ ∃ p, p ∈ ps ∧ p.2 = r) → Q (vn r) H'
theorem ok_tail (T : Tx K mg)  : FnOk P w K mg base CX0 2 T.d_law_tail.f T.d_law_tail.fd ["_law_hand_here", "_law_pairs", "_law_goals", "_law_place"] (spTail K) := by
  refine T.d_law_tail.F.ok sc_law_tail (fun vs H Q E h => ?_) (fun cdv A outer s H vs Q E hr h => ?_)
  · obtain ⟨h, ca, cells, pa, ga, ps, gs, v, rfl, _⟩ := h; rfl
  obtain ⟨h, ca, cells, pa, ga, ps, gs, v, rfl, hh, ⟨vs, a1, a2⟩, hg, npa, nga, g0, len, q⟩ := h
  have G_law_draw := ok_law_draw (P := P) (w := w) (base := base) T
  refine ⟨_, (pss_cons (ps_set (i := 4) sc_law_tail.nd rfl (Or.inl rfl) (pe_op op_cat (pe_lst (pa_cons pe_int pa_nil)) (pe_lc (own := [("_law_tail_here", 5), ("_law_head", 6)]) (g := (gTup K 2 (gCons (gName 5) (gCons (gName 6) gNil)))) (hs := by intro _; rfl) rfl sc_law_tail.nd (pi_list (pv 1)) (blkOk_by (N := ["_law_hand_here", "_law_pairs", "_law_goals", "_law_place", "_law_there", "_law_tail_here", "_law_head", "_law_one"]) (sc := defScope s_law_tail) (own := [("_law_tail_here", 5), ("_law_head", 6)]) (by decide +kernel)) (fun _ _ _ _ _ => (pg_tup rfl (pgs_cons (pg_name (i := 5) sc_law_tail.nd rfl (Or.inl rfl) (hf := by exact Or.inr rfl)) (pgs_cons (pg_name (i := 6) sc_law_tail.nd rfl (Or.inl rfl) (hf := by exact Or.inr rfl)) pgs_nil)))) (fun _ _ _ _ _ => pts_nil) (fun _ _ _ _ _ => (pv 6)))))
  (pss_cons (ps_if (pt_cmpR op_gt (pe_call G_law_draw (hr.mono (by omega)) rfl T.d_law_draw.g T.d_law_draw.F.kp (b_law_draw T.d_law_draw.F) .nil pass0 (pa_cons (pv 0) (pa_cons pe_int pa_nil))) pe_int (nomark _)) (pss_one (ps_setLc (i := 4) (own := [("_law_one", 7)]) (g := (gName 7)) (tt := (tTest (tOp (rIn K true) _ _))) (hs := by intro _; rfl) rfl sc_law_tail.nd rfl rfl (sw_true rfl rfl rfl (by decide +kernel)) (pi_list (pv 4)) (blkOk_by (N := ["_law_hand_here", "_law_pairs", "_law_goals", "_law_place", "_law_there", "_law_tail_here", "_law_head", "_law_one"]) (sc := defScope s_law_tail) (own := [("_law_one", 7)]) (by decide +kernel)) (fun _ _ _ _ _ => (pg_name (i := 7) sc_law_tail.nd rfl (Or.inl rfl) (hf := by exact Or.inr rfl))) (fun _ _ _ _ _ => (by exact (pts_one (pt_cmpR op_notIn_seq (pv 7) (pv 2) (by rfl))))) (fun _ _ _ _ _ => (pv 7)))) pss_nil)
  (pss_one (ps_ret (pe_ix ix_list (pv 4) (pe_call G_law_draw (hr.mono (by omega)) rfl T.d_law_draw.g T.d_law_draw.F.kp (b_law_draw T.d_law_draw.F) .nil pass0 (pa_cons (pv 0) (pa_cons (pe_callB call_len_seq (by rfl) T.b_len (by decide +kernel) (pa_cons (pv 4) pa_nil)) pa_nil))) (fun _ _ => rfl)))))), ?_⟩
  refine ⟨sz (by show 1 ≤ 100000; decide), fun z nz => ?_⟩
  have k1 : Kp [] H (upd H z (.lst [.int 0])) := Kp.mk_new nz
  have hz : (upd H z (.lst [.int 0])) z = some (.lst [.int 0]) := upd_same
  generalize upd H z (.lst [.int 0]) = H1 at k1 hz ⊢
  refine ⟨_, rfl, pa, rfl, ⟨_, SqL.of (k1.get _ _ a1 (by simp))⟩, fun L nL => lc_list (K := K) (a := pa) (xs := vs) (fun j H' => Kp [] H1 H' ∧ H' L = some (.lst (((ps.take j).map (·.2)).map vn))) ⟨Kp.mk_new nL, upd_same⟩ (fun j H' _ ⟨k, _⟩ => SqL.of ((k1.add k).get _ _ a1 (by simp))) ?_ ?_⟩
  · rintro j x H2 hj ⟨k2, hL⟩
    obtain ⟨p, pb, hp, rfl, hpb⟩ := a2.at_ hj
    have hj' := (List.getElem?_eq_some_iff.mp hp).1
    refine ⟨pb, _, rfl, SqT.of ((k1.add k2).tup _ _ hpb), rfl, _, _, rfl, _, _, rfl, rfl, rfl, ?_⟩
    refine ⟨_, rfl, _, hL, szl (by simp; omega), k2.put hL trivial (.inr nL), ?_⟩
    rw [upd_same, take_more hp, List.map_append, List.map_append]; rfl
  rintro H2 ⟨k2, hL⟩
  have el : ps.take vs.length = ps := List.take_of_length_le (by rw [a2.1]; exact Nat.le_refl _)
  rw [el] at hL
  refine ⟨z, L, _, _, rfl, rfl, k2.get _ _ hz (by simp), hL, sz (by simp; omega), fun t nt => ?_⟩
  have k3 := (k1.add k2).new (o := .lst ([.int 0] ++ (ps.map (·.2)).map vn)) nt
  have ht : (upd H2 t (.lst ([.int 0] ++ (ps.map (·.2)).map vn))) t = some (.lst ((0 :: ps.map (·.2)).map vn)) := upd_same
  have ntH := (k1.add k2).free nt
  generalize upd H2 t (.lst ([.int 0] ++ (ps.map (·.2)).map vn)) = H3 at k3 ht ⊢
  have hh3 := hh.new k3
  have nth : t ≠ h := fun z => by
    obtain ⟨_, _, _, _, e0, _⟩ := hh.hd
    rw [← z, ntH] at e0; cases e0
  dsimp only [gName]
  refine flowSeq (fun σ' H' => Kp [h] H H' ∧ Hand H' h ca cells ∧ ∃ (t' : Addr) (ls : List Nat) (x5 x6 x7 : Option V), t' ≠ h ∧ H' t' = some (.lst (ls.map vn)) ∧ ls ≠ [] ∧ ls.length ≤ 1001 ∧ (∀ r, r ∈ ls → r = 0 ∨ ∃ p, p ∈ ps ∧ p.2 = r) ∧ σ' = [some (.ref h), some (.ref pa), some (.ref ga), some (vn v), some (.ref t'), x5, x6, x7]) ?_ ?_
  · rintro σ' H4 ⟨k4, hh4, t', ls, x5, x6, x7, nt', ht', lne, llen, lm, rfl⟩
    have lpos : 0 < ls.length := List.length_pos_iff.mpr lne
    refine ⟨_, rfl, _, rfl, _, rfl, t', _, rfl, .inl (SqL.of ht'), h, ca, cells, ls.length, by rw [List.length_map]; rfl, hh4, lpos, by omega, fun r H5 k5 hh5 hr5 => ?_⟩
    refine ⟨t', _, _, _, rfl, rfl, SqL.of (k5.get _ _ ht' (by simp [nt'])), atI_nat (v := vn ls[r]) (by rw [List.getElem?_map, List.getElem?_eq_getElem hr5]; rfl), ?_⟩
    exact q _ H5 (k4.trans k5 fun _ m => .inl m) hh5 (lm _ (List.getElem_mem hr5))
  · intro N hN
    have all0 : ∀ r, r ∈ (0 :: ps.map (·.2)) → r = 0 ∨ ∃ p, p ∈ ps ∧ p.2 = r := fun r hr => (List.mem_cons.mp hr).imp (fun z => z) fun z => let ⟨p, h1, h2⟩ := List.mem_map.mp z; ⟨p, h1, h2⟩
    refine ⟨_, rfl, h, ca, cells, 4, rfl, hh3, by decide, by decide, fun r H4 k4 hh4 hr4 => ⟨_, _, rfl, rfl, _, rfl, ?_⟩⟩
    have k04 : Kp [h] H H4 := (k3.weak fun _ m => nomatch m).trans k4 fun _ m => .inl m
    have ht4 := k4.get _ _ ht (by simp [nth])
    refine ite_b (fun c => ?_) (fun c => ?_)
    · have hg4 := k04.get _ _ hg (by simp [nga])
      refine ⟨_, rfl, t, rfl, ⟨_, SqL.of ht4⟩, fun M nM => lc_list (K := K) (a := t) (xs := (0 :: ps.map (·.2)).map vn) (fun j H' => Kp [] H4 H' ∧ H' M = some (.lst ((((0 :: ps.map (·.2)).take j).filter fun x => !decide (x ∈ gs)).map vn))) ⟨Kp.mk_new nM, upd_same⟩ (fun j H' _ ⟨k, _⟩ => SqL.of (k.get _ _ ht4 (by simp))) ?_ ?_⟩
      · rintro j x H5 hj ⟨k5, hM⟩
        obtain ⟨y, hy, rfl⟩ := map_at hj
        have hj' := (List.getElem?_eq_some_iff.mp hy).1
        refine ⟨rfl, _, rfl, _, rfl, ga, _, rfl, .inl (SqL.of (k5.get _ _ hg4 (by simp))), rfl, flat_all, _, rfl, ?_⟩
        rw [if_pos rfl, inV_nat, take_more hy, List.filter_append]
        refine ite_b (fun c2 => ?_) (fun c2 => ?_)
        · refine ⟨_, rfl, _, hM, szl ?_, k5.put hM trivial (.inr nM), ?_⟩
          · rw [List.length_map]
            have := List.length_filter_le (fun x => !decide (x ∈ gs)) ((0 :: ps.map (·.2)).take j)
            simp only [List.length_take, List.length_cons, List.length_map] at this hj'
            omega
          · rw [upd_same, List.filter_cons, if_pos c2, List.map_append]; rfl
        · refine ⟨k5, ?_⟩
          rw [List.filter_cons, if_neg (by rw [c2]; decide), List.filter_nil, List.append_nil]
          exact hM
      · rintro H5 ⟨k5, hM⟩
        rw [List.length_map, List.take_length] at hM
        have nMh : M ≠ h := fun z => by
          obtain ⟨_, _, _, _, e0, _⟩ := hh4.hd
          rw [← z, nM] at e0; cases e0
        refine hN _ H5 ⟨k04.add k5, hh4.new k5, M, _, _, _, _, nMh, hM, ?_, ?_, fun r hr => all0 r (List.mem_filter.mp hr).1, rfl⟩
        · exact List.ne_nil_of_mem (List.mem_filter.mpr ⟨List.mem_cons_self, by simp [g0]⟩)
        · have := List.length_filter_le (fun x => !decide (x ∈ gs)) (0 :: ps.map (·.2))
          simp only [List.length_cons, List.length_map] at this
          omega
    · exact hN _ H4 ⟨k04, hh4, t, _, _, _, _, nth, ht4, by simp, by simp; omega, all0, rfl⟩
end
end K33
/-! K33L3: the law's parts -/
namespace K33
open PySem PySem.Spec PyProof.Rows L2
/-! ### renamed -/
structure Ren (m : Nat) (f : Nat → Nat) : Prop where
  lt : ∀ v, v < m → f v < m
  inj : ∀ u v, u < m → v < m → f u = f v → u = v
  z : f 0 = 0
theorem rch_ren {m : Nat} {f : Nat → Nat} (R : Ren m f) {ps : List (Nat × Nat)} {v : Nat} (h : Rch ps (· < m) (· = 0) v) : Rch (ps.map fun a => (f a.1, f a.2)) (· < m) (· = 0) (f v) := by
  induction h with
  | base v hv =>
    refine .base _ ?_
    show f v = 0
    rw [show v = 0 from hv, R.z]
  | step t v _ e o ih => exact .step (f t) (f v) ih (List.mem_map.mpr ⟨(t, v), e, rfl⟩) (R.lt v o)
theorem good_ren {m : Nat} {ps : List (Nat × Nat)} {gs gs' : List Nat} {f : Nat → Nat} (R : Ren m f) (G : Good ⟨m, ps, gs⟩) (hp : gs'.Perm (gs.map f)) (hs : gs'.Pairwise (· < ·)) : Good ⟨m, ps.map (fun a => (f a.1, f a.2)), gs'⟩ := by
  have mem : ∀ v, v ∈ gs' → ∃ g, g ∈ gs ∧ f g = v := fun v hv => List.mem_map.mp (hp.mem_iff.mp hv)
  have glt : ∀ g, g ∈ gs → g < m := G.lot.2
  refine ⟨G.m2, G.m40, by show (ps.map _).length ≤ 60; rw [List.length_map]; exact G.len, fun a ha => ?_, ⟨hs, fun v hv => ?_⟩, fun e => ?_, fun h0 => ?_, fun v hv => ?_⟩
  · obtain ⟨b, hb, rfl⟩ := List.mem_map.mp ha
    obtain ⟨h1, h2, h3⟩ := G.arr b hb
    exact ⟨R.lt _ h1, R.lt _ h2, fun e => h3 (R.inj _ _ h1 h2 e)⟩
  · obtain ⟨g, hg, rfl⟩ := mem v hv
    exact R.lt _ (glt g hg)
  · have := hp.length_eq
    rw [show gs' = [] from e, List.length_map] at this
    exact G.ne (List.eq_nil_of_length_eq_zero this.symm)
  · obtain ⟨g, hg, e⟩ := mem 0 h0
    have : g = 0 := R.inj _ _ (glt g hg) (by have := G.m2; have h2 : (⟨m, ps, gs⟩ : Pt).many = m := rfl; omega) (by rw [e, R.z])
    exact G.no0 (this ▸ hg)
  · obtain ⟨g, hg, rfl⟩ := mem v hv
    exact rch_ren R (G.rch g hg)
theorem ren_of {m : Nat} {ns : List Nat} (m0 : 0 < m) (hp : ns.Perm ((List.range (m - 1)).map (1 + ·))) : Ren m (plc (0 :: ns)) ∧ (0 :: ns).length = m := by
  have nd0 : ((List.range (m - 1)).map (1 + ·)).Nodup := map_nd List.nodup_range fun x y _ _ e => by omega
  have nd : (0 :: ns).Nodup := by
    rw [List.nodup_cons]
    refine ⟨fun h => ?_, hp.nodup_iff.mpr nd0⟩
    obtain ⟨x, _, e⟩ := List.mem_map.mp (hp.mem_iff.mp h)
    omega
  have len : (0 :: ns).length = m := by
    have := hp.length_eq
    rw [List.length_map, List.length_range] at this
    rw [List.length_cons]; omega
  have lt : ∀ x, x ∈ (0 :: ns) → x < m := fun x hx => by
    rcases List.mem_cons.mp hx with e | h
    · omega
    · obtain ⟨y, hy, e⟩ := List.mem_map.mp (hp.mem_iff.mp h)
      have := List.mem_range.mp hy
      omega
  refine ⟨⟨fun v hv => lt _ (plc_mem (by omega)), fun u v hu hv e => ?_, rfl⟩, len⟩
  rw [← idx_plc nd (show u < (0 :: ns).length by omega), e, idx_plc nd (by omega)]
section
variable {P : Program} {w : World} {K : PySem.W.Frag} {mg : Str → Option Value} {base : Heap}
def spRenamed (K : PySem.W.Frag) : Sp := fun vs H Q _ => ∃ (h ca : Addr) (cells : List Int) (pa ga : Addr) (P : Pt), vs = [.ref h, vn P.many, .ref pa, .ref ga] ∧ Hand H h ca cells ∧ LstP H pa P.arrows ∧ H ga = some (.lst (P.goals.map vn)) ∧ pa ≠ h ∧ ga ≠ h ∧ Good P ∧
  ∀ (t ar gl : Addr) (P' : Pt) H', Kp [h] H H' → Hand H' h ca cells → H' t = some (.tup [vn P'.many, .ref ar, .ref gl]) → TupP H' ar P'.arrows → TupN H' gl P'.goals → Good P' → P'.many = P.many → Q (.ref t) H'
theorem ok_renamed (T : Tx K mg)  : FnOk P w K mg base CX0 3 T.d_law_renamed.f T.d_law_renamed.fd ["_law_hand_here", "_law_many", "_law_pairs", "_law_goals"] (spRenamed K) := by
  refine T.d_law_renamed.F.ok sc_law_renamed (fun vs H Q E h => ?_) (fun cdv A outer s H vs Q E hr h => ?_)
  · obtain ⟨h, ca, cells, pa, ga, P', rfl, _⟩ := h; rfl
  obtain ⟨h, ca, cells, pa, ga, ⟨m, ps, gs⟩, rfl, hh, ⟨vs, a1, a2⟩, hg, npa, nga, G, q⟩ := h
  have G_law_shuffled := ok_shuffled (P := P) (w := w) (base := base) T
  have m2 : 2 ≤ m := G.m2
  have m40 : m ≤ 40 := G.m40
  have len : ps.length ≤ 60 := G.len
  have arr : ∀ a, a ∈ ps → a.1 < m ∧ a.2 < m ∧ a.1 ≠ a.2 := G.arr
  have lot : Lot m gs := G.lot
  refine ⟨_, (pss_cons (ps_set (i := 4) sc_law_renamed.nd rfl (Or.inr rfl) (pe_op op_cat (pe_lst (pa_cons pe_int pa_nil)) (pe_call G_law_shuffled (hr.mono (by omega)) rfl T.d_law_shuffled.g T.d_law_shuffled.F.kp (b_law_shuffled T.d_law_shuffled.F) .nil pass0 (pa_cons (pv 0) (pa_cons (pe_listRg (by rfl) rfl T.b_list (prg_2 rfl T.b_range pe_int (pv 1))) pa_nil)))))
  (pss_cons (ps_set (i := 5) sc_law_renamed.nd rfl (Or.inl rfl) (pe_callTy call_tuple_of (by rfl) T.b_tuple (by decide +kernel) (pa_cons (pe_lc (own := [("_law_one", 6), ("_law_other", 7)]) (g := (gTup K 2 (gCons (gName 6) (gCons (gName 7) gNil)))) (te := (tTup (tCons (tOp (rIxL K) _ _) (tCons (tOp (rIxL K) _ _) tNil)))) (hs := by intro _; rfl) rfl sc_law_renamed.nd (pi_list (pv 2)) (blkOk_by (N := ["_law_hand_here", "_law_many", "_law_pairs", "_law_goals", "_law_number", "_law_arrows", "_law_one", "_law_other", "_law_goal"]) (sc := defScope s_law_renamed) (own := [("_law_one", 6), ("_law_other", 7)]) (by decide +kernel)) (fun _ _ _ _ _ => (pg_tup rfl (pgs_cons (pg_name (i := 6) sc_law_renamed.nd rfl (Or.inl rfl) (hf := by exact Or.inr rfl)) (pgs_cons (pg_name (i := 7) sc_law_renamed.nd rfl (Or.inl rfl) (hf := by exact Or.inr rfl)) pgs_nil)))) (fun _ _ _ _ _ => pts_nil) (fun _ _ _ _ _ => (pe_tup (pa_cons (pe_ix ix_list (pv 4) (pv 6) (fun _ _ => rfl)) (pa_cons (pe_ix ix_list (pv 4) (pv 7) (fun _ _ => rfl)) pa_nil))))) pa_nil)))
  (pss_one (ps_ret (pe_tup (pa_cons (pv 1) (pa_cons (pv 5) (pa_cons (pe_callTy call_tuple_of (by rfl) T.b_tuple (by decide +kernel) (pa_cons (pe_callB cr_sorted (by rfl) T.b_sorted (by decide +kernel) (pa_cons (pe_lc (own := [("_law_goal", 8)]) (g := (gName 8)) (te := (tOp (rIxL K) _ _)) (hs := by intro _; rfl) rfl sc_law_renamed.nd (pi_list (pv 3)) (blkOk_by (N := ["_law_hand_here", "_law_many", "_law_pairs", "_law_goals", "_law_number", "_law_arrows", "_law_one", "_law_other", "_law_goal"]) (sc := defScope s_law_renamed) (own := [("_law_goal", 8)]) (by decide +kernel)) (fun _ _ _ _ _ => (pg_name (i := 8) sc_law_renamed.nd rfl (Or.inl rfl) (hf := by exact Or.inr rfl))) (fun _ _ _ _ _ => pts_nil) (fun _ _ _ _ _ => (pe_ix ix_list (pv 4) (pv 8) (fun _ _ => rfl)))) pa_nil)) pa_nil)) pa_nil)))))))), ?_⟩
  refine ⟨sz (by show 1 ≤ 100000; decide), fun z nz => ?_⟩
  have k1 : Kp [] H (upd H z (.lst [.int 0])) := Kp.mk_new nz
  have hz : (upd H z (.lst [.int 0])) z = some (.lst [.int 0]) := upd_same
  generalize upd H z (.lst [.int 0]) = H1 at k1 hz ⊢
  refine ⟨_, rfl, _, rfl, 1, m, rfl, rfl, RgOk.of_le (by omega) (by omega) (by omega) (by omega), fun rl nrl => ?_⟩
  have er : rgV 1 (m : Int) = ((List.range (m - 1)).map (1 + ·)).map vn := by
    unfold rgV
    rw [show ((m : Int) - 1).toNat = m - 1 by omega, List.map_map]
    exact List.map_congr_left fun i _ => by show V.int _ = V.int _; congr 1
  have k2 := k1.new (o := .lst (rgV 1 (m : Int))) nrl
  have hrl : (upd H1 rl (.lst (rgV 1 (m : Int)))) rl = some (.lst (((List.range (m - 1)).map (1 + ·)).map vn)) := by rw [upd_same, er]
  have hz2 : (upd H1 rl (.lst (rgV 1 (m : Int)))) z = some (.lst [.int 0]) := by rw [upd_ne (ne_of_none hz nrl)]; exact hz
  generalize upd H1 rl (.lst (rgV 1 (m : Int))) = H2 at k2 hrl hz2 ⊢
  have nzh : z ∉ [h] := fun e => by
    obtain ⟨_, _, _, _, e0, _⟩ := hh.hd
    rw [← show z = h by simpa using e, nz] at e0; cases e0
  refine ⟨h, ca, cells, rl, _, rfl, hh.new k2, SqL.of hrl, by simp; omega, fun sr ys H3 nsr k3 hh3 hsr hperm => ?_⟩
  obtain ⟨ns, hns, rfl⟩ := dec_perm hperm
  obtain ⟨R, nlen⟩ := ren_of (by omega) hns
  have k03 : Kp [h] H H3 := (k2.weak fun _ m => nomatch m).trans k3 fun _ m => .inl m
  refine ⟨z, sr, _, _, rfl, rfl, k3.get _ _ hz2 nzh, hsr, sz (by simp at nlen; simp; omega), fun nm nnm => ?_⟩
  have k4 : Kp [] H3 (upd H3 nm (.lst ([.int 0] ++ ns.map vn))) := Kp.mk_new nnm
  have hnm : (upd H3 nm (.lst ([.int 0] ++ ns.map vn))) nm = some (.lst ((0 :: ns).map vn)) := upd_same
  generalize upd H3 nm (.lst ([.int 0] ++ ns.map vn)) = H4 at k4 hnm ⊢
  have k04 := k03.add k4
  have hh4 := hh3.new k4
  generalize hl : 0 :: ns = num at R nlen hnm
  generalize hf : plc num = f at R
  have num_at : ∀ v, v < m → atI (num.map vn) ((v : Nat) : Int) = some (vn (f v)) := fun v hv => atI_nat (by rw [List.getElem?_map, plc_at (by omega), hf]; rfl)
  have a14 := k04.get _ _ a1 (by simp [npa])
  refine ⟨_, rfl, pa, rfl, ⟨_, SqL.of a14⟩, fun L nL => lc_list (K := K) (a := pa) (xs := vs) (fun j H' => Kp [] H4 H' ∧ ∃ us, H' L = some (.lst us) ∧ PairsV H' us ((ps.take j).map fun a => (f a.1, f a.2))) ⟨Kp.mk_new nL, [], upd_same, PairsV.nil⟩ (fun j H' _ ⟨k, _⟩ => SqL.of (k.get _ _ a14 (by simp))) ?_ ?_⟩
  · rintro j x H5 hj ⟨k5, us, hL, pv⟩
    obtain ⟨a, pb, hp, rfl, hpb⟩ := a2.at_ hj
    have hpb5 := (k04.add k5).tup _ _ hpb
    obtain ⟨b1, b2, _⟩ := arr a (List.mem_of_getElem? hp)
    have n5 := SqL.of (K := K) (k5.get _ _ hnm (by simp))
    refine ⟨pb, _, rfl, SqT.of hpb5, rfl, _, _, rfl, _, _, rfl, rfl, rfl, ?_⟩
    refine ⟨_, rfl, _, rfl, nm, _, _, _, rfl, rfl, n5, num_at _ b1, _, rfl, _, rfl, nm, _, _, _, rfl, rfl, n5, num_at _ b2, sz (by show 2 ≤ 100000; decide), fun t nt => ?_⟩
    have k6 : Kp [] H5 (upd H5 t (.tup [vn (f a.1), vn (f a.2)])) := Kp.mk_new nt
    have nLt : L ≠ t := ne_of_none hL nt
    have hj' : j < ps.length := (List.getElem?_eq_some_iff.mp hp).1
    have hus : us.length = j := by rw [pv.1, List.length_map, List.length_take]; omega
    have hL6 : (upd H5 t (.tup [vn (f a.1), vn (f a.2)])) L = some (.lst us) := by rw [upd_ne nLt]; exact hL
    refine ⟨us, hL6, szl (by omega), (k5.add k6).put hL6 trivial (.inr nL), us ++ [.ref t], upd_same, ?_⟩
    rw [take_more hp, List.map_append]
    have k7 : Kp [L] H5 (upd (upd H5 t (.tup [vn (f a.1), vn (f a.2)])) L (.lst (us ++ [.ref t]))) := (k6.weak fun _ m => nomatch m).put hL6 trivial (.inl (by simp))
    exact (pv.keep k7).snoc (p := (f a.1, f a.2)) (by rw [upd_ne nLt.symm, upd_same])
  · rintro H5 ⟨k5, us, hL, pv⟩
    have el : ps.take vs.length = ps := List.take_of_length_le (by rw [a2.1]; exact Nat.le_refl _)
    rw [el] at pv
    refine ⟨L, us, rfl, .inl ⟨SqL.of hL, fun at_ nat => ?_⟩⟩
    have k6 : Kp [] H5 (upd H5 at_ (.tup us)) := Kp.mk_new nat
    have t6 : TupP (upd H5 at_ (.tup us)) at_ (ps.map fun a => (f a.1, f a.2)) := ⟨us, upd_same, pv.keep k6⟩
    generalize upd H5 at_ (.tup us) = H6 at k6 t6 ⊢
    have k46 := k5.add k6
    have hg6 := (k04.add k46).get _ _ hg (by simp [nga])
    have n6 := k46.get _ _ hnm (by simp)
    refine ⟨_, rfl, _, rfl, _, rfl, ga, rfl, ⟨_, SqL.of hg6⟩, fun M nM => lc_list (K := K) (a := ga) (xs := gs.map vn) (fun j H' => Kp [] H6 H' ∧ H' M = some (.lst (((gs.take j).map f).map vn))) ⟨Kp.mk_new nM, upd_same⟩ (fun j H' _ ⟨k, _⟩ => SqL.of (k.get _ _ hg6 (by simp))) ?_ ?_⟩
    · rintro j x H7 hj ⟨k7, hM⟩
      obtain ⟨g, hgj, rfl⟩ := map_at hj
      have hj' := (List.getElem?_eq_some_iff.mp hgj).1
      have gl := lot.2 g (List.mem_of_getElem? hgj)
      have ll := asc_len lot.1 lot.2
      refine ⟨rfl, _, rfl, _, rfl, nm, _, _, _, rfl, rfl, SqL.of (k7.get _ _ n6 (by simp)), num_at g gl, ?_⟩
      refine ⟨_, hM, szl (by simp; omega), k7.put hM trivial (.inr nM), ?_⟩
      rw [upd_same, take_more hgj, List.map_append, List.map_append]; rfl
    · rintro H7 ⟨k7, hM⟩
      rw [List.length_map, List.take_length] at hM
      have em : (gs.map f).map vn = ((gs.map f).map fun (v : Nat) => (v : Int)).map V.int := by rw [List.map_map (g := V.int)]; rfl
      rw [em] at hM
      have ll := asc_len lot.1 lot.2
      refine ⟨M, _, rfl, SqL.of hM, by simp; omega, fun ns' sp hperm hpw nsp => ?_⟩
      have ndg : (gs.map f).Nodup := map_nd (asc_nd lot.1) fun x y hx hy e => R.inj x y (lot.2 x hx) (lot.2 y hy) e
      obtain ⟨gs', rfl, gp, gsrt⟩ := asc_of ndg hperm hpw
      refine ⟨sp, _, rfl, .inl ⟨SqL.of upd_same, fun tt ntt => ?_⟩⟩
      have e3 : (gs'.map fun (v : Nat) => (v : Int)).map V.int = gs'.map vn := by rw [List.map_map]; rfl
      rw [e3]
      refine ⟨sz (by show 3 ≤ 100000; decide), fun t nt => ?_⟩
      have k8 : Kp [] H7 (upd (upd (upd H7 sp (.lst (gs'.map vn))) tt (.tup (gs'.map vn))) t (.tup [vn m, .ref at_, .ref tt])) := ((Kp.mk_new nsp).new (by rw [← e3]; exact ntt)).new nt
      have htt : (upd (upd (upd H7 sp (.lst (gs'.map vn))) tt (.tup (gs'.map vn))) t (.tup [vn m, .ref at_, .ref tt])) tt = some (.tup (gs'.map vn)) := by
        have : tt ≠ t := ne_of_none (H := upd (upd H7 sp (.lst (gs'.map vn))) tt (.tup (gs'.map vn))) upd_same nt
        rw [upd_ne this]; exact upd_same
      have k48 := (k46.add k7).add k8
      exact q t at_ tt ⟨m, ps.map (fun a => (f a.1, f a.2)), gs'⟩ _ (k04.add k48) (hh4.new k48) upd_same (t6.keep (k7.add k8)) htt (good_ren R G gp gsrt) rfl
end
end K33
/-! K33L4: the law's parts drawn -/
namespace K33
open PySem PySem.Spec PyProof.Rows L2
theorem Rch.more {as bs : List (Nat × Nat)} {ok b : Nat → Prop} (h : ∀ a, a ∈ as → a ∈ bs) {v : Nat} (r : Rch as ok b v) : Rch bs ok b v := by
  induction r with
  | base v hv => exact .base v hv
  | step t v _ m o ih => exact .step t v ih (h _ m) o
theorem PairsV.upd_ne {H : Hp} {vs : List V} {ps : List (Nat × Nat)} {L : Addr} {o : HO} (h : PairsV H vs ps) (k : Kp [L] H (upd H L o)) : PairsV (upd H L o) vs ps := h.keep k
/-- the goals drawn: s and all after it -/
def gsl (m s : Nat) : List Nat := (List.range (m - s)).map (s + ·)
theorem gsl_mem {m s v : Nat} : v ∈ gsl m s ↔ s ≤ v ∧ v < m := by
  unfold gsl
  rw [List.mem_map]
  constructor
  · rintro ⟨i, hi, rfl⟩
    have := List.mem_range.mp hi
    omega
  · intro h
    exact ⟨v - s, List.mem_range.mpr (by omega), by omega⟩
theorem gsl_lot {m s : Nat} : Lot m (gsl m s) := by
  refine ⟨?_, fun v hv => (gsl_mem.mp hv).2⟩
  unfold gsl
  rw [List.pairwise_map]
  exact List.pairwise_lt_range.imp fun h => by omega
theorem gsl_len (m s : Nat) : (gsl m s).length = m - s := by unfold gsl; simp
theorem rg_gsl {m s : Nat} (h : s ≤ m) : rgV (s : Int) (m : Int) = (gsl m s).map vn := by
  unfold rgV gsl
  rw [show ((m : Int) - s).toNat = m - s by omega, List.map_map]
  exact List.map_congr_left fun i _ => by show V.int _ = V.int _; congr 1
theorem mod_ne {m a k : Nat} (ha : a < m) (h0 : 0 < k) (hk : k < m) : (a + k) % m < m ∧ (a + k) % m ≠ a := by
  refine ⟨Nat.mod_lt _ (by omega), ?_⟩
  by_cases h : a + k < m
  · rw [Nat.mod_eq_of_lt h]; omega
  · rw [Nat.mod_eq_sub_mod (by omega), Nat.mod_eq_of_lt (by omega)]; omega
/-- what stands while the parts are drawn -/
structure PI (H0 H : Hp) (h ca : Addr) (cells : List Int) (L G : Addr) (gs : List Nat) (ps : List (Nat × Nat)) : Prop where
  k : Kp [h] H0 H
  hh : Hand H h ca cells
  ps : LstP H L ps
  gs : H G = some (.lst (gs.map vn))
section
variable {H0 H H1 : Hp} {h ca L G t : Addr} {cells : List Int} {gs : List Nat} {ps : List (Nat × Nat)}
theorem PI.go (p : PI H0 H h ca cells L G gs ps) (k : Kp [h] H H1) (hh : Hand H1 h ca cells) (nL : L ∉ [h]) (nG : G ∉ [h]) : PI H0 H1 h ca cells L G gs ps := by
  obtain ⟨vs, h1, h2⟩ := p.ps
  exact ⟨p.k.trans k fun _ m => .inl m, hh, ⟨vs, k.get _ _ h1 nL, h2.keep k⟩, k.get _ _ p.gs nG⟩
theorem PI.new (p : PI H0 H h ca cells L G gs ps) (k : Kp [] H H1) : PI H0 H1 h ca cells L G gs ps := by
  obtain ⟨vs, h1, h2⟩ := p.ps
  exact ⟨p.k.add k, p.hh.new k, ⟨vs, k.get _ _ h1 (by simp), h2.keep k⟩, k.get _ _ p.gs (by simp)⟩
/-- a pair more -/
theorem PI.more {x y : Nat} {vs : List V} (p : PI H0 H h ca cells L G gs ps) (h0 : Hand H0 h ca cells) (nL : H0 L = none) (nGL : G ≠ L) (nt : H t = none) (eL : (upd H t (.tup [vn x, vn y])) L = some (.lst vs)) (hv : PairsV H vs ps) :
    PI H0 (upd (upd H t (.tup [vn x, vn y])) L (.lst (vs ++ [.ref t]))) h ca cells L G gs (ps ++ [(x, y)]) := by
  have k1 : Kp [] H (upd H t (.tup [vn x, vn y])) := Kp.mk_new nt
  have p1 := p.new k1
  have k2 : Kp [L] H (upd (upd H t (.tup [vn x, vn y])) L (.lst (vs ++ [.ref t]))) := (k1.weak fun _ m => nomatch m).put eL (by exact trivial) (.inl (by simp))
  have ntL : t ≠ L := fun e => by rw [← e, upd_same] at eL; cases eL
  exact ⟨p1.k.put eL (by exact trivial) (.inr nL), p1.hh.put h0 nL, ⟨_, upd_same, (hv.keep k2).snoc (p := (x, y)) (by rw [L2.upd_ne ntL, upd_same])⟩, by rw [L2.upd_ne nGL]; exact p1.gs⟩
end
/-- pairs that make a map with the goals gs, so far -/
structure RI (m : Nat) (gs : List Nat) (ps : List (Nat × Nat)) : Prop where
  arr : ∀ a, a ∈ ps → a.1 < m ∧ a.2 < m ∧ a.1 ≠ a.2
  rch : ∀ g, g ∈ gs → Rch ps (· < m) (· = 0) g
theorem RI.more {m : Nat} {gs : List Nat} {ps : List (Nat × Nat)} (r : RI m gs ps) {x y : Nat} (hx : x < m) (hy : y < m) (ne : x ≠ y) : RI m gs (ps ++ [(x, y)]) :=
  ⟨fun a ha => (List.mem_append.mp ha).elim (r.arr a) fun z => by
    have : a = (x, y) := by simpa using z
    subst this
    exact ⟨hx, hy, ne⟩, fun g hg => (r.rch g hg).more fun a ha => List.mem_append_left _ ha⟩
section
variable {P : Program} {w : World} {K : PySem.W.Frag} {mg : Str → Option Value} {base : Heap}
def spDrawn (K : PySem.W.Frag) : Sp := fun vs H Q _ => ∃ (h ca : Addr) (cells : List Int) (pn an : Nat), vs = [.ref h, vn pn, vn an] ∧ Hand H h ca cells ∧ 2 ≤ pn ∧ pn ≤ 40 ∧ pn ≤ an ∧ an ≤ 60 ∧
  ∀ (t ar gl : Addr) (P' : Pt) H', Kp [h] H H' → Hand H' h ca cells → H' t = some (.tup [vn P'.many, .ref ar, .ref gl]) → TupP H' ar P'.arrows → TupN H' gl P'.goals → Good P' → P'.many ≤ pn → Q (.ref t) H'
theorem ok_drawn (T : Tx K mg)  : FnOk P w K mg base CX0 4 T.d_law_parts.f T.d_law_parts.fd ["_law_hand_here", "_law_places", "_law_arrows"] (spDrawn K) := by
  refine T.d_law_parts.F.ok sc_law_parts (fun vs H Q E h => ?_) (fun cdv A outer s H vs Q E hr h => ?_)
  · obtain ⟨h, ca, cells, pn, an, rfl, _⟩ := h; rfl
  obtain ⟨h, ca, cells, pn, an, rfl, hh, p2, p40, pa, a60, q⟩ := h
  have G_law_draw := ok_law_draw (P := P) (w := w) (base := base) T
  have G_law_tail := ok_tail (P := P) (w := w) (base := base) T
  have G_law_shuffled := ok_shuffled (P := P) (w := w) (base := base) T
  have G_law_renamed := ok_renamed (P := P) (w := w) (base := base) T
  have hne : ∀ {a : Addr}, H a = none → a ∉ [h] := fun {a} na z => by
    obtain ⟨_, _, _, _, e0, _⟩ := hh.hd
    rw [← show a = h by simpa using z, na] at e0; cases e0
  refine ⟨_, (pss_cons (ps_set (i := 3) sc_law_parts.nd rfl (Or.inl rfl) (pe_op op_add pe_int (pe_call G_law_draw (hr.mono (by omega)) rfl T.d_law_draw.g T.d_law_draw.F.kp (b_law_draw T.d_law_draw.F) .nil pass0 (pa_cons (pv 0) (pa_cons (pe_op op_sub (pv 1) pe_int) pa_nil)))))
  (pss_cons (ps_set (i := 4) sc_law_parts.nd rfl (Or.inl rfl) (pe_lst (pa_cons (pe_op op_sub (pv 3) pe_int) pa_nil)))
  (pss_cons (ps_if (PW.pt (pw_and (pt_cmpR op_gt (pv 3) pe_int (nomark _)) (pw_and1 (pt_cmpR op_eq (pe_call G_law_draw (hr.mono (by omega)) rfl T.d_law_draw.g T.d_law_draw.F.kp (b_law_draw T.d_law_draw.F) .nil pass0 (pa_cons (pv 0) (pa_cons pe_int pa_nil))) pe_int (nomark _))))) (pss_one (ps_set (i := 4) sc_law_parts.nd rfl (Or.inl rfl) (pe_listRg (by rfl) rfl T.b_list (prg_2 rfl T.b_range (pe_op op_sub (pe_op op_sub (pv 3) pe_int) (pe_call G_law_draw (hr.mono (by omega)) rfl T.d_law_draw.g T.d_law_draw.F.kp (b_law_draw T.d_law_draw.F) .nil pass0 (pa_cons (pv 0) (pa_cons (pe_callB (call_min2 rfl) (by rfl) T.b_min (by decide +kernel) (pa_cons pe_int (pa_cons (pe_op op_sub (pv 3) pe_int) pa_nil))) pa_nil)))) (pv 3))))) pss_nil)
  (pss_cons (ps_set (i := 5) sc_law_parts.nd rfl (Or.inl rfl) (pe_lst pa_nil))
  (pss_cons (ps_for PassesOwn.never rfl (pi_range2 rfl T.b_range (pa_cons pe_int (pa_cons (pv 3) pa_nil))) (pg_name (i := 6) sc_law_parts.nd rfl (Or.inl rfl)) (pss_one (ps_if (PW.pt (pw_or (pt_cmpR op_in_seq (pv 6) (pv 4) (by rfl)) (pw_or1 (pt_cmpR op_gt (pe_call G_law_draw (hr.mono (by omega)) rfl T.d_law_draw.g T.d_law_draw.F.kp (b_law_draw T.d_law_draw.F) .nil pass0 (pa_cons (pv 0) (pa_cons pe_int pa_nil))) pe_int (nomark _))))) (pss_one (ps_expr (pe_bm PySem.F.plainAttrs_list PySem.F.slot_list_append PySem.F.type_list_append mt_append (pv 5) (pa_cons (pe_tup (pa_cons (pe_call G_law_tail (hr.mono (by omega)) rfl T.d_law_tail.g T.d_law_tail.F.kp (b_law_tail T.d_law_tail.F) .nil pass0 (pa_cons (pv 0) (pa_cons (pv 5) (pa_cons (pv 4) (pa_cons (pv 6) pa_nil))))) (pa_cons (pv 6) pa_nil))) pa_nil)))) pss_nil)))
  (pss_cons (ps_for PassesOwn.never rfl (pi_range1 rfl T.b_range (pa_cons (pe_call G_law_draw (hr.mono (by omega)) rfl T.d_law_draw.g T.d_law_draw.F.kp (b_law_draw T.d_law_draw.F) .nil pass0 (pa_cons (pv 0) (pa_cons (pe_op op_add (pe_callB (call_max2 rfl) (by rfl) T.b_max (by decide +kernel) (pa_cons pe_int (pa_cons (pe_op op_sub (pv 2) (pe_callB call_len_seq (by rfl) T.b_len (by decide +kernel) (pa_cons (pv 5) pa_nil))) pa_nil))) pe_int) pa_nil))) pa_nil)) (pg_name (i := 7) sc_law_parts.nd rfl (Or.inl rfl)) (pss_cons (ps_set (i := 8) sc_law_parts.nd rfl (Or.inl rfl) (pe_call G_law_draw (hr.mono (by omega)) rfl T.d_law_draw.g T.d_law_draw.F.kp (b_law_draw T.d_law_draw.F) .nil pass0 (pa_cons (pv 0) (pa_cons pe_int pa_nil))))
  (pss_cons (ps_set (i := 9) sc_law_parts.nd rfl (Or.inl rfl) (pe_call G_law_draw (hr.mono (by omega)) rfl T.d_law_draw.g T.d_law_draw.F.kp (b_law_draw T.d_law_draw.F) .nil pass0 (pa_cons (pv 0) (pa_cons (pv 3) pa_nil))))
  (pss_cons (ps_set (i := 10) sc_law_parts.nd rfl (Or.inl rfl) (pe_op op_modN (pe_op op_add (pe_op op_add (pv 9) pe_int) (pe_call G_law_draw (hr.mono (by omega)) rfl T.d_law_draw.g T.d_law_draw.F.kp (b_law_draw T.d_law_draw.F) .nil pass0 (pa_cons (pv 0) (pa_cons (pe_op op_sub (pv 3) pe_int) pa_nil)))) (pv 3)))
  (pss_cons (ps_if (pt_cmpR op_eq (pv 8) pe_int (nomark _)) (pss_one (ps_asg (pe_ix ix_list (pv 5) (pe_call G_law_draw (hr.mono (by omega)) rfl T.d_law_draw.g T.d_law_draw.F.kp (b_law_draw T.d_law_draw.F) .nil pass0 (pa_cons (pv 0) (pa_cons (pe_callB call_len_seq (by rfl) T.b_len (by decide +kernel) (pa_cons (pv 5) pa_nil)) pa_nil))) (fun _ _ => rfl)) (pg_tup rfl (pgs_cons (pg_name (i := 9) sc_law_parts.nd rfl (Or.inl rfl)) (pgs_cons (pg_name (i := 10) sc_law_parts.nd rfl (Or.inl rfl)) pgs_nil))))) pss_nil)
  (pss_cons (ps_if (pt_cmpR op_eq (pv 8) pe_int (nomark _)) (pss_one (ps_asg (pe_ix ix_list (pv 5) (pe_call G_law_draw (hr.mono (by omega)) rfl T.d_law_draw.g T.d_law_draw.F.kp (b_law_draw T.d_law_draw.F) .nil pass0 (pa_cons (pv 0) (pa_cons (pe_callB call_len_seq (by rfl) T.b_len (by decide +kernel) (pa_cons (pv 5) pa_nil)) pa_nil))) (fun _ _ => rfl)) (pg_tup rfl (pgs_cons (pg_name (i := 10) sc_law_parts.nd rfl (Or.inl rfl)) (pgs_cons (pg_name (i := 9) sc_law_parts.nd rfl (Or.inl rfl)) pgs_nil))))) pss_nil)
  (pss_one (ps_expr (pe_bm PySem.F.plainAttrs_list PySem.F.slot_list_append PySem.F.type_list_append mt_append (pv 5) (pa_cons (pe_tup (pa_cons (pv 9) (pa_cons (pv 10) pa_nil))) pa_nil))))))))))
  (pss_one (ps_ret (pe_call G_law_renamed (hr.mono (by omega)) rfl T.d_law_renamed.g T.d_law_renamed.F.kp (b_law_renamed T.d_law_renamed.F) .nil pass0 (pa_cons (pv 0) (pa_cons (pv 3) (pa_cons (pe_slice sl_list (pe_call G_law_shuffled (hr.mono (by omega)) rfl T.d_law_shuffled.g T.d_law_shuffled.F.kp (b_law_shuffled T.d_law_shuffled.F) .nil pass0 (pa_cons (pv 0) (pa_cons (pv 5) pa_nil))) po_none (po_some pe_int)) (pa_cons (pv 4) pa_nil))))))))))))), ?_⟩
  refine ⟨_, rfl, _, rfl, _, _, rfl, rfl, h, ca, cells, pn - 1, congrArg (fun z => [V.ref h, V.int z]) (show ((pn : Nat) : Int) - 1 = ((pn - 1 : Nat) : Int) by omega), hh, by omega, by omega, fun r0 H1 k1 hh1 hr0 => ⟨_, _, rfl, rfl, ?_⟩⟩
  dsimp only [gName]
  rw [show (2 : Int) + (r0 : Int) = ((r0 + 2 : Nat) : Int) by omega]
  generalize hm : r0 + 2 = m
  have m2 : 2 ≤ m := by omega
  have mp : m ≤ pn := by omega
  refine ⟨_, rfl, _, _, rfl, rfl, sz (by show 1 ≤ 100000; decide), fun g0 ng0 => ?_⟩
  dsimp only [gName]
  rw [show ((m : Nat) : Int) - 1 = ((m - 1 : Nat) : Int) by omega]
  have k2 : Kp [] H1 (upd H1 g0 (.lst [vn (m - 1)])) := Kp.mk_new ng0
  have hg0 : (upd H1 g0 (.lst [vn (m - 1)])) g0 = some (.lst ((gsl m (m - 1)).map vn)) := by
    rw [upd_same]
    unfold gsl
    rw [show m - (m - 1) = 1 by omega]
    rfl
  have ng0H := k1.free ng0
  generalize upd H1 g0 (.lst [vn (m - 1)]) = H2 at k2 hg0 ⊢
  refine flowSeq (fun σ' H' => Kp [h] H H' ∧ Hand H' h ca cells ∧ ∃ (G : Addr) (s : Nat), H G = none ∧ H' G = some (.lst ((gsl m s).map vn)) ∧ 1 ≤ s ∧ s < m ∧ σ' = [some (.ref h), some (vn pn), some (vn an), some (vn m), some (.ref G), none, none, none, none, none, none]) ?_ ?_
  · rintro σ' H3 ⟨k3, hh3, G, s', nG, hG, s1, sm, rfl⟩
    refine ⟨Nat.zero_le _, fun L nL => ?_⟩
    have nLH := k3.free nL
    have k4 : Kp [] H3 (upd H3 L (.lst [])) := Kp.mk_new nL
    have hL : (upd H3 L (.lst [])) L = some (.lst []) := upd_same
    have hG4 := k4.get _ _ hG (by simp)
    have nGL : G ≠ L := ne_of_none hG nL
    generalize upd H3 L (.lst []) = H4 at k4 hL hG4 ⊢
    have pi4 : PI H H4 h ca cells L G (gsl m s') [] := ⟨k3.add k4, hh3.new k4, ⟨[], hL, PairsV.nil⟩, hG4⟩
    dsimp only [gName]
    refine ⟨_, rfl, 1, m, rfl, ⟨by omega, by omega, by omega, by omega⟩, for_range (lo := 1) (n := ((m : Int) - 1).toNat) (fun i σ H' => ∃ (ps : List (Nat × Nat)) (x6 : Option V), σ = [some (.ref h), some (vn pn), some (vn an), some (vn m), some (.ref G), some (.ref L), x6, none, none, none, none] ∧ PI H H' h ca cells L G (gsl m s') ps ∧
        ps.length ≤ i ∧ (∀ a, a ∈ ps → a.1 < a.2 ∧ a.2 < i + 1) ∧ (∀ a, a ∈ ps → Rch ps (· < m) (· = 0) a.2) ∧ (∀ g, g ∈ gsl m s' → g < i + 1 → ∃ a, a ∈ ps ∧ a.2 = g))
      ⟨[], none, rfl, pi4, Nat.le_refl _, fun _ h => (nomatch h), fun _ h => (nomatch h), fun g hg hl => by have := (gsl_mem.mp hg).1; omega⟩ ?_ ?_⟩
    · rintro i σ H5 hi ⟨ps, x6, rfl, p5, len, arr, rch, gls⟩
      have hi' : i < m - 1 := by omega
      rw [show (1 : Int) + (i : Nat) = ((i + 1 : Nat) : Int) by omega]
      refine flowIf (fun b H' => Kp [h] H5 H' ∧ Hand H' h ca cells ∧ (b = false → i + 1 ∉ gsl m s')) ?_ ?_
      · rintro b H6 ⟨k6, hh6, hb⟩
        have p6 := p5.go k6 hh6 (hne nLH) (hne nG)
        refine ite_b (fun c => ?_) (fun c => ?_)
        · obtain ⟨vs, l1, l2⟩ := p6.ps
          refine ⟨_, rfl, .inl ⟨rfl, _, SqL.of l1⟩, _, rfl, _, rfl, _, rfl, _, rfl, h, ca, cells, L, G, ps, gsl m s', i + 1, rfl, hh6, p6.ps, p6.gs, fun e => hne nLH (by simp [e]), fun e => hne nG (by simp [e]), fun z => by have := (gsl_mem.mp z).1; omega, by omega, fun r H7 k7 hh7 hr7 => ?_⟩
          have p7 := p6.go k7 hh7 (hne nLH) (hne nG)
          have l1' := k7.get _ _ l1 (hne nLH)
          have l2' := l2.keep k7
          refine ⟨_, rfl, sz (by show 2 ≤ 100000; decide), fun t nt => ?_⟩
          have eL : (upd H7 t (.tup [vn r, vn (i + 1)])) L = some (.lst vs) := by rw [upd_ne (ne_of_none l1' nt)]; exact l1'
          refine ⟨L, _, _, rfl, rfl, eL, szl (by rw [l2.1]; omega), ?_⟩
          have rlt : r < i + 1 := by
            rcases hr7 with e | ⟨a, ha, e⟩
            · omega
            · have := (arr a ha).2; omega
          have rr : Rch (ps ++ [(r, i + 1)]) (· < m) (· = 0) r := by
            rcases hr7 with e | ⟨a, ha, e⟩
            · exact .base r e
            · exact e ▸ (rch a ha).more fun b hb => List.mem_append_left _ hb
          refine ⟨ps ++ [(r, i + 1)], _, rfl, p7.more hh nLH nGL nt eL l2', by simp; omega, fun a ha => ?_, fun a ha => ?_, fun g hg hl => ?_⟩
          · rcases List.mem_append.mp ha with z | z
            · have := arr a z; omega
            · have : a = (r, i + 1) := by simpa using z
              subst this
              exact ⟨rlt, by omega⟩
          · rcases List.mem_append.mp ha with z | z
            · exact (rch a z).more fun b hb => List.mem_append_left _ hb
            · have : a = (r, i + 1) := by simpa using z
              subst this
              exact .step r (i + 1) rr (by simp) (show i + 1 < m by omega)
          · by_cases z : g = i + 1
            · exact ⟨(r, i + 1), by simp, z.symm⟩
            · obtain ⟨a, h1, h2⟩ := gls g hg (by omega)
              exact ⟨a, List.mem_append_left _ h1, h2⟩
        · refine ⟨ps, _, rfl, p6, by omega, fun a ha => by have := arr a ha; omega, rch, fun g hg hl => ?_⟩
          by_cases z : g = i + 1
          · exact absurd (z ▸ hg) (hb c)
          · exact gls g hg (by omega)
      · intro Q' hQ
        refine ⟨_, rfl, _, rfl, G, _, rfl, .inl (SqL.of p5.gs), rfl, flat_all, _, rfl, ?_⟩
        have eF : (if false = true then !inV (vn (i + 1)) ((gsl m s').map vn) else inV (vn (i + 1)) ((gsl m s').map vn)) = inV (vn (i + 1)) ((gsl m s').map vn) := rfl
        rw [eF, inV_nat]
        refine ite_d (fun c => hQ true H5 ⟨Kp.refl, p5.hh, fun z => (nomatch z)⟩) (fun c => ?_)
        exact ⟨_, rfl, h, ca, cells, 6, rfl, p5.hh, by decide, by decide, fun r H6 k6 hh6 hr6 => ⟨_, _, rfl, rfl, _, rfl, hQ _ H6 ⟨k6, hh6, fun _ => c⟩⟩⟩
    · rintro σ H5 ⟨ps, x6, rfl, p5, len, arr, rch, gls⟩
      rw [show ((m : Int) - 1).toNat = m - 1 by omega] at len arr gls
      have ri : RI m (gsl m s') ps := ⟨fun a ha => by have := arr a ha; omega, fun g hg => by
        obtain ⟨a, h1, h2⟩ := gls g hg (by have := (gsl_mem.mp hg).2; omega)
        exact h2 ▸ rch a h1⟩
      have pne : ps ≠ [] := by
        obtain ⟨a, h1, _⟩ := gls (m - 1) (gsl_mem.mpr ⟨by omega, by omega⟩) (by omega)
        exact List.ne_nil_of_mem h1
      obtain ⟨vs, l1, l2⟩ := p5.ps
      have vl : vs.length = ps.length := l2.1
      refine ⟨_, rfl, _, rfl, _, rfl, L, _, rfl, .inl (SqL.of l1), _, _, rfl, rfl, _, _, rfl, _, _, rfl, rfl, h, ca, cells, an - ps.length + 1, ?_, p5.hh, by omega, by omega, fun n H6 k6 hh6 hn => ?_⟩
      · have e : (if ((an : Int) - (vs.length : Int)) > 1 then ((an : Int) - (vs.length : Int)) else 1) + 1 = ((an - ps.length + 1 : Nat) : Int) := by
          rw [vl]; split <;> omega
        exact congrArg (fun z => [V.ref h, V.int z]) e
      have p6 := p5.go k6 hh6 (hne nLH) (hne nG)
      refine ⟨n, rfl, by omega, by omega, for_range (lo := 0) (n := ((n : Nat) : Int).toNat) (fun i σ H' => ∃ (ps' : List (Nat × Nat)) (x6 x7 x8 x9 x10 : Option V), σ = [some (.ref h), some (vn pn), some (vn an), some (vn m), some (.ref G), some (.ref L), x6, x7, x8, x9, x10] ∧ PI H H' h ca cells L G (gsl m s') ps' ∧
          ps'.length = ps.length + i ∧ RI m (gsl m s') ps')
        ⟨ps, _, _, _, _, _, rfl, p6, rfl, ri⟩ ?_ ?_⟩
      · rintro i σ H7 hi ⟨ps', x6, x7, x8, x9, x10, rfl, p7, len', ri'⟩
        rw [Int.toNat_natCast] at hi
        refine ⟨_, rfl, h, ca, cells, 5, rfl, p7.hh, by decide, by decide, fun wy H8 k8 hh8 _ => ?_⟩
        have p8 := p7.go k8 hh8 (hne nLH) (hne nG)
        refine ⟨_, rfl, _, rfl, h, ca, cells, m, rfl, hh8, by omega, by omega, fun a H9 k9 hh9 am => ?_⟩
        have p9 := p8.go k9 hh9 (hne nLH) (hne nG)
        refine ⟨_, rfl, _, _, rfl, rfl, _, rfl, _, rfl, _, _, rfl, rfl, h, ca, cells, m - 1, congrArg (fun z => [V.ref h, V.int z]) (show ((m : Nat) : Int) - 1 = ((m - 1 : Nat) : Int) by omega), hh9, by omega, by omega, fun d H10 k10 hh10 hd => ?_⟩
        have p10 := p9.go k10 hh10 (hne nLH) (hne nG)
        refine ⟨_, _, rfl, rfl, _, rfl, _, _, rfl, rfl, by show ((m : Nat) : Int) ≠ 0; omega, ?_⟩
        dsimp only [gName]
        obtain ⟨bm, bne⟩ := mod_ne am (show 0 < 1 + d by omega) (show 1 + d < m by omega)
        have eb : ((a : Int) + 1 + (d : Int)).fmod (m : Int) = (((a + (1 + d)) % m : Nat) : Int) := by
          rw [Int.fmod_eq_emod_of_nonneg _ (by omega), Int.natCast_emod]
          congr 1
          omega
        rw [eb]
        generalize (a + (1 + d)) % m = b at bm bne
        have pos' : 0 < ps'.length := by have := List.length_pos_iff.mpr pne; omega
        have pick : ∀ {H' : Hp} {vs' : List V}, PairsV H' vs' ps' → ∀ r, r < ps'.length → ∃ (a' b' : Nat) (pb : Addr), a' < m ∧ b' < m ∧ a' ≠ b' ∧ vs'[r]? = some (.ref pb) ∧ H' pb = some (.tup [vn a', vn b']) := fun {H' vs'} hv r hr => by
          obtain ⟨pb, h1, h2⟩ := hv.2 r ps'[r] (List.getElem?_eq_getElem hr)
          obtain ⟨c1, c2, c3⟩ := ri'.arr _ (List.getElem_mem hr)
          exact ⟨_, _, pb, c1, c2, c3, h1, h2⟩
        refine flowSeq (fun σ' H' => PI H H' h ca cells L G (gsl m s') ps' ∧ ∃ (a' b' : Nat) (x6 x7 : Option V), a' < m ∧ b' < m ∧ a' ≠ b' ∧ σ' = [some (.ref h), some (vn pn), some (vn an), some (vn m), some (.ref G), some (.ref L), x6, x7, some (vn wy), some (vn a'), some (vn b')]) ?_ ?_
        · rintro σ' H11 ⟨p11, a1, b1, x6, x7, am1, bm1, ne1, rfl⟩
          refine flowSeq (fun σ' H' => PI H H' h ca cells L G (gsl m s') ps' ∧ ∃ (a' b' : Nat) (x6 x7 : Option V), a' < m ∧ b' < m ∧ a' ≠ b' ∧ σ' = [some (.ref h), some (vn pn), some (vn an), some (vn m), some (.ref G), some (.ref L), x6, x7, some (vn wy), some (vn a'), some (vn b')]) ?_ ?_
          · rintro σ' H12 ⟨p12, a2, b2, x6, x7, am2, bm2, ne2, rfl⟩
            obtain ⟨vs2, m1, m2'⟩ := p12.ps
            refine ⟨_, rfl, .inl ⟨rfl, _, SqL.of m1⟩, _, rfl, _, rfl, sz (by show 2 ≤ 100000; decide), fun t nt => ?_⟩
            have eL : (upd H12 t (.tup [vn a2, vn b2])) L = some (.lst vs2) := by rw [upd_ne (ne_of_none m1 nt)]; exact m1
            refine ⟨L, _, _, rfl, rfl, eL, szl (by rw [m2'.1]; omega), ?_⟩
            exact ⟨ps' ++ [(a2, b2)], _, _, _, _, _, rfl, p12.more hh nLH nGL nt eL m2', by simp; omega, ri'.more am2 bm2 ne2⟩
          · intro N hN
            refine ⟨_, rfl, rfl, _, rfl, ?_⟩
            refine ite_d (fun c => ?_) (fun c => hN _ H11 ⟨p11, a1, b1, _, _, am1, bm1, ne1, rfl⟩)
            obtain ⟨vs2, m1, m2'⟩ := p11.ps
            refine ⟨_, rfl, _, rfl, _, rfl, L, _, rfl, .inl (SqL.of m1), h, ca, cells, ps'.length, by rw [m2'.1]; rfl, p11.hh, pos', by omega, fun r H12 k12 hh12 hr => ?_⟩
            obtain ⟨a', b', pb, c1, c2, c3, e1, e2⟩ := pick (m2'.keep k12) r hr
            refine ⟨L, _, _, _, rfl, rfl, SqL.of (k12.get _ _ m1 (hne nLH)), atI_nat e1, pb, _, rfl, SqT.of e2, rfl, _, _, rfl, _, _, rfl, rfl, ?_⟩
            exact hN _ H12 ⟨p11.go k12 hh12 (hne nLH) (hne nG), b', a', _, _, c2, c1, c3.symm, rfl⟩
        · intro N hN
          refine ⟨_, rfl, rfl, _, rfl, ?_⟩
          refine ite_d (fun c => ?_) (fun c => hN _ H10 ⟨p10, a, b, _, _, am, bm, bne.symm, rfl⟩)
          obtain ⟨vs2, m1, m2'⟩ := p10.ps
          refine ⟨_, rfl, _, rfl, _, rfl, L, _, rfl, .inl (SqL.of m1), h, ca, cells, ps'.length, by rw [m2'.1]; rfl, p10.hh, pos', by omega, fun r H12 k12 hh12 hr => ?_⟩
          obtain ⟨a', b', pb, c1, c2, c3, e1, e2⟩ := pick (m2'.keep k12) r hr
          refine ⟨L, _, _, _, rfl, rfl, SqL.of (k12.get _ _ m1 (hne nLH)), atI_nat e1, pb, _, rfl, SqT.of e2, rfl, _, _, rfl, _, _, rfl, rfl, ?_⟩
          exact hN _ H12 ⟨p10.go k12 hh12 (hne nLH) (hne nG), a', b', _, _, c1, c2, c3, rfl⟩
      · rintro σ H7 ⟨ps', x6, x7, x8, x9, x10, rfl, p7, len', ri'⟩
        rw [Int.toNat_natCast] at len'
        obtain ⟨vs2, m1, m2'⟩ := p7.ps
        have l60 : ps'.length ≤ 60 := by omega
        refine ⟨_, rfl, _, rfl, _, rfl, _, rfl, h, ca, cells, L, vs2, rfl, p7.hh, SqL.of m1, by rw [m2'.1]; omega, fun sr ys H8 nsr k8 hh8 hsr hperm => ?_⟩
        have p8 := p7.go k8 hh8 (hne nLH) (hne nG)
        obtain ⟨qs, qp, hqs⟩ := pairs_perm (m2'.keep k8) hperm
        refine ⟨_, rfl, sr, _, rfl, SqL.of hsr, fun cu ncu => ?_⟩
        have ec : cutV ys none (some 60) = ys := by
          unfold cutV
          have yl : ys.length ≤ 60 := by rw [hqs.1, qp.length_eq]; exact l60
          rw [show HT.sIx ys.length 0 none = 0 from rfl, show HT.sIx ys.length ys.length (some 60) = min 60 ys.length from HT.sIx_nat _ _ 60, List.drop_zero, Nat.sub_zero, Nat.min_eq_right yl, List.take_length]
        rw [ec]
        have k9 : Kp [] H8 (upd H8 cu (.lst ys)) := Kp.mk_new ncu
        have hcu : LstP (upd H8 cu (.lst ys)) cu qs := ⟨ys, upd_same, hqs.keep k9⟩
        have p9 := p8.new k9
        have ncuH := p8.k.free ncu
        generalize upd H8 cu (.lst ys) = H9 at k9 hcu p9 ⊢
        have good : Good ⟨m, qs, gsl m s'⟩ := ⟨m2, by show m ≤ 40; omega, by show qs.length ≤ 60; rw [qp.length_eq]; exact l60, fun a ha => ri'.arr a (qp.mem_iff.mp ha), gsl_lot, by
          show gsl m s' ≠ []
          exact List.ne_nil_of_mem (gsl_mem.mpr ⟨Nat.le_refl _, sm⟩), fun z => by have := (gsl_mem.mp z).1; omega, fun g hg => (ri'.rch g hg).more fun a ha => qp.mem_iff.mpr ha⟩
        refine ⟨_, rfl, h, ca, cells, cu, G, ⟨m, qs, gsl m s'⟩, rfl, p9.hh, hcu, p9.gs, fun e => hne ncuH (by simp [e]), fun e => hne nG (by simp [e]), good, fun t ar gl P' H10 k10 hh10 ht har hgl G' em => ?_⟩
        exact q t ar gl P' H10 (p9.k.trans k10 fun _ m => .inl m) hh10 ht har hgl G' (by rw [em]; exact mp)
  · intro N hN
    have hh2 := hh1.new k2
    have k02 : Kp [h] H H2 := k1.add k2
    refine flowIf (fun b H' => Kp [h] H H' ∧ Hand H' h ca cells ∧ (b = true → 3 < m) ∧ Kp [h] H2 H') ?_ ?_
    · rintro b H3 ⟨k3, hh3, hb, k23⟩
      refine ite_b (fun c => ?_) (fun c => hN _ H3 ⟨k3, hh3, g0, m - 1, ng0H, k23.get _ _ hg0 (hne ng0H), by omega, by omega, rfl⟩)
      have m3 := hb c
      refine ⟨_, rfl, _, _, rfl, rfl, _, rfl, _, rfl, _, _, rfl, rfl, _, _, rfl, h, ca, cells, min 4 (m - 3), ?_, hh3, by omega, by omega, fun r H4 k4 hh4 hr4 => ?_⟩
      · have e : (if ((m : Int) - 3) < 4 then ((m : Int) - 3) else 4) = ((min 4 (m - 3) : Nat) : Int) := by split <;> omega
        exact congrArg (fun z => [V.ref h, V.int z]) e
      refine ⟨_, _, rfl, rfl, _, rfl, _, _, rfl, rfl, RgOk.of_le (by omega) (by omega) (by omega) (by omega), fun G nG => ?_⟩
      have es : ((m : Int) - 2 - (r : Int)) = ((m - 2 - r : Nat) : Int) := by omega
      dsimp only
      rw [es, rg_gsl (by omega)]
      have k34 := k3.trans k4 fun _ m => .inl m
      exact hN _ _ ⟨k34.new nG, hh4.new (Kp.mk_new nG), G, m - 2 - r, k34.free nG, upd_same, by omega, by omega, rfl⟩
    · intro Q' hQ
      refine ⟨_, rfl, _, _, rfl, rfl, _, rfl, ?_⟩
      refine ite_d (fun c => ?_) (fun c => hQ false H2 ⟨k02, hh2, fun z => (nomatch z), Kp.refl⟩)
      exact ⟨_, rfl, h, ca, cells, 3, rfl, hh2, by decide, by decide, fun r H3 k3 hh3 _ => ⟨rfl, _, rfl, hQ _ H3 ⟨k02.trans k3 fun _ m => .inl m, hh3, fun _ => by omega, k3⟩⟩⟩
end
end K33
/-! K33L5: all orders -/
namespace K33
open PySem PySem.Spec PyProof.Rows L2
def ext (things row : List Nat) : List (List Nat) := (things.filter fun x => !decide (x ∈ row)).map fun x => row ++ [x]
def ordR (things : List Nat) : Nat → List (List Nat)
  | 0 => [[]]
  | k + 1 => (ordR things k).flatMap (ext things)
def allR (things : List Nat) (i : Nat) : List (List Nat) := (List.range (i + 1)).flatMap (ordR things)
theorem allR_succ (things : List Nat) (i : Nat) : allR things (i + 1) = allR things i ++ ordR things (i + 1) := by
  unfold allR
  rw [List.range_succ, List.flatMap_append]
  simp
theorem ord_mem {things : List Nat} : ∀ {k : Nat} {o : List Nat}, o ∈ ordR things k ↔ o.length = k ∧ o.Nodup ∧ ∀ x, x ∈ o → x ∈ things
  | 0, o => by
    constructor
    · intro h
      have : o = [] := by simpa [ordR] using h
      subst this
      exact ⟨rfl, List.nodup_nil, fun _ h => nomatch h⟩
    · rintro ⟨h, _⟩
      have : o = [] := List.eq_nil_of_length_eq_zero h
      subst this
      simp [ordR]
  | k + 1, o => by
    show o ∈ (ordR things k).flatMap (ext things) ↔ _
    rw [List.mem_flatMap]
    constructor
    · rintro ⟨row, hr, ho⟩
      obtain ⟨h1, h2, h3⟩ := ord_mem.mp hr
      obtain ⟨x, hx, rfl⟩ := List.mem_map.mp ho
      obtain ⟨hx1, hx2⟩ := List.mem_filter.mp hx
      have hx3 : x ∉ row := by simpa using hx2
      refine ⟨by simp [h1], ?_, fun y hy => ?_⟩
      · rw [List.nodup_append]
        exact ⟨h2, by simp, fun a ha b hb e => hx3 (by have : b = x := by simpa using hb
                                                       rw [← this, ← e]; exact ha)⟩
      · rcases List.mem_append.mp hy with z | z
        · exact h3 y z
        · have : y = x := by simpa using z
          exact this ▸ hx1
    · rintro ⟨h1, h2, h3⟩
      have hne : o ≠ [] := fun e => by rw [e] at h1; simp at h1
      have e := List.dropLast_concat_getLast hne
      generalize o.dropLast = row at e
      generalize o.getLast hne = x at e
      subst e
      rw [List.nodup_append] at h2
      refine ⟨row, ord_mem.mpr ⟨by simp at h1; exact h1, h2.1, fun y hy => h3 y (List.mem_append_left _ hy)⟩, ?_⟩
      refine List.mem_map.mpr ⟨x, List.mem_filter.mpr ⟨h3 x (by simp), ?_⟩, rfl⟩
      simp only [Bool.not_eq_true', decide_eq_false_iff_not]
      exact fun m => h2.2.2 x m x (by simp) rfl
theorem sub_len {things o : List Nat} (nd : o.Nodup) (h : ∀ x, x ∈ o → x ∈ things) : o.length ≤ things.length := by
  have := nd_len (n := things.length) (l := o.map fun x => things.idxOf x) (map_nd nd fun x y hx hy e => by
    have h1 := List.getElem_idxOf (List.idxOf_lt_length_of_mem (h x hx))
    have h2 := List.getElem_idxOf (List.idxOf_lt_length_of_mem (h y hy))
    rw [← h1, ← h2]
    congr 1) fun v hv => by
      obtain ⟨x, hx, rfl⟩ := List.mem_map.mp hv
      exact List.idxOf_lt_length_of_mem (h x hx)
  rw [List.length_map] at this
  exact this
theorem all_mem {things o : List Nat} : o ∈ allR things things.length ↔ o.Nodup ∧ ∀ x, x ∈ o → x ∈ things := by
  unfold allR
  rw [List.mem_flatMap]
  constructor
  · rintro ⟨k, _, h⟩
    exact (ord_mem.mp h).2
  · intro h
    exact ⟨o.length, List.mem_range.mpr (by have := sub_len h.1 h.2; omega), ord_mem.mpr ⟨rfl, h⟩⟩
theorem ext_len (things row : List Nat) : (ext things row).length ≤ things.length := by
  unfold ext
  rw [List.length_map]
  exact List.length_filter_le _ _
theorem flat_len {α β : Type} {f : α → List β} {c : Nat} (h : ∀ x, (f x).length ≤ c) : ∀ l : List α, (l.flatMap f).length ≤ l.length * c
  | [] => by simp
  | x :: l => by
    have ih := flat_len h l
    have := h x
    rw [List.flatMap_cons, List.length_append, List.length_cons, Nat.add_mul]
    omega
theorem ord_len {things : List Nat} (h5 : things.length ≤ 5) : ∀ k, k ≤ 5 → (ordR things k).length ≤ 5 ^ k
  | 0, _ => by simp [ordR]
  | k + 1, hk => by
    have ih := ord_len h5 k (by omega)
    have := flat_len (ext_len things) (ordR things k)
    show ((ordR things k).flatMap (ext things)).length ≤ 5 ^ (k + 1)
    rw [Nat.pow_succ]
    exact Nat.le_trans this (Nat.mul_le_mul ih h5)
theorem ord_len5 {things : List Nat} (h5 : things.length ≤ 5) {k : Nat} (hk : k ≤ 5) : (ordR things k).length ≤ 3125 := Nat.le_trans (ord_len h5 k hk) (Nat.pow_le_pow_right (by decide) hk)
theorem all_len {things : List Nat} (h5 : things.length ≤ 5) : ∀ {i : Nat}, i ≤ 5 → (allR things i).length ≤ (i + 1) * 3125
  | 0, _ => by simp [allR, ordR]
  | i + 1, hi => by
    have ih := all_len h5 (i := i) (by omega)
    have := ord_len5 h5 hi
    rw [allR_succ, List.length_append]
    omega
theorem all_len6 {things : List Nat} (h5 : things.length ≤ 5) {i : Nat} (hi : i ≤ 5) : (allR things i).length ≤ 18750 := by
  have := all_len h5 hi
  omega
theorem six_ok {a b : Nat} (h1 : a ≤ 18750) (h2 : b ≤ 3125) : a + b ≤ sizeLine := sz (by omega)
theorem le5 {i n : Nat} (h : i < n) (h5 : n ≤ 5) : i ≤ 5 ∧ i + 1 ≤ 5 := by omega
/-- tuples of Nats -/
def cst (r : List Nat) : List Int := r.map fun (v : Nat) => (v : Int)
theorem cst_vn (r : List Nat) : (cst r).map V.int = r.map vn := by
  unfold cst
  rw [List.map_map]; rfl
def TupsN (H : Hp) (vs : List V) (rs : List (List Nat)) : Prop := TupsV H vs (rs.map cst)
theorem TupsN.keep {S : List Addr} {H H1 : Hp} {vs : List V} {rs : List (List Nat)} (h : TupsN H vs rs) (k : Kp S H H1) : TupsN H1 vs rs := TupsV.keep h k
theorem TupsN.nil {H : Hp} : TupsN H [] [] := TupsV.nil
theorem TupsN.len {H : Hp} {vs : List V} {rs : List (List Nat)} (h : TupsN H vs rs) : vs.length = rs.length := by have := h.1; rw [List.length_map] at this; exact this
theorem TupsN.snoc {H : Hp} {vs : List V} {rs : List (List Nat)} {a : Addr} {r : List Nat} (h : TupsN H vs rs) (e : H a = some (.tup (r.map vn))) : TupsN H (vs ++ [.ref a]) (rs ++ [r]) := by
  unfold TupsN
  rw [List.map_append]
  exact TupsV.snoc (b := cst r) h (by rw [cst_vn]; exact e)
theorem TupsN.at_ {H : Hp} {vs : List V} {rs : List (List Nat)} (h : TupsN H vs rs) {i : Nat} {x : V} (e : vs[i]? = some x) : ∃ r a, rs[i]? = some r ∧ x = .ref a ∧ H a = some (.tup (r.map vn)) := by
  have hi : i < rs.length := by
    have := (List.getElem?_eq_some_iff.mp e).1
    rw [h.len] at this; exact this
  obtain ⟨a, h1, h2⟩ := h.2 i (cst rs[i]) (by rw [List.getElem?_map, List.getElem?_eq_getElem hi]; rfl)
  rw [e] at h1
  exact ⟨rs[i], a, List.getElem?_eq_getElem hi, Option.some.inj h1, by rw [← cst_vn]; exact h2⟩
theorem TupsN.app {H : Hp} {vs us : List V} {rs ss : List (List Nat)} (h : TupsN H vs rs) (h' : TupsN H us ss) : TupsN H (vs ++ us) (rs ++ ss) := by
  refine ⟨by rw [List.length_append, List.map_append, List.length_append, h.1, h'.1], fun i b hb => ?_⟩
  rw [List.map_append] at hb
  by_cases hi : i < (rs.map cst).length
  · rw [List.getElem?_append_left hi] at hb
    obtain ⟨a, h1, h2⟩ := h.2 i b hb
    exact ⟨a, by rw [List.getElem?_append_left (by rw [h.1]; exact hi)]; exact h1, h2⟩
  · rw [List.getElem?_append_right (by omega)] at hb
    obtain ⟨a, h1, h2⟩ := h'.2 _ b hb
    exact ⟨a, by rw [List.getElem?_append_right (by rw [h.1]; omega), h.1]; exact h1, h2⟩
theorem take_flat {α β : Type} {f : α → List β} {l : List α} {j : Nat} {x : α} (h : l[j]? = some x) : (l.take (j + 1)).flatMap f = (l.take j).flatMap f ++ f x := by
  rw [take_more h, List.flatMap_append]; simp
section
variable {P : Program} {w : World} {K : PySem.W.Frag} {mg : Str → Option Value} {base : Heap}
def spOrders (K : PySem.W.Frag) : Sp := fun vs H Q _ => ∃ (a : Addr) (things : List Nat), vs = [.ref a] ∧ H a = some (.lst (things.map vn)) ∧ things.length ≤ 5 ∧
  ∀ (r : Addr) (ys : List V) H', Kp [] H H' → H' r = some (.lst ys) → TupsN H' ys (allR things things.length) → Q (.ref r) H'
theorem ok_orders (T : Tx K mg)  : FnOk P w K mg base CX0 1 T.d_law_orders.f T.d_law_orders.fd ["_law_things"] (spOrders K) := by
  refine T.d_law_orders.F.ok sc_law_orders (fun vs H Q E h => ?_) (fun cdv A outer s H vs Q E hr h => ?_)
  · obtain ⟨a, things, rfl, _⟩ := h; rfl
  obtain ⟨a, things, rfl, ha, h5, q⟩ := h
  refine ⟨_, (pss_cons (ps_set (i := 1) sc_law_orders.nd rfl (Or.inl rfl) (pe_lst (pa_cons (pe_tup pa_nil) pa_nil)))
  (pss_cons (ps_set (i := 2) sc_law_orders.nd rfl (Or.inl rfl) (pe_lst (pa_cons (pe_tup pa_nil) pa_nil)))
  (pss_cons (ps_for PassesOwn.never rfl (pi_range1 rfl T.b_range (pa_cons (pe_callB call_len_seq (by rfl) T.b_len (by decide +kernel) (pa_cons (pv 0) pa_nil)) pa_nil)) (pg_name (i := 3) sc_law_orders.nd rfl (Or.inl rfl)) (pss_cons (ps_set (i := 4) sc_law_orders.nd rfl (Or.inl rfl) (pe_lst pa_nil))
  (pss_cons (ps_for PassesOwn.never rfl (pi_list (pv 2)) (pg_name (i := 5) sc_law_orders.nd rfl (Or.inr rfl)) (pss_one (ps_expr (pe_bm PySem.F.plainAttrs_list PySem.F.slot_list_extend PySem.F.type_list_extend mt_extend (pv 4) (pa_cons (pe_lc (own := [("_law_one", 6)]) (g := (gName 6)) (tt := (tTest (tOp (rIn K true) _ _))) (te := (tOp (rCatA K) _ _)) (hs := by intro _; rfl) rfl sc_law_orders.nd (pi_list (pv 0)) (blkOk_by (N := ["_law_things", "_law_found", "_law_last", "_law_turn", "_law_longer", "_law_row", "_law_one"]) (sc := defScope s_law_orders) (own := [("_law_one", 6)]) (by decide +kernel)) (fun _ _ _ _ _ => (pg_name (i := 6) sc_law_orders.nd rfl (Or.inl rfl) (hf := by exact Or.inr rfl))) (fun _ _ _ _ _ => (by exact (pts_one (pt_cmpR op_notIn_seq (pv 6) (pv 5) (by rfl))))) (fun _ _ _ _ _ => (pe_op op_catA (pv 5) (pe_tup (pa_cons (pv 6) pa_nil))))) pa_nil)))))
  (pss_cons (ps_expr (pe_bm PySem.F.plainAttrs_list PySem.F.slot_list_extend PySem.F.type_list_extend mt_extend (pv 1) (pa_cons (pv 4) pa_nil)))
  (pss_one (ps_set (i := 2) sc_law_orders.nd rfl (Or.inl rfl) (pv 4)))))))
  (pss_one (ps_ret (pv 1)))))), ?_⟩
  refine ⟨Nat.zero_le _, fun z1 nz1 => ⟨sz (by show 1 ≤ 100000; decide), fun L nL => ?_⟩⟩
  have k1 : Kp [] H (upd (upd H z1 (.tup [])) L (.lst [.ref z1])) := (Kp.mk_new nz1).new nL
  have hL : (upd (upd H z1 (.tup [])) L (.lst [.ref z1])) L = some (.lst [.ref z1]) := upd_same
  have nLH : H L = none := (Kp.mk_new nz1).free nL
  have hz1 : (upd (upd H z1 (.tup [])) L (.lst [.ref z1])) z1 = some (.tup (([] : List Nat).map vn)) := by
    rw [upd_ne (ne_of_none upd_same nL)]; exact upd_same
  generalize upd (upd H z1 (.tup [])) L (.lst [.ref z1]) = H1 at k1 hL hz1 ⊢
  refine ⟨Nat.zero_le _, fun z2 nz2 => ⟨sz (by show 1 ≤ 100000; decide), fun La nLa => ?_⟩⟩
  have k2 : Kp [] H1 (upd (upd H1 z2 (.tup [])) La (.lst [.ref z2])) := (Kp.mk_new nz2).new nLa
  have hLa : (upd (upd H1 z2 (.tup [])) La (.lst [.ref z2])) La = some (.lst [.ref z2]) := upd_same
  have nLa1 : H1 La = none := (Kp.mk_new nz2).free nLa
  have hz2 : (upd (upd H1 z2 (.tup [])) La (.lst [.ref z2])) z2 = some (.tup (([] : List Nat).map vn)) := by
    rw [upd_ne (ne_of_none upd_same nLa)]; exact upd_same
  generalize upd (upd H1 z2 (.tup [])) La (.lst [.ref z2]) = H2 at k2 hLa hz2 ⊢
  have ha2 := (k1.add k2).get _ _ ha (by simp)
  refine ⟨_, rfl, a, _, rfl, .inl (SqL.of ha2), _, rfl, by rw [List.length_map]; omega, by rw [List.length_map]; omega, for_range (lo := 0) (n := (((things.map vn).length : Nat) : Int).toNat) (fun i σ H' => Kp [] H H' ∧ ∃ (La : Addr) (fs ls : List V) (x3 x4 x5 x6 : Option V), σ = [some (.ref a), some (.ref L), some (.ref La), x3, x4, x5, x6] ∧
      L ≠ La ∧ H' L = some (.lst fs) ∧ TupsN H' fs (allR things i) ∧ H' La = some (.lst ls) ∧ TupsN H' ls (ordR things i))
    ⟨k1.add k2, La, _, _, _, _, _, _, rfl, ne_of_none hL nLa1, k2.get _ _ hL (by simp), TupsN.nil.snoc (k2.tup _ _ hz1), hLa, TupsN.nil.snoc hz2⟩ ?_ ?_⟩
  · rintro i σ H3 hi ⟨k3, La, fs, ls, x3, x4, x5, x6, rfl, neL, hL3, tf, hLa3, tl⟩
    rw [Int.toNat_natCast, List.length_map] at hi
    refine ⟨Nat.zero_le _, fun G nG => ?_⟩
    have k4 : Kp [] H3 (upd H3 G (.lst [])) := Kp.mk_new nG
    have hG : (upd H3 G (.lst [])) G = some (.lst []) := upd_same
    generalize upd H3 G (.lst []) = H4 at k4 hG ⊢
    have nGH := k3.free nG
    have neG : L ≠ G := ne_of_none hL3 nG
    have neA : La ≠ G := ne_of_none hLa3 nG
    have tl4 := tl.keep k4
    have hLa4 := k4.get _ _ hLa3 (by simp)
    dsimp only [gName]
    refine ⟨_, rfl, La, rfl, ⟨_, SqL.of hLa4⟩, for_list (K := K) (a := La) (xs := ls) (fun j σ H' => Kp [G] H4 H' ∧ Kp [] H H' ∧ ∃ (gs : List V) (x3 x5 x6 : Option V), σ = [some (.ref a), some (.ref L), some (.ref La), x3, some (.ref G), x5, x6] ∧ H' G = some (.lst gs) ∧ TupsN H' gs (((ordR things i).take j).flatMap (ext things)))
      ⟨Kp.refl, k3.add k4, [], _, _, _, rfl, hG, TupsN.nil⟩ (fun j σ H' _ ⟨k, _⟩ => SqL.of (k.get _ _ hLa4 (by simp [neA]))) ?_ ?_⟩
    · rintro j x σ H5 hj ⟨k5, k05, gs, x3, x5, x6, rfl, hG5, tg⟩
      obtain ⟨row, ra, hrow, rfl, hra⟩ := (tl4.keep k5).at_ hj
      have hj' := (List.getElem?_eq_some_iff.mp hrow).1
      have ha5 := k05.get _ _ ha (by simp)
      refine ⟨_, rfl, .inl ⟨rfl, _, SqL.of hG5⟩, _, rfl, a, rfl, ⟨_, SqL.of ha5⟩, fun D nD => lc_list (K := K) (a := a) (xs := things.map vn) (fun k H' => Kp [] H5 H' ∧ ∃ ds, H' D = some (.lst ds) ∧ TupsN H' ds (((things.take k).filter fun x => !decide (x ∈ row)).map fun x => row ++ [x])) ⟨Kp.mk_new nD, [], upd_same, TupsN.nil⟩ (fun k H' _ ⟨k', _⟩ => SqL.of (k'.get _ _ ha5 (by simp))) ?_ ?_⟩
      · rintro k y H6 hk ⟨k6, ds, hD, td⟩
        obtain ⟨v, hv, rfl⟩ := map_at hk
        have hk' := (List.getElem?_eq_some_iff.mp hv).1
        have hra6 := k6.tup _ _ hra
        have dl : ds.length ≤ k := by
          rw [td.len, List.length_map]
          have := List.length_filter_le (fun x => !decide (x ∈ row)) (things.take k)
          rw [List.length_take] at this; omega
        refine ⟨rfl, _, rfl, _, rfl, ra, _, rfl, .inr (SqT.of hra6), rfl, flat_all, _, rfl, ?_⟩
        rw [if_pos rfl, inV_nat, take_more hv, List.filter_append]
        refine ite_b (fun c => ?_) (fun c => ?_)
        · refine ⟨_, rfl, _, rfl, sz (by show 1 ≤ 100000; decide), fun u nu => ?_⟩
          have k7 : Kp [] H6 (upd H6 u (.tup [vn v])) := Kp.mk_new nu
          have hu : (upd H6 u (.tup [vn v])) u = some (.tup (([v] : List Nat).map vn)) := upd_same
          generalize upd H6 u (.tup [vn v]) = H7 at k7 hu ⊢
          have go : ∀ (t : Addr) H8, Kp [] H7 H8 → H8 t = some (.tup ((row ++ [v]).map vn)) → ∃ acc, H8 D = some (.lst acc) ∧ acc.length < sizeLine ∧ (Kp [] H5 (upd H8 D (.lst (acc ++ [.ref t]))) ∧ ∃ ds, (upd H8 D (.lst (acc ++ [.ref t]))) D = some (.lst ds) ∧ TupsN (upd H8 D (.lst (acc ++ [.ref t]))) ds (((things.take k).filter (fun x => !decide (x ∈ row)) ++ [v].filter fun x => !decide (x ∈ row)).map fun x => row ++ [x])) := fun t H8 k8 ht => by
            have hD8 := (k7.add k8).get _ _ hD (by simp)
            have kD : Kp [D] H6 (upd H8 D (.lst (ds ++ [.ref t]))) := ((k7.add k8).weak fun _ m => nomatch m).put hD8 (by exact trivial) (.inl (by simp))
            refine ⟨ds, hD8, szl (by omega), (k6.add (k7.add k8)).put hD8 (by exact trivial) (.inr nD), _, upd_same, ?_⟩
            rw [List.filter_cons, if_pos c, List.filter_nil, List.map_append]
            refine (td.keep kD).snoc (r := row ++ [v]) ?_
            have : t ≠ D := fun e => by rw [e, hD8] at ht; cases ht
            rw [upd_ne this]; exact ht
          refine ⟨ra, u, _, _, rfl, rfl, SqT.of (k7.tup _ _ hra6), SqT.of hu, sz ?_, fun e => ?_, fun _ e => (by simp at e), fun e _ p np => ?_⟩
          · have hm := ord_mem.mp (List.mem_of_getElem? hrow)
            rw [List.length_map, hm.1]; simp; omega
          · have : row = [] := by simpa using e
            subst this
            exact go u H7 Kp.refl hu
          · exact go p _ (Kp.mk_new np) (by rw [upd_same, List.map_append])
        · refine ⟨k6, ds, hD, ?_⟩
          rw [List.filter_cons, if_neg (by rw [c]; decide), List.filter_nil, List.append_nil]
          exact td
      · rintro H6 ⟨k6, ds, hD, td⟩
        rw [List.length_map, List.take_length] at td
        have hG6 := k6.get _ _ hG5 (by simp)
        have gl : gs.length ≤ 3125 * 5 := by
          rw [tg.len]
          have h1 := flat_len (ext_len things) ((ordR things i).take j)
          have h2 := ord_len5 h5 (show i ≤ 5 by omega)
          rw [List.length_take] at h1
          exact Nat.le_trans h1 (Nat.mul_le_mul (by omega) h5)
        have dl : ds.length ≤ 5 := by rw [td.len]; exact Nat.le_trans (ext_len things row) h5
        have neD : G ≠ D := ne_of_none hG5 nD
        refine ⟨G, D, gs, ds, rfl, rfl, hG6, hD, sz (by omega), ?_⟩
        have kG : Kp [G] H5 (upd H6 G (.lst (gs ++ ds))) := (k6.weak fun _ m => nomatch m).put hG6 (by exact trivial) (.inl (by simp))
        have kG' : Kp [G] H6 (upd H6 G (.lst (gs ++ ds))) := Kp.mk_put hG6 (by exact trivial)
        refine ⟨k5.trans kG fun _ m => .inl m, (k05.add k6).put hG6 (by exact trivial) (.inr nGH), gs ++ ds, _, _, _, rfl, upd_same, ?_⟩
        rw [take_flat hrow]
        exact (tg.keep kG).app (td.keep kG')
    · rintro σ H5 ⟨k5, k05, gs, x3, x5, x6, rfl, hG5, tg⟩
      have etl : (ordR things i).take ls.length = ordR things i := List.take_of_length_le (by rw [tl.len]; exact Nat.le_refl _)
      rw [etl] at tg
      have tg' : TupsN H5 gs (ordR things (i + 1)) := tg
      have hL5 := k5.get _ _ (k4.get _ _ hL3 (by simp)) (by simp [neG])
      have fl : fs.length ≤ 18750 := Nat.le_trans (Nat.le_of_eq tf.len) (all_len6 h5 (le5 hi h5).1)
      have gl : gs.length ≤ 3125 := Nat.le_trans (Nat.le_of_eq tg'.len) (ord_len5 h5 (le5 hi h5).2)
      refine ⟨_, rfl, .inl ⟨rfl, _, SqL.of hL5⟩, _, rfl, L, G, fs, gs, rfl, rfl, hL5, hG5, six_ok fl gl, ?_⟩
      have kL : Kp [L] H5 (upd H5 L (.lst (fs ++ gs))) := Kp.mk_put hL5 (by exact trivial)
      refine ⟨_, rfl, k05.put hL5 (by exact trivial) (.inr nLH), G, fs ++ gs, gs, _, _, _, _, rfl, neG, upd_same, ?_, by rw [upd_ne neG.symm]; exact hG5, tg'.keep kL⟩
      rw [allR_succ]
      exact (((tf.keep k4).keep k5).keep kL).app (tg'.keep kL)
  · rintro σ H3 ⟨k3, La, fs, ls, x3, x4, x5, x6, rfl, neL, hL3, tf, hLa3, tl⟩
    rw [Int.toNat_natCast, List.length_map] at tf
    exact ⟨_, rfl, q L fs H3 k3 hL3 tf⟩
end
end K33
/-! K33L6: the excess of an order -/
namespace K33
open PySem PySem.Spec PyProof.Rows L2
/-- v's arrows do, o's leading arrows being ls -/
def PvOk (P : Pt) (ls : List (Nat × Nat)) (v : Nat) : Prop := (v = 0 ∨ v ∈ ls.map (·.2)) ∧ (v ∈ P.goals ∨ v ∈ ls.map (·.1))
def ExIs (P : Pt) (o : List Nat) (x : Option Int) : Prop :=
  (x = none ∧ ∃ v, v ∈ o ∧ ¬ PvOk P (P.arrows.filter (fwd o)) v) ∨ (x = some (((P.arrows.filter (fwd o)).length : Int) - o.length + 1) ∧ ∀ v, v ∈ o → PvOk P (P.arrows.filter (fwd o)) v)
theorem filt_more {α : Type} {p : α → Bool} {l : List α} {j : Nat} {x : α} (h : l[j]? = some x) : (l.take (j + 1)).filter p = (l.take j).filter p ++ if p x = true then [x] else [] := by
  rw [take_more h, List.filter_append, List.filter_cons]
  rfl
theorem filt_take {α : Type} {p : α → Bool} (l : List α) (j : Nat) : ((l.take j).filter p).length ≤ l.length := Nat.le_trans (List.length_filter_le _ _) (List.length_take_le' ..)
section
variable {P : Program} {w : World} {K : PySem.W.Frag} {mg : Str → Option Value} {base : Heap}
def spExcess : Sp := fun vs H Q _ => ∃ (pt ot ar gl : Addr) (P : Pt) (o : List Nat), vs = [.ref pt, .ref ot] ∧ H pt = some (.tup [vn P.many, .ref ar, .ref gl]) ∧ TupP H ar P.arrows ∧ TupN H gl P.goals ∧ TupN H ot o ∧ o.Nodup ∧ o.length ≤ 1000 ∧ P.arrows.length ≤ 60 ∧
  ∀ (x : Option Int) H', Kp [] H H' → ExIs P o x → Q (optV x) H'
theorem ok_excess (T : Tx K mg)  : FnOk P w K mg base CX0 1 T.d_law_excess_of.f T.d_law_excess_of.fd ["_law_parts_here", "_law_order"] (spExcess) := by
  refine T.d_law_excess_of.F.ok sc_law_excess_of (fun vs H Q E h => ?_) (fun cdv A outer s H vs Q E hr h => ?_)
  · obtain ⟨pt, ot, ar, gl, P', o, rfl, _⟩ := h; rfl
  obtain ⟨pt, ot, ar, gl, P', o, rfl, hpt, ⟨vs, a1, a2⟩, hgl, hot, nd, olen, alen, q⟩ := h
  have hu := hu_of hr
  refine ⟨_, (pss_cons (ps_asg (pv 0) (pg_tup rfl (pgs_cons (pg_name (i := 2) sc_law_excess_of.nd rfl (Or.inl rfl)) (pgs_cons (pg_name (i := 3) sc_law_excess_of.nd rfl (Or.inl rfl)) (pgs_cons (pg_name (i := 4) sc_law_excess_of.nd rfl (Or.inl rfl)) pgs_nil)))))
  (pss_cons (ps_set (i := 5) sc_law_excess_of.nd rfl (Or.inr rfl) pe_dnewK)
  (pss_cons (ps_for PassesOwn.never rfl (pi_range1 rfl T.b_range (pa_cons (pe_callB call_len_seq (by rfl) T.b_len (by decide +kernel) (pa_cons (pv 1) pa_nil)) pa_nil)) (pg_name (i := 6) sc_law_excess_of.nd rfl (Or.inl rfl)) (pss_one (ps_dput hu (pv 5) (pe_ix ix_tup (pv 1) (pv 6) (fun _ _ => rfl)) (pv 6) rfl)))
  (pss_cons (ps_setLc (i := 7) (own := [("_law_pair", 11)]) (g := (gName 11)) (tt := (tAnd (tB (tDIn (tOp (rIxT K) _ _) _)) (tAnd (tB (tDIn (tOp (rIxT K) _ _) _)) (tTest (tOp _ (tDGet _ (tOp (rIxT K) _ _)) (tDGet _ (tOp (rIxT K) _ _))))))) (hs := by intro _; rfl) rfl sc_law_excess_of.nd rfl rfl (sw_true rfl rfl rfl (by decide +kernel)) (pi_tup (pv 3)) (blkOk_by (N := ["_law_parts_here", "_law_order", "_law_many", "_law_arrows", "_law_goals", "_law_at", "_law_k", "_law_lead", "_law_heads", "_law_tails", "_law_place", "_law_pair"]) (sc := defScope s_law_excess_of) (own := [("_law_pair", 11)]) (by decide +kernel)) (fun _ _ _ _ _ => (pg_name (i := 11) sc_law_excess_of.nd rfl (Or.inl rfl) (hf := by exact Or.inr rfl))) (fun _ _ _ _ _ => (by exact (pts_one (PW.pt (pw_and (pt_cmp (pc_din hu (pe_ix ix_tup (pv 11) pe_int (fun _ _ => rfl)) (pv 5))) (pw_and (pt_cmp (pc_din hu (pe_ix ix_tup (pv 11) pe_int (fun _ _ => rfl)) (pv 5))) (pw_and1 (pt_cmpR op_lt (pe_dget hu (pv 5) (pe_ix ix_tup (pv 11) pe_int (fun _ _ => rfl)) (fun _ _ => rfl)) (pe_dget hu (pv 5) (pe_ix ix_tup (pv 11) pe_int (fun _ _ => rfl)) (fun _ _ => rfl)) (nomark _))))))))) (fun _ _ _ _ _ => (pv 11)))
  (pss_cons (ps_setLc (i := 8) (own := [("_law_pair", 11)]) (g := (gName 11)) (te := (tOp (rIxT K) _ _)) (hs := by intro _; rfl) rfl sc_law_excess_of.nd rfl rfl (sw_true rfl rfl rfl (by decide +kernel)) (pi_list (pv 7)) (blkOk_by (N := ["_law_parts_here", "_law_order", "_law_many", "_law_arrows", "_law_goals", "_law_at", "_law_k", "_law_lead", "_law_heads", "_law_tails", "_law_place", "_law_pair"]) (sc := defScope s_law_excess_of) (own := [("_law_pair", 11)]) (by decide +kernel)) (fun _ _ _ _ _ => (pg_name (i := 11) sc_law_excess_of.nd rfl (Or.inl rfl) (hf := by exact Or.inr rfl))) (fun _ _ _ _ _ => pts_nil) (fun _ _ _ _ _ => (pe_ix ix_tup (pv 11) pe_int (fun _ _ => rfl))))
  (pss_cons (ps_setLc (i := 9) (own := [("_law_pair", 11)]) (g := (gName 11)) (te := (tOp (rIxT K) _ _)) (hs := by intro _; rfl) rfl sc_law_excess_of.nd rfl rfl (sw_true rfl rfl rfl (by decide +kernel)) (pi_list (pv 7)) (blkOk_by (N := ["_law_parts_here", "_law_order", "_law_many", "_law_arrows", "_law_goals", "_law_at", "_law_k", "_law_lead", "_law_heads", "_law_tails", "_law_place", "_law_pair"]) (sc := defScope s_law_excess_of) (own := [("_law_pair", 11)]) (by decide +kernel)) (fun _ _ _ _ _ => (pg_name (i := 11) sc_law_excess_of.nd rfl (Or.inl rfl) (hf := by exact Or.inr rfl))) (fun _ _ _ _ _ => pts_nil) (fun _ _ _ _ _ => (pe_ix ix_tup (pv 11) pe_int (fun _ _ => rfl))))
  (pss_cons (ps_for PassesOwn.never rfl (pi_tup (pv 1)) (pg_name (i := 10) sc_law_excess_of.nd rfl (Or.inl rfl)) (pss_one (ps_if (PW.pt (pw_or (PW.pt (pw_and (pt_cmpR op_ne (pv 10) pe_int (nomark _)) (pw_and1 (pt_cmpR op_notIn_seq (pv 10) (pv 8) (by rfl))))) (pw_or1 (PW.pt (pw_and (pt_cmpR op_notIn_seq (pv 10) (pv 4) (by rfl)) (pw_and1 (pt_cmpR op_notIn_seq (pv 10) (pv 9) (by rfl)))))))) (pss_one (ps_ret pe_non)) pss_nil)))
  (pss_one (ps_ret (pe_op op_add (pe_op op_sub (pe_callB call_len_seq (by rfl) T.b_len (by decide +kernel) (pa_cons (pv 7) pa_nil)) (pe_callB call_len_seq (by rfl) T.b_len (by decide +kernel) (pa_cons (pv 1) pa_nil))) pe_int)))))))))), ?_⟩
  refine ⟨_, rfl, pt, _, rfl, SqT.of hpt, rfl, _, _, rfl, _, _, rfl, _, _, rfl, rfl, ?_⟩
  intro nm nnm
  have k1 : Kp [] H (upd H nm (.dK [])) := Kp.mk_new nnm
  have hnm : (upd H nm (.dK [])) nm = some (.dK []) := upd_same
  generalize upd H nm (.dK []) = H1 at k1 hnm ⊢
  dsimp only [gName]
  refine ⟨_, rfl, ot, _, rfl, .inr (SqT.of (hot.keep k1)), _, rfl, by rw [List.length_map]; omega, by rw [List.length_map]; omega, for_range (lo := 0) (n := (((o.map vn).length : Nat) : Int).toNat) (fun i σ H' => Kp [] H H' ∧ NumD H' nm o i ∧ ∃ x6 : Option V, σ = [some (.ref pt), some (.ref ot), some (vn P'.many), some (.ref ar), some (.ref gl), some (.ref nm), x6, none, none, none, none, none])
    ⟨k1, NumD.nil hnm, _, rfl⟩ ?_ ?_⟩
  · rintro i σ H2 hi ⟨k2, N2, x6, rfl⟩
    rw [Int.toNat_natCast, List.length_map] at hi
    obtain ⟨kvs, n1, n2, n3⟩ := N2.ex
    have hx : o[i]? = some o[i] := List.getElem?_eq_getElem hi
    rw [Int.zero_add]
    refine ⟨_, rfl, _, rfl, _, rfl, _, rfl, ot, _, _, _, rfl, rfl, SqT.of (hot.keep k2), atI_nat (v := vn o[i]) (by rw [List.getElem?_map, hx]; rfl), nm, _, rfl, DPut.k (k := .inl (o[i] : Int)) n1 (szl (Nat.lt_of_le_of_lt n2 (Nat.lt_of_lt_of_le hi (Nat.le_trans olen (by decide))))), ?_⟩
    exact ⟨k2.put n1 (by exact trivial) (.inr nnm), NumD.put nd hx n2 n3 upd_same, _, rfl⟩
  rintro σ H2 ⟨k2, N2, x6, rfl⟩
  rw [Int.toNat_natCast, List.length_map] at N2
  have ar2 := k2.tup _ _ a1
  refine ⟨_, rfl, ar, rfl, ⟨_, SqT.of ar2⟩, fun L nL => lc_tup (K := K) (a := ar) (xs := vs) (fun j H' => Kp [] H2 H' ∧ ∃ us, H' L = some (.lst us) ∧ PairsV H' us ((P'.arrows.take j).filter (fwd o))) ⟨Kp.mk_new nL, [], upd_same, PairsV.nil⟩ (fun j H' _ ⟨k, _⟩ => SqT.of (k.tup _ _ ar2)) ?_ ?_⟩
  · rintro j x H3 hj ⟨k3, us, hL, pv⟩
    obtain ⟨⟨tl, hd⟩, pa, hp, rfl, hpa⟩ := a2.at_ hj
    have hpa3 := (k2.add k3).tup _ _ hpa
    have N3 := N2.keep k3 (by simp)
    obtain ⟨o1, g1, e1⟩ := N3.get (v := tl)
    obtain ⟨o2, g2, e2⟩ := N3.get (v := hd)
    have ul : us.length ≤ 60 := by
      rw [pv.1]
      exact Nat.le_trans (filt_take _ _) alen
    have fi := fwd_idx nd (tl, hd)
    refine ⟨rfl, ?_⟩
    refine flow (G := tAnd _ _ _ _) (fun b H' => H' = H3 ∧ b = fwd o (tl, hd)) ?_ ?_
    · rintro b H4 ⟨rfl, rfl⟩
      rw [filt_more hp]
      refine ite_b (fun c => ?_) (fun c => ?_)
      · refine ⟨_, rfl, us, hL, szl (Nat.lt_of_le_of_lt ul (by decide)), k3.put hL trivial (.inr nL), us ++ [.ref pa], upd_same, ?_⟩
        rw [if_pos c]
        have kL : Kp [L] H4 (upd H4 L (.lst (us ++ [.ref pa]))) := Kp.mk_put hL (by exact trivial)
        exact (pv.keep kL).snoc (kL.tup _ _ hpa3)
      · refine ⟨k3, us, hL, ?_⟩
        rw [if_neg (by rw [c]; decide), List.append_nil]
        exact pv
    · intro Q' hQ
      refine ⟨_, rfl, pa, _, 0, _, rfl, rfl, SqT.of hpa3, rfl, _, rfl, nm, o1, rfl, g1, _, rfl, ?_⟩
      by_cases z1 : tl ∈ o
      · rw [if_pos z1] at e1; subst e1
        refine iteT ?_
        refine ⟨_, rfl, pa, _, 1, _, rfl, rfl, SqT.of hpa3, rfl, _, rfl, nm, o2, rfl, g2, _, rfl, ?_⟩
        by_cases z2 : hd ∈ o
        · rw [if_pos z2] at e2; subst e2
          refine iteT ?_
          refine ⟨_, rfl, _, rfl, pa, _, 0, _, rfl, rfl, SqT.of hpa3, rfl, nm, _, rfl, g1, _, rfl, _, rfl, pa, _, 1, _, rfl, rfl, SqT.of hpa3, rfl, nm, _, rfl, g2, _, _, rfl, rfl, _, rfl, hQ _ H3 ⟨rfl, ?_⟩⟩
          rw [Bool.eq_iff_iff, decide_eq_true_eq, fi]
          exact ⟨fun h => ⟨z1, z2, Int.ofNat_lt.mp h⟩, fun h => Int.ofNat_lt.mpr h.2.2⟩
        · rw [if_neg z2] at e2; subst e2
          refine iteF (hQ false H3 ⟨rfl, ?_⟩)
          rw [Bool.eq_iff_iff, fi]
          exact ⟨fun h => (nomatch h), fun h => absurd h.2.1 z2⟩
      · rw [if_neg z1] at e1; subst e1
        refine iteF (hQ false H3 ⟨rfl, ?_⟩)
        rw [Bool.eq_iff_iff, fi]
        exact ⟨fun h => (nomatch h), fun h => absurd h.1 z1⟩
  rintro H3 ⟨k3, us, hL, pv⟩
  have el : P'.arrows.take vs.length = P'.arrows := List.take_of_length_le (by rw [a2.1]; exact Nat.le_refl _)
  rw [el] at pv
  generalize hls : P'.arrows.filter (fwd o) = ls at pv
  have lsl : ls.length ≤ 60 := by rw [← hls]; exact Nat.le_trans (List.length_filter_le _ _) alen
  dsimp only [gName]
  -- heads
  refine ⟨_, rfl, L, rfl, ⟨_, SqL.of hL⟩, fun M nM => lc_list (K := K) (a := L) (xs := us) (fun j H' => Kp [] H3 H' ∧ H' M = some (.lst (((ls.take j).map (·.2)).map vn))) ⟨Kp.mk_new nM, upd_same⟩ (fun j H' _ ⟨k, _⟩ => SqL.of (k.get _ _ hL (by simp))) ?_ ?_⟩
  · rintro j x H4 hj ⟨k4, hM⟩
    obtain ⟨⟨tl, hd⟩, pa, hp, rfl, hpa⟩ := pv.at_ hj
    refine ⟨rfl, _, rfl, pa, _, 1, _, rfl, rfl, SqT.of (k4.tup _ _ hpa), rfl, _, hM, szl ?_, k4.put hM trivial (.inr nM), ?_⟩
    · rw [List.length_map, List.length_map]
      exact Nat.lt_of_le_of_lt (Nat.le_trans (List.length_take_le' ..) lsl) (by decide)
    · rw [upd_same, take_more hp, List.map_append, List.map_append]; rfl
  rintro H4 ⟨k4, hM⟩
  have elu : ls.take us.length = ls := List.take_of_length_le (by rw [pv.1]; exact Nat.le_refl _)
  rw [elu] at hM
  have hL4 := k4.get _ _ hL (by simp)
  dsimp only [gName]
  -- tails
  refine ⟨_, rfl, L, rfl, ⟨_, SqL.of hL4⟩, fun N nN => lc_list (K := K) (a := L) (xs := us) (fun j H' => Kp [] H4 H' ∧ H' N = some (.lst (((ls.take j).map (·.1)).map vn))) ⟨Kp.mk_new nN, upd_same⟩ (fun j H' _ ⟨k, _⟩ => SqL.of (k.get _ _ hL4 (by simp))) ?_ ?_⟩
  · rintro j x H5 hj ⟨k5, hN⟩
    obtain ⟨⟨tl, hd⟩, pa, hp, rfl, hpa⟩ := pv.at_ hj
    refine ⟨rfl, _, rfl, pa, _, 0, _, rfl, rfl, SqT.of ((k4.add k5).tup _ _ hpa), rfl, _, hN, szl ?_, k5.put hN trivial (.inr nN), ?_⟩
    · rw [List.length_map, List.length_map]
      exact Nat.lt_of_le_of_lt (Nat.le_trans (List.length_take_le' ..) lsl) (by decide)
    · rw [upd_same, take_more hp, List.map_append, List.map_append]; rfl
  rintro H5 ⟨k5, hN⟩
  rw [elu] at hN
  have hM5 := k5.get _ _ hM (by simp)
  have hL5 := k5.get _ _ hL4 (by simp)
  have k05 := ((k2.add k3).add k4).add k5
  have hot5 := hot.keep k05
  have hgl5 := hgl.keep k05
  dsimp only [gName]
  refine ⟨_, rfl, ot, rfl, ⟨_, SqT.of hot5⟩, for_tup (K := K) (a := ot) (xs := o.map vn) (fun i σ H' => H' = H5 ∧ (∀ v, v ∈ o.take i → PvOk P' ls v) ∧ ∃ x10 : Option V, σ = [some (.ref pt), some (.ref ot), some (vn P'.many), some (.ref ar), some (.ref gl), some (.ref nm), x6, some (.ref L), some (.ref M), some (.ref N), x10, none])
    ⟨rfl, fun v h => (by simp at h), _, rfl⟩ (fun i σ H' _ ⟨e, _⟩ => by rw [e]; exact SqT.of hot5) ?_ ?_⟩
  · rintro i x σ H6 hi ⟨rfl, ok, x10, rfl⟩
    obtain ⟨v, hv, rfl⟩ := map_at hi
    dsimp only [gName]
    refine flowIf (fun b H' => H' = H6 ∧ (b = true ↔ ¬ PvOk P' ls v)) ?_ ?_
    · rintro b H7 ⟨rfl, hb⟩
      refine ite_b (fun c => ?_) (fun c => ?_)
      · refine q none H7 k05 (.inl ⟨rfl, v, List.mem_of_getElem? hv, ?_⟩)
        rw [hls]; exact hb.mp c
      · refine ⟨rfl, fun u hu => ?_, _, rfl⟩
        rw [take_more hv, List.mem_append] at hu
        rcases hu with z | z
        · exact ok u z
        · have : u = v := by simpa using z
          subst this
          exact Classical.byContradiction fun n => by rw [hb.mpr n] at c; cases c
    · intro Q' hQ
      have e1 : ∀ ns : List Nat, (if true = true then !inV (vn v) (ns.map vn) else inV (vn v) (ns.map vn)) = !decide (v ∈ ns) := fun ns => by rw [if_pos rfl, inV_nat]
      have second : (v = 0 ∨ v ∈ ls.map (·.2)) → ∀ b, b = (!decide (v ∈ P'.goals) && !decide (v ∈ ls.map (·.1))) → (b = true ↔ ¬ PvOk P' ls v) := fun h1 b hb => by
        rw [hb]
        unfold PvOk
        simp only [Bool.and_eq_true, Bool.not_eq_true', decide_eq_false_iff_not]
        exact ⟨fun ⟨a, b⟩ ⟨_, z⟩ => z.elim a b, fun n => ⟨fun a => n ⟨h1, .inl a⟩, fun b => n ⟨h1, .inr b⟩⟩⟩
      have tailT : (v = 0 ∨ v ∈ ls.map (·.2)) → ∀ (h : (decide (v ∈ P'.goals)) = true), Q' false H6 := fun h1 h => hQ false H6 ⟨rfl, second h1 false (by rw [h]; rfl)⟩
      refine ⟨_, rfl, rfl, _, rfl, ?_⟩
      by_cases v0 : v = 0
      · subst v0
        refine iteF ?_
        refine iteF ?_
        refine ⟨_, rfl, _, rfl, gl, _, rfl, .inr (SqT.of hgl5), rfl, flat_all, _, rfl, ?_⟩
        rw [e1]
        refine ite_b (fun c => ?_) (fun c => tailT (.inl rfl) (by simpa using c))
        refine ⟨_, rfl, _, rfl, N, _, rfl, .inl (SqL.of hN), rfl, flat_all, _, rfl, ?_⟩
        rw [e1]
        exact hQ _ H6 ⟨rfl, second (.inl rfl) _ (by rw [c]; rfl)⟩
      · have ne : (!decide (vn v = V.int 0)) = true := by
          rw [Bool.not_eq_true', decide_eq_false_iff_not]
          exact fun e => v0 (Int.ofNat.inj (V.int.inj e))
        rw [ne]
        refine iteT ?_
        refine ⟨_, rfl, _, rfl, M, _, rfl, .inl (SqL.of hM5), rfl, flat_all, _, rfl, ?_⟩
        rw [e1]
        refine ite_b (fun c => ?_) (fun c => ?_)
        · refine hQ true H6 ⟨rfl, iff_of_true rfl fun z => ?_⟩
          have c' : v ∉ ls.map (·.2) := by simpa using c
          exact z.1.elim v0 c'
        · have c' : v ∈ ls.map (·.2) := by simpa using c
          refine ⟨_, rfl, _, rfl, gl, _, rfl, .inr (SqT.of hgl5), rfl, flat_all, _, rfl, ?_⟩
          rw [e1]
          refine ite_b (fun c2 => ?_) (fun c2 => tailT (.inr c') (by simpa using c2))
          refine ⟨_, rfl, _, rfl, N, _, rfl, .inl (SqL.of hN), rfl, flat_all, _, rfl, ?_⟩
          rw [e1]
          exact hQ _ H6 ⟨rfl, second (.inr c') _ (by rw [c2]; rfl)⟩
  · rintro σ H6 ⟨rfl, ok, x10, rfl⟩
    rw [List.length_map, List.take_length] at ok
    refine ⟨_, rfl, L, _, rfl, .inl (SqL.of hL5), _, rfl, ot, _, rfl, .inr (SqT.of hot5), _, _, rfl, rfl, _, _, rfl, rfl, ?_⟩
    dsimp only
    rw [pv.1, List.length_map]
    refine q (some ((ls.length : Int) - o.length + 1)) H6 k05 (.inr ⟨by rw [hls], fun v hv => ?_⟩)
    rw [hls]; exact ok v hv
end
end K33
/-! K33L7: the lots of all greatest parts, by trying all orders -/
namespace K33
open PySem PySem.Spec PyProof.Rows L2
theorem part_ex {P : Pt} {row : List Nat} {e : Int} (nd : (0 :: row).Nodup) (m0 : 0 < P.many) (lt : ∀ v, v ∈ row → v < P.many) (gl : ∀ g, g ∈ P.goals → g ∈ row) : ExIs P (0 :: row) (some e) ↔ IsPart P (0 :: row) e := by
  constructor
  · rintro (⟨h, _⟩ | ⟨h, ok⟩)
    · cases h
    · refine ⟨nd, rfl, fun v hv => (List.mem_cons.mp hv).elim (fun z => by omega) (lt v), fun g hg => List.mem_cons_of_mem _ (gl g hg), fun v hv h0 => ?_, fun v hv hg => ?_, Option.some.inj h⟩
      · obtain ⟨⟨t, h'⟩, ha, e⟩ := List.mem_map.mp ((ok v hv).1.resolve_left h0)
        obtain ⟨h1, h2⟩ := List.mem_filter.mp ha
        have e' : h' = v := e
        subst e'
        exact ⟨t, h1, h2⟩
      · obtain ⟨⟨t, h'⟩, ha, e⟩ := List.mem_map.mp ((ok v hv).2.resolve_left hg)
        obtain ⟨h1, h2⟩ := List.mem_filter.mp ha
        have e' : t = v := e
        subst e'
        exact ⟨h', h1, h2⟩
  · intro h
    refine .inr ⟨congrArg some h.ex, fun v hv => ⟨?_, ?_⟩⟩
    · by_cases h0 : v = 0
      · exact .inl h0
      · obtain ⟨t, h1, h2⟩ := h.inn v hv h0
        exact .inr (List.mem_map.mpr ⟨(t, v), List.mem_filter.mpr ⟨h1, h2⟩, rfl⟩)
    · by_cases hg : v ∈ P.goals
      · exact .inl hg
      · obtain ⟨t, h1, h2⟩ := h.out v hv hg
        exact .inr (List.mem_map.mpr ⟨(v, t), List.mem_filter.mpr ⟨h1, h2⟩, rfl⟩)
theorem exis_one {P : Pt} {o : List Nat} {x : Option Int} {e : Int} (h : ExIs P o x) (h' : ExIs P o (some e)) : x = some e := by
  rcases h with ⟨_, v, hv, n⟩ | ⟨h1, _⟩ <;> rcases h' with ⟨z, _⟩ | ⟨h2, ok⟩
  · cases z
  · exact absurd (ok v hv) n
  · cases z
  · rw [h1, h2]
/-- row, ascending -/
def soR (row : List Nat) : List Nat := row.mergeSort fun a b => decide (a ≤ b)
theorem soR_perm (row : List Nat) : (soR row).Perm row := List.mergeSort_perm row _
theorem soR_srt {row : List Nat} (nd : row.Nodup) : (soR row).Pairwise (· < ·) := by
  have h := List.pairwise_mergeSort (le := fun a b : Nat => decide (a ≤ b)) (fun a b c h1 h2 => decide_eq_true (Nat.le_trans (of_decide_eq_true h1) (of_decide_eq_true h2))) (fun a b => by
    rw [Bool.or_eq_true, decide_eq_true_eq, decide_eq_true_eq]; exact Nat.le_total a b) row
  have nd2 : (soR row).Nodup := (soR_perm row).nodup_iff.mpr nd
  exact (h.and nd2).imp fun ⟨h1, h2⟩ => by have := of_decide_eq_true h1; omega
theorem soR_of {row : List Nat} (nd : row.Nodup) {ns : List Int} (hp : ns.Perm (cst row)) (hs : ns.Pairwise (· ≤ ·)) : ns = cst (soR row) := by
  obtain ⟨gs, rfl, gp, gsr⟩ := asc_of nd hp hs
  show gs.map _ = (soR row).map _
  congr 1
  exact asc_eq gsr (soR_srt nd) fun i => by rw [gp.mem_iff, (soR_perm row).mem_iff]
def lotR (row : List Nat) : List Int := cst (0 :: soR row)
def keyR (row : List Nat) : List Key := (lotR row).map Sum.inl
theorem keyR_v (row : List Nat) : (keyR row).map kV = (lotR row).map V.int := by
  unfold keyR
  rw [List.map_map]; rfl
theorem inl_inj {l r : List Int} (h : l.map (Sum.inl : Int → Key) = r.map Sum.inl) : l = r := by
  have e : ∀ l : List Int, (l.map (Sum.inl : Int → Key)).map (fun k => match k with | .inl i => i | .inr _ => 0) = l := fun l => by
    rw [List.map_map]
    conv => rhs; rw [← List.map_id l]
    exact List.map_congr_left fun v _ => rfl
  rw [← e l, h, e r]
/-- what the dict holds of the orders rs -/
structure LD (P : Pt) (kvs : List (List Key × V)) (rs : List (List Nat)) : Prop where
  nd : (kvs.map (·.1)).Nodup
  a : ∀ p, p ∈ kvs → ∃ row e, row ∈ rs ∧ IsPart P (0 :: row) e ∧ p.1 = keyR row ∧ p.2 = .int e
  b : ∀ row e, row ∈ rs → IsPart P (0 :: row) e → ∃ e', valV kvs (keyR row) = some (.int e') ∧ e ≤ e'
section
variable {P : Pt} {kvs : List (List Key × V)} {rs : List (List Nat)} {row : List Nat} {e e' : Int}
theorem LD.nil : LD P [] [] := ⟨List.nodup_nil, fun _ h => (nomatch h), fun _ _ h => (nomatch h)⟩
theorem LD.skip (h : LD P kvs rs) (n : ∀ e, ¬ IsPart P (0 :: row) e) : LD P kvs (rs ++ [row]) :=
  ⟨h.nd, fun p hp => let ⟨r, e, h1, h2⟩ := h.a p hp; ⟨r, e, List.mem_append_left _ h1, h2⟩, fun r e hr hp => (List.mem_append.mp hr).elim (fun z => h.b r e z hp) fun z => by
    have : r = row := by simpa using z
    subst this
    exact absurd hp (n e)⟩
theorem LD.old (h : LD P kvs rs) (hp : IsPart P (0 :: row) e) (hv : valV kvs (keyR row) = some (.int e')) (le : e ≤ e') : LD P kvs (rs ++ [row]) :=
  ⟨h.nd, fun p hp => let ⟨r, e, h1, h2⟩ := h.a p hp; ⟨r, e, List.mem_append_left _ h1, h2⟩, fun r x hr hpx => (List.mem_append.mp hr).elim (fun z => h.b r x z hpx) fun z => by
    have : r = row := by simpa using z
    subst this
    exact ⟨e', hv, by have := hp.ex; have := hpx.ex; omega⟩⟩
theorem put_mem {k : List Key} {v : V} {p : List Key × V} (h : p ∈ putK kvs k v) : (p.1 = k ∧ p.2 = v) ∨ p ∈ kvs := by
  unfold putK at h
  split at h
  · obtain ⟨q, hq, e⟩ := List.mem_map.mp h
    by_cases z : q.1 = k
    · rw [if_pos z] at e
      exact .inl ⟨by rw [← e]; exact z, by rw [← e]⟩
    · rw [if_neg z] at e
      exact .inr (e ▸ hq)
  · rcases List.mem_append.mp h with z | z
    · exact .inr z
    · have : p = (k, v) := by simpa using z
      exact .inl ⟨by rw [this], by rw [this]⟩
theorem put_nd {k : List Key} {v : V} (h : (kvs.map (·.1)).Nodup) : ((putK kvs k v).map (·.1)).Nodup := by
  cases hn : valV kvs k with
  | none => exact nd_putK v h hn
  | some u =>
    have e : (putK kvs k v).map (·.1) = kvs.map (·.1) := by
      unfold putK
      rw [if_pos (by rw [valV_any, hn]; rfl), List.map_map]
      refine List.map_congr_left fun kv _ => ?_
      show (if kv.1 = _ then (kv.1, v) else kv).1 = kv.1
      split <;> rfl
    rw [e]; exact h
theorem put_len {k : List Key} {v : V} : (putK kvs k v).length ≤ kvs.length + 1 := by
  unfold putK
  split
  · rw [List.length_map]; omega
  · rw [List.length_append]; exact Nat.le_refl _
theorem LD.put (h : LD P kvs rs) (hp : IsPart P (0 :: row) e) (lt : ∀ e', valV kvs (keyR row) = some (.int e') → e' < e) : LD P (putK kvs (keyR row) (.int e)) (rs ++ [row]) := by
  refine ⟨put_nd h.nd, fun p hp' => ?_, fun r x hr hpx => ?_⟩
  · rcases put_mem hp' with ⟨h1, h2⟩ | hm
    · exact ⟨row, e, by simp, hp, h1, h2⟩
    · obtain ⟨r, x, h1, h2⟩ := h.a p hm
      exact ⟨r, x, List.mem_append_left _ h1, h2⟩
  · rw [valV_put]
    rcases List.mem_append.mp hr with z | z
    · obtain ⟨e', hv, le⟩ := h.b r x z hpx
      by_cases ek : keyR r = keyR row
      · rw [if_pos ek]
        rw [ek] at hv
        have := lt e' hv
        exact ⟨e, rfl, by omega⟩
      · rw [if_neg ek]
        exact ⟨e', hv, le⟩
    · have : r = row := by simpa using z
      subst this
      rw [if_pos rfl]
      exact ⟨e, rfl, by have := hp.ex; have := hpx.ex; omega⟩
/-- the greatest value -/
theorem ld_max (G : Good P) (h : LD P kvs (allR (gsl P.many 1) (gsl P.many 1).length)) {ns : List Int} (hns : ns.map V.int = kvs.map (·.2)) : 0 < ns.length ∧ ∀ m, m ∈ ns → (∀ y, y ∈ ns → y ≤ m) → MaxE P m := by
  have inR : ∀ o e, IsPart P o e → ∃ row, o = 0 :: row ∧ row ∈ allR (gsl P.many 1) (gsl P.many 1).length := fun o e hp => by
    obtain ⟨r, rfl⟩ : ∃ r, o = 0 :: r := by
      have := hp.hd
      cases o with
      | nil => cases this
      | cons x r => simp at this; exact ⟨r, by rw [this]⟩
    obtain ⟨n0, nd⟩ := List.nodup_cons.mp hp.nd
    exact ⟨r, rfl, all_mem.mpr ⟨nd, fun x hx => gsl_mem.mpr ⟨by have : x ≠ 0 := fun z => n0 (z ▸ hx); omega, hp.lt x (by simp [hx])⟩⟩⟩
  have val : ∀ k e, valV kvs k = some (.int e) → e ∈ ns := fun k e hv => by
    obtain ⟨p, hp, ep⟩ : ∃ p, p ∈ kvs ∧ p.2 = .int e := by
      unfold valV at hv
      cases ef : kvs.find? (fun kv => decide (kv.1 = k)) with
      | none => rw [ef] at hv; cases hv
      | some p => rw [ef] at hv; exact ⟨p, List.mem_of_find?_eq_some ef, Option.some.inj hv⟩
    have : V.int e ∈ ns.map V.int := by rw [hns]; exact List.mem_map.mpr ⟨p, hp, ep⟩
    obtain ⟨y, hy, ey⟩ := List.mem_map.mp this
    exact V.int.inj ey ▸ hy
  obtain ⟨o, e, hp⟩ := part_exists G.pos G.no0 G.ne G.rch
  obtain ⟨row, rfl, hr⟩ := inR o e hp
  obtain ⟨e', hv, _⟩ := h.b row e hr hp
  refine ⟨List.length_pos_of_mem (val _ _ hv), fun m hm up => ⟨?_, fun o e hp => ?_⟩⟩
  · have : V.int m ∈ kvs.map (·.2) := by rw [← hns]; exact List.mem_map.mpr ⟨m, hm, rfl⟩
    obtain ⟨p, hp, ep⟩ := List.mem_map.mp this
    obtain ⟨row, x, _, h2, _, h4⟩ := h.a p hp
    have : m = x := V.int.inj (ep.symm.trans h4)
    subst this
    exact ⟨_, h2⟩
  · obtain ⟨row, rfl, hr⟩ := inR o e hp
    obtain ⟨e', hv, le⟩ := h.b row e hr hp
    have := up e' (val _ _ hv)
    omega
/-- the keys with the greatest value, as lots -/
def unk : Key → Int
  | .inl i => i
  | .inr _ => 0
theorem unk_key (row : List Nat) : (keyR row).map unk = lotR row := by
  unfold keyR
  rw [List.map_map]
  conv => rhs; rw [← List.map_id (lotR row)]
  exact List.map_congr_left fun v _ => rfl
theorem lot_part {row : List Nat} {W : Int} (hp : IsPart P (0 :: row) W) : IsLot P W (lotR row) := by
  obtain ⟨n0, nd⟩ := List.nodup_cons.mp hp.nd
  refine ⟨0 :: row, 0 :: soR row, hp, ?_, (soR_perm row).cons 0, rfl⟩
  rw [List.pairwise_cons]
  refine ⟨fun v hv => ?_, soR_srt nd⟩
  have hv' := (soR_perm row).mem_iff.mp hv
  have : v ≠ 0 := fun z => n0 (z ▸ hv')
  omega
theorem ld_lots (G : Good P) (h : LD P kvs (allR (gsl P.many 1) (gsl P.many 1).length)) {W : Int} (hW : MaxE P W) : LotsB P W ((kvs.filter fun p => decide (p.2 = V.int W)).map fun p => p.1.map unk) := by
  refine ⟨?_, fun b => ?_⟩
  · have nd' : kvs.Nodup := (List.pairwise_map.mp h.nd).imp fun h e => h (by rw [e])
    refine map_nd (nd'.filter _) fun p q hp hq e => ?_
    obtain ⟨hp1, _⟩ := List.mem_filter.mp hp
    obtain ⟨hq1, _⟩ := List.mem_filter.mp hq
    obtain ⟨r1, x1, _, _, k1, _⟩ := h.a p hp1
    obtain ⟨r2, x2, _, _, k2, _⟩ := h.a q hq1
    rw [k1, k2, unk_key, unk_key] at e
    have ek : p.1 = q.1 := by rw [k1, k2]; unfold keyR; rw [e]
    have v1 := val_nodup h.nd p hp1
    have v2 := val_nodup h.nd q hq1
    rw [ek, v2] at v1
    exact Prod.ext ek (Option.some.inj v1).symm
  · rw [List.mem_map]
    constructor
    · rintro ⟨p, hp, rfl⟩
      obtain ⟨hp1, hp2⟩ := List.mem_filter.mp hp
      obtain ⟨row, e, _, h2, h3, h4⟩ := h.a p hp1
      have : W = e := V.int.inj ((of_decide_eq_true hp2).symm.trans h4)
      subst this
      rw [h3, unk_key]
      exact lot_part h2
    · rintro ⟨o, l, hp, hs, hl, rfl⟩
      obtain ⟨row, rfl⟩ : ∃ r, o = 0 :: r := by
        have := hp.hd
        cases o with
        | nil => cases this
        | cons x r => simp at this; exact ⟨r, by rw [this]⟩
      obtain ⟨n0, nd⟩ := List.nodup_cons.mp hp.nd
      have hr : row ∈ allR (gsl P.many 1) (gsl P.many 1).length := all_mem.mpr ⟨nd, fun x hx => gsl_mem.mpr ⟨by have : x ≠ 0 := fun z => n0 (z ▸ hx); omega, hp.lt x (by simp [hx])⟩⟩
      obtain ⟨e', hv, le⟩ := h.b row W hr hp
      obtain ⟨p, hpm, ep1, ep2⟩ : ∃ p, p ∈ kvs ∧ p.1 = keyR row ∧ p.2 = .int e' := by
        unfold valV at hv
        cases ef : kvs.find? (fun kv => decide (kv.1 = keyR row)) with
        | none => rw [ef] at hv; cases hv
        | some p =>
          rw [ef] at hv
          exact ⟨p, List.mem_of_find?_eq_some ef, by have := List.find?_some ef; exact of_decide_eq_true this, Option.some.inj hv⟩
      obtain ⟨r2, x2, _, q2, _, q4⟩ := h.a p hpm
      have ex : e' = x2 := V.int.inj (ep2.symm.trans q4)
      have := hW.up _ _ q2
      have eW : e' = W := by omega
      refine ⟨p, List.mem_filter.mpr ⟨hpm, decide_eq_true (by rw [ep2, eW])⟩, ?_⟩
      rw [ep1, unk_key]
      obtain ⟨o2, l2, _, s2, p2, e2⟩ := lot_part hp
      show cst (0 :: soR row) = cst l
      unfold cst
      congr 1
      refine asc_eq ?_ hs fun i => ?_
      · rw [List.pairwise_cons]
        refine ⟨fun v hv => ?_, soR_srt nd⟩
        have hv' := (soR_perm row).mem_iff.mp hv
        have : v ≠ 0 := fun z => n0 (z ▸ hv')
        omega
      · rw [hl.mem_iff]
        exact ((soR_perm row).cons 0).mem_iff
end
theorem keys_at {H : Hp} {kvs : List (List Key × V)} {bs : List Addr} (h : IsKeys H kvs bs) : bs.length = kvs.length ∧ ∀ (i : Nat) b, bs[i]? = some b → ∃ p, kvs[i]? = some p ∧ H b = some (.tup (p.1.map kV)) := by
  unfold IsKeys at h
  induction h with
  | nil => exact ⟨rfl, fun i b e => by simp at e⟩
  | cons h t ih =>
    refine ⟨by simp [ih.1], fun i b e => ?_⟩
    cases i with
    | zero =>
      have : _ = b := Option.some.inj e
      subst this
      exact ⟨_, rfl, h⟩
    | succ i => exact ih.2 i b e
section
variable {P : Program} {w : World} {K : PySem.W.Frag} {mg : Str → Option Value} {base : Heap}
def spLotsOf : Sp := fun vs H Q _ => ∃ (pt ar gl : Addr) (P : Pt), vs = [.ref pt] ∧ H pt = some (.tup [vn P.many, .ref ar, .ref gl]) ∧ TupP H ar P.arrows ∧ TupN H gl P.goals ∧ Good P ∧ P.many ≤ 6 ∧
  ∀ (t ly : Addr) (ys : List V) (W : Int) (bs : List (List Int)) H', Kp [] H H' → H' t = some (.tup [.int W, .ref ly]) → H' ly = some (.lst ys) → TupsV H' ys (srt bs) → MaxE P W → LotsB P W bs → Q (.ref t) H'
theorem ok_lots_of (T : Tx K mg)  : FnOk P w K mg base CX0 2 T.d_law_lots.f T.d_law_lots.fd ["_law_parts_here"] (spLotsOf) := by
  refine T.d_law_lots.F.ok sc_law_lots (fun vs H Q E h => ?_) (fun cdv A outer s H vs Q E hr h => ?_)
  · obtain ⟨pt, ar, gl, P', rfl, _⟩ := h; rfl
  obtain ⟨pt, ar, gl, P', rfl, hpt, har, hgl, G, m6, q⟩ := h
  have hu := hu_of hr
  have m2 := G.m2
  have G_law_orders := ok_orders (P := P) (w := w) (base := base) T
  have G_law_excess_of := ok_excess (P := P) (w := w) (base := base) T
  refine ⟨_, (pss_cons (ps_set (i := 1) sc_law_lots.nd rfl (Or.inr rfl) pe_dnewT)
  (pss_cons (ps_for PassesOwn.never rfl (pi_list (pe_call G_law_orders (hr.mono (by omega)) rfl T.d_law_orders.g T.d_law_orders.F.kp (b_law_orders T.d_law_orders.F) .nil pass0 (pa_cons (pe_listRg (by rfl) rfl T.b_list (prg_2 rfl T.b_range pe_int (pe_ix ix_tup (pv 0) pe_int (fun _ _ => rfl)))) pa_nil))) (pg_name (i := 2) sc_law_lots.nd rfl (Or.inr rfl)) (pss_one (ps_if (pt_val (pe_callB (cr_all rfl) (by rfl) T.b_all (by decide +kernel) (pa_cons (pe_lc (own := [("_law_goal", 6)]) (g := (gName 6)) (te := (tOp (rIn K false) _ _)) (hs := by intro _; rfl) rfl sc_law_lots.nd (pi_tup (pe_ix ix_tup (pv 0) pe_int (fun _ _ => rfl))) (blkOk_by (N := ["_law_parts_here", "_law_found", "_law_row", "_law_excess", "_law_lot", "_law_most", "_law_goal"]) (sc := defScope s_law_lots) (own := [("_law_goal", 6)]) (by decide +kernel)) (fun _ _ _ _ _ => (pg_name (i := 6) sc_law_lots.nd rfl (Or.inl rfl) (hf := by exact Or.inr rfl))) (fun _ _ _ _ _ => pts_nil) (fun _ _ _ _ _ => (pe_cmpR op_in_seq (pv 6) (pv 2) (by rfl)))) pa_nil))) (pss_cons (ps_set (i := 3) sc_law_lots.nd rfl (Or.inl rfl) (pe_call G_law_excess_of (hr.mono (by omega)) rfl T.d_law_excess_of.g T.d_law_excess_of.F.kp (b_law_excess_of T.d_law_excess_of.F) .nil pass0 (pa_cons (pv 0) (pa_cons (pe_op op_catA (pe_tup (pa_cons pe_int pa_nil)) (pv 2)) pa_nil))))
  (pss_cons (ps_set (i := 4) sc_law_lots.nd rfl (Or.inl rfl) (pe_op op_catA (pe_tup (pa_cons pe_int pa_nil)) (pe_callTy call_tuple_of (by rfl) T.b_tuple (by decide +kernel) (pa_cons (pe_callB cr_sortedTup (by rfl) T.b_sorted (by decide +kernel) (pa_cons (pv 2) pa_nil)) pa_nil))))
  (pss_one (ps_if (PW.pt (pw_and (pt_cmpR op_notN (pv 3) pe_non (nomark _)) (pw_and1 (PW.pt (pw_or (pt_cmp (pc_dnotin hu (pv 4) (pv 1))) (pw_or1 (pt_cmpR op_lt (pe_dget hu (pv 1) (pv 4) (fun _ _ => rfl)) (pv 3) (nomark _)))))))) (pss_one (ps_dput hu (pv 1) (pv 4) (pv 3) rfl)) pss_nil)))) pss_nil)))
  (pss_cons (ps_set (i := 5) sc_law_lots.nd rfl (Or.inr rfl) (pe_callB (cr_max rfl) (by rfl) T.b_max (by decide +kernel) (pa_cons (pe_lc (own := [("_law_lot", 4)]) (g := (gName 4)) (hs := by intro _; rfl) rfl sc_law_lots.nd (pi_list (pe_callTy (call_list_dT rfl) (by rfl) T.b_list (by decide +kernel) (pa_cons (pv 1) pa_nil))) (blkOk_by (N := ["_law_parts_here", "_law_found", "_law_row", "_law_excess", "_law_lot", "_law_most", "_law_goal"]) (sc := defScope s_law_lots) (own := [("_law_lot", 4)]) (by decide +kernel)) (fun _ _ _ _ _ => (pg_name (i := 4) sc_law_lots.nd rfl (Or.inl rfl) (hf := by exact Or.inr rfl))) (fun _ _ _ _ _ => pts_nil) (fun _ _ _ _ _ => (pe_dget hu (pv 1) (pv 4) (fun _ _ => rfl)))) pa_nil)))
  (pss_one (ps_ret (pe_tup (pa_cons (pv 5) (pa_cons (pe_callB (cr_sortedTI hr.units) (by rfl) T.b_sorted (by decide +kernel) (pa_cons (pe_lc (own := [("_law_lot", 4)]) (g := (gName 4)) (hs := by intro _; rfl) rfl sc_law_lots.nd (pi_list (pe_callTy (call_list_dT rfl) (by rfl) T.b_list (by decide +kernel) (pa_cons (pv 1) pa_nil))) (blkOk_by (N := ["_law_parts_here", "_law_found", "_law_row", "_law_excess", "_law_lot", "_law_most", "_law_goal"]) (sc := defScope s_law_lots) (own := [("_law_lot", 4)]) (by decide +kernel)) (fun _ _ _ _ _ => (pg_name (i := 4) sc_law_lots.nd rfl (Or.inl rfl) (hf := by exact Or.inr rfl))) (fun _ _ _ _ _ => (by exact (pts_one (pt_cmpR op_eq (pe_dget hu (pv 1) (pv 4) (fun _ _ => rfl)) (pv 5) (nomark _))))) (fun _ _ _ _ _ => (pv 4))) pa_nil)) pa_nil)))))))), ?_⟩
  intro fd nfd
  have k1 : Kp [] H (upd H fd (.dT [])) := Kp.mk_new nfd
  have hfd : (upd H fd (.dT [])) fd = some (.dT []) := upd_same
  generalize upd H fd (.dT []) = H1 at k1 hfd ⊢
  dsimp only [gName]
  refine ⟨_, rfl, pt, _, 0, _, rfl, rfl, SqT.of (k1.tup _ _ hpt), rfl, 1, P'.many, rfl, rfl, RgOk.of_le (by omega) (by omega) (by omega) (by omega), fun rl nrl => ?_⟩
  have er : rgV 1 (P'.many : Int) = (gsl P'.many 1).map vn := rg_gsl (s := 1) (by omega)
  rw [er]
  have k2 := k1.new (o := .lst ((gsl P'.many 1).map vn)) nrl
  have hrl : (upd H1 rl (.lst ((gsl P'.many 1).map vn))) rl = some (.lst ((gsl P'.many 1).map vn)) := upd_same
  have hfd2 : (upd H1 rl (.lst ((gsl P'.many 1).map vn))) fd = some (.dT []) := by rw [upd_ne (ne_of_none hfd nrl)]; exact hfd
  generalize upd H1 rl (.lst ((gsl P'.many 1).map vn)) = H2 at k2 hrl hfd2 ⊢
  have t5 : (gsl P'.many 1).length ≤ 5 := by rw [gsl_len]; omega
  refine ⟨rl, gsl P'.many 1, rfl, hrl, t5, fun r ys H3 k3 hr3 hys => ?_⟩
  generalize hrs : allR (gsl P'.many 1) (gsl P'.many 1).length = rs at hys
  have rsl : rs.length ≤ 18750 := by rw [← hrs]; exact all_len6 t5 t5
  have hfd3 := k3.get _ _ hfd2 (by simp)
  have nr : r ≠ fd := fun e => by rw [e, hfd3] at hr3; cases hr3
  have row_ok : ∀ row, row ∈ rs → row.Nodup ∧ ∀ x, x ∈ row → 1 ≤ x ∧ x < P'.many := fun row h => by
    rw [← hrs] at h
    obtain ⟨h1, h2⟩ := all_mem.mp h
    exact ⟨h1, fun x hx => gsl_mem.mp (h2 x hx)⟩
  refine ⟨r, rfl, ⟨_, SqL.of hr3⟩, for_list (K := K) (a := r) (xs := ys) (fun j σ H' => Kp [fd] H3 H' ∧ Kp [] H H' ∧ ∃ (kvs : List (List Key × V)) (x2 x3 x4 : Option V), σ = [some (.ref pt), some (.ref fd), x2, x3, x4, none, none] ∧ H' fd = some (.dT kvs) ∧ kvs.length ≤ j ∧ LD P' kvs (rs.take j))
    ⟨Kp.refl, k2.add k3, [], _, _, _, rfl, hfd3, Nat.le_refl _, LD.nil⟩ (fun j σ H' _ ⟨k, _⟩ => SqL.of (k.get _ _ hr3 (by simp [nr]))) ?_ ?_⟩
  · rintro j x σ H4 hj ⟨k4, k04, kvs, x2, x3, x4, rfl, hfd4, klen, ld⟩
    obtain ⟨row, ra, hrow, rfl, hra⟩ := (hys.keep k4).at_ hj
    have hj' := (List.getElem?_eq_some_iff.mp hrow).1
    have jl : j < 18750 := Nat.lt_of_lt_of_le hj' rsl
    obtain ⟨rnd, rin⟩ := row_ok row (List.mem_of_getElem? hrow)
    have r0 : (0 :: row).Nodup := List.nodup_cons.mpr ⟨fun z => by have := rin 0 z; omega, rnd⟩
    have rlt : ∀ v, v ∈ row → v < P'.many := fun v hv => (rin v hv).2
    have rlen : row.length ≤ 6 := by
      have := nd_len rnd rlt
      omega
    have tk := take_more hrow
    have hpt4 := k04.tup _ _ hpt
    have hgl4 := hgl.keep k04
    dsimp only [gName]
    refine ⟨_, rfl, pt, _, 2, _, rfl, rfl, SqT.of hpt4, rfl, gl, rfl, ⟨_, SqT.of hgl4⟩, fun L nL => lc_tup (K := K) (a := gl) (xs := P'.goals.map vn) (fun i H' => Kp [] H4 H' ∧ H' L = some (.lst (((P'.goals.take i).map fun g => decide (g ∈ row)).map V.bl))) ⟨Kp.mk_new nL, upd_same⟩ (fun i H' _ ⟨k, _⟩ => SqT.of (hgl4.keep k)) ?_ ?_⟩
    · rintro i y H5 hi ⟨k5, hL⟩
      obtain ⟨g, hg, rfl⟩ := map_at hi
      have hi' := (List.getElem?_eq_some_iff.mp hg).1
      have gle := asc_len G.lot.1 G.lot.2
      refine ⟨rfl, _, rfl, _, rfl, ra, _, rfl, .inr (SqT.of (k5.tup _ _ hra)), rfl, flat_all, ?_⟩
      have eF : (if false = true then !inV (vn g) (row.map vn) else inV (vn g) (row.map vn)) = inV (vn g) (row.map vn) := rfl
      rw [eF, inV_nat]
      refine ⟨_, hL, szl ?_, k5.put hL trivial (.inr nL), ?_⟩
      · rw [List.length_map, List.length_map, List.length_take]; omega
      · rw [upd_same, take_more hg, List.map_append, List.map_append]; rfl
    rintro H5 ⟨k5, hL⟩
    rw [List.length_map, List.take_length] at hL
    refine ⟨L, _, rfl, SqL.of hL, _, rfl, ?_⟩
    have k05 := k04.add k5
    have k45 : Kp [fd] H3 H5 := k4.add k5
    have hfd5 := k5.get _ _ hfd4 (by simp)
    refine ite_b (fun c => ?_) (fun c => ?_)
    · have gin : ∀ g, g ∈ P'.goals → g ∈ row := fun g hg => by
        rw [List.all_eq_true] at c
        have := c _ (List.mem_map.mpr ⟨g, hg, rfl⟩)
        exact of_decide_eq_true this
      have rne : row ≠ [] := fun e => by
        cases eg : P'.goals with
        | nil => exact G.ne eg
        | cons g gs => have := gin g (by rw [eg]; simp); rw [e] at this; cases this
      have pe : ∀ e, ExIs P' (0 :: row) (some e) ↔ IsPart P' (0 :: row) e := fun e => part_ex r0 G.pos rlt gin
      refine ⟨_, rfl, sz (by show 1 ≤ 100000; decide), fun z nz => ?_⟩
      have k6 : Kp [] H5 (upd H5 z (.tup [.int 0])) := Kp.mk_new nz
      have hz : (upd H5 z (.tup [.int 0])) z = some (.tup [.int 0]) := upd_same
      generalize upd H5 z (.tup [.int 0]) = H6 at k6 hz ⊢
      have hra6 := (k5.add k6).tup _ _ hra
      refine ⟨_, rfl, z, ra, _, _, rfl, rfl, SqT.of hz, SqT.of hra6, sz (by simp; omega), fun e => (by simp at e), fun _ e => absurd e (by simp [rne]), fun _ _ oa noa => ?_⟩
      have k7 : Kp [] H6 (upd H6 oa (.tup ([.int 0] ++ row.map vn))) := Kp.mk_new noa
      have hoa : TupN (upd H6 oa (.tup ([.int 0] ++ row.map vn))) oa (0 :: row) := upd_same
      generalize upd H6 oa (.tup ([.int 0] ++ row.map vn)) = H7 at k7 hoa ⊢
      have k07 := (k05.add k6).add k7
      refine ⟨pt, oa, ar, gl, P', 0 :: row, rfl, k07.tup _ _ hpt, har.keep k07, hgl.keep k07, hoa, r0, by simp; omega, G.len, fun x H8 k8 hx => ?_⟩
      dsimp only [gName]
      refine ⟨sz (by show 1 ≤ 100000; decide), fun z' nz' => ?_⟩
      have k9 : Kp [] H8 (upd H8 z' (.tup [.int 0])) := Kp.mk_new nz'
      have hz' : (upd H8 z' (.tup [.int 0])) z' = some (.tup [.int 0]) := upd_same
      generalize upd H8 z' (.tup [.int 0]) = H9 at k9 hz' ⊢
      have k09 := (k07.add k8).add k9
      have k59 := ((k6.add k7).add k8).add k9
      have hra9 := (k5.add k59).tup _ _ hra
      have em : row.map vn = (cst row).map V.int := (cst_vn row).symm
      rw [em] at hra9
      refine ⟨_, rfl, ra, _, rfl, SqT.of hra9, by unfold cst; simp; omega, fun ns' sp hperm hpw nsp => ?_⟩
      obtain rfl := soR_of rnd hperm hpw
      refine ⟨sp, _, rfl, .inl ⟨SqL.of upd_same, fun tt ntt => ?_⟩⟩
      have k10 : Kp [] H9 (upd (upd H9 sp (.lst ((cst (soR row)).map V.int))) tt (.tup ((cst (soR row)).map V.int))) := (Kp.mk_new nsp).new ntt
      have htt : (upd (upd H9 sp (.lst ((cst (soR row)).map V.int))) tt (.tup ((cst (soR row)).map V.int))) tt = some (.tup ((cst (soR row)).map V.int)) := upd_same
      generalize upd (upd H9 sp (.lst ((cst (soR row)).map V.int))) tt (.tup ((cst (soR row)).map V.int)) = H10 at k10 htt ⊢
      have slen : (soR row).length = row.length := (soR_perm row).length_eq
      have sne : soR row ≠ [] := fun e => by rw [e] at slen; exact rne (List.eq_nil_of_length_eq_zero slen.symm)
      refine ⟨z', tt, _, _, rfl, rfl, SqT.of (k10.tup _ _ hz'), SqT.of htt, sz (by unfold cst; simp; omega), fun e => (by simp at e), fun _ e => absurd e (by unfold cst; simp [sne]), fun _ _ la nla => ?_⟩
      have k11 : Kp [] H10 (upd H10 la (.tup ([.int 0] ++ (cst (soR row)).map V.int))) := Kp.mk_new nla
      have hla : (upd H10 la (.tup ([.int 0] ++ (cst (soR row)).map V.int))) la = some (.tup ((keyR row).map kV)) := by rw [upd_same, keyR_v]; rfl
      generalize upd H10 la (.tup ([.int 0] ++ (cst (soR row)).map V.int)) = H11 at k11 hla ⊢
      have k5b := (k59.add k10).add k11
      have k011 := (k09.add k10).add k11
      have hfd11 := k5b.get _ _ hfd5 (by simp)
      have k311 : Kp [fd] H3 H11 := k45.add k5b
      dsimp only [gName]
      refine flowIf (fun b H' => H' = H11 ∧ (b = true ↔ ∃ e, x = some e ∧ ∀ v, valV kvs (keyR row) = some v → ∃ e', v = .int e' ∧ e' < e)) ?_ ?_
      · rintro b H12 ⟨rfl, hb⟩
        refine ite_b (fun c2 => ?_) (fun c2 => ?_)
        · obtain ⟨e, rfl, hlt⟩ := hb.mp c2
          refine ⟨_, rfl, _, rfl, _, rfl, fd, _, rfl, DPut.t hfd11 hla (szl (by omega)), ?_⟩
          refine ⟨k311.put hfd11 (by exact trivial) (.inl (by simp)), k011.put hfd11 (by exact trivial) (.inr nfd), _, _, _, _, rfl, upd_same, Nat.le_trans put_len (by omega), ?_⟩
          rw [tk]
          exact ld.put ((pe e).mp hx) fun e' hv => by
            obtain ⟨e2, h1, h2⟩ := hlt _ hv
            have : e' = e2 := V.int.inj h1
            omega
        · refine ⟨k311, k011, kvs, _, _, _, rfl, hfd11, by omega, ?_⟩
          rw [tk]
          cases x with
          | none => exact ld.skip fun e hp => by have := exis_one hx ((pe e).mpr hp); cases this
          | some e =>
            cases hv : valV kvs (keyR row) with
            | none => exact absurd (hb.mpr ⟨e, rfl, fun v z => by rw [hv] at z; cases z⟩) (by rw [c2]; decide)
            | some v =>
              have hm : ∃ p, p ∈ kvs ∧ p.2 = v := by
                unfold valV at hv
                cases ef : kvs.find? (fun kv => decide (kv.1 = keyR row)) with
                | none => rw [ef] at hv; cases hv
                | some p => rw [ef] at hv; exact ⟨p, List.mem_of_find?_eq_some ef, Option.some.inj hv⟩
              obtain ⟨p, hpm, rfl⟩ := hm
              obtain ⟨_, e', _, _, _, h4⟩ := ld.a p hpm
              refine ld.old ((pe e).mp hx) (by rw [hv, h4]) ?_
              refine Int.not_lt.mp fun hlt => ?_
              exact absurd (hb.mpr ⟨e, rfl, fun v z => by rw [hv] at z; cases z; exact ⟨e', h4, hlt⟩⟩) (by rw [c2]; decide)
      · intro Q' hQ
        refine ⟨_, rfl, rfl, _, rfl, ?_⟩
        cases x with
        | none => exact iteF (hQ false H11 ⟨rfl, by simp⟩)
        | some e =>
          refine iteT ?_
          refine ⟨_, rfl, _, rfl, fd, _, rfl, DGet.t hfd11 hla, _, rfl, ?_⟩
          cases hv : valV kvs (keyR row) with
          | none => exact iteT (hQ true H11 ⟨rfl, iff_of_true rfl ⟨e, rfl, fun v z => by rw [hv] at z; cases z⟩⟩)
          | some v =>
            refine iteF ?_
            have hm : ∃ p, p ∈ kvs ∧ p.2 = v := by
              unfold valV at hv
              cases ef : kvs.find? (fun kv => decide (kv.1 = keyR row)) with
              | none => rw [ef] at hv; cases hv
              | some p => rw [ef] at hv; exact ⟨p, List.mem_of_find?_eq_some ef, Option.some.inj hv⟩
            obtain ⟨p, hpm, rfl⟩ := hm
            obtain ⟨_, e', _, _, _, h4⟩ := ld.a p hpm
            have g := DGet.t hfd11 hla
            rw [hv, h4] at g
            refine ⟨_, rfl, _, rfl, fd, _, rfl, g, _, rfl, _, _, rfl, rfl, _, rfl, hQ _ H11 ⟨rfl, ?_⟩⟩
            rw [decide_eq_true_eq]
            exact ⟨fun h => ⟨e, rfl, fun v z => by rw [hv] at z; cases z; exact ⟨e', h4, h⟩⟩, fun ⟨e2, h1, h2⟩ => by
              cases h1
              obtain ⟨e3, h5, h6⟩ := h2 _ hv
              have : e' = e3 := V.int.inj (h4.symm.trans h5)
              omega⟩
    · refine ⟨k45, k05, kvs, _, _, _, rfl, hfd5, by omega, ?_⟩
      rw [tk]
      refine ld.skip fun e hp => ?_
      have : ((P'.goals.map fun g => decide (g ∈ row)).all id) = true := by
        rw [List.all_eq_true]
        intro b hb
        obtain ⟨g, hg, rfl⟩ := List.mem_map.mp hb
        refine decide_eq_true ?_
        exact (List.mem_cons.mp (hp.gl g hg)).resolve_left fun z => G.no0 (z ▸ hg)
      rw [this] at c; cases c
  · rintro σ H4 ⟨k4, k04, kvs, x2, x3, x4, rfl, hfd4, klen, ld⟩
    have erl : rs.take ys.length = rs := List.take_of_length_le (by rw [hys.len]; exact Nat.le_refl _)
    rw [erl, ← hrs] at ld
    have kl : kvs.length ≤ 18750 := by rw [hys.len] at klen; omega
    -- the greatest
    refine ⟨_, rfl, fd, kvs, rfl, .inl hfd4, fun kl1 bs1 nkl1 ik1 => ?_⟩
    have k5 : Kp [] H4 (upd H4 kl1 (.lst (bs1.map V.ref))) := Kp.mk_new nkl1
    have hk1 : (upd H4 kl1 (.lst (bs1.map V.ref))) kl1 = some (.lst (bs1.map V.ref)) := upd_same
    obtain ⟨bl1, ba1⟩ := keys_at ik1
    generalize upd H4 kl1 (.lst (bs1.map V.ref)) = H5 at k5 hk1 ⊢
    have isint : ∀ p, p ∈ kvs → ∃ e, p.2 = .int e := fun p hp => let ⟨_, e, _, _, _, h⟩ := ld.a p hp; ⟨e, h⟩
    refine ⟨kl1, rfl, ⟨_, SqL.of hk1⟩, fun M nM => lc_list (K := K) (a := kl1) (xs := bs1.map V.ref) (fun i H' => Kp [] H5 H' ∧ ∃ ns : List Int, H' M = some (.lst (ns.map V.int)) ∧ ns.map V.int = (kvs.take i).map (·.2)) ⟨Kp.mk_new nM, [], upd_same, rfl⟩ (fun i H' _ ⟨k, _⟩ => SqL.of (k.get _ _ hk1 (by simp))) ?_ ?_⟩
    · rintro i y H6 hi ⟨k6, ns, hM, hns⟩
      rw [List.getElem?_map] at hi
      obtain ⟨b, hb, rfl⟩ : ∃ b, bs1[i]? = some b ∧ y = .ref b := by
        cases e : bs1[i]? with
        | none => rw [e] at hi; cases hi
        | some b => rw [e] at hi; exact ⟨b, rfl, (Option.some.inj hi).symm⟩
      obtain ⟨p, hp, hbt⟩ := ba1 i b hb
      obtain ⟨e, he⟩ := isint p (List.mem_of_getElem? hp)
      have g := DGet.t ((k5.add k6).get _ _ hfd4 (by simp)) ((k5.add k6).tup _ _ hbt)
      rw [val_nodup ld.nd p (List.mem_of_getElem? hp), he] at g
      have nl : ns.length ≤ kvs.length := by
        have := congrArg List.length hns
        rw [List.length_map, List.length_map, List.length_take] at this
        omega
      refine ⟨rfl, _, rfl, _, rfl, fd, _, rfl, g, _, hM, szl (by rw [List.length_map]; omega), k6.put hM trivial (.inr nM), ns ++ [e], ?_, ?_⟩
      · rw [upd_same, List.map_append]; rfl
      · rw [List.map_append, hns, take_more hp, List.map_append]
        show _ ++ [V.int e] = _ ++ [p.2]
        rw [he]
    rintro H6 ⟨k6, ns, hM, hns⟩
    rw [List.length_map, bl1, List.take_length] at hns
    obtain ⟨npos, mx⟩ := ld_max G ld hns
    refine ⟨M, ns, rfl, SqL.of hM, npos, fun W hWm hWu => ?_⟩
    have hW := mx W hWm hWu
    have k46 := k5.add k6
    have hfd6 := k46.get _ _ hfd4 (by simp)
    dsimp only [gName]
    refine ⟨_, rfl, _, rfl, fd, kvs, rfl, .inl hfd6, fun kl2 bs2 nkl2 ik2 => ?_⟩
    have k7 : Kp [] H6 (upd H6 kl2 (.lst (bs2.map V.ref))) := Kp.mk_new nkl2
    have hk2 : (upd H6 kl2 (.lst (bs2.map V.ref))) kl2 = some (.lst (bs2.map V.ref)) := upd_same
    obtain ⟨bl2, ba2⟩ := keys_at ik2
    generalize upd H6 kl2 (.lst (bs2.map V.ref)) = H7 at k7 hk2 ⊢
    refine ⟨kl2, rfl, ⟨_, SqL.of hk2⟩, fun N nN => lc_list (K := K) (a := kl2) (xs := bs2.map V.ref) (fun i H' => Kp [] H7 H' ∧ ∃ us, H' N = some (.lst us) ∧ us.length ≤ i ∧ TupsV H' us (((kvs.take i).filter fun (p : List Key × V) => decide (p.2 = V.int W)).map fun (p : List Key × V) => p.1.map unk)) ⟨Kp.mk_new nN, [], upd_same, Nat.le_refl _, TupsV.nil⟩ (fun i H' _ ⟨k, _⟩ => SqL.of (k.get _ _ hk2 (by simp))) ?_ ?_⟩
    · rintro i y H8 hi ⟨k8, us, hN, ul, tus⟩
      rw [List.getElem?_map] at hi
      obtain ⟨b, hb, rfl⟩ : ∃ b, bs2[i]? = some b ∧ y = .ref b := by
        cases e : bs2[i]? with
        | none => rw [e] at hi; cases hi
        | some b => rw [e] at hi; exact ⟨b, rfl, (Option.some.inj hi).symm⟩
      obtain ⟨p, hp, hbt⟩ := ba2 i b hb
      have hi' := (List.getElem?_eq_some_iff.mp hp).1
      obtain ⟨e, he⟩ := isint p (List.mem_of_getElem? hp)
      have hbt8 := (k7.add k8).tup _ _ hbt
      have g := DGet.t ((k7.add k8).get _ _ hfd6 (by simp)) hbt8
      rw [val_nodup ld.nd p (List.mem_of_getElem? hp), he] at g
      refine ⟨rfl, _, rfl, _, rfl, fd, _, rfl, g, _, rfl, rfl, _, rfl, ?_⟩
      have fm := filt_more (p := fun (p : List Key × V) => decide (p.2 = V.int W)) hp
      rw [show decide (p.2 = V.int W) = decide (V.int e = V.int W) by rw [he]] at fm
      refine ite_b (fun c => ?_) (fun c => ?_)
      · rw [if_pos c] at fm
        have kN : Kp [N] H8 (upd H8 N (.lst (us ++ [.ref b]))) := Kp.mk_put hN (by exact trivial)
        refine ⟨_, rfl, us, hN, szl (by omega), k8.put hN trivial (.inr nN), us ++ [.ref b], upd_same, by simp; omega, ?_⟩
        rw [fm, List.map_append]
        refine (tus.keep kN).snoc (b := p.1.map unk) ?_
        obtain ⟨row, _, _, _, h3, _⟩ := ld.a p (List.mem_of_getElem? hp)
        rw [h3, unk_key, ← keyR_v, ← h3]
        exact kN.tup _ _ hbt8
      · refine ⟨k8, us, hN, by omega, ?_⟩
        rw [if_neg (by rw [c]; decide), List.append_nil] at fm
        rw [fm]
        exact tus
    rintro H8 ⟨k8, us, hN, ul, tus⟩
    rw [List.length_map, bl2, List.take_length] at tus
    have LB := ld_lots G ld hW
    refine ⟨N, us, _, rfl, SqL.of hN, tus, fun b hb => ?_, fun zs ly nly hzs => ?_⟩
    · obtain ⟨o, l, hp, _, hl, rfl⟩ := (LB.mem b).mp hb
      intro e
      have : l = [] := by simpa using e
      rw [this] at hl
      have := List.Perm.eq_nil hl.symm
      have := hp.hd
      simp_all
    · refine ⟨sz (by show 2 ≤ 100000; decide), fun t nt => ?_⟩
      have k9 : Kp [] H8 (upd (upd H8 ly (.lst zs)) t (.tup [.int W, .ref ly])) := (Kp.mk_new nly).new nt
      refine q t ly zs W _ _ (((k04.add k46).add (k7.add k8)).add k9) upd_same ?_ (hzs.keep k9) hW LB
      have : ly ≠ t := ne_of_none upd_same nt
      rw [upd_ne this]; exact upd_same
end
end K33
/-! K33L8: turned, tried; turned twice -/
namespace K33
open PySem PySem.Spec PyProof.Rows L2
theorem atI_last {α : Type} {xs : List α} (h : xs ≠ []) : atI xs (-1) = some (xs.getLast h) := by
  have hp : 0 < xs.length := List.length_pos_iff.mpr h
  unfold atI ixN
  rw [if_neg (by omega), if_pos (by omega)]
  show xs[(-1 + (xs.length : Int)).toNat]? = _
  rw [show (-1 + (xs.length : Int)).toNat = xs.length - 1 by omega, List.getLast_eq_getElem, List.getElem?_eq_getElem (by omega)]
theorem map_last {l : List Nat} (h : l ≠ []) (h' : l.map vn ≠ []) : (l.map vn).getLast h' = vn (l.getLast h) := List.getLast_map h'
/-- a slice of a tuple's last -/
theorem cut_last {l : List Nat} (h : l ≠ []) : HT.sIx (l.map vn).length 0 (some (-1)) = l.length - 1 ∧ HT.sIx (l.map vn).length (l.map vn).length none = l.length ∧ cutV (l.map vn) (some (-1)) none = [vn (l.getLast h)] := by
  have hp : 0 < l.length := List.length_pos_iff.mpr h
  have e1 : HT.sIx (l.map vn).length 0 (some (-1)) = l.length - 1 := by
    show (if (-1 : Int) < 0 then ((-1 : Int) + ((l.map vn).length : Int)).toNat else min (-1 : Int).toNat (l.map vn).length) = _
    rw [if_pos (by decide), List.length_map]; omega
  have e2 : HT.sIx (l.map vn).length (l.map vn).length none = l.length := by
    show (l.map vn).length = _
    rw [List.length_map]
  refine ⟨e1, e2, ?_⟩
  unfold cutV
  rw [e1, e2, show l.length - (l.length - 1) = 1 by omega, ← List.map_drop, List.drop_eq_getElem_cons (by omega), List.drop_eq_nil_of_le (by omega), List.getLast_eq_getElem]
  rfl
theorem good_one {P : Pt} (G : Good P) {g : Nat} (hg : g ∈ P.goals) : Good ⟨P.many, P.arrows, [g]⟩ := by
  have one : ∀ v : Nat, v ∈ [g] → v ∈ P.goals := fun v hv => by
    have : v = g := by simpa using hv
    exact this ▸ hg
  exact ⟨G.m2, G.m40, G.len, G.arr, ⟨List.pairwise_singleton _ _, fun v hv => G.lot.2 v (one v hv)⟩, List.cons_ne_nil _ _, fun z => G.no0 (one 0 z), fun v hv => G.rch v (one v hv)⟩
section
variable {P : Program} {w : World} {K : PySem.W.Frag} {mg : Str → Option Value} {base : Heap}
def spTry (T : Tx K mg) : Sp := fun vs H Q _ => ∃ (C p d : Addr) (P : Pt), KM K C ∧ vs = [.ref p] ∧ MapAt C H p P d ∧ Good P ∧ (1 < P.goals.length → Q (.str "many") H) ∧
  (∀ g, P.goals = [g] → ∀ p' d' H', H p' = none → H d' = none → Kp [] H H' → MapAt T.c_RawMap H' p' (turnP P g) d' → H' d' = some (.dK []) → Q (.ref p') H')
theorem ok_law_turned (T : Tx K mg)  : FnOk P w K mg base CX0 5 T.d_law_turned.f T.d_law_turned.fd ["_law_chart"] (spTry T) := by
  refine T.d_law_turned.F.ok sc_law_turned (fun vs H Q E h => ?_) (fun cdv A outer s H vs Q E hr h => ?_)
  · obtain ⟨C, p, d, P', _, rfl, _⟩ := h; rfl
  obtain ⟨C, p, d, P', km, rfl, M, G, q1, q2⟩ := h
  have G_turned := ok_turned (P := P) (w := w) (base := base) T
  refine ⟨_, pss_cons (ps_set (i := 1) sc_law_turned.nd rfl (Or.inl rfl) pe_str)
    (pss_cons (ps_try_only (tb := fun W => tAsg (tCallS (spTurned T) (WE W) (tCons (tVar 0) tNil)) (gName 1)) (ts := fun _ _ _ => tAsg (tC (.str "many")) (gName 1)) (Wout := fun _ _ _ _ => False) rfl rfl ⟨rfl, by decide, Or.inl T.many_g⟩ takes0
      (fun W pn xe tk _ => pss_one (ps_set (i := 1) sc_law_turned.nd rfl (Or.inl rfl) (pe_callS G_turned (hr.mono (by omega)) rfl T.d_turned.g T.d_turned.F.kp (b_turned T.d_turned.F) (fun σ => passAt tk σ) (by exact (pa_cons (pv 0) pa_nil)))))
      (fun _ _ _ _ _ _ _ => pss_one (ps_set (i := 1) sc_law_turned.nd rfl (Or.inl rfl) pe_str)))
    (pss_one (ps_ret (pv 1)))), ?_⟩
  refine ⟨_, rfl, C, p, d, P', km, rfl, M, G.m40, G.len, fun a ha => ⟨(G.arr a ha).1, (G.arr a ha).2.1⟩, fun h1 => ⟨true, T.many_e, fun _ a ha => ⟨_, rfl, q1 h1⟩, fun z => nomatch z⟩, fun h1 => ?_⟩
  obtain ⟨g, hg, gm, g0⟩ := lot_one G h1
  exact ⟨g, hg, gm, g0, fun p' d' H' np nd k m hd => ⟨_, rfl, q2 g hg p' d' H' np nd k m hd⟩⟩
/-- the numbers at nm, the arrows at ar: the new tuple of turned arrows -/
theorem spin {H3 H4 : Hp} {L t : Addr} {g : Nat} {as : List (Nat × Nat)} {j : Nat} {a : Nat × Nat} {us : List V} (hp : as[j]? = some a) (k4 : Kp [] H3 H4) (nL : H3 L = none) (hL : H4 L = some (.lst us)) (pv : PairsV H4 us ((as.take j).map fun a => (sw g a.2, sw g a.1))) (len : as.length ≤ 60) (nt : H4 t = none) :
    ∃ acc, (upd H4 t (.tup [vn (sw g a.2), vn (sw g a.1)])) L = some (.lst acc) ∧ acc.length < sizeLine ∧ (Kp [] H3 (upd (upd H4 t (.tup [vn (sw g a.2), vn (sw g a.1)])) L (.lst (acc ++ [.ref t]))) ∧ ∃ us, (upd (upd H4 t (.tup [vn (sw g a.2), vn (sw g a.1)])) L (.lst (acc ++ [.ref t]))) L = some (.lst us) ∧ PairsV (upd (upd H4 t (.tup [vn (sw g a.2), vn (sw g a.1)])) L (.lst (acc ++ [.ref t]))) us ((as.take (j + 1)).map fun a => (sw g a.2, sw g a.1))) := by
  have k5 : Kp [] H4 (upd H4 t (.tup [vn (sw g a.2), vn (sw g a.1)])) := Kp.mk_new nt
  have nLt : L ≠ t := ne_of_none hL nt
  have hj' : j < as.length := (List.getElem?_eq_some_iff.mp hp).1
  have hus : us.length = j := by rw [pv.1, List.length_map, List.length_take]; omega
  have hL5 : (upd H4 t (.tup [vn (sw g a.2), vn (sw g a.1)])) L = some (.lst us) := by rw [upd_ne nLt]; exact hL
  refine ⟨us, hL5, szl (by omega), (k4.add k5).put hL5 (by exact trivial) (.inr nL), us ++ [.ref t], upd_same, ?_⟩
  rw [take_more hp, List.map_append]
  have k6 : Kp [L] H4 (upd (upd H4 t (.tup [vn (sw g a.2), vn (sw g a.1)])) L (.lst (us ++ [.ref t]))) := (k5.weak fun _ m => nomatch m).put hL5 (by exact trivial) (.inl (by simp))
  exact (pv.keep k6).snoc (p := (sw g a.2, sw g a.1)) (by rw [upd_ne nLt.symm, upd_same])
/-- goals[-1:] -/
theorem slice_one {H : Hp} {gl : Addr} {l : List Nat} {Q : VK} (h : l ≠ []) (hg : TupN H gl l) (q : ∀ t H', Kp [] H H' → TupN H' t [l.getLast h] → Q (.ref t) H') : rSlA K (.ref gl) (some (-1)) none H Q := by
  obtain ⟨e1, e2, e3⟩ := cut_last h
  have hp : 0 < l.length := List.length_pos_iff.mpr h
  refine ⟨gl, _, rfl, SqT.of hg, fun ⟨z1, _⟩ => ?_, fun _ p np => ?_⟩
  · rw [e1] at z1
    have l1 : l.length = 1 := by omega
    obtain ⟨x, rfl⟩ := List.length_eq_one_iff.mp l1
    exact q gl H Kp.refl hg
  · rw [e3]
    exact q p _ (Kp.mk_new np) upd_same
def spTwice : Sp := fun vs H Q _ => ∃ (h ca : Addr) (cells : List Int), vs = [.ref h] ∧ Hand H h ca cells ∧ ∀ H', Kp [h] H H' → Hand H' h ca cells → Q (.bl true) H'
theorem ok_twice (T : Tx K mg)  : FnOk P w K mg base CX0 8 T.d_law_is_turned_twice.f T.d_law_is_turned_twice.fd ["_law_hand_here"] (spTwice) := by
  refine T.d_law_is_turned_twice.F.ok sc_law_is_turned_twice (fun vs H Q E h => ?_) (fun cdv A outer s H vs Q E hr h => ?_)
  · obtain ⟨h, ca, cells, rfl, _⟩ := h; rfl
  obtain ⟨h, ca, cells, rfl, hh, q⟩ := h
  have G_law_parts := ok_drawn (P := P) (w := w) (base := base) T
  have G_Map_init := ok_Map_init (P := P) (w := w) (base := base) T
  have G_turned := ok_turned (P := P) (w := w) (base := base) T
  have G_eq_M := ok_eq_M (P := P) (w := w) (base := base) T
  have G_eq_R := ok_eq_R (P := P) (w := w) (base := base) T
  refine ⟨_, (pss_cons (ps_asg (pe_call G_law_parts (hr.mono (by omega)) rfl T.d_law_parts.g T.d_law_parts.F.kp (b_law_parts T.d_law_parts.F) .nil pass0 (pa_cons (pv 0) (pa_cons pe_int (pa_cons pe_int pa_nil)))) (pg_tup rfl (pgs_cons (pg_name (i := 1) sc_law_is_turned_twice.nd rfl (Or.inl rfl)) (pgs_cons (pg_name (i := 2) sc_law_is_turned_twice.nd rfl (Or.inl rfl)) (pgs_cons (pg_name (i := 3) sc_law_is_turned_twice.nd rfl (Or.inl rfl)) pgs_nil)))))
  (pss_cons (ps_set (i := 4) sc_law_is_turned_twice.nd rfl (Or.inl rfl) (pe_make T.mk_Map G_Map_init (hr.mono (by omega)) rfl T.k_Map.g (b_Map_init T.m_Map_init.F) .nil pass0 (pa_cons (pv 1) (pa_cons (pv 2) (pa_cons (pe_slice sl_tupA (pv 3) (po_some (pe_un un_neg pe_int)) po_none) pa_nil)))))
  (pss_cons (ps_set (i := 5) sc_law_is_turned_twice.nd rfl (Or.inr rfl) (pe_listRg (by rfl) rfl T.b_list (prg_1 rfl T.b_range (pv 1))))
  (pss_cons (ps_asg (pe_ix ix_tup (pv 3) (pe_un un_neg pe_int) (fun _ _ => rfl)) (pg_sub (pv 5) pe_int set_list))
  (pss_cons (ps_asg pe_int (pg_sub (pv 5) (pe_ix ix_tup (pv 3) (pe_un un_neg pe_int) (fun _ _ => rfl)) set_list))
  (pss_cons (ps_set (i := 6) sc_law_is_turned_twice.nd rfl (Or.inl rfl) (pe_call G_turned (hr.mono (by omega)) rfl T.d_turned.g T.d_turned.F.kp (b_turned T.d_turned.F) .nil passL (pa_cons (pv 4) pa_nil)))
  (pss_cons (ps_if (pt_cmpR (op_neO (C := T.c_RawMap) (C' := T.c_Map) G_eq_R T.RawMap_eq.at_ T.RawMap_eq.fn T.ne_RawMap T.ob_RawMap T.nf_RM (b_Map_eq T.m_Map_eq.F) pass0 (hr.mono (by omega))) (pv 6) (pe_make T.mk_Map G_Map_init (hr.mono (by omega)) rfl T.k_Map.g (b_Map_init T.m_Map_init.F) .nil pass0 (by exact (pa_cons (pv 1) (pa_cons (pe_callTy call_tuple_of (by rfl) T.b_tuple (by decide +kernel) (pa_cons (pe_lc (own := [("_law_tail_here", 7), ("_law_head", 8)]) (g := (gTup K 2 (gCons (gName 7) (gCons (gName 8) gNil)))) (te := (tTup (tCons (tOp (rIxL K) _ _) (tCons (tOp (rIxL K) _ _) tNil)))) (hs := by intro _; rfl) rfl sc_law_is_turned_twice.nd (pi_tup (pv 2)) (blkOk_by (N := ["_law_hand_here", "_law_many", "_law_arrows", "_law_goals", "_law_chart", "_law_number", "_law_found", "_law_tail_here", "_law_head"]) (sc := defScope s_law_is_turned_twice) (own := [("_law_tail_here", 7), ("_law_head", 8)]) (by decide +kernel)) (fun _ _ _ _ _ => (pg_tup rfl (pgs_cons (pg_name (i := 7) sc_law_is_turned_twice.nd rfl (Or.inl rfl) (hf := by exact Or.inr rfl)) (pgs_cons (pg_name (i := 8) sc_law_is_turned_twice.nd rfl (Or.inl rfl) (hf := by exact Or.inr rfl)) pgs_nil)))) (fun _ _ _ _ _ => pts_nil) (fun _ _ _ _ _ => (pe_tup (pa_cons (pe_ix ix_list (pv 5) (pv 8) (fun _ _ => rfl)) (pa_cons (pe_ix ix_list (pv 5) (pv 7) (fun _ _ => rfl)) pa_nil))))) pa_nil)) (pa_cons (pe_slice sl_tupA (pv 3) (po_some (pe_un un_neg pe_int)) po_none) pa_nil))))) (nomark _)) (pss_one (ps_ret pe_bl)) pss_nil)
  (pss_one (ps_ret (pe_and (pe_cmpR (op_eqO (C := T.c_RawMap) (C' := T.c_Map) G_eq_R T.RawMap_eq.at_ T.RawMap_eq.fn T.nf_RM (b_Map_eq T.m_Map_eq.F) pass0 (hr.mono (by omega))) (pe_call G_turned (hr.mono (by omega)) rfl T.d_turned.g T.d_turned.F.kp (b_turned T.d_turned.F) .nil passL (pa_cons (pv 6) pa_nil)) (pv 4) (nomark _)) (pe_one (pe_cmpR (op_eqO (C := T.c_Map) (C' := T.c_Map) G_eq_M T.Map_eq.at_ T.Map_eq.fn T.nf_MM (b_Map_eq T.m_Map_eq.F) pass0 (hr.mono (by omega))) (pv 4) (pe_make T.mk_Map G_Map_init (hr.mono (by omega)) rfl T.k_Map.g (b_Map_init T.m_Map_init.F) .nil pass0 (pa_cons (pv 1) (pa_cons (pv 2) (pa_cons (pe_slice sl_tupA (pv 3) (po_some (pe_un un_neg pe_int)) po_none) pa_nil)))) (nomark _))))))))))))), ?_⟩
  refine ⟨_, rfl, h, ca, cells, 40, 60, rfl, hh, by decide, by decide, by decide, by decide, fun pt ar gl P' H1 k1 hh1 hpt har hgl G _ => ?_⟩
  refine ⟨pt, _, rfl, SqT.of hpt, rfl, _, _, rfl, _, _, rfl, _, _, rfl, rfl, ?_⟩
  have gne := G.ne
  have gne' : P'.goals.map vn ≠ [] := by simpa using gne
  generalize hg : P'.goals.getLast gne = g
  have gm : g ∈ P'.goals := hg ▸ List.getLast_mem gne
  have G1 := good_one G gm
  have glt : g < P'.many := G.lot.2 g gm
  have g0 : g ≠ 0 := fun z => G.no0 (z ▸ gm)
  have m2 := G.m2
  have m40 := G.m40
  -- the chart
  refine ⟨_, rfl, _, rfl, _, rfl, _, rfl, _, rfl, ?_⟩
  dsimp only [tNoPart]
  refine slice_one (K := K) gne hgl fun gt H2 k2 hgt => ?_
  rw [hg] at hgt
  intro c cx nc ncx ne
  have k3 : Kp [] H2 (upd (upd H2 cx (.own c)) c (.ins T.c_Map cx [])) := (Kp.mk_new ncx).new (by rw [upd_ne ne.symm]; exact nc)
  have o3 : (upd (upd H2 cx (.own c)) c (.ins T.c_Map cx [])) c = some (.ins T.c_Map cx []) := upd_same
  generalize upd (upd H2 cx (.own c)) c (.ins T.c_Map cx []) = H3 at k3 o3 ⊢
  refine ⟨c, cx, ar, gt, ⟨P'.many, P'.arrows, [g]⟩, rfl, o3, G1, (har.keep k2).keep k3, hgt.keep k3, fun d H4 nd4 k4 M4 hd4 => ⟨rfl, ?_⟩⟩
  have k24 : Kp [] H2 H4 := ((k3.weak (S' := [c]) (fun _ m => nomatch m)).trans k4 (fun _ m => .inl m)).drop nc
  have k14 := k2.add k24
  have har4 := har.keep k14
  have hgl4 := hgl.keep k14
  have hgt4 := hgt.keep k24
  dsimp only [gName]
  -- the numbers
  refine ⟨_, rfl, _, rfl, RgOk.of_le (by omega) (by omega) (by omega) (by omega), fun nm nnm => ?_⟩
  have k5 : Kp [] H4 (upd H4 nm (.lst (rgV 0 (P'.many : Int)))) := Kp.mk_new nnm
  have n5 : (upd H4 nm (.lst (rgV 0 (P'.many : Int)))) nm = some (.lst ((List.range P'.many).map vn)) := by rw [upd_same, rg_nat]
  generalize upd H4 nm (.lst (rgV 0 (P'.many : Int))) = H5 at k5 n5 ⊢
  dsimp only [gName]
  have lastv : ∀ {H' : Hp}, Kp [] H4 H' → SqT K H' gl (P'.goals.map vn) ∧ atI (P'.goals.map vn) (-1) = some (vn g) := fun {H'} k => ⟨SqT.of (hgl4.keep k), by rw [atI_last gne', map_last gne gne', hg]⟩
  refine ⟨_, rfl, _, rfl, gl, _, _, _, rfl, rfl, (lastv k5).1, (lastv k5).2, _, rfl, nm, _, _, 0, rfl, rfl, n5, ixN_n (by simp; omega), ?_⟩
  have k6 : Kp [] H4 (upd H5 nm (.lst (((List.range P'.many).map vn).set 0 (vn g)))) := k5.put n5 (by exact trivial) (.inr nnm)
  have n6 : (upd H5 nm (.lst (((List.range P'.many).map vn).set 0 (vn g)))) nm = some (.lst (((List.range P'.many).map vn).set 0 (vn g))) := upd_same
  generalize upd H5 nm (.lst (((List.range P'.many).map vn).set 0 (vn g))) = H6 at k6 n6 ⊢
  refine ⟨_, rfl, _, rfl, _, rfl, gl, _, _, _, rfl, rfl, (lastv k6).1, (lastv k6).2, nm, _, _, g, rfl, rfl, n6, ixN_n (by simp; omega), ?_⟩
  have k7 : Kp [] H4 (upd H6 nm (.lst ((((List.range P'.many).map vn).set 0 (vn g)).set g (vn 0)))) := k6.put n6 (by exact trivial) (.inr nnm)
  have n7 : (upd H6 nm (.lst ((((List.range P'.many).map vn).set 0 (vn g)).set g (vn 0)))) nm = some (.lst ((List.range P'.many).map fun v => vn (sw g v))) := by rw [upd_same, sw_list g0 glt]
  have e0 : (V.int 0) = vn 0 := rfl
  rw [e0]
  generalize upd H6 nm (.lst ((((List.range P'.many).map vn).set 0 (vn g)).set g (vn 0))) = H7 at k7 n7 ⊢
  have M7 := M4.keep k7 (by simp)
  have arr1 : ∀ a, a ∈ P'.arrows → a.1 < P'.many ∧ a.2 < P'.many := fun a ha => ⟨(G.arr a ha).1, (G.arr a ha).2.1⟩
  -- turned
  refine ⟨_, rfl, T.c_Map, c, d, ⟨P'.many, P'.arrows, [g]⟩, T.kmM, rfl, M7, m40, G.len, arr1, fun z => (by simp at z), fun _ => ⟨g, rfl, glt, g0, fun f fdd H8 nf nfd k8 M8 hfd => ?_⟩⟩
  dsimp only [gName]
  have k48 := k7.add k8
  have n8 := k8.get _ _ n7 (by simp)
  obtain ⟨vs, a1, a2⟩ := har4.keep k48
  -- the due one
  refine ⟨_, rfl, _, rfl, _, rfl, ar, rfl, ⟨_, SqT.of a1⟩, fun L nL => lc_tup (K := K) (a := ar) (xs := vs) (fun j H' => Kp [] H8 H' ∧ ∃ us, H' L = some (.lst us) ∧ PairsV H' us ((P'.arrows.take j).map fun a => (sw g a.2, sw g a.1))) ⟨Kp.mk_new nL, [], upd_same, PairsV.nil⟩ (fun j H' _ ⟨k, _⟩ => SqT.of (k.tup _ _ a1)) ?_ ?_⟩
  · rintro j x H9 hj ⟨k9, us, hL, pv⟩
    obtain ⟨a, pa, hp, rfl, hpa⟩ := a2.at_ hj
    obtain ⟨b1, b2⟩ := arr1 a (List.mem_of_getElem? hp)
    have n9 := SqL.of (K := K) (k9.get _ _ n8 (by simp))
    refine ⟨pa, _, rfl, SqT.of (k9.tup _ _ hpa), rfl, _, _, rfl, _, _, rfl, rfl, rfl, ?_⟩
    refine ⟨_, rfl, _, rfl, nm, _, _, _, rfl, rfl, n9, row_at b2, _, rfl, _, rfl, nm, _, _, _, rfl, rfl, n9, row_at b1, sz (by show 2 ≤ 100000; decide), fun t nt => ?_⟩
    exact spin hp k9 nL hL pv G.len nt
  rintro H9 ⟨k9, us, hL, pv⟩
  have el : P'.arrows.take vs.length = P'.arrows := List.take_of_length_le (by rw [a2.1]; exact Nat.le_refl _)
  rw [el] at pv
  refine ⟨L, us, rfl, .inl ⟨SqL.of hL, fun at_ nat => ?_⟩⟩
  have k10 : Kp [] H9 (upd H9 at_ (.tup us)) := Kp.mk_new nat
  have t10 : TupP (upd H9 at_ (.tup us)) at_ (P'.arrows.map fun a => (sw g a.2, sw g a.1)) := ⟨us, upd_same, pv.keep k10⟩
  generalize upd H9 at_ (.tup us) = H10 at k10 t10 ⊢
  have k810 := k9.add k10
  refine ⟨_, rfl, _, rfl, _, rfl, ?_⟩
  dsimp only [tNoPart]
  refine slice_one (K := K) gne (hgl4.keep (k48.add k810)) fun gt2 H11 k11 hgt2 => ?_
  rw [hg] at hgt2
  intro c2 cx2 nc2 ncx2 ne2
  have k12 : Kp [] H11 (upd (upd H11 cx2 (.own c2)) c2 (.ins T.c_Map cx2 [])) := (Kp.mk_new ncx2).new (by rw [upd_ne ne2.symm]; exact nc2)
  have o12 : (upd (upd H11 cx2 (.own c2)) c2 (.ins T.c_Map cx2 [])) c2 = some (.ins T.c_Map cx2 []) := upd_same
  generalize upd (upd H11 cx2 (.own c2)) c2 (.ins T.c_Map cx2 []) = H12 at k12 o12 ⊢
  refine ⟨c2, cx2, at_, gt2, turnP ⟨P'.many, P'.arrows, [g]⟩ g, rfl, o12, good_turn G1 rfl glt g0, (t10.keep k11).keep k12, hgt2.keep k12, fun d2 H13 nd13 k13 M13 hd13 => ⟨rfl, ?_⟩⟩
  have k1113 : Kp [] H11 H13 := ((k12.weak (S' := [c2]) (fun _ m => nomatch m)).trans k13 (fun _ m => .inl m)).drop nc2
  have k813 := (k810.add k11).add k1113
  have M8' := M8.keep k813 (by simp)
  obtain ⟨dxf, arf, glf, f1, _⟩ := M8'.ob
  obtain ⟨dxc, arc, glc, c1, _⟩ := M13.ob
  refine ⟨f, c2, dxf, dxc, _, _, rfl, rfl, f1, c1, f, c2, _, fdd, d2, rfl, M8', M13, fun H14 k14' => ⟨true, rfl, _, rfl, ?_⟩⟩
  refine iteF ?_
  -- turned twice
  have k814 := k813.add k14'
  have M14 := M8.keep k814 (by simp)
  have arr2 : ∀ a, a ∈ (turnP ⟨P'.many, P'.arrows, [g]⟩ g).arrows → a.1 < P'.many ∧ a.2 < P'.many := fun a ha => by
    obtain ⟨b, hb, rfl⟩ := List.mem_map.mp ha
    obtain ⟨b1, b2⟩ := arr1 b hb
    exact ⟨sw_lt glt b2, sw_lt glt b1⟩
  refine ⟨_, rfl, T.c_RawMap, f, fdd, turnP ⟨P'.many, P'.arrows, [g]⟩ g, T.kmR, rfl, M14, m40, by show (P'.arrows.map _).length ≤ 60; rw [List.length_map]; exact G.len, arr2, fun z => (by have : (turnP ⟨P'.many, P'.arrows, [g]⟩ g).goals = [g] := rfl
                                                                                                                                                                                            rw [this] at z; simp at z), fun _ => ⟨g, rfl, glt, g0, fun f2 fd2 H15 nf2 nfd2 k15 M15 _ => ?_⟩⟩
  rw [turn_turn] at M15
  have k415 := (k48.add k814).add k15
  have Mc15 := M4.keep k415 (by simp)
  obtain ⟨dxf2, arf2, glf2, f2o, _⟩ := M15.ob
  obtain ⟨dxc2, arc2, glc2, c2o, _⟩ := Mc15.ob
  refine ⟨_, rfl, f2, c, dxf2, dxc2, _, _, rfl, rfl, f2o, c2o, f2, c, _, fd2, d, rfl, M15, Mc15, fun H16 k16 => ⟨true, rfl, true, rfl, iteT ?_⟩⟩
  -- the chart again
  have k416 := k415.add k16
  refine ⟨_, rfl, _, rfl, _, rfl, _, rfl, _, rfl, _, rfl, ?_⟩
  dsimp only [tNoPart]
  refine slice_one (K := K) gne (hgl4.keep k416) fun gt3 H17 k17 hgt3 => ?_
  rw [hg] at hgt3
  intro c3 cx3 nc3 ncx3 ne3
  have k18 : Kp [] H17 (upd (upd H17 cx3 (.own c3)) c3 (.ins T.c_Map cx3 [])) := (Kp.mk_new ncx3).new (by rw [upd_ne ne3.symm]; exact nc3)
  have o18 : (upd (upd H17 cx3 (.own c3)) c3 (.ins T.c_Map cx3 [])) c3 = some (.ins T.c_Map cx3 []) := upd_same
  generalize upd (upd H17 cx3 (.own c3)) c3 (.ins T.c_Map cx3 []) = H18 at k18 o18 ⊢
  refine ⟨c3, cx3, ar, gt3, ⟨P'.many, P'.arrows, [g]⟩, rfl, o18, G1, har4.keep ((k416.add k17).add k18), hgt3.keep k18, fun d3 H19 nd19 k19 M19 hd19 => ⟨rfl, ?_⟩⟩
  have k1719 : Kp [] H17 H19 := ((k18.weak (S' := [c3]) (fun _ m => nomatch m)).trans k19 (fun _ m => .inl m)).drop nc3
  have k419 := (k416.add k17).add k1719
  have Mc19 := M4.keep k419 (by simp)
  obtain ⟨dxa, ara, gla, ao, _⟩ := Mc19.ob
  obtain ⟨dxb, arb, glb, bo, _⟩ := M19.ob
  refine ⟨c, c3, dxa, dxb, _, _, rfl, rfl, ao, bo, c, c3, _, d, d3, rfl, Mc19, M19, fun H20 k20 => ⟨true, rfl, ?_⟩⟩
  have kf : Kp [] H1 H20 := (k14.add k419).add k20
  exact q H20 (k1.add kf) (hh1.new kf)
end
end K33
/-! K33L9: the law -/
namespace K33
open PySem PySem.Spec PyProof.Rows L2
/-! ### lists of lots compared -/
def dL (bs : List (List Int)) : PyData := .list (bs.map fun b => PyData.tuple (b.map PyData.int))
theorem dp_ints {K : PySem.W.Frag} {H : Hp} : ∀ ns : List Int, DpAll K H (ns.map V.int) (ns.map PyData.int)
  | [] => .nil
  | n :: ns => .cons (.int _) (dp_ints ns)
theorem dp_lots {K : PySem.W.Frag} {H : Hp} : ∀ {vs : List V} {bs : List (List Int)}, TupsV H vs bs → DpAll K H vs (bs.map fun b => PyData.tuple (b.map PyData.int))
  | [], [], _ => .nil
  | [], _ :: _, h => by have := h.1; simp at this
  | _ :: _, [], h => by have := h.1; simp at this
  | v :: vs, b :: bs, h => by
    obtain ⟨a, h1, h2⟩ := h.2 0 b rfl
    have e : v = .ref a := by simpa using h1
    subst e
    exact .cons (.tup (SqT.of h2) (dp_ints b)) (dp_lots ⟨by have := h.1; simpa using this, fun i q hq => h.2 (i + 1) q hq⟩)
theorem can_ints : ∀ ns : List Int, PyData.canLayAll0 (ns.map PyData.int) = true
  | [] => by simp [PyData.canLayAll0]
  | n :: ns => by simp [PyData.canLayAll0, PyData.canLay0, can_ints ns]
theorem can_lots : ∀ bs : List (List Int), PyData.canLayAll0 (bs.map fun b => PyData.tuple (b.map PyData.int)) = true
  | [] => by simp [PyData.canLayAll0]
  | b :: bs => by simp [PyData.canLayAll0, PyData.canLay0, can_lots bs, can_ints b]
theorem dep_lots : ∀ bs : List (List Int), PyData.depthAll (bs.map fun b => PyData.tuple (b.map PyData.int)) ≤ 5
  | [] => by simp [PyData.depthAll]
  | b :: bs => by
    have h1 := dep_lots bs
    have h2 := depth_ints0 b
    simp only [List.map_cons, PyData.depthAll, PyData.depth]; omega
theorem shaped_L (bs : List (List Int)) : SeqAt.shaped (dL bs) = true := by
  unfold SeqAt.shaped dL
  have h1 := dep_lots bs
  rw [Bool.and_eq_true]
  refine ⟨by simp [PyData.canLay0, can_lots], decide_eq_true ?_⟩
  simp only [PyData.depth]
  omega
theorem eqv_L (bs : List (List Int)) : PyData.eqv (dL bs) (dL bs) = true := SeqAt.eqv_refl _ (SeqAt.canLay_of_shaped (shaped_L bs))
theorem tups_at {H : Hp} {vs : List V} {bs : List (List Int)} (h : TupsV H vs bs) {i : Nat} {x : V} (e : vs[i]? = some x) : ∃ b a, bs[i]? = some b ∧ x = .ref a ∧ H a = some (.tup (b.map V.int)) := by
  have hi : i < bs.length := by
    have := (List.getElem?_eq_some_iff.mp e).1
    rw [h.1] at this; exact this
  obtain ⟨a, h1, h2⟩ := h.2 i bs[i] (List.getElem?_eq_getElem hi)
  rw [e] at h1
  exact ⟨bs[i], a, List.getElem?_eq_getElem hi, Option.some.inj h1, h2⟩
/-! ### lots turned about -/
def swB (g : Nat) (b : List Int) : List Int := cst (soR ((b.map Int.toNat).map (sw g)))
theorem cst_nat (l : List Nat) : (cst l).map Int.toNat = l := by
  unfold cst
  rw [List.map_map]
  conv => rhs; rw [← List.map_id l]
  exact List.map_congr_left fun x _ => Int.toNat_natCast x
theorem lots_few {P : Pt} {W : Int} {bs : List (List Int)} (h : LotsB P W bs) (m6 : P.many ≤ 6) : bs.length ≤ 64 := by
  have := nd_len (n := 64) (l := bs.map fun b => maskN (b.map Int.toNat)) (map_nd h.nd fun x y hx hy e => ?_) fun c hc => ?_
  · rw [List.length_map] at this
    exact this
  · obtain ⟨o, l, hp, hs, hl, rfl⟩ := (h.mem x).mp hx
    obtain ⟨o', l', hp', hs', hl', rfl⟩ := (h.mem y).mp hy
    have e1 : maskN ((cst l).map Int.toNat) = maskN ((cst l').map Int.toNat) := e
    rw [cst_nat, cst_nat] at e1
    congr 1
    refine asc_eq hs hs' fun i => ?_
    have b1 := maskN_bit l i
    have b2 := maskN_bit l' i
    rw [e1, b2] at b1
    have := decide_eq_decide.mp b1
    exact this.symm
  · obtain ⟨b, hb, rfl⟩ := List.mem_map.mp hc
    obtain ⟨o, l, hp, hs, hl, rfl⟩ := (h.mem b).mp hb
    show maskN ((cst l).map Int.toNat) < 2 ^ 6
    rw [cst_nat]
    exact mask_lt fun v hv => Nat.lt_of_lt_of_le (hp.lt v (hl.mem_iff.mp hv)) m6
theorem lots_turn {P : Pt} {g : Nat} {W : Int} {bs : List (List Int)} (hg : P.goals = [g]) (gm : g < P.many) (h : LotsB P W bs) : LotsB (turnP P g) W ((srt bs).map (swB g)) := by
  have mem : ∀ b, b ∈ srt bs ↔ IsLot P W b := fun b => by
    rw [← h.mem]
    exact (List.mergeSort_perm bs _).mem_iff
  have nd0 : (srt bs).Nodup := (List.mergeSort_perm bs _).nodup_iff.mpr h.nd
  have snd : ∀ {l : List Nat}, l.Nodup → (l.map (sw g)).Nodup := fun hl => map_nd hl fun x y _ _ e => sw_inj g x y e
  have back : ∀ l : List Nat, (l.map (sw g)).map (sw g) = l := fun l => by
    rw [List.map_map]
    conv => rhs; rw [← List.map_id l]
    exact List.map_congr_left fun x _ => sw_sw g x
  refine ⟨map_nd nd0 fun x y hx hy e => ?_, fun b => ?_⟩
  · obtain ⟨o, l, hp, hs, hl, rfl⟩ := (mem x).mp hx
    obtain ⟨o', l', hp', hs', hl', rfl⟩ := (mem y).mp hy
    have e1 : cst (soR (((cst l).map Int.toNat).map (sw g))) = cst (soR (((cst l').map Int.toNat).map (sw g))) := e
    rw [cst_nat, cst_nat] at e1
    have e2 := cast_inj e1
    have p1 : (l.map (sw g)).Perm (l'.map (sw g)) := (soR_perm _).symm.trans (e2 ▸ soR_perm _)
    have p2 := p1.map (sw g)
    rw [back, back] at p2
    congr 1
    exact asc_eq hs hs' fun i => p2.mem_iff
  · rw [List.mem_map]
    constructor
    · rintro ⟨x, hx, rfl⟩
      obtain ⟨o, l, hp, hs, hl, rfl⟩ := (mem x).mp hx
      have hp' := part_turn hg gm hp
      show IsLot _ _ (cst (soR (((cst l).map Int.toNat).map (sw g))))
      rw [cst_nat]
      exact ⟨_, soR (l.map (sw g)), hp', soR_srt (snd (asc_nd hs)), (soR_perm _).trans ((hl.map _).trans (List.reverse_perm _).symm), rfl⟩
    · rintro ⟨o', l', hp, hs, hl, rfl⟩
      have hp' := part_turn (p := turnP P g) hg gm hp
      rw [turn_turn] at hp'
      have ho := asc_nd hs
      refine ⟨cst (soR (l'.map (sw g))), (mem _).mpr ⟨_, soR (l'.map (sw g)), hp', soR_srt (snd ho), (soR_perm _).trans ((hl.map _).trans (List.reverse_perm _).symm), rfl⟩, ?_⟩
      show cst (soR (((cst (soR (l'.map (sw g)))).map Int.toNat).map (sw g))) = cst l'
      rw [cst_nat]
      congr 1
      have p1 : ((soR (l'.map (sw g))).map (sw g)).Perm l' := by
        have := (soR_perm (l'.map (sw g))).map (sw g)
        rw [back] at this
        exact this
      exact asc_eq (soR_srt (p1.nodup_iff.mpr ho)) hs fun i => by rw [(soR_perm _).mem_iff, p1.mem_iff]
/-- the scope of the comprehension that the law ends with -/
abbrev scLot : Scope := { kind := .function, names := [((".0" : Str), .local), (("_law_lot" : Str), .local), (("tuple" : Str), .globalImplicit), (("sorted" : Str), .globalImplicit), (("_law_number" : Str), .cell)], isGenerator := false, isCoroutine := false }
def rTupOf (K : PySem.W.Frag) : List V → Hp → VK → Prop := fun xs H Q => ∃ p ys, xs = [.ref p] ∧ ((SqL K H p ys ∧ ∀ l, H l = none → Q (.ref l) (upd H l (.tup ys))) ∨ (SqT K H p ys ∧ Q (.ref p) H))
section
variable {P : Program} {w : World} {K : PySem.W.Frag} {mg : Str → Option Value} {base : Heap}
def spLaw (K : PySem.W.Frag) : Sp := fun vs H Q _ => ∃ (a : Addr) (ns : List Int), vs = [.ref a] ∧ SqL K H a (ns.map V.int) ∧ ns.length ≤ 63 ∧ ∀ H', Q (.bl true) H'
theorem ok_law (T : Tx K mg)  : FnOk P w K mg base CX0 27 T.d_law.f T.d_law.fd ["_law_script"] (spLaw K) := by
  refine T.d_law.F.ok sc_law (fun vs H Q E h => ?_) (fun cdv A outer s H vs Q E hr h => ?_)
  · obtain ⟨a, ns, rfl, _⟩ := h; rfl
  obtain ⟨a, ns, rfl, ha, _, q⟩ := h
  have G_law_hand := ok_law_hand (P := P) (w := w) (base := base) T
  have G_law_draw := ok_law_draw (P := P) (w := w) (base := base) T
  have G_law_is_turned_twice := ok_twice (P := P) (w := w) (base := base) T
  have G_law_parts := ok_drawn (P := P) (w := w) (base := base) T
  have G_Map_init := ok_Map_init (P := P) (w := w) (base := base) T
  have G_law_lots := ok_lots_of (P := P) (w := w) (base := base) T
  have G_worst := ok_worst (P := P) (w := w) (base := base) T
  have G_greatest_lots := ok_gr_lots (P := P) (w := w) (base := base) T
  have G_law_turned := ok_law_turned (P := P) (w := w) (base := base) T
  have G_turned := ok_turned (P := P) (w := w) (base := base) T
  have G_eq_R := ok_eq_R (P := P) (w := w) (base := base) T
  refine ⟨_, (pss_cons (ps_set (i := 1) sc_law.nd rfl (Or.inl rfl) (pe_call G_law_hand (hr.mono (by omega)) rfl T.d_law_hand.g T.d_law_hand.F.kp (b_law_hand T.d_law_hand.F) .nil pass0 (pa_cons (pv 0) pa_nil)))
  (pss_cons (ps_if (PW.pt (pw_and (pt_cmpR op_eq (pe_call G_law_draw (hr.mono (by omega)) rfl T.d_law_draw.g T.d_law_draw.F.kp (b_law_draw T.d_law_draw.F) .nil pass0 (pa_cons (pv 1) (pa_cons pe_int pa_nil))) pe_int (nomark _)) (pw_and1 (pt_not (pt_val (pe_call G_law_is_turned_twice (hr.mono (by omega)) rfl T.d_law_is_turned_twice.g T.d_law_is_turned_twice.F.kp (b_law_is_turned_twice T.d_law_is_turned_twice.F) .nil pass0 (pa_cons (pv 1) pa_nil))))))) (pss_one (ps_ret pe_bl)) pss_nil)
  (pss_cons (ps_set (i := 2) sc_law.nd rfl (Or.inl rfl) (pe_call G_law_parts (hr.mono (by omega)) rfl T.d_law_parts.g T.d_law_parts.F.kp (b_law_parts T.d_law_parts.F) .nil pass0 (pa_cons (pv 1) (pa_cons pe_int (pa_cons pe_int pa_nil)))))
  (pss_cons (ps_set (i := 3) sc_law.nd rfl (Or.inl rfl) (pe_make T.mk_Map G_Map_init (hr.mono (by omega)) rfl T.k_Map.g (b_Map_init T.m_Map_init.F) .nil pass0 (pa_cons (pe_ix ix_tup (pv 2) pe_int (fun _ _ => rfl)) (pa_cons (pe_ix ix_tup (pv 2) pe_int (fun _ _ => rfl)) (pa_cons (pe_ix ix_tup (pv 2) pe_int (fun _ _ => rfl)) pa_nil)))))
  (pss_cons (ps_asg (pe_call G_law_lots (hr.mono (by omega)) rfl T.d_law_lots.g T.d_law_lots.F.kp (b_law_lots T.d_law_lots.F) .nil pass0 (pa_cons (pv 2) pa_nil)) (pg_tup rfl (pgs_cons (pg_name (i := 4) sc_law.nd rfl (Or.inl rfl)) (pgs_cons (pg_name (i := 5) sc_law.nd rfl (Or.inl rfl)) pgs_nil))))
  (pss_cons (ps_if (PW.pt (pw_or (pt_cmpR op_ne (pe_call G_worst (hr.mono (by omega)) rfl T.d_worst.g T.d_worst.F.kp (b_worst T.d_worst.F) .nil pass0 (pa_cons (pv 3) pa_nil)) (pv 4) (nomark _)) (pw_or1 (pt_cmpR (op_neD hr.units) (pe_call G_greatest_lots (hr.mono (by omega)) rfl T.d_greatest_lots.g T.d_greatest_lots.F.kp (b_greatest_lots T.d_greatest_lots.F) .nil pass0 (pa_cons (pv 3) pa_nil)) (pv 5) (nomark _))))) (pss_one (ps_ret pe_bl)) pss_nil)
  (pss_cons (ps_set (i := 6) sc_law.nd rfl (Or.inl rfl) (pe_call G_law_turned (hr.mono (by omega)) rfl T.d_law_turned.g T.d_law_turned.F.kp (b_law_turned T.d_law_turned.F) .nil pass0 (pa_cons (pv 3) pa_nil)))
  (pss_cons (ps_if (pt_cmpR op_gt (pe_callB call_len_seq (by rfl) T.b_len (by decide +kernel) (pa_cons (pe_ix ix_tup (pv 2) pe_int (fun _ _ => rfl)) pa_nil)) pe_int (nomark _)) (pss_one (ps_ret (pe_cmpR op_eq (pv 6) pe_str (nomark _)))) pss_nil)
  (pss_cons (ps_set (i := 7) sc_law.nd rfl (Or.inl rfl) (pe_ix ix_tup (pe_ix ix_tup (pv 2) pe_int (fun _ _ => rfl)) pe_int (fun _ _ => rfl)))
  (pss_cons (ps_set (i := 8) sc_law.nd rfl (Or.inr rfl) (pe_listRg (by rfl) rfl T.b_list (prg_1 rfl T.b_range (pe_ix ix_tup (pv 2) pe_int (fun _ _ => rfl)))))
  (pss_cons (ps_asg (pv 7) (pg_sub (pv 8) pe_int set_list))
  (pss_cons (ps_asg pe_int (pg_sub (pv 8) (pv 7) set_list))
  (pss_cons (ps_set (i := 9) sc_law.nd rfl (Or.inl rfl) (pe_make T.mk_Map G_Map_init (hr.mono (by omega)) rfl T.k_Map.g (b_Map_init T.m_Map_init.F) .nil pass0 (by exact (pa_cons (pe_ix ix_tup (pv 2) pe_int (fun _ _ => rfl)) (pa_cons (pe_callTy call_tuple_of (by rfl) T.b_tuple (by decide +kernel) (pa_cons (pe_lc (own := [("_law_tail_here", 10), ("_law_head", 11)]) (g := (gTup K 2 (gCons (gName 10) (gCons (gName 11) gNil)))) (te := (tTup (tCons (tOp (rIxL K) _ _) (tCons (tOp (rIxL K) _ _) tNil)))) (hs := by intro _; rfl) rfl sc_law.nd (pi_tup (pe_ix ix_tup (pv 2) pe_int (fun _ _ => rfl))) (blkOk_by (N := ["_law_script", "_law_hand_here", "_law_parts_here", "_law_chart", "_law_most", "_law_lots_here", "_law_found", "_law_goal", "_law_number", "_law_due", "_law_tail_here", "_law_head", "_law_lot", "_law_place"]) (sc := defScope s_law) (own := [("_law_tail_here", 10), ("_law_head", 11)]) (by decide +kernel)) (fun _ _ _ _ _ => (pg_tup rfl (pgs_cons (pg_name (i := 10) sc_law.nd rfl (Or.inl rfl) (hf := by exact Or.inr rfl)) (pgs_cons (pg_name (i := 11) sc_law.nd rfl (Or.inl rfl) (hf := by exact Or.inr rfl)) pgs_nil)))) (fun _ _ _ _ _ => pts_nil) (fun _ _ _ _ _ => (pe_tup (pa_cons (pe_ix ix_list (pv 8) (pv 11) (fun _ _ => rfl)) (pa_cons (pe_ix ix_list (pv 8) (pv 10) (fun _ _ => rfl)) pa_nil))))) pa_nil)) (pa_cons (pe_ix ix_tup (pv 2) pe_int (fun _ _ => rfl)) pa_nil))))))
  (pss_cons (ps_if (PW.pt (pw_or (pt_cmpR (op_neO (C := T.c_RawMap) (C' := T.c_Map) G_eq_R T.RawMap_eq.at_ T.RawMap_eq.fn T.ne_RawMap T.ob_RawMap T.nf_RM (b_Map_eq T.m_Map_eq.F) pass0 (hr.mono (by omega))) (pv 6) (pv 9) (nomark _)) (pw_or (pt_cmpR op_ne (pe_call G_worst (hr.mono (by omega)) rfl T.d_worst.g T.d_worst.F.kp (b_worst T.d_worst.F) .nil pass0 (pa_cons (pv 6) pa_nil)) (pv 4) (nomark _)) (pw_or1 (pt_cmpR (op_neO (C := T.c_RawMap) (C' := T.c_Map) G_eq_R T.RawMap_eq.at_ T.RawMap_eq.fn T.ne_RawMap T.ob_RawMap T.nf_RM (b_Map_eq T.m_Map_eq.F) pass0 (hr.mono (by omega))) (pe_call G_turned (hr.mono (by omega)) rfl T.d_turned.g T.d_turned.F.kp (b_turned T.d_turned.F) .nil passL (pa_cons (pv 6) pa_nil)) (pv 3) (nomark _)))))) (pss_one (ps_ret pe_bl)) pss_nil)
  (pss_one (ps_ret (pe_cmpR (op_eqD hr.units) (pe_call G_greatest_lots (hr.mono (by omega)) rfl T.d_greatest_lots.g T.d_greatest_lots.F.kp (b_greatest_lots T.d_greatest_lots.F) .nil pass0 (pa_cons (pv 6) pa_nil)) (pe_callB (cr_sortedTI hr.units) (by rfl) T.b_sorted (by decide +kernel) (pa_cons (pe_lc (own := [("_law_lot", 12)]) (g := (gName 12)) (te := (tCB (rTupOf K) (tCons (tCB (rSorted K) (tCons (tLc (iTup K (tVar 12)) (gName 13) tYes (tOp (rIxL K) (tVar 8) (tVar 13)) [13]) tNil)) tNil))) (hs := by intro _; rfl) rfl sc_law.nd (pi_list (pv 5)) (blkOk_by (N := ["_law_script", "_law_hand_here", "_law_parts_here", "_law_chart", "_law_most", "_law_lots_here", "_law_found", "_law_goal", "_law_number", "_law_due", "_law_tail_here", "_law_head", "_law_lot", "_law_place"]) (sc := defScope s_law) (own := [("_law_lot", 12)]) (by decide +kernel)) (fun _ _ _ _ _ => (pg_name (i := 12) sc_law.nd rfl (Or.inl rfl) (hf := by exact Or.inr rfl))) (fun _ _ _ _ _ => pts_nil) (fun _ _ _ _ _ => (pe_callTy call_tuple_of (by rfl) T.b_tuple (by decide +kernel) (pa_cons (pe_callB cr_sorted (by rfl) T.b_sorted (by decide +kernel) (pa_cons (pe_lc (own := [("_law_place", 13)]) (g := (gName 13)) (te := (tOp (rIxL K) _ _)) (hs := by intro _; rfl) rfl sc_law.nd (pi_tup (pv 12)) (blkOk_by (N := ["_law_script", "_law_hand_here", "_law_parts_here", "_law_chart", "_law_most", "_law_lots_here", "_law_found", "_law_goal", "_law_number", "_law_due", "_law_tail_here", "_law_head", "_law_lot", "_law_place"]) (sc := scLot) (own := [("_law_place", 13)]) (by decide +kernel)) (fun _ _ _ _ _ => (pg_name (i := 13) sc_law.nd rfl (Or.inl rfl) (hf := by exact Or.inr rfl))) (fun _ _ _ _ _ => pts_nil) (fun _ _ _ _ _ => (pe_ix ix_list (pv 8) (pv 13) (fun _ _ => rfl)))) pa_nil)) pa_nil)))) pa_nil)) (nomark _)))))))))))))))))), ?_⟩
  refine ⟨_, rfl, a, ns, rfl, ha, fun h ca cells H1 nh k1 hh1 => ?_⟩
  dsimp only [gName]
  refine flowSeq (fun σ' H' => Kp [] H H' ∧ Hand H' h ca cells ∧ σ' = [some (.ref a), some (.ref h), none, none, none, none, none, none, none, none, none, none, none, none]) ?_ ?_
  · rintro σ' H2 ⟨k2, hh2, rfl⟩
    refine ⟨_, rfl, h, ca, cells, 6, 12, rfl, hh2, by decide, by decide, by decide, by decide, fun pt ar gl P' H3 k3 hh3 hpt har hgl G m6 => ?_⟩
    have m2 := G.m2
    have m40 := G.m40
    have m9 : P'.many ≤ 9 := by omega
    -- the chart
    refine ⟨_, rfl, pt, _, 0, _, rfl, rfl, SqT.of hpt, rfl, _, rfl, pt, _, 1, _, rfl, rfl, SqT.of hpt, rfl, _, rfl, pt, _, 2, _, rfl, rfl, SqT.of hpt, rfl, ?_⟩
    intro c cx nc ncx ne
    have k4 : Kp [] H3 (upd (upd H3 cx (.own c)) c (.ins T.c_Map cx [])) := (Kp.mk_new ncx).new (by rw [upd_ne ne.symm]; exact nc)
    have o4 : (upd (upd H3 cx (.own c)) c (.ins T.c_Map cx [])) c = some (.ins T.c_Map cx []) := upd_same
    generalize upd (upd H3 cx (.own c)) c (.ins T.c_Map cx []) = H4 at k4 o4 ⊢
    refine ⟨c, cx, ar, gl, P', rfl, o4, G, har.keep k4, hgl.keep k4, fun d H5 nd5 k5 M5 hd5 => ⟨rfl, ?_⟩⟩
    have k35 : Kp [] H3 H5 := ((k4.weak (S' := [c]) (fun _ m => nomatch m)).trans k5 (fun _ m => .inl m)).drop nc
    have hpt5 := k35.tup _ _ hpt
    have har5 := har.keep k35
    have hgl5 := hgl.keep k35
    dsimp only [gName]
    -- by trying
    refine ⟨_, rfl, pt, ar, gl, P', rfl, hpt5, har5, hgl5, G, m6, fun t ly ys W bs H6 k6 ht hly hys hW LB => ⟨t, _, rfl, SqT.of ht, rfl, _, _, rfl, _, _, rfl, rfl, ?_⟩⟩
    dsimp only [gName]
    have M6 := M5.keep k6 (by simp)
    have hd6 := k6.get _ _ hd5 (by simp)
    have nlyd : ly ≠ d := fun e => by rw [e, hd6] at hly; cases hly
    refine flowIf (fun b H' => b = false ∧ Kp [d] H6 H') ?_ ?_
    · rintro b H7 ⟨rfl, k7⟩
      refine iteF ?_
      have ncd : c ≠ d := fun e => by
        obtain ⟨_, _, _, o, _⟩ := M6.ob
        rw [e, hd6] at o; cases o
      have M7 := M6.keep k7 (by simp [ncd])
      have k57 : Kp [d] H5 H7 := (k6.weak (S' := [d]) (fun _ m => nomatch m)).trans k7 (fun _ m => .inl m)
      have hpt7 := k57.tup _ _ hpt5
      have har7 := har5.keep k57
      have hgl7 := hgl5.keep k57
      have hly7 := k7.get _ _ hly (by simp [nlyd])
      have hys7 := hys.keep k7
      -- turned, tried
      refine ⟨_, rfl, T.c_Map, c, d, P', T.kmM, rfl, M7, G, fun h1 => ?_, fun g hg f fd H8 nf nfd k8 M8 hfd8 => ?_⟩
      · dsimp only [gName]
        refine ⟨_, rfl, pt, _, 2, _, rfl, rfl, SqT.of hpt7, rfl, gl, _, rfl, .inr (SqT.of hgl7), _, _, rfl, rfl, _, rfl, ?_⟩
        refine ite_d (fun _ => ⟨_, rfl, rfl, ?_⟩) (fun z => absurd (show (((P'.goals.map vn).length : Nat) : Int) > 1 by rw [List.length_map]; omega) z)
        rw [decide_eq_true (rfl : V.str "many" = V.str "many")]
        exact q H7
      · dsimp only [gName]
        have glt : g < P'.many := G.lot.2 g (by rw [hg]; simp)
        have g0 : g ≠ 0 := fun z => G.no0 (by rw [hg, z]; simp)
        have hpt8 := k8.tup _ _ hpt7
        have har8 := har7.keep k8
        have hgl8 := hgl7.keep k8
        refine ⟨_, rfl, pt, _, 2, _, rfl, rfl, SqT.of hpt8, rfl, gl, _, rfl, .inr (SqT.of hgl8), _, _, rfl, rfl, _, rfl, ?_⟩
        refine ite_d (fun z => absurd z (show ¬ (((P'.goals.map vn).length : Nat) : Int) > 1 by rw [List.length_map, hg, List.length_singleton]; decide)) (fun _ => ?_)
        refine ⟨_, rfl, pt, _, 2, _, rfl, rfl, SqT.of hpt8, rfl, gl, _, 0, _, rfl, rfl, SqT.of hgl8, by rw [hg]; rfl, ?_⟩
        dsimp only [gName]
        -- the numbers
        refine ⟨_, rfl, pt, _, 0, _, rfl, rfl, SqT.of hpt8, rfl, _, rfl, RgOk.of_le (by omega) (by omega) (by omega) (by omega), fun nm nnm => ?_⟩
        have k9 : Kp [] H8 (upd H8 nm (.lst (rgV 0 (P'.many : Int)))) := Kp.mk_new nnm
        have n9 : (upd H8 nm (.lst (rgV 0 (P'.many : Int)))) nm = some (.lst ((List.range P'.many).map vn)) := by rw [upd_same, rg_nat]
        generalize upd H8 nm (.lst (rgV 0 (P'.many : Int))) = H9 at k9 n9 ⊢
        dsimp only [gName]
        refine ⟨_, rfl, _, rfl, nm, _, _, 0, rfl, rfl, n9, ixN_n (by simp; omega), ?_⟩
        have k10 : Kp [] H8 (upd H9 nm (.lst (((List.range P'.many).map vn).set 0 (vn g)))) := k9.put n9 (by exact trivial) (.inr nnm)
        have n10 : (upd H9 nm (.lst (((List.range P'.many).map vn).set 0 (vn g)))) nm = some (.lst (((List.range P'.many).map vn).set 0 (vn g))) := upd_same
        generalize upd H9 nm (.lst (((List.range P'.many).map vn).set 0 (vn g))) = H10 at k10 n10 ⊢
        refine ⟨_, rfl, _, rfl, nm, _, _, g, rfl, rfl, n10, ixN_n (by simp; omega), ?_⟩
        have k11 : Kp [] H8 (upd H10 nm (.lst ((((List.range P'.many).map vn).set 0 (vn g)).set g (vn 0)))) := k10.put n10 (by exact trivial) (.inr nnm)
        have n11 : (upd H10 nm (.lst ((((List.range P'.many).map vn).set 0 (vn g)).set g (vn 0)))) nm = some (.lst ((List.range P'.many).map fun v => vn (sw g v))) := by rw [upd_same, sw_list g0 glt]
        have e0 : (V.int 0) = vn 0 := rfl
        rw [e0]
        generalize upd H10 nm (.lst ((((List.range P'.many).map vn).set 0 (vn g)).set g (vn 0))) = H11 at k11 n11 ⊢
        have arr1 : ∀ a, a ∈ P'.arrows → a.1 < P'.many ∧ a.2 < P'.many := fun a ha => ⟨(G.arr a ha).1, (G.arr a ha).2.1⟩
        have hpt11 := k11.tup _ _ hpt8
        obtain ⟨vs, a1, a2⟩ := har8.keep k11
        -- the due one
        refine ⟨_, rfl, pt, _, 0, _, rfl, rfl, SqT.of hpt11, rfl, _, rfl, pt, _, 1, _, rfl, rfl, SqT.of hpt11, rfl, ar, rfl, ⟨_, SqT.of a1⟩, fun L nL => lc_tup (K := K) (a := ar) (xs := vs) (fun j H' => Kp [] H11 H' ∧ ∃ us, H' L = some (.lst us) ∧ PairsV H' us ((P'.arrows.take j).map fun a => (sw g a.2, sw g a.1))) ⟨Kp.mk_new nL, [], upd_same, PairsV.nil⟩ (fun j H' _ ⟨k, _⟩ => SqT.of (k.tup _ _ a1)) ?_ ?_⟩
        · rintro j x H12 hj ⟨k12, us, hL, pv⟩
          obtain ⟨a, pa, hp, rfl, hpa⟩ := a2.at_ hj
          obtain ⟨b1, b2⟩ := arr1 a (List.mem_of_getElem? hp)
          have n12 := SqL.of (K := K) (k12.get _ _ n11 (by simp))
          refine ⟨pa, _, rfl, SqT.of (k12.tup _ _ hpa), rfl, _, _, rfl, _, _, rfl, rfl, rfl, ?_⟩
          refine ⟨_, rfl, _, rfl, nm, _, _, _, rfl, rfl, n12, row_at b2, _, rfl, _, rfl, nm, _, _, _, rfl, rfl, n12, row_at b1, sz (by show 2 ≤ 100000; decide), fun t nt => ?_⟩
          exact spin hp k12 nL hL pv G.len nt
        rintro H12 ⟨k12, us, hL, pv⟩
        have el : P'.arrows.take vs.length = P'.arrows := List.take_of_length_le (by rw [a2.1]; exact Nat.le_refl _)
        rw [el] at pv
        refine ⟨L, us, rfl, .inl ⟨SqL.of hL, fun at_ nat => ?_⟩⟩
        have k13 : Kp [] H12 (upd H12 at_ (.tup us)) := Kp.mk_new nat
        have t13 : TupP (upd H12 at_ (.tup us)) at_ (P'.arrows.map fun a => (sw g a.2, sw g a.1)) := ⟨us, upd_same, pv.keep k13⟩
        generalize upd H12 at_ (.tup us) = H13 at k13 t13 ⊢
        have k1113 := k12.add k13
        refine ⟨_, rfl, pt, _, 2, _, rfl, rfl, SqT.of (k1113.tup _ _ hpt11), rfl, ?_⟩
        intro c2 cx2 nc2 ncx2 ne2
        have k14 : Kp [] H13 (upd (upd H13 cx2 (.own c2)) c2 (.ins T.c_Map cx2 [])) := (Kp.mk_new ncx2).new (by rw [upd_ne ne2.symm]; exact nc2)
        have o14 : (upd (upd H13 cx2 (.own c2)) c2 (.ins T.c_Map cx2 [])) c2 = some (.ins T.c_Map cx2 []) := upd_same
        generalize upd (upd H13 cx2 (.own c2)) c2 (.ins T.c_Map cx2 []) = H14 at k14 o14 ⊢
        have GT := good_turn G hg glt g0
        have k814 := (k11.add k1113).add k14
        refine ⟨c2, cx2, at_, gl, turnP P' g, rfl, o14, GT, t13.keep k14, hgl8.keep k814, fun d2 H15 nd15 k15 M15 hd15 => ⟨rfl, ?_⟩⟩
        dsimp only [gName]
        have k1315 : Kp [] H13 H15 := ((k14.weak (S' := [c2]) (fun _ m => nomatch m)).trans k15 (fun _ m => .inl m)).drop nc2
        have k1115 := k1113.add k1315
        have k815 := k11.add k1115
        have M8' := M8.keep k815 (by simp)
        have hfd15 := k815.get _ _ hfd8 (by simp)
        have n15 := k1115.get _ _ n11 (by simp)
        have Mc15 := M7.keep (k8.add k815) (by simp)
        have hly15 := (k8.add k815).get _ _ hly7 (by simp)
        have hys15 := hys7.keep (k8.add k815)
        have nnmf : nm ≠ fd := fun e => by rw [e, hfd15] at n15; cases n15
        have nlyf : ly ≠ fd := fun e => by rw [e, hfd15] at hly15; cases hly15
        have nff : f ≠ fd := fun e => by
          obtain ⟨_, _, _, o, _⟩ := M8'.ob
          rw [e, hfd15] at o; cases o
        have ncf : c ≠ fd := fun e => by
          obtain ⟨_, _, _, o, _⟩ := Mc15.ob
          rw [e, hfd15] at o; cases o
        have WT := max_turn hg glt hW
        refine flowIf (fun b H' => b = false ∧ Kp [fd] H15 H') ?_ ?_
        · rintro b H16 ⟨rfl, k16⟩
          refine iteF ?_
          have M16 := M8'.keep k16 (by simp [nff])
          have n16 := k16.get _ _ n15 (by simp [nnmf])
          have hly16 := k16.get _ _ hly15 (by simp [nlyf])
          have hys16 := hys15.keep k16
          have LT := lots_turn hg glt LB
          -- the lots at last
          refine ⟨_, rfl, T.c_RawMap, f, fd, turnP P' g, T.kmR, rfl, M16, GT, m9, fun r zs W2 cs H17 k17 hr17 hzs hW2 LB2 => ?_⟩
          obtain rfl := max_one hW2 WT
          have n17 := k17.get _ _ n16 (by simp)
          have hly17 := k17.get _ _ hly16 (by simp)
          have hys17 := hys16.keep k17
          refine ⟨_, rfl, ly, rfl, ⟨_, SqL.of hly17⟩, fun M nM => lc_list (K := K) (a := ly) (xs := ys) (fun j H' => Kp [] H17 H' ∧ ∃ us, H' M = some (.lst us) ∧ us.length ≤ j ∧ TupsV H' us (((srt bs).take j).map (swB g))) ⟨Kp.mk_new nM, [], upd_same, Nat.le_refl _, TupsV.nil⟩ (fun j H' _ ⟨k, _⟩ => SqL.of (k.get _ _ hly17 (by simp))) ?_ ?_⟩
          · rintro j x H18 hj ⟨k18, us, hM, ul, tus⟩
            obtain ⟨b, la, hb, rfl, hla⟩ := tups_at (hys17.keep k18) hj
            have hj' := (List.getElem?_eq_some_iff.mp hj).1
            have yl : ys.length ≤ bs.length := by rw [hys.1]; exact Nat.le_of_eq (List.mergeSort_perm bs _).length_eq
            have bm : b ∈ srt bs := List.mem_of_getElem? hb
            obtain ⟨o, l, hp, hs, hl, rfl⟩ := (LB.mem b).mp ((List.mergeSort_perm bs _).mem_iff.mp bm)
            have lnd := asc_nd hs
            have llt : ∀ v, v ∈ l → v < P'.many := fun v hv => hp.lt v (hl.mem_iff.mp hv)
            have ll : l.length ≤ 6 := Nat.le_trans (nd_len lnd llt) m6
            have hla' : TupN H18 la l := by
              have e : (l.map fun (v : Nat) => (v : Int)).map V.int = l.map vn := cst_vn l
              rw [e] at hla
              exact hla
            have n18 := k18.get _ _ n17 (by simp)
            refine ⟨rfl, _, rfl, la, rfl, ⟨_, SqT.of hla'⟩, fun N nN => lc_tup (K := K) (a := la) (xs := l.map vn) (fun i H' => Kp [] H18 H' ∧ H' N = some (.lst (((l.take i).map (sw g)).map vn))) ⟨Kp.mk_new nN, upd_same⟩ (fun i H' _ ⟨k, _⟩ => SqT.of (hla'.keep k)) ?_ ?_⟩
            · rintro i y H19 hi ⟨k19, hN⟩
              obtain ⟨v, hv, rfl⟩ := map_at hi
              have hi' := (List.getElem?_eq_some_iff.mp hv).1
              have n19 := SqL.of (K := K) (k19.get _ _ n18 (by simp))
              refine ⟨rfl, _, rfl, _, rfl, nm, _, _, _, rfl, rfl, n19, row_at (llt v (List.mem_of_getElem? hv)), ?_⟩
              refine ⟨_, hN, szl ?_, k19.put hN trivial (.inr nN), ?_⟩
              · rw [List.length_map, List.length_map, List.length_take]; omega
              · rw [upd_same, take_more hv, List.map_append, List.map_append]; rfl
            rintro H19 ⟨k19, hN⟩
            rw [List.length_map, List.take_length] at hN
            have snd : (l.map (sw g)).Nodup := map_nd lnd fun x y _ _ e => sw_inj g x y e
            have em : (l.map (sw g)).map vn = (cst (l.map (sw g))).map V.int := (cst_vn _).symm
            rw [em] at hN
            have cl : (cst (l.map (sw g))).length < 64 := by unfold cst; rw [List.length_map, List.length_map]; omega
            refine ⟨N, _, rfl, SqL.of hN, cl, fun ns' sp hperm hpw nsp => ?_⟩
            obtain rfl := soR_of snd hperm hpw
            refine ⟨sp, _, rfl, .inl ⟨SqL.of upd_same, fun tt ntt => ?_⟩⟩
            have k20 : Kp [] H19 (upd (upd H19 sp (.lst ((cst (soR (l.map (sw g)))).map V.int))) tt (.tup ((cst (soR (l.map (sw g)))).map V.int))) := (Kp.mk_new nsp).new ntt
            have htt : (upd (upd H19 sp (.lst ((cst (soR (l.map (sw g)))).map V.int))) tt (.tup ((cst (soR (l.map (sw g)))).map V.int))) tt = some (.tup ((swB g (cst l)).map V.int)) := by
              rw [upd_same]
              unfold swB
              rw [cst_nat]
            generalize upd (upd H19 sp (.lst ((cst (soR (l.map (sw g)))).map V.int))) tt (.tup ((cst (soR (l.map (sw g)))).map V.int)) = H20 at k20 htt ⊢
            have k1820 := k19.add k20
            have hM20 := k1820.get _ _ hM (by simp)
            have kM : Kp [M] H18 (upd H20 M (.lst (us ++ [.ref tt]))) := (k1820.weak fun _ m => nomatch m).put hM20 (by exact trivial) (.inl (by simp))
            refine ⟨us, hM20, szl (Nat.lt_of_le_of_lt (Nat.le_trans ul (Nat.le_trans (Nat.le_of_lt hj') (Nat.le_trans yl (lots_few LB m6)))) (by decide)), (k18.add k1820).put hM20 (by exact trivial) (.inr nM), us ++ [.ref tt], upd_same, by rw [List.length_append]; exact Nat.succ_le_succ ul, ?_⟩
            rw [take_more hb, List.map_append]
            refine (tus.keep kM).snoc (b := swB g (cst l)) ?_
            have : tt ≠ M := fun e => by rw [e, hM20] at htt; cases htt
            rw [upd_ne this]; exact htt
          · rintro H18 ⟨k18, us, hM, ul, tus⟩
            have elb : (srt bs).take ys.length = srt bs := List.take_of_length_le (by rw [hys.1]; exact Nat.le_refl _)
            rw [elb] at tus
            refine ⟨M, us, _, rfl, SqL.of hM, tus, fun b hb => ?_, fun ws r' nr' hws => ?_⟩
            · obtain ⟨o, l, hp, _, hl, rfl⟩ := (LT.mem b).mp hb
              intro e
              have l0 : l = [] := by simpa using e
              rw [l0] at hl
              have o0 := List.Perm.eq_nil hl.symm
              have hh := hp.hd
              rw [o0] at hh; cases hh
            · have k19 : Kp [] H18 (upd H18 r' (.lst ws)) := Kp.mk_new nr'
              have es : srt cs = srt ((srt bs).map (swB g)) := srt_perm (lots_perm LB2 LT)
              refine ⟨dL (srt cs), dL (srt cs), .lst (SqL.of ((k18.add k19).get _ _ hr17 (by simp))) (dp_lots (hzs.keep (k18.add k19))), .lst (SqL.of upd_same) (dp_lots (es ▸ hws.keep k19)), shaped_L _, shaped_L _, ?_⟩
              rw [eqv_L]
              exact q _
        · intro Q' hQ
          obtain ⟨dxf, arf, glf, f1, _⟩ := M8'.ob
          obtain ⟨dxc, arc, glc, c1, _⟩ := M15.ob
          refine ⟨_, rfl, _, rfl, f, c2, dxf, dxc, _, _, rfl, rfl, f1, c1, f, c2, _, fd, d2, rfl, M8', M15, fun H16 k16 => ⟨true, rfl, _, rfl, ?_⟩⟩
          refine iteF ?_
          have M16 := M8'.keep k16 (by simp)
          have hfd16 := k16.get _ _ hfd15 (by simp)
          refine ⟨_, rfl, T.c_RawMap, f, fd, turnP P' g, T.kmR, rfl, M16, hfd16, GT, m9, fun W2 H17 k17 hW2 => ?_⟩
          obtain rfl := max_one hW2 WT
          refine ⟨_, rfl, rfl, _, rfl, ?_⟩
          have ef : (!decide (V.int W2 = V.int W2)) = false := by simp
          rw [ef]
          refine iteF ?_
          have M17 := M16.keep k17 (by simp [nff])
          have Mc17 := (Mc15.keep k16 (by simp)).keep k17 (by simp [ncf])
          have arr2 : ∀ a, a ∈ (turnP P' g).arrows → a.1 < P'.many ∧ a.2 < P'.many := fun a ha => ⟨(GT.arr a ha).1, (GT.arr a ha).2.1⟩
          have gl1 : (turnP P' g).goals.length ≤ 1 := by show P'.goals.length ≤ 1; rw [hg]; exact Nat.le_refl _
          refine ⟨_, rfl, T.c_RawMap, f, fd, turnP P' g, T.kmR, rfl, M17, m40, GT.len, arr2, fun z => absurd gl1 (by omega), fun _ => ⟨g, hg, glt, g0, fun f2 fd2 H18 nf2 nfd2 k18 M18 _ => ?_⟩⟩
          rw [turn_turn] at M18
          have Mc18 := Mc17.keep k18 (by simp)
          obtain ⟨dxa, ara, gla, ao, _⟩ := M18.ob
          obtain ⟨dxb, arb, glb, bo, _⟩ := Mc18.ob
          refine ⟨_, rfl, f2, c, dxa, dxb, _, _, rfl, rfl, ao, bo, f2, c, _, fd2, d, rfl, M18, Mc18, fun H19 k19 => ⟨true, rfl, _, rfl, hQ _ H19 ⟨rfl, ?_⟩⟩⟩
          exact (((k16.weak (S' := [fd]) (fun _ m => nomatch m)).trans k17 (fun _ m => .inl m)).add k18).add k19
    · intro Q' hQ
      refine ⟨_, rfl, T.c_Map, c, d, P', T.kmM, rfl, M6, hd6, G, m9, fun W2 H7 k7 hW2 => ?_⟩
      obtain rfl := max_one hW2 hW
      refine ⟨_, rfl, rfl, _, rfl, ?_⟩
      have ef : (!decide (V.int W2 = V.int W2)) = false := by simp
      rw [ef]
      refine iteF ?_
      have ncd : c ≠ d := fun e => by
        obtain ⟨_, _, _, o, _⟩ := M6.ob
        rw [e, hd6] at o; cases o
      have M7 := M6.keep k7 (by simp [ncd])
      refine ⟨_, rfl, T.c_Map, c, d, P', T.kmM, rfl, M7, G, m9, fun r zs W3 cs H8 k8 hr8 hzs hW3 LB3 => ?_⟩
      obtain rfl := max_one hW3 hW2
      have es : srt cs = srt bs := srt_perm (lots_perm LB3 LB)
      have hly8 := k8.get _ _ (k7.get _ _ hly (by simp [nlyd])) (by simp)
      refine ⟨_, rfl, dL (srt cs), dL (srt cs), .lst (SqL.of hr8) (dp_lots hzs), .lst (SqL.of hly8) (dp_lots (es ▸ (hys.keep k7).keep k8)), shaped_L _, shaped_L _, _, rfl, ?_⟩
      rw [eqv_L]
      exact hQ _ H8 ⟨rfl, k7.add k8⟩
  · intro N hN
    refine flowIf (fun b H' => b = false ∧ Kp [] H H' ∧ Hand H' h ca cells) ?_ ?_
    · rintro b H2 ⟨rfl, k2, hh2⟩
      exact iteF (hN _ H2 ⟨k2, hh2, rfl⟩)
    · intro Q' hQ
      refine ⟨_, rfl, h, ca, cells, 4, rfl, hh1, by decide, by decide, fun r H2 k2 hh2 _ => ⟨rfl, _, rfl, ?_⟩⟩
      have kk : ∀ {H'}, Kp [h] H1 H' → Kp [] H H' := fun {H'} k => ((k1.weak (S' := [h]) (fun _ m => nomatch m)).trans k (fun _ m => .inl m)).drop nh
      refine ite_d (fun _ => ?_) (fun _ => hQ false H2 ⟨rfl, kk k2, hh2⟩)
      exact ⟨_, rfl, h, ca, cells, rfl, hh2, fun H3 k3 hh3 => ⟨true, rfl, hQ _ H3 ⟨rfl, kk (k2.trans k3 fun _ m => .inl m), hh3⟩⟩⟩
end
end K33
/-! K33F: all that is known of the run -/
namespace K33
open PySem PySem.Spec PyProof.Rows L2
theorem exm_own {K : PySem.W.Frag} {S : Addr} (h1 : PySem.W.subIn K (.ref S) (.type "BaseException") = some true) (h2 : PySem.W.isClsIn K S = true) (h3 : PySem.W.typeIn K (.ref S) = some (.type "type")) (h4 : PySem.W.subIn K (.ref S) (.ref S) = some true) : PySem.W.exmOne K (.ref S) (.ref S) = some true := by
  have e1 : (PySem.W.subIn K (.ref S) (.type "BaseException") == some true) = true := by rw [h1] <;> rfl
  have e2 : ((PySem.W.clsIn K S).isSome && PySem.W.typeIn K (.ref S) == some (.type "type")) = true := by
    have h2' : (PySem.W.clsIn K S).isSome = true := h2
    rw [h2', h3] <;> rfl
  show (if (PySem.W.subIn K (.ref S) (.type "BaseException") == some true) = true then (if ((PySem.W.clsIn K S).isSome && PySem.W.typeIn K (.ref S) == some (.type "type")) = true then PySem.W.subIn K (.ref S) (.ref S) else none) else none) = some true
  rw [if_pos e1, if_pos e2]
  exact h4
theorem all_mk {l : PySem.W.OpenLaw} {w : World} {K : PySem.W.Frag} {h : Heap} {mg : Str → Option Value} {fa C_Map C_RawMap C_Search f_is_integer f_is_between f_is_index f_is_lot f_mask_of f_lot_of f_are_arrows f_are_goals f_led_to f_led_from f_goals_mask f_places_mask f_check_one_goal f_counted_places f_check_counted f_forward_arrows f_greatest_of f_worst f_greatest_lots f_turned f_law_hand f_law_draw f_law_shuffled f_law_parts f_law_tail f_law_renamed f_law_orders f_law_excess_of f_law_lots f_law_turned f_law_is_turned_twice f_law f_Map_init f_Map_keep f_Map_parts f_Map_eq f_RawMap_init f_Search_init f_Search_into f_Search_goes_on f_Search_best f_Search_best_of f_Search_greatest f_Search_lots f_Search_order_of C_Many : Addr} (X : K.In h) (G : h.Ns mainGlobals mg) (hfa : mg "law" = some (.ref fa))
    {od_is_integer an_is_integer od_is_between an_is_between od_is_index an_is_index od_is_lot an_is_lot od_mask_of an_mask_of od_lot_of an_lot_of od_are_arrows an_are_arrows od_are_goals an_are_goals od_led_to an_led_to od_led_from an_led_from od_goals_mask an_goals_mask od_places_mask an_places_mask od_check_one_goal an_check_one_goal od_counted_places an_counted_places od_check_counted an_check_counted od_forward_arrows an_forward_arrows od_greatest_of an_greatest_of od_worst an_worst od_greatest_lots an_greatest_lots od_turned an_turned od_law_hand an_law_hand od_law_draw an_law_draw od_law_shuffled an_law_shuffled od_law_parts an_law_parts od_law_tail an_law_tail od_law_renamed an_law_renamed od_law_orders an_law_orders od_law_excess_of an_law_excess_of od_law_lots an_law_lots od_law_turned an_law_turned od_law_is_turned_twice an_law_is_turned_twice od_law an_law od_Map_init an_Map_init od_Map_keep an_Map_keep od_Map_parts an_Map_parts od_Map_eq an_Map_eq od_RawMap_init an_RawMap_init od_Search_init an_Search_init od_Search_into an_Search_into od_Search_goes_on an_Search_goes_on od_Search_best an_Search_best od_Search_best_of an_Search_best_of od_Search_greatest an_Search_greatest od_Search_lots an_Search_lots od_Search_order_of an_Search_order_of : Option Addr}
    {sl_is_integer sl_is_between sl_is_index sl_is_lot sl_mask_of sl_lot_of sl_are_arrows sl_are_goals sl_led_to sl_led_from sl_goals_mask sl_places_mask sl_check_one_goal sl_counted_places sl_check_counted sl_forward_arrows sl_greatest_of sl_worst sl_greatest_lots sl_turned sl_law_hand sl_law_draw sl_law_shuffled sl_law_parts sl_law_tail sl_law_renamed sl_law_orders sl_law_excess_of sl_law_lots sl_law_turned sl_law_is_turned_twice sl_law sl_Map_init sl_Map_keep sl_Map_parts sl_Map_eq sl_RawMap_init sl_Search_init sl_Search_into sl_Search_goes_on sl_Search_best sl_Search_best_of sl_Search_greatest sl_Search_lots sl_Search_order_of : Array (Option Value)}
    {oc_is_integer kV_is_integer dc_is_integer pm_is_integer cd_is_integer ct_is_integer oc_is_between kV_is_between dc_is_between pm_is_between cd_is_between ct_is_between oc_is_index kV_is_index dc_is_index pm_is_index cd_is_index ct_is_index oc_is_lot kV_is_lot dc_is_lot pm_is_lot cd_is_lot ct_is_lot oc_mask_of kV_mask_of dc_mask_of pm_mask_of cd_mask_of ct_mask_of oc_lot_of kV_lot_of dc_lot_of pm_lot_of cd_lot_of ct_lot_of oc_are_arrows kV_are_arrows dc_are_arrows pm_are_arrows cd_are_arrows ct_are_arrows oc_are_goals kV_are_goals dc_are_goals pm_are_goals cd_are_goals ct_are_goals oc_led_to kV_led_to dc_led_to pm_led_to cd_led_to ct_led_to oc_led_from kV_led_from dc_led_from pm_led_from cd_led_from ct_led_from oc_goals_mask kV_goals_mask dc_goals_mask pm_goals_mask cd_goals_mask ct_goals_mask oc_places_mask kV_places_mask dc_places_mask pm_places_mask cd_places_mask ct_places_mask oc_check_one_goal kV_check_one_goal dc_check_one_goal pm_check_one_goal cd_check_one_goal ct_check_one_goal oc_counted_places kV_counted_places dc_counted_places pm_counted_places cd_counted_places ct_counted_places oc_check_counted kV_check_counted dc_check_counted pm_check_counted cd_check_counted ct_check_counted oc_forward_arrows kV_forward_arrows dc_forward_arrows pm_forward_arrows cd_forward_arrows ct_forward_arrows oc_greatest_of kV_greatest_of dc_greatest_of pm_greatest_of cd_greatest_of ct_greatest_of oc_worst kV_worst dc_worst pm_worst cd_worst ct_worst oc_greatest_lots kV_greatest_lots dc_greatest_lots pm_greatest_lots cd_greatest_lots ct_greatest_lots oc_turned kV_turned dc_turned pm_turned cd_turned ct_turned oc_law_hand kV_law_hand dc_law_hand pm_law_hand cd_law_hand ct_law_hand oc_law_draw kV_law_draw dc_law_draw pm_law_draw cd_law_draw ct_law_draw oc_law_shuffled kV_law_shuffled dc_law_shuffled pm_law_shuffled cd_law_shuffled ct_law_shuffled oc_law_parts kV_law_parts dc_law_parts pm_law_parts cd_law_parts ct_law_parts oc_law_tail kV_law_tail dc_law_tail pm_law_tail cd_law_tail ct_law_tail oc_law_renamed kV_law_renamed dc_law_renamed pm_law_renamed cd_law_renamed ct_law_renamed oc_law_orders kV_law_orders dc_law_orders pm_law_orders cd_law_orders ct_law_orders oc_law_excess_of kV_law_excess_of dc_law_excess_of pm_law_excess_of cd_law_excess_of ct_law_excess_of oc_law_lots kV_law_lots dc_law_lots pm_law_lots cd_law_lots ct_law_lots oc_law_turned kV_law_turned dc_law_turned pm_law_turned cd_law_turned ct_law_turned oc_law_is_turned_twice kV_law_is_turned_twice dc_law_is_turned_twice pm_law_is_turned_twice cd_law_is_turned_twice ct_law_is_turned_twice oc_law kV_law dc_law pm_law cd_law ct_law oc_Map_init kV_Map_init dc_Map_init pm_Map_init cd_Map_init ct_Map_init oc_Map_keep kV_Map_keep dc_Map_keep pm_Map_keep cd_Map_keep ct_Map_keep oc_Map_parts kV_Map_parts dc_Map_parts pm_Map_parts cd_Map_parts ct_Map_parts oc_Map_eq kV_Map_eq dc_Map_eq pm_Map_eq cd_Map_eq ct_Map_eq oc_RawMap_init kV_RawMap_init dc_RawMap_init pm_RawMap_init cd_RawMap_init ct_RawMap_init oc_Search_init kV_Search_init dc_Search_init pm_Search_init cd_Search_init ct_Search_init oc_Search_into kV_Search_into dc_Search_into pm_Search_into cd_Search_into ct_Search_into oc_Search_goes_on kV_Search_goes_on dc_Search_goes_on pm_Search_goes_on cd_Search_goes_on ct_Search_goes_on oc_Search_best kV_Search_best dc_Search_best pm_Search_best cd_Search_best ct_Search_best oc_Search_best_of kV_Search_best_of dc_Search_best_of pm_Search_best_of cd_Search_best_of ct_Search_best_of oc_Search_greatest kV_Search_greatest dc_Search_greatest pm_Search_greatest cd_Search_greatest ct_Search_greatest oc_Search_lots kV_Search_lots dc_Search_lots pm_Search_lots cd_Search_lots ct_Search_lots oc_Search_order_of kV_Search_order_of dc_Search_order_of pm_Search_order_of cd_Search_order_of ct_Search_order_of : Value}
    {tk1 tk2 tk3 : Tok}
    (aC_Map : PySem.W.nsIn K mainGlobals "Map" = some (some (.ref C_Map)))
    (pg_Map : PySem.W.plainGet K C_Map Str.empty = true)
    (hd_Map : PySem.W.hasDictIn K C_Map = true)
    (po_Map : PySem.W.plainOver K C_Map = true)
    (sa_Map : PySem.W.findIn K (.ref C_Map) "__setattr__" = some (some (.builtin "object.__setattr__")))
    (mk_Map : PySem.W.makesIn K C_Map = true)
    (kc_Map : PySem.W.keepIn K (.ref C_Map) = true)
    (n_Map_kept_many : PySem.W.findIn K (.ref C_Map) "kept_many" = some none)
    (n_Map_kept_arrows : PySem.W.findIn K (.ref C_Map) "kept_arrows" = some none)
    (n_Map_kept_goals : PySem.W.findIn K (.ref C_Map) "kept_goals" = some none)
    (n_Map_kept_left : PySem.W.findIn K (.ref C_Map) "kept_left" = some none)
    (aC_RawMap : PySem.W.nsIn K mainGlobals "RawMap" = some (some (.ref C_RawMap)))
    (pg_RawMap : PySem.W.plainGet K C_RawMap Str.empty = true)
    (hd_RawMap : PySem.W.hasDictIn K C_RawMap = true)
    (po_RawMap : PySem.W.plainOver K C_RawMap = true)
    (sa_RawMap : PySem.W.findIn K (.ref C_RawMap) "__setattr__" = some (some (.builtin "object.__setattr__")))
    (mk_RawMap : PySem.W.makesIn K C_RawMap = true)
    (kc_RawMap : PySem.W.keepIn K (.ref C_RawMap) = true)
    (n_RawMap_kept_many : PySem.W.findIn K (.ref C_RawMap) "kept_many" = some none)
    (n_RawMap_kept_arrows : PySem.W.findIn K (.ref C_RawMap) "kept_arrows" = some none)
    (n_RawMap_kept_goals : PySem.W.findIn K (.ref C_RawMap) "kept_goals" = some none)
    (n_RawMap_kept_left : PySem.W.findIn K (.ref C_RawMap) "kept_left" = some none)
    (aC_Search : PySem.W.nsIn K mainGlobals "Search" = some (some (.ref C_Search)))
    (pg_Search : PySem.W.plainGet K C_Search Str.empty = true)
    (hd_Search : PySem.W.hasDictIn K C_Search = true)
    (po_Search : PySem.W.plainOver K C_Search = true)
    (sa_Search : PySem.W.findIn K (.ref C_Search) "__setattr__" = some (some (.builtin "object.__setattr__")))
    (mk_Search : PySem.W.makesIn K C_Search = true)
    (kc_Search : PySem.W.keepIn K (.ref C_Search) = true)
    (n_Search_places : PySem.W.findIn K (.ref C_Search) "places" = some none)
    (n_Search_size : PySem.W.findIn K (.ref C_Search) "size" = some none)
    (n_Search_many : PySem.W.findIn K (.ref C_Search) "many" = some none)
    (n_Search_ends : PySem.W.findIn K (.ref C_Search) "ends" = some none)
    (n_Search_known : PySem.W.findIn K (.ref C_Search) "known" = some none)
    (a_is_integer : PySem.W.nsIn K mainGlobals "is_integer" = some (some (.ref f_is_integer)))
    (l_is_integer : K.lookup f_is_integer = some ⟨oc_is_integer, od_is_integer, .func (PySem.W.fnOf "is_integer" "is_integer" (defArgs s_is_integer) (defBody s_is_integer) (defScope s_is_integer) .none kV_is_integer dc_is_integer pm_is_integer an_is_integer cd_is_integer ct_is_integer), sl_is_integer⟩)
    (c_is_integer : PySem.W.codeIn K cd_is_integer "is_integer" = true)
    (k_is_integer : PySem.W.keepIn K (.ref f_is_integer) = true)
    (a_is_between : PySem.W.nsIn K mainGlobals "is_between" = some (some (.ref f_is_between)))
    (l_is_between : K.lookup f_is_between = some ⟨oc_is_between, od_is_between, .func (PySem.W.fnOf "is_between" "is_between" (defArgs s_is_between) (defBody s_is_between) (defScope s_is_between) .none kV_is_between dc_is_between pm_is_between an_is_between cd_is_between ct_is_between), sl_is_between⟩)
    (c_is_between : PySem.W.codeIn K cd_is_between "is_between" = true)
    (k_is_between : PySem.W.keepIn K (.ref f_is_between) = true)
    (a_is_index : PySem.W.nsIn K mainGlobals "is_index" = some (some (.ref f_is_index)))
    (l_is_index : K.lookup f_is_index = some ⟨oc_is_index, od_is_index, .func (PySem.W.fnOf "is_index" "is_index" (defArgs s_is_index) (defBody s_is_index) (defScope s_is_index) .none kV_is_index dc_is_index pm_is_index an_is_index cd_is_index ct_is_index), sl_is_index⟩)
    (c_is_index : PySem.W.codeIn K cd_is_index "is_index" = true)
    (k_is_index : PySem.W.keepIn K (.ref f_is_index) = true)
    (a_is_lot : PySem.W.nsIn K mainGlobals "is_lot" = some (some (.ref f_is_lot)))
    (l_is_lot : K.lookup f_is_lot = some ⟨oc_is_lot, od_is_lot, .func (PySem.W.fnOf "is_lot" "is_lot" (defArgs s_is_lot) (defBody s_is_lot) (defScope s_is_lot) .none kV_is_lot dc_is_lot pm_is_lot an_is_lot cd_is_lot ct_is_lot), sl_is_lot⟩)
    (c_is_lot : PySem.W.codeIn K cd_is_lot "is_lot" = true)
    (k_is_lot : PySem.W.keepIn K (.ref f_is_lot) = true)
    (a_mask_of : PySem.W.nsIn K mainGlobals "mask_of" = some (some (.ref f_mask_of)))
    (l_mask_of : K.lookup f_mask_of = some ⟨oc_mask_of, od_mask_of, .func (PySem.W.fnOf "mask_of" "mask_of" (defArgs s_mask_of) (defBody s_mask_of) (defScope s_mask_of) .none kV_mask_of dc_mask_of pm_mask_of an_mask_of cd_mask_of ct_mask_of), sl_mask_of⟩)
    (c_mask_of : PySem.W.codeIn K cd_mask_of "mask_of" = true)
    (k_mask_of : PySem.W.keepIn K (.ref f_mask_of) = true)
    (a_lot_of : PySem.W.nsIn K mainGlobals "lot_of" = some (some (.ref f_lot_of)))
    (l_lot_of : K.lookup f_lot_of = some ⟨oc_lot_of, od_lot_of, .func (PySem.W.fnOf "lot_of" "lot_of" (defArgs s_lot_of) (defBody s_lot_of) (defScope s_lot_of) .none kV_lot_of dc_lot_of pm_lot_of an_lot_of cd_lot_of ct_lot_of), sl_lot_of⟩)
    (c_lot_of : PySem.W.codeIn K cd_lot_of "lot_of" = true)
    (k_lot_of : PySem.W.keepIn K (.ref f_lot_of) = true)
    (a_are_arrows : PySem.W.nsIn K mainGlobals "are_arrows" = some (some (.ref f_are_arrows)))
    (l_are_arrows : K.lookup f_are_arrows = some ⟨oc_are_arrows, od_are_arrows, .func (PySem.W.fnOf "are_arrows" "are_arrows" (defArgs s_are_arrows) (defBody s_are_arrows) (defScope s_are_arrows) .none kV_are_arrows dc_are_arrows pm_are_arrows an_are_arrows cd_are_arrows ct_are_arrows), sl_are_arrows⟩)
    (c_are_arrows : PySem.W.codeIn K cd_are_arrows "are_arrows" = true)
    (k_are_arrows : PySem.W.keepIn K (.ref f_are_arrows) = true)
    (a_are_goals : PySem.W.nsIn K mainGlobals "are_goals" = some (some (.ref f_are_goals)))
    (l_are_goals : K.lookup f_are_goals = some ⟨oc_are_goals, od_are_goals, .func (PySem.W.fnOf "are_goals" "are_goals" (defArgs s_are_goals) (defBody s_are_goals) (defScope s_are_goals) .none kV_are_goals dc_are_goals pm_are_goals an_are_goals cd_are_goals ct_are_goals), sl_are_goals⟩)
    (c_are_goals : PySem.W.codeIn K cd_are_goals "are_goals" = true)
    (k_are_goals : PySem.W.keepIn K (.ref f_are_goals) = true)
    (a_led_to : PySem.W.nsIn K mainGlobals "led_to" = some (some (.ref f_led_to)))
    (l_led_to : K.lookup f_led_to = some ⟨oc_led_to, od_led_to, .func (PySem.W.fnOf "led_to" "led_to" (defArgs s_led_to) (defBody s_led_to) (defScope s_led_to) .none kV_led_to dc_led_to pm_led_to an_led_to cd_led_to ct_led_to), sl_led_to⟩)
    (c_led_to : PySem.W.codeIn K cd_led_to "led_to" = true)
    (k_led_to : PySem.W.keepIn K (.ref f_led_to) = true)
    (a_led_from : PySem.W.nsIn K mainGlobals "led_from" = some (some (.ref f_led_from)))
    (l_led_from : K.lookup f_led_from = some ⟨oc_led_from, od_led_from, .func (PySem.W.fnOf "led_from" "led_from" (defArgs s_led_from) (defBody s_led_from) (defScope s_led_from) .none kV_led_from dc_led_from pm_led_from an_led_from cd_led_from ct_led_from), sl_led_from⟩)
    (c_led_from : PySem.W.codeIn K cd_led_from "led_from" = true)
    (k_led_from : PySem.W.keepIn K (.ref f_led_from) = true)
    (a_goals_mask : PySem.W.nsIn K mainGlobals "goals_mask" = some (some (.ref f_goals_mask)))
    (l_goals_mask : K.lookup f_goals_mask = some ⟨oc_goals_mask, od_goals_mask, .func (PySem.W.fnOf "goals_mask" "goals_mask" (defArgs s_goals_mask) (defBody s_goals_mask) (defScope s_goals_mask) .none kV_goals_mask dc_goals_mask pm_goals_mask an_goals_mask cd_goals_mask ct_goals_mask), sl_goals_mask⟩)
    (c_goals_mask : PySem.W.codeIn K cd_goals_mask "goals_mask" = true)
    (k_goals_mask : PySem.W.keepIn K (.ref f_goals_mask) = true)
    (a_places_mask : PySem.W.nsIn K mainGlobals "places_mask" = some (some (.ref f_places_mask)))
    (l_places_mask : K.lookup f_places_mask = some ⟨oc_places_mask, od_places_mask, .func (PySem.W.fnOf "places_mask" "places_mask" (defArgs s_places_mask) (defBody s_places_mask) (defScope s_places_mask) .none kV_places_mask dc_places_mask pm_places_mask an_places_mask cd_places_mask ct_places_mask), sl_places_mask⟩)
    (c_places_mask : PySem.W.codeIn K cd_places_mask "places_mask" = true)
    (k_places_mask : PySem.W.keepIn K (.ref f_places_mask) = true)
    (a_check_one_goal : PySem.W.nsIn K mainGlobals "check_one_goal" = some (some (.ref f_check_one_goal)))
    (l_check_one_goal : K.lookup f_check_one_goal = some ⟨oc_check_one_goal, od_check_one_goal, .func (PySem.W.fnOf "check_one_goal" "check_one_goal" (defArgs s_check_one_goal) (defBody s_check_one_goal) (defScope s_check_one_goal) .none kV_check_one_goal dc_check_one_goal pm_check_one_goal an_check_one_goal cd_check_one_goal ct_check_one_goal), sl_check_one_goal⟩)
    (c_check_one_goal : PySem.W.codeIn K cd_check_one_goal "check_one_goal" = true)
    (k_check_one_goal : PySem.W.keepIn K (.ref f_check_one_goal) = true)
    (a_counted_places : PySem.W.nsIn K mainGlobals "counted_places" = some (some (.ref f_counted_places)))
    (l_counted_places : K.lookup f_counted_places = some ⟨oc_counted_places, od_counted_places, .func (PySem.W.fnOf "counted_places" "counted_places" (defArgs s_counted_places) (defBody s_counted_places) (defScope s_counted_places) .none kV_counted_places dc_counted_places pm_counted_places an_counted_places cd_counted_places ct_counted_places), sl_counted_places⟩)
    (c_counted_places : PySem.W.codeIn K cd_counted_places "counted_places" = true)
    (k_counted_places : PySem.W.keepIn K (.ref f_counted_places) = true)
    (a_check_counted : PySem.W.nsIn K mainGlobals "check_counted" = some (some (.ref f_check_counted)))
    (l_check_counted : K.lookup f_check_counted = some ⟨oc_check_counted, od_check_counted, .func (PySem.W.fnOf "check_counted" "check_counted" (defArgs s_check_counted) (defBody s_check_counted) (defScope s_check_counted) .none kV_check_counted dc_check_counted pm_check_counted an_check_counted cd_check_counted ct_check_counted), sl_check_counted⟩)
    (c_check_counted : PySem.W.codeIn K cd_check_counted "check_counted" = true)
    (k_check_counted : PySem.W.keepIn K (.ref f_check_counted) = true)
    (a_forward_arrows : PySem.W.nsIn K mainGlobals "forward_arrows" = some (some (.ref f_forward_arrows)))
    (l_forward_arrows : K.lookup f_forward_arrows = some ⟨oc_forward_arrows, od_forward_arrows, .func (PySem.W.fnOf "forward_arrows" "forward_arrows" (defArgs s_forward_arrows) (defBody s_forward_arrows) (defScope s_forward_arrows) .none kV_forward_arrows dc_forward_arrows pm_forward_arrows an_forward_arrows cd_forward_arrows ct_forward_arrows), sl_forward_arrows⟩)
    (c_forward_arrows : PySem.W.codeIn K cd_forward_arrows "forward_arrows" = true)
    (k_forward_arrows : PySem.W.keepIn K (.ref f_forward_arrows) = true)
    (a_greatest_of : PySem.W.nsIn K mainGlobals "greatest_of" = some (some (.ref f_greatest_of)))
    (l_greatest_of : K.lookup f_greatest_of = some ⟨oc_greatest_of, od_greatest_of, .func (PySem.W.fnOf "greatest_of" "greatest_of" (defArgs s_greatest_of) (defBody s_greatest_of) (defScope s_greatest_of) .none kV_greatest_of dc_greatest_of pm_greatest_of an_greatest_of cd_greatest_of ct_greatest_of), sl_greatest_of⟩)
    (c_greatest_of : PySem.W.codeIn K cd_greatest_of "greatest_of" = true)
    (k_greatest_of : PySem.W.keepIn K (.ref f_greatest_of) = true)
    (a_worst : PySem.W.nsIn K mainGlobals "worst" = some (some (.ref f_worst)))
    (l_worst : K.lookup f_worst = some ⟨oc_worst, od_worst, .func (PySem.W.fnOf "worst" "worst" (defArgs s_worst) (defBody s_worst) (defScope s_worst) .none kV_worst dc_worst pm_worst an_worst cd_worst ct_worst), sl_worst⟩)
    (c_worst : PySem.W.codeIn K cd_worst "worst" = true)
    (k_worst : PySem.W.keepIn K (.ref f_worst) = true)
    (a_greatest_lots : PySem.W.nsIn K mainGlobals "greatest_lots" = some (some (.ref f_greatest_lots)))
    (l_greatest_lots : K.lookup f_greatest_lots = some ⟨oc_greatest_lots, od_greatest_lots, .func (PySem.W.fnOf "greatest_lots" "greatest_lots" (defArgs s_greatest_lots) (defBody s_greatest_lots) (defScope s_greatest_lots) .none kV_greatest_lots dc_greatest_lots pm_greatest_lots an_greatest_lots cd_greatest_lots ct_greatest_lots), sl_greatest_lots⟩)
    (c_greatest_lots : PySem.W.codeIn K cd_greatest_lots "greatest_lots" = true)
    (k_greatest_lots : PySem.W.keepIn K (.ref f_greatest_lots) = true)
    (a_turned : PySem.W.nsIn K mainGlobals "turned" = some (some (.ref f_turned)))
    (l_turned : K.lookup f_turned = some ⟨oc_turned, od_turned, .func (PySem.W.fnOf "turned" "turned" (defArgs s_turned) (defBody s_turned) (defScope s_turned) .none kV_turned dc_turned pm_turned an_turned cd_turned ct_turned), sl_turned⟩)
    (c_turned : PySem.W.codeIn K cd_turned "turned" = true)
    (k_turned : PySem.W.keepIn K (.ref f_turned) = true)
    (a_law_hand : PySem.W.nsIn K mainGlobals "_law_hand" = some (some (.ref f_law_hand)))
    (l_law_hand : K.lookup f_law_hand = some ⟨oc_law_hand, od_law_hand, .func (PySem.W.fnOf "_law_hand" "_law_hand" (defArgs s_law_hand) (defBody s_law_hand) (defScope s_law_hand) .none kV_law_hand dc_law_hand pm_law_hand an_law_hand cd_law_hand ct_law_hand), sl_law_hand⟩)
    (c_law_hand : PySem.W.codeIn K cd_law_hand "_law_hand" = true)
    (k_law_hand : PySem.W.keepIn K (.ref f_law_hand) = true)
    (a_law_draw : PySem.W.nsIn K mainGlobals "_law_draw" = some (some (.ref f_law_draw)))
    (l_law_draw : K.lookup f_law_draw = some ⟨oc_law_draw, od_law_draw, .func (PySem.W.fnOf "_law_draw" "_law_draw" (defArgs s_law_draw) (defBody s_law_draw) (defScope s_law_draw) .none kV_law_draw dc_law_draw pm_law_draw an_law_draw cd_law_draw ct_law_draw), sl_law_draw⟩)
    (c_law_draw : PySem.W.codeIn K cd_law_draw "_law_draw" = true)
    (k_law_draw : PySem.W.keepIn K (.ref f_law_draw) = true)
    (a_law_shuffled : PySem.W.nsIn K mainGlobals "_law_shuffled" = some (some (.ref f_law_shuffled)))
    (l_law_shuffled : K.lookup f_law_shuffled = some ⟨oc_law_shuffled, od_law_shuffled, .func (PySem.W.fnOf "_law_shuffled" "_law_shuffled" (defArgs s_law_shuffled) (defBody s_law_shuffled) (defScope s_law_shuffled) .none kV_law_shuffled dc_law_shuffled pm_law_shuffled an_law_shuffled cd_law_shuffled ct_law_shuffled), sl_law_shuffled⟩)
    (c_law_shuffled : PySem.W.codeIn K cd_law_shuffled "_law_shuffled" = true)
    (k_law_shuffled : PySem.W.keepIn K (.ref f_law_shuffled) = true)
    (a_law_parts : PySem.W.nsIn K mainGlobals "_law_parts" = some (some (.ref f_law_parts)))
    (l_law_parts : K.lookup f_law_parts = some ⟨oc_law_parts, od_law_parts, .func (PySem.W.fnOf "_law_parts" "_law_parts" (defArgs s_law_parts) (defBody s_law_parts) (defScope s_law_parts) .none kV_law_parts dc_law_parts pm_law_parts an_law_parts cd_law_parts ct_law_parts), sl_law_parts⟩)
    (c_law_parts : PySem.W.codeIn K cd_law_parts "_law_parts" = true)
    (k_law_parts : PySem.W.keepIn K (.ref f_law_parts) = true)
    (a_law_tail : PySem.W.nsIn K mainGlobals "_law_tail" = some (some (.ref f_law_tail)))
    (l_law_tail : K.lookup f_law_tail = some ⟨oc_law_tail, od_law_tail, .func (PySem.W.fnOf "_law_tail" "_law_tail" (defArgs s_law_tail) (defBody s_law_tail) (defScope s_law_tail) .none kV_law_tail dc_law_tail pm_law_tail an_law_tail cd_law_tail ct_law_tail), sl_law_tail⟩)
    (c_law_tail : PySem.W.codeIn K cd_law_tail "_law_tail" = true)
    (k_law_tail : PySem.W.keepIn K (.ref f_law_tail) = true)
    (a_law_renamed : PySem.W.nsIn K mainGlobals "_law_renamed" = some (some (.ref f_law_renamed)))
    (l_law_renamed : K.lookup f_law_renamed = some ⟨oc_law_renamed, od_law_renamed, .func (PySem.W.fnOf "_law_renamed" "_law_renamed" (defArgs s_law_renamed) (defBody s_law_renamed) (defScope s_law_renamed) .none kV_law_renamed dc_law_renamed pm_law_renamed an_law_renamed cd_law_renamed ct_law_renamed), sl_law_renamed⟩)
    (c_law_renamed : PySem.W.codeIn K cd_law_renamed "_law_renamed" = true)
    (k_law_renamed : PySem.W.keepIn K (.ref f_law_renamed) = true)
    (a_law_orders : PySem.W.nsIn K mainGlobals "_law_orders" = some (some (.ref f_law_orders)))
    (l_law_orders : K.lookup f_law_orders = some ⟨oc_law_orders, od_law_orders, .func (PySem.W.fnOf "_law_orders" "_law_orders" (defArgs s_law_orders) (defBody s_law_orders) (defScope s_law_orders) .none kV_law_orders dc_law_orders pm_law_orders an_law_orders cd_law_orders ct_law_orders), sl_law_orders⟩)
    (c_law_orders : PySem.W.codeIn K cd_law_orders "_law_orders" = true)
    (k_law_orders : PySem.W.keepIn K (.ref f_law_orders) = true)
    (a_law_excess_of : PySem.W.nsIn K mainGlobals "_law_excess_of" = some (some (.ref f_law_excess_of)))
    (l_law_excess_of : K.lookup f_law_excess_of = some ⟨oc_law_excess_of, od_law_excess_of, .func (PySem.W.fnOf "_law_excess_of" "_law_excess_of" (defArgs s_law_excess_of) (defBody s_law_excess_of) (defScope s_law_excess_of) .none kV_law_excess_of dc_law_excess_of pm_law_excess_of an_law_excess_of cd_law_excess_of ct_law_excess_of), sl_law_excess_of⟩)
    (c_law_excess_of : PySem.W.codeIn K cd_law_excess_of "_law_excess_of" = true)
    (k_law_excess_of : PySem.W.keepIn K (.ref f_law_excess_of) = true)
    (a_law_lots : PySem.W.nsIn K mainGlobals "_law_lots" = some (some (.ref f_law_lots)))
    (l_law_lots : K.lookup f_law_lots = some ⟨oc_law_lots, od_law_lots, .func (PySem.W.fnOf "_law_lots" "_law_lots" (defArgs s_law_lots) (defBody s_law_lots) (defScope s_law_lots) .none kV_law_lots dc_law_lots pm_law_lots an_law_lots cd_law_lots ct_law_lots), sl_law_lots⟩)
    (c_law_lots : PySem.W.codeIn K cd_law_lots "_law_lots" = true)
    (k_law_lots : PySem.W.keepIn K (.ref f_law_lots) = true)
    (a_law_turned : PySem.W.nsIn K mainGlobals "_law_turned" = some (some (.ref f_law_turned)))
    (l_law_turned : K.lookup f_law_turned = some ⟨oc_law_turned, od_law_turned, .func (PySem.W.fnOf "_law_turned" "_law_turned" (defArgs s_law_turned) (defBody s_law_turned) (defScope s_law_turned) .none kV_law_turned dc_law_turned pm_law_turned an_law_turned cd_law_turned ct_law_turned), sl_law_turned⟩)
    (c_law_turned : PySem.W.codeIn K cd_law_turned "_law_turned" = true)
    (k_law_turned : PySem.W.keepIn K (.ref f_law_turned) = true)
    (a_law_is_turned_twice : PySem.W.nsIn K mainGlobals "_law_is_turned_twice" = some (some (.ref f_law_is_turned_twice)))
    (l_law_is_turned_twice : K.lookup f_law_is_turned_twice = some ⟨oc_law_is_turned_twice, od_law_is_turned_twice, .func (PySem.W.fnOf "_law_is_turned_twice" "_law_is_turned_twice" (defArgs s_law_is_turned_twice) (defBody s_law_is_turned_twice) (defScope s_law_is_turned_twice) .none kV_law_is_turned_twice dc_law_is_turned_twice pm_law_is_turned_twice an_law_is_turned_twice cd_law_is_turned_twice ct_law_is_turned_twice), sl_law_is_turned_twice⟩)
    (c_law_is_turned_twice : PySem.W.codeIn K cd_law_is_turned_twice "_law_is_turned_twice" = true)
    (k_law_is_turned_twice : PySem.W.keepIn K (.ref f_law_is_turned_twice) = true)
    (a_law : PySem.W.nsIn K mainGlobals "law" = some (some (.ref f_law)))
    (l_law : K.lookup f_law = some ⟨oc_law, od_law, .func (PySem.W.fnOf "law" "law" (defArgs s_law) (defBody s_law) (defScope s_law) .none kV_law dc_law pm_law an_law cd_law ct_law), sl_law⟩)
    (c_law : PySem.W.codeIn K cd_law "law" = true)
    (k_law : PySem.W.keepIn K (.ref f_law) = true)
    (a_Map_init : PySem.W.findIn K (.ref C_Map) "__init__" = some (some (.ref f_Map_init)))
    (i_Map_init : PySem.W.isFn K (.ref f_Map_init) = true)
    (l_Map_init : K.lookup f_Map_init = some ⟨oc_Map_init, od_Map_init, .func (PySem.W.fnOf "__init__" "Map.__init__" (defArgs s_Map_init) (defBody s_Map_init) (defScope s_Map_init) .none kV_Map_init dc_Map_init pm_Map_init an_Map_init cd_Map_init ct_Map_init), sl_Map_init⟩)
    (c_Map_init : PySem.W.codeIn K cd_Map_init "Map.__init__" = true)
    (k_Map_init : PySem.W.keepIn K (.ref f_Map_init) = true)
    (a_Map_keep : PySem.W.findIn K (.ref C_Map) "keep" = some (some (.ref f_Map_keep)))
    (i_Map_keep : PySem.W.isFn K (.ref f_Map_keep) = true)
    (l_Map_keep : K.lookup f_Map_keep = some ⟨oc_Map_keep, od_Map_keep, .func (PySem.W.fnOf "keep" "Map.keep" (defArgs s_Map_keep) (defBody s_Map_keep) (defScope s_Map_keep) .none kV_Map_keep dc_Map_keep pm_Map_keep an_Map_keep cd_Map_keep ct_Map_keep), sl_Map_keep⟩)
    (c_Map_keep : PySem.W.codeIn K cd_Map_keep "Map.keep" = true)
    (k_Map_keep : PySem.W.keepIn K (.ref f_Map_keep) = true)
    (a_Map_parts : PySem.W.findIn K (.ref C_Map) "parts" = some (some (.ref f_Map_parts)))
    (i_Map_parts : PySem.W.isFn K (.ref f_Map_parts) = true)
    (l_Map_parts : K.lookup f_Map_parts = some ⟨oc_Map_parts, od_Map_parts, .func (PySem.W.fnOf "parts" "Map.parts" (defArgs s_Map_parts) (defBody s_Map_parts) (defScope s_Map_parts) .none kV_Map_parts dc_Map_parts pm_Map_parts an_Map_parts cd_Map_parts ct_Map_parts), sl_Map_parts⟩)
    (c_Map_parts : PySem.W.codeIn K cd_Map_parts "Map.parts" = true)
    (k_Map_parts : PySem.W.keepIn K (.ref f_Map_parts) = true)
    (a_Map_eq : PySem.W.findIn K (.ref C_Map) "__eq__" = some (some (.ref f_Map_eq)))
    (i_Map_eq : PySem.W.isFn K (.ref f_Map_eq) = true)
    (l_Map_eq : K.lookup f_Map_eq = some ⟨oc_Map_eq, od_Map_eq, .func (PySem.W.fnOf "__eq__" "Map.__eq__" (defArgs s_Map_eq) (defBody s_Map_eq) (defScope s_Map_eq) .none kV_Map_eq dc_Map_eq pm_Map_eq an_Map_eq cd_Map_eq ct_Map_eq), sl_Map_eq⟩)
    (c_Map_eq : PySem.W.codeIn K cd_Map_eq "Map.__eq__" = true)
    (k_Map_eq : PySem.W.keepIn K (.ref f_Map_eq) = true)
    (a_RawMap_init : PySem.W.findIn K (.ref C_RawMap) "__init__" = some (some (.ref f_RawMap_init)))
    (i_RawMap_init : PySem.W.isFn K (.ref f_RawMap_init) = true)
    (l_RawMap_init : K.lookup f_RawMap_init = some ⟨oc_RawMap_init, od_RawMap_init, .func (PySem.W.fnOf "__init__" "RawMap.__init__" (defArgs s_RawMap_init) (defBody s_RawMap_init) (defScope s_RawMap_init) .none kV_RawMap_init dc_RawMap_init pm_RawMap_init an_RawMap_init cd_RawMap_init ct_RawMap_init), sl_RawMap_init⟩)
    (c_RawMap_init : PySem.W.codeIn K cd_RawMap_init "RawMap.__init__" = true)
    (k_RawMap_init : PySem.W.keepIn K (.ref f_RawMap_init) = true)
    (a_Search_init : PySem.W.findIn K (.ref C_Search) "__init__" = some (some (.ref f_Search_init)))
    (i_Search_init : PySem.W.isFn K (.ref f_Search_init) = true)
    (l_Search_init : K.lookup f_Search_init = some ⟨oc_Search_init, od_Search_init, .func (PySem.W.fnOf "__init__" "Search.__init__" (defArgs s_Search_init) (defBody s_Search_init) (defScope s_Search_init) .none kV_Search_init dc_Search_init pm_Search_init an_Search_init cd_Search_init ct_Search_init), sl_Search_init⟩)
    (c_Search_init : PySem.W.codeIn K cd_Search_init "Search.__init__" = true)
    (k_Search_init : PySem.W.keepIn K (.ref f_Search_init) = true)
    (a_Search_into : PySem.W.findIn K (.ref C_Search) "into" = some (some (.ref f_Search_into)))
    (i_Search_into : PySem.W.isFn K (.ref f_Search_into) = true)
    (l_Search_into : K.lookup f_Search_into = some ⟨oc_Search_into, od_Search_into, .func (PySem.W.fnOf "into" "Search.into" (defArgs s_Search_into) (defBody s_Search_into) (defScope s_Search_into) .none kV_Search_into dc_Search_into pm_Search_into an_Search_into cd_Search_into ct_Search_into), sl_Search_into⟩)
    (c_Search_into : PySem.W.codeIn K cd_Search_into "Search.into" = true)
    (k_Search_into : PySem.W.keepIn K (.ref f_Search_into) = true)
    (a_Search_goes_on : PySem.W.findIn K (.ref C_Search) "goes_on" = some (some (.ref f_Search_goes_on)))
    (i_Search_goes_on : PySem.W.isFn K (.ref f_Search_goes_on) = true)
    (l_Search_goes_on : K.lookup f_Search_goes_on = some ⟨oc_Search_goes_on, od_Search_goes_on, .func (PySem.W.fnOf "goes_on" "Search.goes_on" (defArgs s_Search_goes_on) (defBody s_Search_goes_on) (defScope s_Search_goes_on) .none kV_Search_goes_on dc_Search_goes_on pm_Search_goes_on an_Search_goes_on cd_Search_goes_on ct_Search_goes_on), sl_Search_goes_on⟩)
    (c_Search_goes_on : PySem.W.codeIn K cd_Search_goes_on "Search.goes_on" = true)
    (k_Search_goes_on : PySem.W.keepIn K (.ref f_Search_goes_on) = true)
    (a_Search_best : PySem.W.findIn K (.ref C_Search) "best" = some (some (.ref f_Search_best)))
    (i_Search_best : PySem.W.isFn K (.ref f_Search_best) = true)
    (l_Search_best : K.lookup f_Search_best = some ⟨oc_Search_best, od_Search_best, .func (PySem.W.fnOf "best" "Search.best" (defArgs s_Search_best) (defBody s_Search_best) (defScope s_Search_best) .none kV_Search_best dc_Search_best pm_Search_best an_Search_best cd_Search_best ct_Search_best), sl_Search_best⟩)
    (c_Search_best : PySem.W.codeIn K cd_Search_best "Search.best" = true)
    (k_Search_best : PySem.W.keepIn K (.ref f_Search_best) = true)
    (a_Search_best_of : PySem.W.findIn K (.ref C_Search) "best_of" = some (some (.ref f_Search_best_of)))
    (i_Search_best_of : PySem.W.isFn K (.ref f_Search_best_of) = true)
    (l_Search_best_of : K.lookup f_Search_best_of = some ⟨oc_Search_best_of, od_Search_best_of, .func (PySem.W.fnOf "best_of" "Search.best_of" (defArgs s_Search_best_of) (defBody s_Search_best_of) (defScope s_Search_best_of) .none kV_Search_best_of dc_Search_best_of pm_Search_best_of an_Search_best_of cd_Search_best_of ct_Search_best_of), sl_Search_best_of⟩)
    (c_Search_best_of : PySem.W.codeIn K cd_Search_best_of "Search.best_of" = true)
    (k_Search_best_of : PySem.W.keepIn K (.ref f_Search_best_of) = true)
    (a_Search_greatest : PySem.W.findIn K (.ref C_Search) "greatest" = some (some (.ref f_Search_greatest)))
    (i_Search_greatest : PySem.W.isFn K (.ref f_Search_greatest) = true)
    (l_Search_greatest : K.lookup f_Search_greatest = some ⟨oc_Search_greatest, od_Search_greatest, .func (PySem.W.fnOf "greatest" "Search.greatest" (defArgs s_Search_greatest) (defBody s_Search_greatest) (defScope s_Search_greatest) .none kV_Search_greatest dc_Search_greatest pm_Search_greatest an_Search_greatest cd_Search_greatest ct_Search_greatest), sl_Search_greatest⟩)
    (c_Search_greatest : PySem.W.codeIn K cd_Search_greatest "Search.greatest" = true)
    (k_Search_greatest : PySem.W.keepIn K (.ref f_Search_greatest) = true)
    (a_Search_lots : PySem.W.findIn K (.ref C_Search) "lots" = some (some (.ref f_Search_lots)))
    (i_Search_lots : PySem.W.isFn K (.ref f_Search_lots) = true)
    (l_Search_lots : K.lookup f_Search_lots = some ⟨oc_Search_lots, od_Search_lots, .func (PySem.W.fnOf "lots" "Search.lots" (defArgs s_Search_lots) (defBody s_Search_lots) (defScope s_Search_lots) .none kV_Search_lots dc_Search_lots pm_Search_lots an_Search_lots cd_Search_lots ct_Search_lots), sl_Search_lots⟩)
    (c_Search_lots : PySem.W.codeIn K cd_Search_lots "Search.lots" = true)
    (k_Search_lots : PySem.W.keepIn K (.ref f_Search_lots) = true)
    (a_Search_order_of : PySem.W.findIn K (.ref C_Search) "order_of" = some (some (.ref f_Search_order_of)))
    (i_Search_order_of : PySem.W.isFn K (.ref f_Search_order_of) = true)
    (l_Search_order_of : K.lookup f_Search_order_of = some ⟨oc_Search_order_of, od_Search_order_of, .func (PySem.W.fnOf "order_of" "Search.order_of" (defArgs s_Search_order_of) (defBody s_Search_order_of) (defScope s_Search_order_of) .none kV_Search_order_of dc_Search_order_of pm_Search_order_of an_Search_order_of cd_Search_order_of ct_Search_order_of), sl_Search_order_of⟩)
    (c_Search_order_of : PySem.W.codeIn K cd_Search_order_of "Search.order_of" = true)
    (k_Search_order_of : PySem.W.keepIn K (.ref f_Search_order_of) = true)
    (s_RawMap_keep : PySem.W.findIn K (.ref C_RawMap) "keep" = some (some (.ref f_Map_keep)))
    (s_RawMap_parts : PySem.W.findIn K (.ref C_RawMap) "parts" = some (some (.ref f_Map_parts)))
    (s_RawMap_eq : PySem.W.findIn K (.ref C_RawMap) "__eq__" = some (some (.ref f_Map_eq)))
    (z_isinstance : PySem.W.nsIn K mainGlobals "isinstance" = some none)
    (z_int : PySem.W.nsIn K mainGlobals "int" = some none)
    (z_bool : PySem.W.nsIn K mainGlobals "bool" = some none)
    (z_tuple : PySem.W.nsIn K mainGlobals "tuple" = some none)
    (z_list : PySem.W.nsIn K mainGlobals "list" = some none)
    (z_len : PySem.W.nsIn K mainGlobals "len" = some none)
    (z_all : PySem.W.nsIn K mainGlobals "all" = some none)
    (z_any : PySem.W.nsIn K mainGlobals "any" = some none)
    (z_sum : PySem.W.nsIn K mainGlobals "sum" = some none)
    (z_range : PySem.W.nsIn K mainGlobals "range" = some none)
    (z_enumerate : PySem.W.nsIn K mainGlobals "enumerate" = some none)
    (z_sorted : PySem.W.nsIn K mainGlobals "sorted" = some none)
    (z_max : PySem.W.nsIn K mainGlobals "max" = some none)
    (z_min : PySem.W.nsIn K mainGlobals "min" = some none)
    (z_abs : PySem.W.nsIn K mainGlobals "abs" = some none)
    (ia : PySem.W.findIn K (.ref C_Map) "__class__" = some (some (.builtin "object.__class__")))
    (ihn : PySem.W.specialIn K (.builtin "object.__class__") "__get__" = some (some (.builtin "getset_descriptor.__get__")))
    (itk : PySem.W.takesIn K (.builtin "object.__class__") = some true)
    (ihm : PySem.W.mroIn K C_Map (.type "object") = some true)
    (ime : PySem.W.kitOne K (.ref C_Map) (.ref C_Map) = some true)
    (ne : PySem.W.findIn K (.ref C_RawMap) "__ne__" = some (some (.builtin "object.__ne__")))
    (ob : PySem.W.subIn K (.ref C_RawMap) (.type "object") = some true)
    (nfR : PySem.W.notFirst K C_RawMap (.ref C_Map) = true)
    (nfM : PySem.W.notFirst K C_Map (.ref C_Map) = true)
    (aM : PySem.W.nsIn K mainGlobals "ManyGoals" = some (some (.ref C_Many)))
    (xM : PySem.W.excIn K C_Many [.type "ValueError", .type "Exception", .type "BaseException", .type "object"] "ValueError.__new__" = true)
    (kM : PySem.W.keepIn K (.ref C_Many) = true)
    (bM : PySem.W.subIn K (.ref C_Many) (.type "BaseException") = some true)
    (tM : PySem.W.typeIn K (.ref C_Many) = some (.type "type"))
    (iM : PySem.W.isClsIn K C_Many = true)
    (sM : PySem.W.subIn K (.ref C_Many) (.ref C_Many) = some true)
    (g_MOST_PLACES : PySem.W.nsIn K mainGlobals "MOST_PLACES" = some (some (.int 40 tk1)))
    (g_MOST_ARROWS : PySem.W.nsIn K mainGlobals "MOST_ARROWS" = some (some (.int 60 tk2)))
    (g_MOST_COUNTED : PySem.W.nsIn K mainGlobals "MOST_COUNTED" = some (some (.int 9 tk3)))
    : ∃ fd : FuncData, (∀ (s : Shared) (v : Value), BindsTo s fd ⟨[v], []⟩ [("_law_script", v)]) ∧ ∀ base : Heap, K.In base → base.Ns mainGlobals mg → FnOk l.prog w K mg base CX0 27 fa fd ["_law_script"] (spLaw K) := by
  have e := hfa.symm.trans (PySem.W.mg_of X G a_law)
  cases e
  let T : Tx K mg := {
    tok1 := tk1
    tok2 := tk2
    tok3 := tk3
    d_is_integer := ⟨_, _, fun_mk (st := s_is_integer) l_is_integer c_is_integer k_is_integer, PySem.W.mg_of X G a_is_integer⟩
    d_is_between := ⟨_, _, fun_mk (st := s_is_between) l_is_between c_is_between k_is_between, PySem.W.mg_of X G a_is_between⟩
    d_is_index := ⟨_, _, fun_mk (st := s_is_index) l_is_index c_is_index k_is_index, PySem.W.mg_of X G a_is_index⟩
    d_is_lot := ⟨_, _, fun_mk (st := s_is_lot) l_is_lot c_is_lot k_is_lot, PySem.W.mg_of X G a_is_lot⟩
    d_mask_of := ⟨_, _, fun_mk (st := s_mask_of) l_mask_of c_mask_of k_mask_of, PySem.W.mg_of X G a_mask_of⟩
    d_lot_of := ⟨_, _, fun_mk (st := s_lot_of) l_lot_of c_lot_of k_lot_of, PySem.W.mg_of X G a_lot_of⟩
    d_are_arrows := ⟨_, _, fun_mk (st := s_are_arrows) l_are_arrows c_are_arrows k_are_arrows, PySem.W.mg_of X G a_are_arrows⟩
    d_are_goals := ⟨_, _, fun_mk (st := s_are_goals) l_are_goals c_are_goals k_are_goals, PySem.W.mg_of X G a_are_goals⟩
    d_led_to := ⟨_, _, fun_mk (st := s_led_to) l_led_to c_led_to k_led_to, PySem.W.mg_of X G a_led_to⟩
    d_led_from := ⟨_, _, fun_mk (st := s_led_from) l_led_from c_led_from k_led_from, PySem.W.mg_of X G a_led_from⟩
    d_goals_mask := ⟨_, _, fun_mk (st := s_goals_mask) l_goals_mask c_goals_mask k_goals_mask, PySem.W.mg_of X G a_goals_mask⟩
    d_places_mask := ⟨_, _, fun_mk (st := s_places_mask) l_places_mask c_places_mask k_places_mask, PySem.W.mg_of X G a_places_mask⟩
    d_check_one_goal := ⟨_, _, fun_mk (st := s_check_one_goal) l_check_one_goal c_check_one_goal k_check_one_goal, PySem.W.mg_of X G a_check_one_goal⟩
    d_counted_places := ⟨_, _, fun_mk (st := s_counted_places) l_counted_places c_counted_places k_counted_places, PySem.W.mg_of X G a_counted_places⟩
    d_check_counted := ⟨_, _, fun_mk (st := s_check_counted) l_check_counted c_check_counted k_check_counted, PySem.W.mg_of X G a_check_counted⟩
    d_forward_arrows := ⟨_, _, fun_mk (st := s_forward_arrows) l_forward_arrows c_forward_arrows k_forward_arrows, PySem.W.mg_of X G a_forward_arrows⟩
    d_greatest_of := ⟨_, _, fun_mk (st := s_greatest_of) l_greatest_of c_greatest_of k_greatest_of, PySem.W.mg_of X G a_greatest_of⟩
    d_worst := ⟨_, _, fun_mk (st := s_worst) l_worst c_worst k_worst, PySem.W.mg_of X G a_worst⟩
    d_greatest_lots := ⟨_, _, fun_mk (st := s_greatest_lots) l_greatest_lots c_greatest_lots k_greatest_lots, PySem.W.mg_of X G a_greatest_lots⟩
    d_turned := ⟨_, _, fun_mk (st := s_turned) l_turned c_turned k_turned, PySem.W.mg_of X G a_turned⟩
    d_law_hand := ⟨_, _, fun_mk (st := s_law_hand) l_law_hand c_law_hand k_law_hand, PySem.W.mg_of X G a_law_hand⟩
    d_law_draw := ⟨_, _, fun_mk (st := s_law_draw) l_law_draw c_law_draw k_law_draw, PySem.W.mg_of X G a_law_draw⟩
    d_law_shuffled := ⟨_, _, fun_mk (st := s_law_shuffled) l_law_shuffled c_law_shuffled k_law_shuffled, PySem.W.mg_of X G a_law_shuffled⟩
    d_law_parts := ⟨_, _, fun_mk (st := s_law_parts) l_law_parts c_law_parts k_law_parts, PySem.W.mg_of X G a_law_parts⟩
    d_law_tail := ⟨_, _, fun_mk (st := s_law_tail) l_law_tail c_law_tail k_law_tail, PySem.W.mg_of X G a_law_tail⟩
    d_law_renamed := ⟨_, _, fun_mk (st := s_law_renamed) l_law_renamed c_law_renamed k_law_renamed, PySem.W.mg_of X G a_law_renamed⟩
    d_law_orders := ⟨_, _, fun_mk (st := s_law_orders) l_law_orders c_law_orders k_law_orders, PySem.W.mg_of X G a_law_orders⟩
    d_law_excess_of := ⟨_, _, fun_mk (st := s_law_excess_of) l_law_excess_of c_law_excess_of k_law_excess_of, PySem.W.mg_of X G a_law_excess_of⟩
    d_law_lots := ⟨_, _, fun_mk (st := s_law_lots) l_law_lots c_law_lots k_law_lots, PySem.W.mg_of X G a_law_lots⟩
    d_law_turned := ⟨_, _, fun_mk (st := s_law_turned) l_law_turned c_law_turned k_law_turned, PySem.W.mg_of X G a_law_turned⟩
    d_law_is_turned_twice := ⟨_, _, fun_mk (st := s_law_is_turned_twice) l_law_is_turned_twice c_law_is_turned_twice k_law_is_turned_twice, PySem.W.mg_of X G a_law_is_turned_twice⟩
    d_law := ⟨_, _, fun_mk (st := s_law) l_law c_law k_law, PySem.W.mg_of X G a_law⟩
    c_Map := C_Map
    m_Map_init := ⟨_, _, fun_mk (st := s_Map_init) l_Map_init c_Map_init k_Map_init⟩
    m_Map_keep := ⟨_, _, fun_mk (st := s_Map_keep) l_Map_keep c_Map_keep k_Map_keep⟩
    m_Map_parts := ⟨_, _, fun_mk (st := s_Map_parts) l_Map_parts c_Map_parts k_Map_parts⟩
    m_Map_eq := ⟨_, _, fun_mk (st := s_Map_eq) l_Map_eq c_Map_eq k_Map_eq⟩
    k_Map := ⟨⟨pg_Map, hd_Map, po_Map, sa_Map⟩, PySem.W.mg_of X G aC_Map⟩
    mk_Map := ⟨mk_Map, a_Map_init, i_Map_init, kc_Map⟩
    n_Map_kept_many := n_Map_kept_many
    n_Map_kept_arrows := n_Map_kept_arrows
    n_Map_kept_goals := n_Map_kept_goals
    n_Map_kept_left := n_Map_kept_left
    c_RawMap := C_RawMap
    m_RawMap_init := ⟨_, _, fun_mk (st := s_RawMap_init) l_RawMap_init c_RawMap_init k_RawMap_init⟩
    k_RawMap := ⟨⟨pg_RawMap, hd_RawMap, po_RawMap, sa_RawMap⟩, PySem.W.mg_of X G aC_RawMap⟩
    mk_RawMap := ⟨mk_RawMap, a_RawMap_init, i_RawMap_init, kc_RawMap⟩
    n_RawMap_kept_many := n_RawMap_kept_many
    n_RawMap_kept_arrows := n_RawMap_kept_arrows
    n_RawMap_kept_goals := n_RawMap_kept_goals
    n_RawMap_kept_left := n_RawMap_kept_left
    c_Search := C_Search
    m_Search_init := ⟨_, _, fun_mk (st := s_Search_init) l_Search_init c_Search_init k_Search_init⟩
    m_Search_into := ⟨_, _, fun_mk (st := s_Search_into) l_Search_into c_Search_into k_Search_into⟩
    m_Search_goes_on := ⟨_, _, fun_mk (st := s_Search_goes_on) l_Search_goes_on c_Search_goes_on k_Search_goes_on⟩
    m_Search_best := ⟨_, _, fun_mk (st := s_Search_best) l_Search_best c_Search_best k_Search_best⟩
    m_Search_best_of := ⟨_, _, fun_mk (st := s_Search_best_of) l_Search_best_of c_Search_best_of k_Search_best_of⟩
    m_Search_greatest := ⟨_, _, fun_mk (st := s_Search_greatest) l_Search_greatest c_Search_greatest k_Search_greatest⟩
    m_Search_lots := ⟨_, _, fun_mk (st := s_Search_lots) l_Search_lots c_Search_lots k_Search_lots⟩
    m_Search_order_of := ⟨_, _, fun_mk (st := s_Search_order_of) l_Search_order_of c_Search_order_of k_Search_order_of⟩
    k_Search := ⟨⟨pg_Search, hd_Search, po_Search, sa_Search⟩, PySem.W.mg_of X G aC_Search⟩
    mk_Search := ⟨mk_Search, a_Search_init, i_Search_init, kc_Search⟩
    n_Search_places := n_Search_places
    n_Search_size := n_Search_size
    n_Search_many := n_Search_many
    n_Search_ends := n_Search_ends
    n_Search_known := n_Search_known
    Map_keep := ⟨a_Map_keep, i_Map_keep, k_Map_keep⟩
    Map_parts := ⟨a_Map_parts, i_Map_parts, k_Map_parts⟩
    RawMap_keep := ⟨s_RawMap_keep, i_Map_keep, k_Map_keep⟩
    RawMap_parts := ⟨s_RawMap_parts, i_Map_parts, k_Map_parts⟩
    Map_eq := ⟨a_Map_eq, i_Map_eq, k_Map_eq⟩
    RawMap_eq := ⟨s_RawMap_eq, i_Map_eq, k_Map_eq⟩
    Search_into := ⟨a_Search_into, i_Search_into, k_Search_into⟩
    Search_goes_on := ⟨a_Search_goes_on, i_Search_goes_on, k_Search_goes_on⟩
    Search_best := ⟨a_Search_best, i_Search_best, k_Search_best⟩
    Search_best_of := ⟨a_Search_best_of, i_Search_best_of, k_Search_best_of⟩
    Search_greatest := ⟨a_Search_greatest, i_Search_greatest, k_Search_greatest⟩
    Search_lots := ⟨a_Search_lots, i_Search_lots, k_Search_lots⟩
    Search_order_of := ⟨a_Search_order_of, i_Search_order_of, k_Search_order_of⟩
    b_isinstance := PySem.W.mg_none_of X G z_isinstance
    b_int := PySem.W.mg_none_of X G z_int
    b_bool := PySem.W.mg_none_of X G z_bool
    b_tuple := PySem.W.mg_none_of X G z_tuple
    b_list := PySem.W.mg_none_of X G z_list
    b_len := PySem.W.mg_none_of X G z_len
    b_all := PySem.W.mg_none_of X G z_all
    b_any := PySem.W.mg_none_of X G z_any
    b_sum := PySem.W.mg_none_of X G z_sum
    b_range := PySem.W.mg_none_of X G z_range
    b_enumerate := PySem.W.mg_none_of X G z_enumerate
    b_sorted := PySem.W.mg_none_of X G z_sorted
    b_max := PySem.W.mg_none_of X G z_max
    b_min := PySem.W.mg_none_of X G z_min
    b_abs := PySem.W.mg_none_of X G z_abs
    i_Map := ⟨⟨pg_Map, hd_Map, po_Map, sa_Map⟩, ia, ihn, itk, ihm, ime⟩
    ne_RawMap := ne
    ob_RawMap := ob
    nf_RM := nfR
    nf_MM := nfM
    c_Many := C_Many
    many_g := PySem.W.mg_of X G aM
    many_x := xM
    many_k := kM
    many_b := bM
    many_t := tM
    many_e := exm_own bM iM tM sM
    g_MOST_PLACES := PySem.W.mg_of X G g_MOST_PLACES
    g_MOST_ARROWS := PySem.W.mg_of X G g_MOST_ARROWS
    g_MOST_COUNTED := PySem.W.mg_of X G g_MOST_COUNTED }
  exact ⟨T.d_law.fd, fun s v => .of_eq rfl, fun base _ _ => ok_law T⟩
theorem walk {l : PySem.W.OpenLaw} {q : Program} {loose : List Str} {XP : (Str → Option Value) → Heap → Prop} {YP : World → Heap → Prop} {d : DefRec} {K : Params → PySem.W.Frag} (hn : l.most = some 63) (hdf : d.params.defaults = [])
    (hY : ∀ (w : World) (h : Heap), YP w h → (K w.params).In h)
    (F : ∀ (w : World) (mg : Str → Option Value) (fa : Addr) (h : Heap), (K w.params).In h → h.Ns mainGlobals mg → mg d.name = some (.ref fa) →
      ∃ fd : FuncData, (∀ (s : Shared) (u : Value), BindsTo s fd ⟨[u], []⟩ [("_law_script", u)]) ∧ ∀ base : Heap, (K w.params).In base → base.Ns mainGlobals mg → FnOk l.prog w (K w.params) mg base CX0 27 fa fd ["_law_script"] (spLaw (K w.params))) :
    PySem.W.WalkO q loose XP YP l.row.toRowW d [] (fun f vs => PySem.call f vs) :=
  L2.walk_of (n := 63) (k := 27) (x := "_law_script") (CX := fun _ => CX0) (sp := fun w => spLaw (K w.params)) hn (by decide) hdf ⟨rfl, by decide, by decide⟩ hY F (fun _ _ a ns hl _ hS => ⟨a, ns, rfl, hS, hl, fun _ => rfl⟩) fun _ _ _ _ _ z => z
end K33
open PySem PySem.W PyProof.Rows
set_option maxRecDepth 100000 in
set_option maxHeartbeats 0 in
theorem PySem.Challenge.cw_untriedways_k33_whole_lots_of_greatest_p_holds : PySem.Challenge.rw_untriedways_k33_whole_lots_of_greatest_p.Holds := by
  w_on; o_law; k_head; (case hw => w_witness2)
  k_fill
  refine K33.walk (l := PySem.Challenge.rw_untriedways_k33_whole_lots_of_greatest_p) rfl rfl (fun w h Y => PySem.W.kIn_of Y) ?F
  case F =>
    intro w mg fa h KX G hmg
    refine' K33.all_mk KX G hmg ?aC_Map ?pg_Map ?hd_Map ?po_Map ?sa_Map ?mk_Map ?kc_Map ?n_Map_kept_many ?n_Map_kept_arrows ?n_Map_kept_goals ?n_Map_kept_left ?aC_RawMap ?pg_RawMap ?hd_RawMap ?po_RawMap ?sa_RawMap ?mk_RawMap ?kc_RawMap ?n_RawMap_kept_many ?n_RawMap_kept_arrows ?n_RawMap_kept_goals ?n_RawMap_kept_left ?aC_Search ?pg_Search ?hd_Search ?po_Search ?sa_Search ?mk_Search ?kc_Search ?n_Search_places ?n_Search_size ?n_Search_many ?n_Search_ends ?n_Search_known ?a_is_integer ?l_is_integer ?c_is_integer ?k_is_integer ?a_is_between ?l_is_between ?c_is_between ?k_is_between ?a_is_index ?l_is_index ?c_is_index ?k_is_index ?a_is_lot ?l_is_lot ?c_is_lot ?k_is_lot ?a_mask_of ?l_mask_of ?c_mask_of ?k_mask_of ?a_lot_of ?l_lot_of ?c_lot_of ?k_lot_of ?a_are_arrows ?l_are_arrows ?c_are_arrows ?k_are_arrows ?a_are_goals ?l_are_goals ?c_are_goals ?k_are_goals ?a_led_to ?l_led_to ?c_led_to ?k_led_to ?a_led_from ?l_led_from ?c_led_from ?k_led_from ?a_goals_mask ?l_goals_mask ?c_goals_mask ?k_goals_mask ?a_places_mask ?l_places_mask ?c_places_mask ?k_places_mask ?a_check_one_goal ?l_check_one_goal ?c_check_one_goal ?k_check_one_goal ?a_counted_places ?l_counted_places ?c_counted_places ?k_counted_places ?a_check_counted ?l_check_counted ?c_check_counted ?k_check_counted ?a_forward_arrows ?l_forward_arrows ?c_forward_arrows ?k_forward_arrows ?a_greatest_of ?l_greatest_of ?c_greatest_of ?k_greatest_of ?a_worst ?l_worst ?c_worst ?k_worst ?a_greatest_lots ?l_greatest_lots ?c_greatest_lots ?k_greatest_lots ?a_turned ?l_turned ?c_turned ?k_turned ?a_law_hand ?l_law_hand ?c_law_hand ?k_law_hand ?a_law_draw ?l_law_draw ?c_law_draw ?k_law_draw ?a_law_shuffled ?l_law_shuffled ?c_law_shuffled ?k_law_shuffled ?a_law_parts ?l_law_parts ?c_law_parts ?k_law_parts ?a_law_tail ?l_law_tail ?c_law_tail ?k_law_tail ?a_law_renamed ?l_law_renamed ?c_law_renamed ?k_law_renamed ?a_law_orders ?l_law_orders ?c_law_orders ?k_law_orders ?a_law_excess_of ?l_law_excess_of ?c_law_excess_of ?k_law_excess_of ?a_law_lots ?l_law_lots ?c_law_lots ?k_law_lots ?a_law_turned ?l_law_turned ?c_law_turned ?k_law_turned ?a_law_is_turned_twice ?l_law_is_turned_twice ?c_law_is_turned_twice ?k_law_is_turned_twice ?a_law ?l_law ?c_law ?k_law ?a_Map_init ?i_Map_init ?l_Map_init ?c_Map_init ?k_Map_init ?a_Map_keep ?i_Map_keep ?l_Map_keep ?c_Map_keep ?k_Map_keep ?a_Map_parts ?i_Map_parts ?l_Map_parts ?c_Map_parts ?k_Map_parts ?a_Map_eq ?i_Map_eq ?l_Map_eq ?c_Map_eq ?k_Map_eq ?a_RawMap_init ?i_RawMap_init ?l_RawMap_init ?c_RawMap_init ?k_RawMap_init ?a_Search_init ?i_Search_init ?l_Search_init ?c_Search_init ?k_Search_init ?a_Search_into ?i_Search_into ?l_Search_into ?c_Search_into ?k_Search_into ?a_Search_goes_on ?i_Search_goes_on ?l_Search_goes_on ?c_Search_goes_on ?k_Search_goes_on ?a_Search_best ?i_Search_best ?l_Search_best ?c_Search_best ?k_Search_best ?a_Search_best_of ?i_Search_best_of ?l_Search_best_of ?c_Search_best_of ?k_Search_best_of ?a_Search_greatest ?i_Search_greatest ?l_Search_greatest ?c_Search_greatest ?k_Search_greatest ?a_Search_lots ?i_Search_lots ?l_Search_lots ?c_Search_lots ?k_Search_lots ?a_Search_order_of ?i_Search_order_of ?l_Search_order_of ?c_Search_order_of ?k_Search_order_of ?s_RawMap_keep ?s_RawMap_parts ?s_RawMap_eq ?z_isinstance ?z_int ?z_bool ?z_tuple ?z_list ?z_len ?z_all ?z_any ?z_sum ?z_range ?z_enumerate ?z_sorted ?z_max ?z_min ?z_abs ?ia ?ihn ?itk ?ihm ?ime ?ne ?ob ?nfR ?nfM ?aM ?xM ?kM ?bM ?tM ?iM ?sM ?g_MOST_PLACES ?g_MOST_ARROWS ?g_MOST_COUNTED
    (case aC_Map => k_is)
    (case pg_Map => k_is)
    (case hd_Map => k_is)
    (case po_Map => k_is)
    (case sa_Map => k_is)
    (case mk_Map => k_is)
    (case kc_Map => k_is)
    (case n_Map_kept_many => k_is)
    (case n_Map_kept_arrows => k_is)
    (case n_Map_kept_goals => k_is)
    (case n_Map_kept_left => k_is)
    (case aC_RawMap => k_is)
    (case pg_RawMap => k_is)
    (case hd_RawMap => k_is)
    (case po_RawMap => k_is)
    (case sa_RawMap => k_is)
    (case mk_RawMap => k_is)
    (case kc_RawMap => k_is)
    (case n_RawMap_kept_many => k_is)
    (case n_RawMap_kept_arrows => k_is)
    (case n_RawMap_kept_goals => k_is)
    (case n_RawMap_kept_left => k_is)
    (case aC_Search => k_is)
    (case pg_Search => k_is)
    (case hd_Search => k_is)
    (case po_Search => k_is)
    (case sa_Search => k_is)
    (case mk_Search => k_is)
    (case kc_Search => k_is)
    (case n_Search_places => k_is)
    (case n_Search_size => k_is)
    (case n_Search_many => k_is)
    (case n_Search_ends => k_is)
    (case n_Search_known => k_is)
    (case a_is_integer => k_is)
    (case l_is_integer => k_is)
    (case c_is_integer => k_is)
    (case k_is_integer => k_is)
    (case a_is_between => k_is)
    (case l_is_between => k_is)
    (case c_is_between => k_is)
    (case k_is_between => k_is)
    (case a_is_index => k_is)
    (case l_is_index => k_is)
    (case c_is_index => k_is)
    (case k_is_index => k_is)
    (case a_is_lot => k_is)
    (case l_is_lot => k_is)
    (case c_is_lot => k_is)
    (case k_is_lot => k_is)
    (case a_mask_of => k_is)
    (case l_mask_of => k_is)
    (case c_mask_of => k_is)
    (case k_mask_of => k_is)
    (case a_lot_of => k_is)
    (case l_lot_of => k_is)
    (case c_lot_of => k_is)
    (case k_lot_of => k_is)
    (case a_are_arrows => k_is)
    (case l_are_arrows => k_is)
    (case c_are_arrows => k_is)
    (case k_are_arrows => k_is)
    (case a_are_goals => k_is)
    (case l_are_goals => k_is)
    (case c_are_goals => k_is)
    (case k_are_goals => k_is)
    (case a_led_to => k_is)
    (case l_led_to => k_is)
    (case c_led_to => k_is)
    (case k_led_to => k_is)
    (case a_led_from => k_is)
    (case l_led_from => k_is)
    (case c_led_from => k_is)
    (case k_led_from => k_is)
    (case a_goals_mask => k_is)
    (case l_goals_mask => k_is)
    (case c_goals_mask => k_is)
    (case k_goals_mask => k_is)
    (case a_places_mask => k_is)
    (case l_places_mask => k_is)
    (case c_places_mask => k_is)
    (case k_places_mask => k_is)
    (case a_check_one_goal => k_is)
    (case l_check_one_goal => k_is)
    (case c_check_one_goal => k_is)
    (case k_check_one_goal => k_is)
    (case a_counted_places => k_is)
    (case l_counted_places => k_is)
    (case c_counted_places => k_is)
    (case k_counted_places => k_is)
    (case a_check_counted => k_is)
    (case l_check_counted => k_is)
    (case c_check_counted => k_is)
    (case k_check_counted => k_is)
    (case a_forward_arrows => k_is)
    (case l_forward_arrows => k_is)
    (case c_forward_arrows => k_is)
    (case k_forward_arrows => k_is)
    (case a_greatest_of => k_is)
    (case l_greatest_of => k_is)
    (case c_greatest_of => k_is)
    (case k_greatest_of => k_is)
    (case a_worst => k_is)
    (case l_worst => k_is)
    (case c_worst => k_is)
    (case k_worst => k_is)
    (case a_greatest_lots => k_is)
    (case l_greatest_lots => k_is)
    (case c_greatest_lots => k_is)
    (case k_greatest_lots => k_is)
    (case a_turned => k_is)
    (case l_turned => k_is)
    (case c_turned => k_is)
    (case k_turned => k_is)
    (case a_law_hand => k_is)
    (case l_law_hand => k_is)
    (case c_law_hand => k_is)
    (case k_law_hand => k_is)
    (case a_law_draw => k_is)
    (case l_law_draw => k_is)
    (case c_law_draw => k_is)
    (case k_law_draw => k_is)
    (case a_law_shuffled => k_is)
    (case l_law_shuffled => k_is)
    (case c_law_shuffled => k_is)
    (case k_law_shuffled => k_is)
    (case a_law_parts => k_is)
    (case l_law_parts => k_is)
    (case c_law_parts => k_is)
    (case k_law_parts => k_is)
    (case a_law_tail => k_is)
    (case l_law_tail => k_is)
    (case c_law_tail => k_is)
    (case k_law_tail => k_is)
    (case a_law_renamed => k_is)
    (case l_law_renamed => k_is)
    (case c_law_renamed => k_is)
    (case k_law_renamed => k_is)
    (case a_law_orders => k_is)
    (case l_law_orders => k_is)
    (case c_law_orders => k_is)
    (case k_law_orders => k_is)
    (case a_law_excess_of => k_is)
    (case l_law_excess_of => k_is)
    (case c_law_excess_of => k_is)
    (case k_law_excess_of => k_is)
    (case a_law_lots => k_is)
    (case l_law_lots => k_is)
    (case c_law_lots => k_is)
    (case k_law_lots => k_is)
    (case a_law_turned => k_is)
    (case l_law_turned => k_is)
    (case c_law_turned => k_is)
    (case k_law_turned => k_is)
    (case a_law_is_turned_twice => k_is)
    (case l_law_is_turned_twice => k_is)
    (case c_law_is_turned_twice => k_is)
    (case k_law_is_turned_twice => k_is)
    (case a_law => k_is)
    (case l_law => k_is)
    (case c_law => k_is)
    (case k_law => k_is)
    (case a_Map_init => k_is)
    (case i_Map_init => k_is)
    (case l_Map_init => k_is)
    (case c_Map_init => k_is)
    (case k_Map_init => k_is)
    (case a_Map_keep => k_is)
    (case i_Map_keep => k_is)
    (case l_Map_keep => k_is)
    (case c_Map_keep => k_is)
    (case k_Map_keep => k_is)
    (case a_Map_parts => k_is)
    (case i_Map_parts => k_is)
    (case l_Map_parts => k_is)
    (case c_Map_parts => k_is)
    (case k_Map_parts => k_is)
    (case a_Map_eq => k_is)
    (case i_Map_eq => k_is)
    (case l_Map_eq => k_is)
    (case c_Map_eq => k_is)
    (case k_Map_eq => k_is)
    (case a_RawMap_init => k_is)
    (case i_RawMap_init => k_is)
    (case l_RawMap_init => k_is)
    (case c_RawMap_init => k_is)
    (case k_RawMap_init => k_is)
    (case a_Search_init => k_is)
    (case i_Search_init => k_is)
    (case l_Search_init => k_is)
    (case c_Search_init => k_is)
    (case k_Search_init => k_is)
    (case a_Search_into => k_is)
    (case i_Search_into => k_is)
    (case l_Search_into => k_is)
    (case c_Search_into => k_is)
    (case k_Search_into => k_is)
    (case a_Search_goes_on => k_is)
    (case i_Search_goes_on => k_is)
    (case l_Search_goes_on => k_is)
    (case c_Search_goes_on => k_is)
    (case k_Search_goes_on => k_is)
    (case a_Search_best => k_is)
    (case i_Search_best => k_is)
    (case l_Search_best => k_is)
    (case c_Search_best => k_is)
    (case k_Search_best => k_is)
    (case a_Search_best_of => k_is)
    (case i_Search_best_of => k_is)
    (case l_Search_best_of => k_is)
    (case c_Search_best_of => k_is)
    (case k_Search_best_of => k_is)
    (case a_Search_greatest => k_is)
    (case i_Search_greatest => k_is)
    (case l_Search_greatest => k_is)
    (case c_Search_greatest => k_is)
    (case k_Search_greatest => k_is)
    (case a_Search_lots => k_is)
    (case i_Search_lots => k_is)
    (case l_Search_lots => k_is)
    (case c_Search_lots => k_is)
    (case k_Search_lots => k_is)
    (case a_Search_order_of => k_is)
    (case i_Search_order_of => k_is)
    (case l_Search_order_of => k_is)
    (case c_Search_order_of => k_is)
    (case k_Search_order_of => k_is)
    (case s_RawMap_keep => k_is)
    (case s_RawMap_parts => k_is)
    (case s_RawMap_eq => k_is)
    (case z_isinstance => k_is)
    (case z_int => k_is)
    (case z_bool => k_is)
    (case z_tuple => k_is)
    (case z_list => k_is)
    (case z_len => k_is)
    (case z_all => k_is)
    (case z_any => k_is)
    (case z_sum => k_is)
    (case z_range => k_is)
    (case z_enumerate => k_is)
    (case z_sorted => k_is)
    (case z_max => k_is)
    (case z_min => k_is)
    (case z_abs => k_is)
    (case ia => k_is)
    (case ihn => k_is)
    (case itk => k_is)
    (case ihm => k_is)
    (case ime => rfl)
    (case ne => k_is)
    (case ob => k_is)
    (case nfR => k_is)
    (case nfM => k_is)
    (case aM => k_is)
    (case xM => k_exc)
    (case kM => k_is)
    (case bM => k_is)
    (case tM => k_is)
    (case iM => k_is)
    (case sM => first | rfl | k_is)
    (case g_MOST_PLACES => k_is)
    (case g_MOST_ARROWS => k_is)
    (case g_MOST_COUNTED => k_is)
