import PyProof.Rows.All
import Wide.All
import OpenK.AllK
import Wide.FinOn
import HandS.ForMost
import HandS.DictComp
import HandS.Walk
import HandS.Style
import HandS.SortInts
import HandS.IsInst
import HandS.Defaults
import HandS.Wide
import HandS.Rev
import HandS.Conv
import HandS.Nested
import HandS.NestedK
import HandS.EndBits
import HandS.EndTab
import HandS.Evl
import KE.KMinKey
import HandS.LawCells
import HandS.RevTup
import HandS.WideBits
import PySem.Challenge.RW_lassoproof_k56_whole_answer_judged
set_option linter.all false
/-! K56Math: plain mathematics, core Lean only. -/
namespace K56
/-! ### lists -/
theorem nodup_sub {l m : List Nat} (h : l.Nodup) (s : ∀ x, x ∈ l → x ∈ m) : l.length ≤ m.length := by
  induction l generalizing m with
  | nil => exact Nat.zero_le _
  | cons a r ih =>
    have hn := List.nodup_cons.mp h
    have ha : a ∈ m := s a List.mem_cons_self
    have h1 : r.length ≤ (m.erase a).length := ih hn.2 fun x hx =>
      (List.mem_erase_of_ne (fun e => hn.1 (by rw [← e]; exact hx))).mpr (s x (List.mem_cons_of_mem _ hx))
    have h2 := List.length_erase_of_mem ha
    have h3 : 0 < m.length := List.length_pos_of_mem ha
    rw [List.length_cons]
    omega
theorem nodup_lt {l : List Nat} {n : Nat} (h : l.Nodup) (s : ∀ x, x ∈ l → x < n) : l.length ≤ n := by
  have := nodup_sub (m := List.range n) h fun x hx => List.mem_range.mpr (s x hx)
  rwa [List.length_range] at this
/-- strictly ascending -/
abbrev Asc (l : List Nat) : Prop := l.Pairwise (· < ·)
theorem Asc.nodup {l : List Nat} (h : Asc l) : l.Nodup := h.imp fun h => Nat.ne_of_lt h
theorem asc_eq : ∀ {l m : List Nat}, Asc l → Asc m → (∀ x, x ∈ l ↔ x ∈ m) → l = m
  | [], [], _, _, _ => rfl
  | [], b :: m, _, _, h => absurd ((h b).mpr List.mem_cons_self) (by simp)
  | a :: l, [], _, _, h => absurd ((h a).mp List.mem_cons_self) (by simp)
  | a :: l, b :: m, h1, h2, h => by
    obtain ⟨p1, q1⟩ := List.pairwise_cons.mp h1
    obtain ⟨p2, q2⟩ := List.pairwise_cons.mp h2
    have e : a = b := by
      rcases List.mem_cons.mp ((h a).mp List.mem_cons_self) with e | e
      · exact e
      · rcases List.mem_cons.mp ((h b).mpr List.mem_cons_self) with e' | e'
        · exact e'.symm
        · have := p1 _ e'
          have := p2 _ e
          omega
    subst e
    rw [asc_eq q1 q2 fun x => ?_]
    constructor
    · intro hx
      rcases List.mem_cons.mp ((h x).mp (List.mem_cons_of_mem _ hx)) with e | e
      · have := p1 _ hx
        omega
      · exact e
    · intro hx
      rcases List.mem_cons.mp ((h x).mpr (List.mem_cons_of_mem _ hx)) with e | e
      · have := p2 _ hx
        omega
      · exact e
theorem asc_of_le {l : List Nat} (h : l.Pairwise (· ≤ ·)) (n : l.Nodup) : Asc l := by
  have := List.Pairwise.and h n
  exact this.imp fun ⟨a, b⟩ => by omega
/-! ### reachability -/
inductive Rch (E : Nat → List Nat) : Nat → Nat → Prop
  | refl (a : Nat) : Rch E a a
  | step {a b c : Nat} : Rch E a b → c ∈ E b → Rch E a c
theorem Rch.trans {E : Nat → List Nat} {a b c : Nat} (h : Rch E a b) (g : Rch E b c) : Rch E a c := by
  induction g with
  | refl => exact h
  | step _ hc ih => exact .step ih hc
theorem Rch.one {E : Nat → List Nat} {a b : Nat} (h : b ∈ E a) : Rch E a b := .step (.refl a) h
theorem Rch.head {E : Nat → List Nat} {a b c : Nat} (h : b ∈ E a) (g : Rch E b c) : Rch E a c := (Rch.one h).trans g
theorem Rch.mono {E F : Nat → List Nat} (s : ∀ a b, b ∈ E a → b ∈ F a) {a b : Nat} (h : Rch E a b) : Rch F a b := by
  induction h with
  | refl => exact .refl _
  | step _ hc ih => exact .step ih (s _ _ hc)
theorem Rch.closed {E : Nat → List Nat} {P : Nat → Prop} (c : ∀ a b, P a → b ∈ E a → P b) {a b : Nat} (h : Rch E a b) (ha : P a) : P b := by
  induction h with
  | refl => exact ha
  | step _ hc ih => exact c _ _ ih hc
/-- paths with their length, from the head -/
inductive PL (E : Nat → List Nat) : Nat → Nat → Nat → Prop
  | refl (a : Nat) : PL E 0 a a
  | head {n a b c : Nat} : b ∈ E a → PL E n b c → PL E (n + 1) a c
theorem PL.snoc {E : Nat → List Nat} {n a b c : Nat} (h : PL E n a b) (g : c ∈ E b) : PL E (n + 1) a c := by
  induction h with
  | refl a => exact .head g (.refl _)
  | head e _ ih => exact .head e (ih g)
theorem Rch.pl {E : Nat → List Nat} {a b : Nat} (h : Rch E a b) : ∃ n, PL E n a b := by
  induction h with
  | refl => exact ⟨0, .refl _⟩
  | step _ hc ih =>
    obtain ⟨n, p⟩ := ih
    exact ⟨n + 1, p.snoc hc⟩
theorem PL.rch {E : Nat → List Nat} {n a b : Nat} (h : PL E n a b) : Rch E a b := by
  induction h with
  | refl a => exact .refl _
  | head e _ ih => exact .head e ih
/-! ### graphs: a list of lists -/
def gE (G : List (List Nat)) (v : Nat) : List Nat := G.getD v []
theorem gE_at {G : List (List Nat)} {v : Nat} {g : List Nat} (h : G[v]? = some g) : gE G v = g := by
  unfold gE
  rw [List.getD_eq_getElem?_getD, h]
  rfl
/-- n nodes; rows of nodes; nothing is longer than 60 -/
structure GW (G : List (List Nat)) : Prop where
  n60 : G.length ≤ 60
  row : ∀ g ∈ G, g.length ≤ 60
  lt : ∀ g ∈ G, ∀ x ∈ g, x < G.length
theorem GW.gE_lt {G : List (List Nat)} (w : GW G) {v x : Nat} (h : x ∈ gE G v) : x < G.length := by
  unfold gE at h
  rw [List.getD_eq_getElem?_getD] at h
  cases e : G[v]? with
  | none =>
    rw [e] at h
    cases h
  | some g =>
    rw [e] at h
    exact w.lt g (List.mem_of_getElem? e) x h
theorem GW.gE_len {G : List (List Nat)} (w : GW G) (v : Nat) : (gE G v).length ≤ 60 := by
  unfold gE
  rw [List.getD_eq_getElem?_getD]
  cases e : G[v]? with
  | none => exact Nat.zero_le _
  | some g => exact w.row g (List.mem_of_getElem? e)
/-- reachable from one of the starts -/
def Rs (G : List (List Nat)) (S : List Nat) (v : Nat) : Prop := ∃ s, s ∈ S ∧ Rch (gE G) s v
/-! ### distances: the breadth first search -/
structure BI (G : List (List Nat)) (S : List Nat) (D : List (Option Nat)) (q : List Nat) : Prop where
  len : D.length = G.length
  nd : q.Nodup
  mem : ∀ v, v ∈ q ↔ ∃ d, D[v]? = some (some d)
  zero : ∀ v, D[v]? = some (some 0) → v ∈ S
  pred : ∀ v d, D[v]? = some (some (d + 1)) → ∃ u, D[u]? = some (some d) ∧ v ∈ gE G u
theorem BI.start (G : List (List Nat)) (S : List Nat) : BI G S (List.replicate G.length none) [] := by
  refine ⟨List.length_replicate, List.nodup_nil, fun v => ⟨fun h => absurd h (by simp), fun ⟨d, h⟩ => ?_⟩, fun v h => ?_, fun v d h => ?_⟩ <;>
  · rw [List.getElem?_replicate] at h
    split at h <;> simp at h
section
variable {G : List (List Nat)} {S : List Nat} {D : List (Option Nat)} {q : List Nat}
theorem BI.lt (b : BI G S D q) {v : Nat} (h : v ∈ q) : v < G.length := by
  obtain ⟨d, hd⟩ := (b.mem v).mp h
  have := (List.getElem?_eq_some_iff.mp hd).1
  rw [b.len] at this
  exact this
theorem BI.qlen (b : BI G S D q) : q.length ≤ G.length := nodup_lt b.nd fun _ h => b.lt h
theorem BI.push (b : BI G S D q) {t d : Nat} (ht : D[t]? = some none) (h : (d = 0 ∧ t ∈ S) ∨ ∃ u e, d = e + 1 ∧ D[u]? = some (some e) ∧ t ∈ gE G u) : BI G S (D.set t (some d)) (q ++ [t]) := by
  have hl := (List.getElem?_eq_some_iff.mp ht).1
  have hnt : t ∉ q := fun h => by
    obtain ⟨d, hd⟩ := (b.mem t).mp h
    rw [ht] at hd
    cases hd
  have at_ : ∀ v, v ≠ t → (D.set t (some d))[v]? = D[v]? := fun v hv => List.getElem?_set_ne (Ne.symm hv)
  have att : (D.set t (some d))[t]? = some (some d) := List.getElem?_set_self hl
  have up : ∀ v e, D[v]? = some (some e) → (D.set t (some d))[v]? = some (some e) := fun v e h => by
    rw [at_ v (fun z => by rw [z, ht] at h; cases h)]
    exact h
  refine ⟨by rw [List.length_set]; exact b.len, ?_, fun v => ?_, fun v hv => ?_, fun v e hv => ?_⟩
  · rw [List.nodup_append]
    refine ⟨b.nd, by simp, fun x hx y hy => ?_⟩
    rw [List.mem_singleton.mp hy]
    exact fun e => hnt (by rw [← e]; exact hx)
  · rw [List.mem_append, List.mem_singleton]
    by_cases e : v = t
    · subst e
      exact ⟨fun _ => ⟨d, att⟩, fun _ => .inr rfl⟩
    · rw [at_ v e]
      exact ⟨fun h => h.elim (b.mem v).mp fun z => absurd z e, fun h => .inl ((b.mem v).mpr h)⟩
  · by_cases e : v = t
    · subst e
      rw [att] at hv
      cases hv
      rcases h with ⟨_, h⟩ | ⟨u, e, h, _⟩
      · exact h
      · cases h
    · rw [at_ v e] at hv
      exact b.zero v hv
  · by_cases z : v = t
    · subst z
      rw [att] at hv
      cases hv
      rcases h with ⟨h, _⟩ | ⟨u, e', h, hu, hg⟩
      · cases h
      · cases h
        exact ⟨u, up u _ hu, hg⟩
    · rw [at_ v z] at hv
      obtain ⟨u, hu, hg⟩ := b.pred v e hv
      exact ⟨u, up u _ hu, hg⟩
/-- what distances hands back -/
structure DistOk (G : List (List Nat)) (S : List Nat) (D : List (Option Nat)) : Prop where
  len : D.length = G.length
  st : ∀ s ∈ S, ∃ d, D[s]? = some (some d)
  zero : ∀ v, D[v]? = some (some 0) → v ∈ S
  pred : ∀ v d, D[v]? = some (some (d + 1)) → ∃ u, D[u]? = some (some d) ∧ v ∈ gE G u
  clo : ∀ u d v, D[u]? = some (some d) → v ∈ gE G u → ∃ e, D[v]? = some (some e)
theorem BI.fin (b : BI G S D q) (hs : ∀ s ∈ S, s ∈ q) (hc : ∀ u ∈ q, ∀ v ∈ gE G u, v ∈ q) : DistOk G S D :=
  ⟨b.len, fun s h => (b.mem s).mp (hs s h), b.zero, b.pred, fun u d v hu hv => (b.mem v).mp (hc u ((b.mem u).mpr ⟨d, hu⟩) v hv)⟩
theorem DistOk.rs (o : DistOk G S D) (v : Nat) : (∃ d, D[v]? = some (some d)) ↔ Rs G S v := by
  constructor
  · rintro ⟨d, h⟩
    induction d generalizing v with
    | zero => exact ⟨v, o.zero v h, .refl _⟩
    | succ d ih =>
      obtain ⟨u, hu, hg⟩ := o.pred v d h
      obtain ⟨s, hs, r⟩ := ih u hu
      exact ⟨s, hs, .step r hg⟩
  · rintro ⟨s, hs, r⟩
    exact r.closed (P := fun v => ∃ d, D[v]? = some (some d)) (fun a b ⟨d, h⟩ hb => o.clo a d b h hb) (o.st s hs)
end
/-- the path that shortest_path walks back: its i-th node has the distance d - i -/
def Back (G : List (List Nat)) (D : List (Option Nat)) (d : Nat) (p : List Nat) : Prop :=
  (∀ i v, p[i]? = some v → i ≤ d ∧ D[v]? = some (some (d - i))) ∧ ∀ i a b, p[i]? = some a → p[i + 1]? = some b → a ∈ gE G b
theorem Back.nodup {G : List (List Nat)} {D : List (Option Nat)} {d : Nat} {p : List Nat} (h : Back G D d p) : p.Nodup := by
  refine List.pairwise_iff_getElem.mpr fun i j hi hj hij e' => ?_
  obtain ⟨v, hv⟩ : ∃ v, p[j]? = some v := ⟨p[j], List.getElem?_eq_getElem hj⟩
  have e : p[i]? = some v := by
    rw [List.getElem?_eq_getElem hi, e', ← List.getElem?_eq_getElem hj]
    exact hv
  have h1 := h.1 i v e
  have h2 := h.1 j v hv
  have h3 := h1.2.symm.trans h2.2
  have h4 : d - i = d - j := by
    have := Option.some.inj h3
    exact Option.some.inj this
  omega
theorem Back.len {G : List (List Nat)} {D : List (Option Nat)} {d : Nat} {p : List Nat} (h : Back G D d p) (hl : D.length = G.length) : p.length ≤ G.length := by
  refine nodup_lt h.nodup fun x hx => ?_
  obtain ⟨i, hi, e⟩ := List.getElem_of_mem hx
  have h1 := h.1 i x (by rw [← e]; exact List.getElem?_eq_getElem hi)
  have := (List.getElem?_eq_some_iff.mp h1.2).1
  omega
end K56
set_option linter.all false
/-! K56Math2: depth first search, strongly connected parts in order. -/
namespace K56
/-! ### the search from one start: new the finished nodes in order, stk the stack (its top at the end), S0 what was seen ahead -/
abbrev nds (stk : List (Nat × Nat)) : List Nat := stk.map (·.1)
/-- E without what was seen ahead -/
def cutE (E : Nat → List Nat) (S0 : List Nat) : Nat → List Nat := fun v => (E v).filter fun w => decide (w ∉ S0)
theorem mem_cutE {E : Nat → List Nat} {S0 : List Nat} {v w : Nat} : w ∈ cutE E S0 v ↔ w ∈ E v ∧ w ∉ S0 := by
  unfold cutE
  rw [List.mem_filter, decide_eq_true_eq]
structure DI (E : Nat → List Nat) (S0 : List Nat) (st : Nat) (new : List Nat) (stk : List (Nat × Nat)) : Prop where
  nd : (new ++ nds stk).Nodup
  dj : ∀ v, v ∈ new ++ nds stk → v ∉ S0
  has : st ∈ new ++ nds stk
  ch : (nds stk).Pairwise (Rch E)
  kk : ∀ p, p ∈ stk → p.2 ≤ (E p.1).length ∧ ∀ j w, j < p.2 → (E p.1)[j]? = some w → w ∈ S0 ∨ w ∈ new ++ nds stk
  cl : ∀ v, v ∈ new → ∀ w, w ∈ E v → w ∈ S0 ∨ w ∈ new ++ nds stk
  rc : ∀ v, v ∈ new ++ nds stk → Rch (cutE E S0) st v
  ord : ∀ i x, new[i]? = some x → ∀ u w, u ∈ new.take (i + 1) → w ∈ E u → w ∉ S0 → w ∉ new.take (i + 1) → Rch E w x
theorem nds_snoc (stk : List (Nat × Nat)) (p : Nat × Nat) : nds (stk ++ [p]) = nds stk ++ [p.1] := by
  show (stk ++ [p]).map _ = _
  rw [List.map_append]
  rfl
theorem DI.init {E : Nat → List Nat} {S0 : List Nat} {st : Nat} (h : st ∉ S0) : DI E S0 st [] [(st, 0)] where
  nd := by simp
  dj := fun v hv => by
    have : v = st := by simpa using hv
    rw [this]
    exact h
  has := by simp
  ch := by simp
  kk := fun p hp => by
    have e : p = (st, 0) := by simpa using hp
    subst e
    exact ⟨Nat.zero_le _, fun j w hj => absurd hj (Nat.not_lt_zero _)⟩
  cl := fun v hv => absurd hv (by simp)
  rc := fun v hv => by
    have : v = st := by simpa using hv
    rw [this]
    exact .refl _
  ord := fun i x h => by simp at h
section
variable {E : Nat → List Nat} {S0 : List Nat} {st v k t : Nat} {new : List Nat} {stk : List (Nat × Nat)}
/-- the top is left for good -/
theorem DI.fin (d : DI E S0 st new (stk ++ [(v, k)])) (hk : k = (E v).length) : DI E S0 st (new ++ [v]) stk := by
  have e : new ++ nds (stk ++ [(v, k)]) = new ++ (nds stk ++ [v]) := by rw [nds_snoc]
  have mm : ∀ w, w ∈ (new ++ [v]) ++ nds stk ↔ w ∈ new ++ nds (stk ++ [(v, k)]) := fun w => by
    rw [e]
    simp only [List.mem_append, List.mem_singleton]
    constructor
    · intro h
      rcases h with (h | h) | h
      · exact .inl h
      · exact .inr (.inr h)
      · exact .inr (.inl h)
    · intro h
      rcases h with h | h | h
      · exact .inl (.inl h)
      · exact .inr h
      · exact .inl (.inr h)
  have mv : v ∈ new ++ nds (stk ++ [(v, k)]) := (mm v).mp (by simp)
  have clv : ∀ w, w ∈ E v → w ∈ S0 ∨ w ∈ new ++ nds (stk ++ [(v, k)]) := fun w hw => by
    obtain ⟨j, hj, ej⟩ := List.getElem_of_mem hw
    exact (d.kk (v, k) (by simp)).2 j w (by show j < k; omega) (by rw [List.getElem?_eq_getElem hj, ej])
  refine ⟨?_, fun w h => d.dj w ((mm w).mp h), (mm st).mpr d.has, ?_, fun p hp => ?_, fun u hu w hw => ?_, fun w h => d.rc w ((mm w).mp h), fun i x hx u w hu hw h0 hn => ?_⟩
  · have h := d.nd
    rw [e] at h
    refine (List.Perm.nodup_iff ?_).mpr h
    rw [List.append_assoc]
    exact List.Perm.append_left _ List.perm_append_comm
  · have h := d.ch
    rw [nds_snoc, List.pairwise_append] at h
    exact h.1
  · have h := d.kk p (List.mem_append_left _ hp)
    exact ⟨h.1, fun j w hj hw => (h.2 j w hj hw).imp_right (mm w).mpr⟩
  · rcases List.mem_append.mp hu with hu | hu
    · exact (d.cl u hu w hw).imp_right (mm w).mpr
    · rw [List.mem_singleton.mp hu] at hw
      exact (clv w hw).imp_right (mm w).mpr
  · by_cases hi : i < new.length
    · have e1 : (new ++ [v]).take (i + 1) = new.take (i + 1) := List.take_append_of_le_length (by omega)
      rw [e1] at hu hn
      rw [List.getElem?_append_left hi] at hx
      exact d.ord i x hx u w hu hw h0 hn
    · have hl := (List.getElem?_eq_some_iff.mp hx).1
      rw [List.length_append, List.length_singleton] at hl
      have ei : i = new.length := by omega
      subst ei
      have ex : x = v := by
        rw [List.getElem?_append_right (Nat.le_refl _), Nat.sub_self] at hx
        exact (Option.some.inj hx).symm
      subst ex
      rw [List.take_of_length_le (by rw [List.length_append, List.length_singleton]; omega)] at hu hn
      -- w is seen, not finished: it stands below the top
      have hs : w ∈ S0 ∨ w ∈ new ++ nds (stk ++ [(x, k)]) := by
        rcases List.mem_append.mp hu with hu | hu
        · exact d.cl u hu w hw
        · rw [List.mem_singleton.mp hu] at hw
          exact clv w hw
      rcases hs with hs | hs
      · exact absurd hs h0
      · have hw2 : w ∈ nds stk := by
          rcases List.mem_append.mp ((mm w).mpr hs) with z | z
          · exact absurd z hn
          · exact z
        have h := d.ch
        rw [nds_snoc, List.pairwise_append] at h
        exact h.2.2 w hw2 x (by simp)
/-- the top looks at a node that is seen -/
theorem DI.skip (d : DI E S0 st new (stk ++ [(v, k)])) (ht : (E v)[k]? = some t) (hs : t ∈ S0 ∨ t ∈ new ++ nds (stk ++ [(v, k)])) : DI E S0 st new (stk ++ [(v, k + 1)]) := by
  have e : nds (stk ++ [(v, k + 1)]) = nds (stk ++ [(v, k)]) := by rw [nds_snoc, nds_snoc]
  refine ⟨by rw [e]; exact d.nd, fun w h => d.dj w (by rw [e] at h; exact h), by rw [e]; exact d.has, by rw [e]; exact d.ch, fun p hp => ?_, fun u hu w hw => by rw [e]; exact d.cl u hu w hw, fun w h => d.rc w (by rw [e] at h; exact h), d.ord⟩
  rw [e]
  rcases List.mem_append.mp hp with hp | hp
  · exact d.kk p (List.mem_append_left _ hp)
  · rw [List.mem_singleton.mp hp]
    have h := d.kk (v, k) (by simp)
    have hl := (List.getElem?_eq_some_iff.mp ht).1
    refine ⟨hl, fun j w hj hw => ?_⟩
    by_cases ej : j = k
    · subst ej
      have : t = w := Option.some.inj (ht.symm.trans hw)
      rw [← this]
      exact hs
    · exact h.2 j w (by show j < k; have : j < k + 1 := hj; omega) hw
/-- the top looks at a new node, which becomes the top -/
theorem DI.push (d : DI E S0 st new (stk ++ [(v, k)])) (ht : (E v)[k]? = some t) (h0 : t ∉ S0) (hn : t ∉ new ++ nds (stk ++ [(v, k)])) : DI E S0 st new (stk ++ [(v, k + 1)] ++ [(t, 0)]) := by
  have e : nds (stk ++ [(v, k + 1)] ++ [(t, 0)]) = nds (stk ++ [(v, k)]) ++ [t] := by rw [nds_snoc, nds_snoc, nds_snoc]
  have mm : ∀ w, w ∈ new ++ nds (stk ++ [(v, k + 1)] ++ [(t, 0)]) ↔ w ∈ new ++ nds (stk ++ [(v, k)]) ∨ w = t := fun w => by
    rw [e, ← List.append_assoc, List.mem_append, List.mem_singleton]
  have hte : t ∈ E v := List.mem_of_getElem? ht
  have mv : v ∈ nds (stk ++ [(v, k)]) := by rw [nds_snoc]; simp
  refine ⟨?_, fun w h => ?_, (mm st).mpr (.inl d.has), ?_, fun p hp => ?_, fun u hu w hw => (d.cl u hu w hw).imp_right fun z => (mm w).mpr (.inl z), fun w h => ?_, d.ord⟩
  · rw [e, ← List.append_assoc, List.nodup_append]
    refine ⟨d.nd, by simp, fun a ha b hb => ?_⟩
    rw [List.mem_singleton.mp hb]
    exact fun z => hn (by rw [← z]; exact ha)
  · rcases (mm w).mp h with h | h
    · exact d.dj w h
    · rw [h]
      exact h0
  · rw [e, List.pairwise_append]
    refine ⟨d.ch, by simp, fun a ha b hb => ?_⟩
    rw [List.mem_singleton.mp hb]
    have h := d.ch
    rw [nds_snoc] at h ha
    rcases List.mem_append.mp ha with ha | ha
    · exact .step ((List.pairwise_append.mp h).2.2 a ha v (by simp)) hte
    · rw [List.mem_singleton.mp ha]
      exact .one hte
  · rcases List.mem_append.mp hp with hp | hp
    · rcases List.mem_append.mp hp with hp | hp
      · have h := d.kk p (List.mem_append_left _ hp)
        exact ⟨h.1, fun j w hj hw => (h.2 j w hj hw).imp_right fun z => (mm w).mpr (.inl z)⟩
      · rw [List.mem_singleton.mp hp]
        have h := d.kk (v, k) (by simp)
        have hl := (List.getElem?_eq_some_iff.mp ht).1
        refine ⟨hl, fun j w hj hw => ?_⟩
        by_cases ej : j = k
        · subst ej
          have : t = w := Option.some.inj (ht.symm.trans hw)
          exact .inr ((mm w).mpr (.inr this.symm))
        · exact (h.2 j w (by show j < k; have : j < k + 1 := hj; omega) hw).imp_right fun z => (mm w).mpr (.inl z)
    · rw [List.mem_singleton.mp hp]
      exact ⟨Nat.zero_le _, fun j w hj => absurd hj (Nat.not_lt_zero _)⟩
  · rcases (mm w).mp h with h | h
    · exact d.rc w h
    · rw [h]
      exact .step (d.rc v (List.mem_append_right _ mv)) (mem_cutE.mpr ⟨hte, h0⟩)
end
/-- what finish_from hands on -/
structure DFin (E : Nat → List Nat) (S0 : List Nat) (st : Nat) (new : List Nat) : Prop where
  nd : new.Nodup
  dj : ∀ v, v ∈ new → v ∉ S0
  has : st ∈ new
  cl : ∀ v, v ∈ new → ∀ w, w ∈ E v → w ∈ S0 ∨ w ∈ new
  rc : ∀ v, v ∈ new → Rch (cutE E S0) st v
  ord : ∀ i x, new[i]? = some x → ∀ u w, u ∈ new.take (i + 1) → w ∈ E u → w ∉ S0 → w ∉ new.take (i + 1) → Rch E w x
theorem DI.done {E : Nat → List Nat} {S0 : List Nat} {st : Nat} {new : List Nat} (d : DI E S0 st new []) : DFin E S0 st new := by
  have e : new ++ nds [] = new := List.append_nil _
  refine ⟨by rw [← e]; exact d.nd, fun v h => d.dj v (by rw [e]; exact h), by rw [← e]; exact d.has, fun v h w hw => ?_, fun v h => d.rc v (by rw [e]; exact h), d.ord⟩
  have := d.cl v h w hw
  rw [e] at this
  exact this
/-! ### the measure of the search -/
def unseen (f : Nat → Nat) (M S : List Nat) : Nat := ((M.filter fun v => decide (v ∉ S)).map f).sum
theorem unseen_push (f : Nat → Nat) (S : List Nat) (t : Nat) (hs : t ∉ S) : ∀ M : List Nat, t ∈ M → unseen f M (S ++ [t]) + f t ≤ unseen f M S
  | [], h => absurd h (by simp)
  | a :: M, h => by
    have mono : ∀ M : List Nat, unseen f M (S ++ [t]) ≤ unseen f M S := by
      intro M
      induction M with
      | nil => exact Nat.le_refl _
      | cons b M ih =>
        unfold unseen at ih ⊢
        rw [List.filter_cons, List.filter_cons]
        by_cases h1 : b ∈ S
        · have h2 : b ∈ S ++ [t] := List.mem_append_left _ h1
          rw [if_neg (by simp [h1]), if_neg (by simp [h1])]
          exact ih
        · by_cases h2 : b = t
          · rw [if_neg (by simp [h2]), if_pos (by simp [h1]), List.map_cons, List.sum_cons]
            omega
          · rw [if_pos (by simp [h1, h2]), if_pos (by simp [h1]), List.map_cons, List.sum_cons, List.map_cons, List.sum_cons]
            omega
    by_cases ha : a = t
    · subst ha
      have := mono M
      unfold unseen at this ⊢
      rw [List.filter_cons, List.filter_cons, if_neg (by simp), if_pos (by simp [hs]), List.map_cons, List.sum_cons]
      omega
    · have ht : t ∈ M := by
        rcases List.mem_cons.mp h with e | e
        · exact absurd e.symm ha
        · exact e
      have ih := unseen_push f S t hs M ht
      unfold unseen at ih ⊢
      rw [List.filter_cons, List.filter_cons]
      by_cases h1 : a ∈ S
      · rw [if_neg (by simp [h1]), if_neg (by simp [h1])]
        exact ih
      · rw [if_pos (by simp [h1, ha]), if_pos (by simp [h1]), List.map_cons, List.sum_cons, List.map_cons, List.sum_cons]
        omega
def stkW (E : Nat → List Nat) (stk : List (Nat × Nat)) : Nat := (stk.map fun p => (E p.1).length + 1 - p.2).sum
theorem stkW_snoc (E : Nat → List Nat) (stk : List (Nat × Nat)) (p : Nat × Nat) : stkW E (stk ++ [p]) = stkW E stk + ((E p.1).length + 1 - p.2) := by
  unfold stkW
  rw [List.map_append, List.sum_append]
  simp
def dfsW (E : Nat → List Nat) (M S : List Nat) (stk : List (Nat × Nat)) : Nat := unseen (fun v => (E v).length + 2) M S + stkW E stk
theorem dfsW_fin {E : Nat → List Nat} {M S : List Nat} {stk : List (Nat × Nat)} {v k : Nat} (hk : k = (E v).length) : dfsW E M S stk < dfsW E M S (stk ++ [(v, k)]) := by
  unfold dfsW
  rw [stkW_snoc]
  show _ < _ + (_ + ((E v).length + 1 - k))
  omega
theorem dfsW_skip {E : Nat → List Nat} {M S : List Nat} {stk : List (Nat × Nat)} {v k : Nat} (hk : k < (E v).length) : dfsW E M S (stk ++ [(v, k + 1)]) < dfsW E M S (stk ++ [(v, k)]) := by
  unfold dfsW
  rw [stkW_snoc, stkW_snoc]
  show _ + (_ + ((E v).length + 1 - (k + 1))) < _ + (_ + ((E v).length + 1 - k))
  omega
theorem dfsW_push {E : Nat → List Nat} {M S : List Nat} {stk : List (Nat × Nat)} {v k t : Nat} (hk : k < (E v).length) (ht : t ∈ M) (hs : t ∉ S) : dfsW E M (S ++ [t]) (stk ++ [(v, k + 1)] ++ [(t, 0)]) < dfsW E M S (stk ++ [(v, k)]) := by
  have := unseen_push (fun v => (E v).length + 2) S t hs M ht
  unfold dfsW
  rw [stkW_snoc, stkW_snoc, stkW_snoc]
  show _ + (_ + ((E v).length + 1 - (k + 1)) + ((E t).length + 1 - 0)) < _ + (_ + ((E v).length + 1 - k))
  omega
end K56
set_option linter.all false
/-! K56Math3: the parts in order (the two passes), walks back, round trips. -/
namespace K56
/-- E within p -/
def inE (E : Nat → List Nat) (p : List Nat) : Nat → List Nat := fun v => (E v).filter fun w => decide (w ∈ p)
theorem mem_inE {E : Nat → List Nat} {p : List Nat} {v w : Nat} : w ∈ inE E p v ↔ w ∈ E v ∧ w ∈ p := by
  unfold inE
  rw [List.mem_filter, decide_eq_true_eq]
/-- the dict that restricted makes: nothing at what is no member -/
def rE (G : List (List Nat)) (M : List Nat) : Nat → List Nat := fun v => if v ∈ M then inE (gE G) M v else []
theorem mem_rE {G : List (List Nat)} {M : List Nat} {v w : Nat} : w ∈ rE G M v ↔ v ∈ M ∧ w ∈ gE G v ∧ w ∈ M := by
  unfold rE
  by_cases h : v ∈ M
  · rw [if_pos h, mem_inE]
    exact ⟨fun z => ⟨h, z⟩, fun z => z.2⟩
  · rw [if_neg h]
    exact ⟨fun z => absurd z (by simp), fun z => absurd z.1 h⟩
theorem rE_of {G : List (List Nat)} {M : List Nat} {v : Nat} (h : v ∈ M) : rE G M v = inE (gE G) M v := by
  unfold rE
  rw [if_pos h]
/-! ### the first pass -/
structure P1 (E : Nat → List Nat) (M O : List Nat) (i : Nat) : Prop where
  nd : O.Nodup
  sub : ∀ v, v ∈ O → v ∈ M
  cl : ∀ u, u ∈ O → ∀ w, w ∈ E u → w ∈ O
  ord : ∀ j x, O[j]? = some x → ∀ u w, u ∈ O.take (j + 1) → w ∈ E u → w ∉ O.take (j + 1) → Rch E w x
  done : ∀ v, v ∈ M.take i → v ∈ O
theorem P1.start (E : Nat → List Nat) (M : List Nat) : P1 E M [] 0 :=
  ⟨List.nodup_nil, fun v h => absurd h (by simp), fun v h => absurd h (by simp), fun j x h => by simp at h, fun v h => absurd h (by simp)⟩
theorem mem_take_succ {l : List Nat} {i x v : Nat} (h : l[i]? = some x) (hv : v ∈ l.take (i + 1)) : v ∈ l.take i ∨ v = x := by
  rw [List.take_add_one, h] at hv
  rcases List.mem_append.mp hv with z | z
  · exact .inl z
  · exact .inr (by simpa using z)
theorem P1.skip {E : Nat → List Nat} {M O : List Nat} {i x : Nat} (p : P1 E M O i) (h : M[i]? = some x) (hx : x ∈ O) : P1 E M O (i + 1) :=
  ⟨p.nd, p.sub, p.cl, p.ord, fun v hv => (mem_take_succ h hv).elim (p.done v) fun e => by rw [e]; exact hx⟩
theorem P1.add {E : Nat → List Nat} {M O S0 new : List Nat} {i x : Nat} (p : P1 E M O i) (h : M[i]? = some x) (hS : ∀ v, v ∈ S0 ↔ v ∈ O) (hE : ∀ u w, w ∈ E u → w ∈ M) (d : DFin E S0 x new) : P1 E M (O ++ new) (i + 1) := by
  have hxM : x ∈ M := List.mem_of_getElem? h
  refine ⟨?_, fun v hv => ?_, fun u hu w hw => ?_, fun j y hy u w hu hw hn => ?_, fun v hv => ?_⟩
  · rw [List.nodup_append]
    refine ⟨p.nd, d.nd, fun a ha b hb e => d.dj b hb ((hS b).mpr (by rw [← e]; exact ha))⟩
  · rcases List.mem_append.mp hv with hv | hv
    · exact p.sub v hv
    · exact (d.rc v hv).closed (P := fun v => v ∈ M) (fun a b _ hb => hE a b (mem_cutE.mp hb).1) hxM
  · rcases List.mem_append.mp hu with hu | hu
    · exact List.mem_append_left _ (p.cl u hu w hw)
    · rcases d.cl u hu w hw with z | z
      · exact List.mem_append_left _ ((hS w).mp z)
      · exact List.mem_append_right _ z
  · by_cases hj : j < O.length
    · have e1 : (O ++ new).take (j + 1) = O.take (j + 1) := List.take_append_of_le_length (by omega)
      rw [e1] at hu hn
      rw [List.getElem?_append_left hj] at hy
      exact p.ord j y hy u w hu hw hn
    · have hj' : O.length ≤ j := by omega
      have e1 : (O ++ new).take (j + 1) = O ++ new.take (j - O.length + 1) := by
        rw [List.take_append, List.take_of_length_le (by omega)]
        have : j + 1 - O.length = j - O.length + 1 := by omega
        rw [this]
      rw [List.getElem?_append_right hj'] at hy
      rw [e1] at hu hn
      have hnO : w ∉ O := fun z => hn (List.mem_append_left _ z)
      rcases List.mem_append.mp hu with hu | hu
      · exact absurd (p.cl u hu w hw) hnO
      · exact d.ord _ y hy u w hu hw (fun z => hnO ((hS w).mp z)) fun z => hn (List.mem_append_right _ z)
  · rcases mem_take_succ h hv with z | z
    · exact List.mem_append_left _ (p.done v z)
    · rw [z]
      exact List.mem_append_right _ d.has
/-! ### the second pass -/
structure Comps (E : Nat → List Nat) (T : List Nat) (Ps : List (List Nat)) : Prop where
  nd : Ps.flatten.Nodup
  mem : ∀ v, v ∈ Ps.flatten ↔ v ∈ T
  asc : ∀ p, p ∈ Ps → Asc p
  ne : ∀ p, p ∈ Ps → p ≠ []
  sc : ∀ p, p ∈ Ps → ∀ a, a ∈ p → ∀ b, b ∈ p → Rch (inE E p) a b
  back : ∀ (i j : Nat) (p q : List Nat), Ps[i]? = some p → Ps[j]? = some q → j < i → ∀ u, u ∈ p → ∀ w, w ∈ E u → w ∉ q
theorem Comps.start (E : Nat → List Nat) : Comps E [] [] :=
  ⟨List.nodup_nil, fun v => ⟨fun h => h, fun h => h⟩, fun v h => absurd h (by simp), fun v h => absurd h (by simp), fun v h => absurd h (by simp), fun i j p q h => by simp at h⟩
/-- where a path leaves the first finished ones -/
theorem leaves {E : Nat → List Nat} {I : List Nat} {r : Nat} : ∀ {n x : Nat}, PL E n x r → x ∈ I → r ∉ I → ∃ m u z, m < n ∧ u ∈ I ∧ z ∈ E u ∧ z ∉ I ∧ PL E m z r := by
  intro n x h
  induction h with
  | refl a => exact fun h1 h2 => absurd h1 h2
  | @head n a b c hb p ih =>
    intro h1 h2
    by_cases hbI : b ∈ I
    · obtain ⟨m, u, z, hm, hu, hz, hzI, hp⟩ := ih hbI h2
      exact ⟨m, u, z, by omega, hu, hz, hzI, hp⟩
    · exact ⟨n, a, b, by omega, h1, hb, hbI, p⟩
/-- from the last finished one of a path all its nodes are reached -/
theorem reach_back {E : Nat → List Nat} {O A R new : List Nat} {r : Nat} (nd : O.Nodup) (eO : O = A ++ r :: R) (ord : ∀ j x, O[j]? = some x → ∀ u w, u ∈ O.take (j + 1) → w ∈ E u → w ∉ O.take (j + 1) → Rch E w x)
    (hN : ∀ x, x ∈ new → x ∈ A ∨ x = r) (hr : r ∈ new) : ∀ n x, x ∈ new → PL (inE E new) n x r → Rch E r x := by
  intro n
  induction n using Nat.strongRecOn with
  | _ n ih =>
    intro x hx p
    rcases hN x hx with hA | e
    · obtain ⟨j, hj, ej⟩ := List.getElem_of_mem hA
      have hO : O[j]? = some x := by
        rw [eO, List.getElem?_append_left hj, List.getElem?_eq_getElem hj, ej]
      have et : O.take (j + 1) = A.take (j + 1) := by
        rw [eO]
        exact List.take_append_of_le_length hj
      have hrA : r ∉ O.take (j + 1) := fun z => by
        rw [et] at z
        have z := List.mem_of_mem_take z
        rw [eO, List.nodup_append] at nd
        exact nd.2.2 r z r List.mem_cons_self rfl
      have hxI : x ∈ O.take (j + 1) := by
        rw [List.take_add_one, hO]
        simp
      obtain ⟨m, u, z, hm, hu, hz, hzI, hp⟩ := leaves p hxI hrA
      obtain ⟨hz1, hz2⟩ := mem_inE.mp hz
      exact (ih m hm z hz2 hp).trans (ord j x hO u z hu hz1 hzI)
    · rw [e]
      exact .refl _
/-- a path between two of new stays in it -/
theorem stays {E : Nat → List Nat} {T new : List Nat} (hT : ∀ y w, w ∈ new → w ∈ E y → y ∉ T → y ∈ new) {n a b : Nat} (p : PL E n a b) (hb : b ∈ new) (ha : ∀ y, Rch E a y → y ∉ T) : a ∈ new ∧ Rch (inE E new) a b := by
  induction p with
  | refl a => exact ⟨hb, .refl _⟩
  | @head n a c b hc _ ih =>
    obtain ⟨h1, h2⟩ := ih hb fun y hy => ha y (.head hc hy)
    exact ⟨hT a c h1 hc (ha a (.refl _)), .head (mem_inE.mpr ⟨hc, h1⟩) h2⟩
theorem sc_new {E B : Nat → List Nat} {O T A R new : List Nat} {r : Nat} (nd : O.Nodup) (eO : O = A ++ r :: R) (ord : ∀ j x, O[j]? = some x → ∀ u w, u ∈ O.take (j + 1) → w ∈ E u → w ∉ O.take (j + 1) → Rch E w x)
    (hB : ∀ u w, u ∈ B w ↔ w ∈ E u) (hR : ∀ x, x ∈ R → x ∈ T) (hM : ∀ x, x ∈ new → x ∈ O) (tcl : ∀ u, u ∈ T → ∀ w, w ∈ B u → w ∈ T) (hrT : r ∉ T) (d : DFin B T r new) :
    ∀ a, a ∈ new → ∀ b, b ∈ new → Rch (inE E new) a b := by
  have hN : ∀ x, x ∈ new → x ∈ A ∨ x = r := fun x hx => by
    have h := hM x hx
    rw [eO] at h
    rcases List.mem_append.mp h with z | z
    · exact .inl z
    · rcases List.mem_cons.mp z with z | z
      · exact .inr z
      · exact absurd (hR x z) (d.dj x hx)
  -- every node of new reaches r within new
  have toR : ∀ x, Rch (cutE B T) r x → x ∈ new ∧ Rch (inE E new) x r := fun x h => by
    induction h with
    | refl => exact ⟨d.has, .refl _⟩
    | @step b c _ hc ih =>
      obtain ⟨h1, h2⟩ := ih
      obtain ⟨hc1, hc2⟩ := mem_cutE.mp hc
      have hcn : c ∈ new := (d.cl _ h1 _ hc1).resolve_left hc2
      exact ⟨hcn, .head (mem_inE.mpr ⟨(hB _ _).mp hc1, h1⟩) h2⟩
  have noT : ∀ y, Rch E r y → y ∉ T := fun y hy => by
    induction hy with
    | refl => exact hrT
    | step _ hc ih => exact fun z => ih (tcl _ z _ ((hB _ _).mpr hc))
  have hT : ∀ y w, w ∈ new → w ∈ E y → y ∉ T → y ∈ new := fun y w hw hy hn => (d.cl w hw y ((hB _ _).mpr hy)).resolve_left hn
  have ofR : ∀ x, x ∈ new → Rch (inE E new) r x := fun x hx => by
    obtain ⟨_, h2⟩ := toR x (d.rc x hx)
    obtain ⟨n, p⟩ := h2.pl
    obtain ⟨m, q⟩ := (reach_back nd eO ord hN d.has n x hx p).pl
    exact (stays hT q hx noT).2
  exact fun a ha b hb => (toR a (d.rc a ha)).2.trans (ofR b hb)
structure P2 (E B : Nat → List Nat) (M O T : List Nat) (Ps : List (List Nat)) (i : Nat) : Prop where
  c : Comps E T Ps
  sub : ∀ v, v ∈ T → v ∈ M
  cl : ∀ u, u ∈ T → ∀ w, w ∈ B u → w ∈ T
  done : ∀ v, v ∈ O.reverse.take i → v ∈ T
theorem P2.start (E B : Nat → List Nat) (M O : List Nat) : P2 E B M O [] [] 0 :=
  ⟨Comps.start E, fun v h => absurd h (by simp), fun v h => absurd h (by simp), fun v h => absurd h (by simp)⟩
theorem P2.skip {E B : Nat → List Nat} {M O T : List Nat} {Ps : List (List Nat)} {i x : Nat} (p : P2 E B M O T Ps i) (h : O.reverse[i]? = some x) (hx : x ∈ T) : P2 E B M O T Ps (i + 1) :=
  ⟨p.c, p.sub, p.cl, fun v hv => (mem_take_succ h hv).elim (p.done v) fun e => by rw [e]; exact hx⟩
theorem split_at {O : List Nat} {i r : Nat} (h : O.reverse[i]? = some r) : ∃ A R, O = A ++ r :: R ∧ R.reverse = O.reverse.take i := by
  have hi := (List.getElem?_eq_some_iff.mp h).1
  have e : O.reverse = O.reverse.take i ++ r :: O.reverse.drop (i + 1) := by
    have e1 : O.reverse.drop i = r :: O.reverse.drop (i + 1) := by
      rw [List.drop_eq_getElem_cons hi]
      rw [List.getElem?_eq_getElem hi] at h
      rw [Option.some.inj h]
    rw [← e1, List.take_append_drop]
  refine ⟨(O.reverse.drop (i + 1)).reverse, (O.reverse.take i).reverse, ?_, List.reverse_reverse _⟩
  have := congrArg List.reverse e
  rw [List.reverse_reverse, List.reverse_append, List.reverse_cons, List.append_assoc] at this
  exact this
theorem P2.add {E B : Nat → List Nat} {M O T T' new part : List Nat} {Ps : List (List Nat)} {i r : Nat} (p : P2 E B M O T Ps i) (h : O.reverse[i]? = some r) (hr : r ∉ T) (o : P1 E M O M.length) (hE : ∀ u w, w ∈ E u → u ∈ M ∧ w ∈ M) (hB : ∀ u w, u ∈ B w ↔ w ∈ E u)
    (d : DFin B T r new) (hT' : ∀ v, v ∈ T' ↔ v ∈ T ∨ v ∈ new) (ha : Asc part) (hp : ∀ v, v ∈ part ↔ v ∈ new) : P2 E B M O T' (Ps ++ [part]) (i + 1) := by
  obtain ⟨A, R, eO, eR⟩ := split_at h
  have hrM : r ∈ M := o.sub r (by rw [eO]; simp)
  have newM : ∀ x, x ∈ new → x ∈ M := fun x hx => (d.rc x hx).closed (P := fun v => v ∈ M) (fun a b _ hb => (hE b a ((hB b a).mp (mem_cutE.mp hb).1)).1) hrM
  have MO : ∀ x, x ∈ M → x ∈ O := fun x hx => o.done x (by rw [List.take_length]; exact hx)
  have sc := sc_new o.nd eO o.ord hB (fun x hx => p.done x (by rw [← eR]; simpa using hx)) (fun x hx => MO x (newM x hx)) p.cl hr d
  refine ⟨⟨?_, fun v => ?_, fun q hq => ?_, fun q hq => ?_, fun q hq a ha' b hb' => ?_, fun i' j' q q' hi hj hij u hu w hw => ?_⟩, fun v hv => ?_, fun u hu w hw => ?_, fun v hv => ?_⟩
  · rw [List.flatten_append, List.nodup_append]
    refine ⟨p.c.nd, by simpa using ha.nodup, fun a h1 b h2 e => ?_⟩
    have h2 : b ∈ part := by simpa using h2
    exact d.dj b ((hp b).mp h2) ((p.c.mem b).mp (by rw [← e]; exact h1))
  · rw [List.flatten_append, List.mem_append, hT', p.c.mem, ← hp]
    simp
  · rcases List.mem_append.mp hq with z | z
    · exact p.c.asc q z
    · rw [List.mem_singleton.mp z]
      exact ha
  · rcases List.mem_append.mp hq with z | z
    · exact p.c.ne q z
    · rw [List.mem_singleton.mp z]
      exact List.ne_nil_of_mem ((hp r).mpr d.has)
  · rcases List.mem_append.mp hq with z | z
    · exact p.c.sc q z a ha' b hb'
    · rw [List.mem_singleton.mp z] at ha' hb' ⊢
      exact (sc a ((hp a).mp ha') b ((hp b).mp hb')).mono fun x y hy => mem_inE.mpr ⟨(mem_inE.mp hy).1, (hp y).mpr (mem_inE.mp hy).2⟩
  · have hli := (List.getElem?_eq_some_iff.mp hi).1
    rw [List.length_append, List.length_singleton] at hli
    have hjl : j' < Ps.length := by omega
    rw [List.getElem?_append_left hjl] at hj
    by_cases hil : i' < Ps.length
    · rw [List.getElem?_append_left hil] at hi
      exact p.c.back i' j' q q' hi hj hij u hu w hw
    · have : i' = Ps.length := by omega
      subst this
      rw [List.getElem?_append_right (Nat.le_refl _), Nat.sub_self] at hi
      have eq : part = q := Option.some.inj hi
      subst eq
      intro z
      have hwT : w ∈ T := (p.c.mem w).mp (List.mem_flatten.mpr ⟨q', List.mem_of_getElem? hj, z⟩)
      exact d.dj u ((hp u).mp hu) (p.cl w hwT u ((hB u w).mpr hw))
  · rcases (hT' v).mp hv with z | z
    · exact p.sub v z
    · exact newM v z
  · rcases (hT' u).mp hu with z | z
    · exact (hT' w).mpr (.inl (p.cl u z w hw))
    · exact (hT' w).mpr (d.cl u z w hw)
  · rcases mem_take_succ h hv with z | z
    · exact (hT' v).mpr (.inl (p.done v z))
    · rw [z]
      exact (hT' r).mpr (.inr d.has)
theorem P2.end {E B : Nat → List Nat} {M O T : List Nat} {Ps : List (List Nat)} {i : Nat} (p : P2 E B M O T Ps i) (hi : O.length ≤ i) (o : P1 E M O M.length) : Comps E M Ps := by
  have hM : ∀ v, v ∈ T ↔ v ∈ M := fun v => ⟨p.sub v, fun h => p.done v (by
    rw [List.take_of_length_le (by rw [List.length_reverse]; exact hi), List.mem_reverse]
    exact o.done v (by rw [List.take_length]; exact h))⟩
  exact ⟨p.c.nd, fun v => (p.c.mem v).trans (hM v), p.c.asc, p.c.ne, p.c.sc, p.c.back⟩
end K56
set_option linter.all false
/-! K56Math4: ways, round trips. -/
namespace K56
/-- each is followed by the next -/
def Ch (E : Nat → List Nat) (l : List Nat) : Prop := ∀ i a b, l[i]? = some a → l[i + 1]? = some b → b ∈ E a
theorem Ch.nil (E : Nat → List Nat) : Ch E [] := fun i a b h => by simp at h
theorem Ch.app {E : Nat → List Nat} {l m : List Nat} (h : Ch E l) (g : Ch E m) (j : ∀ a b, l[l.length - 1]? = some a → m[0]? = some b → b ∈ E a) : Ch E (l ++ m) := fun i a b ha hb => by
  by_cases h1 : i + 1 < l.length
  · rw [List.getElem?_append_left (by omega)] at ha
    rw [List.getElem?_append_left h1] at hb
    exact h i a b ha hb
  · by_cases h2 : i < l.length
    · rw [List.getElem?_append_left h2] at ha
      rw [List.getElem?_append_right (by omega)] at hb
      have e1 : i = l.length - 1 := by omega
      have e2 : i + 1 - l.length = 0 := by omega
      rw [e1] at ha
      rw [e2] at hb
      exact j a b ha hb
    · rw [List.getElem?_append_right (by omega)] at ha hb
      have e : i + 1 - l.length = i - l.length + 1 := by omega
      rw [e] at hb
      exact g _ a b ha hb
theorem Ch.mono {E F : Nat → List Nat} (s : ∀ a b, b ∈ E a → b ∈ F a) {l : List Nat} (h : Ch E l) : Ch F l := fun i a b ha hb => s _ _ (h i a b ha hb)
theorem rev_at {l : List Nat} {i : Nat} {a : Nat} (h : l.reverse[i]? = some a) : i < l.length ∧ l[l.length - 1 - i]? = some a := by
  have hi := (List.getElem?_eq_some_iff.mp h).1
  rw [List.length_reverse] at hi
  rw [List.getElem?_reverse hi] at h
  exact ⟨hi, h⟩
/-- a chain walked back -/
theorem Ch.rev {E : Nat → List Nat} {l : List Nat} (h : ∀ i a b, l[i]? = some a → l[i + 1]? = some b → a ∈ E b) : Ch E l.reverse := fun i a b ha hb => by
  obtain ⟨h1, e1⟩ := rev_at ha
  obtain ⟨h2, e2⟩ := rev_at hb
  refine h (l.length - 1 - (i + 1)) b a e2 ?_
  have : l.length - 1 - (i + 1) + 1 = l.length - 1 - i := by omega
  rw [this]
  exact e1
/-! ### the search of way: bf the nodes met, each with the one ahead of it; q = start :: the nodes met -/
abbrev qOf (st : Nat) (bf : List (Nat × Nat)) : List Nat := st :: bf.map (·.1)
structure WI (E : Nat → List Nat) (M : List Nat) (st : Nat) (bf : List (Nat × Nat)) (dn : Nat) : Prop where
  nd : (bf.map (·.1)).Nodup
  sub : ∀ p, p ∈ bf → p.1 ∈ M
  pr : ∀ (i t p : Nat), bf[i]? = some (t, p) → ∃ j, j ≤ i ∧ (qOf st bf)[j]? = some p ∧ t ∈ E p
  le : dn ≤ bf.length + 1
  cl : ∀ (i u : Nat), i < dn → (qOf st bf)[i]? = some u → ∀ t, t ∈ E u → t ∈ bf.map (·.1)
theorem WI.start (E : Nat → List Nat) (M : List Nat) (st : Nat) : WI E M st [] 0 :=
  ⟨by simp, fun p h => absurd h (by simp), fun i t p h => by simp at h, Nat.zero_le _, fun i u h => absurd h (Nat.not_lt_zero _)⟩
theorem WI.len {E : Nat → List Nat} {M : List Nat} {st : Nat} {bf : List (Nat × Nat)} {dn : Nat} (w : WI E M st bf dn) : bf.length ≤ M.length := by
  have := nodup_sub w.nd (m := M) fun x hx => by
    obtain ⟨p, hp, e⟩ := List.mem_map.mp hx
    rw [← e]
    exact w.sub p hp
  rw [List.length_map] at this
  exact this
theorem qOf_snoc (st : Nat) (bf : List (Nat × Nat)) (t u : Nat) : qOf st (bf ++ [(t, u)]) = qOf st bf ++ [t] := by
  show st :: (bf ++ [(t, u)]).map (·.1) = _
  rw [List.map_append]
  rfl
theorem WI.push {E : Nat → List Nat} {M : List Nat} {st : Nat} {bf : List (Nat × Nat)} {dn u t j : Nat} (w : WI E M st bf dn) (hu : (qOf st bf)[j]? = some u) (ht : t ∈ E u) (hn : t ∉ bf.map (·.1)) (hM : t ∈ M) : WI E M st (bf ++ [(t, u)]) dn := by
  have up : ∀ {i : Nat} {x : Nat}, (qOf st bf)[i]? = some x → (qOf st (bf ++ [(t, u)]))[i]? = some x := fun {i x} h => by
    rw [qOf_snoc, List.getElem?_append_left (List.getElem?_eq_some_iff.mp h).1]
    exact h
  have hj := (List.getElem?_eq_some_iff.mp hu).1
  rw [List.length_cons, List.length_map] at hj
  refine ⟨?_, fun p hp => ?_, fun i t' p hi => ?_, ?_, fun i u' hi hu' t' ht' => ?_⟩
  · rw [List.map_append, List.nodup_append]
    refine ⟨w.nd, by simp, fun a ha b hb e => hn ?_⟩
    have eb : b = t := by simpa using hb
    rw [← eb, ← e]
    exact ha
  · rcases List.mem_append.mp hp with z | z
    · exact w.sub p z
    · rw [List.mem_singleton.mp z]
      exact hM
  · by_cases h : i < bf.length
    · rw [List.getElem?_append_left h] at hi
      obtain ⟨j', h1, h2, h3⟩ := w.pr i t' p hi
      exact ⟨j', h1, up h2, h3⟩
    · have hl := (List.getElem?_eq_some_iff.mp hi).1
      rw [List.length_append, List.length_singleton] at hl
      have e : i = bf.length := by omega
      subst e
      rw [List.getElem?_append_right (Nat.le_refl _), Nat.sub_self] at hi
      have e2 := Option.some.inj hi
      cases e2
      exact ⟨j, by omega, up hu, ht⟩
  · have := w.le
    rw [List.length_append, List.length_singleton]
    omega
  · have h1 : i < (qOf st bf).length := by
      have := w.le
      rw [List.length_cons, List.length_map]
      omega
    rw [qOf_snoc, List.getElem?_append_left h1] at hu'
    rw [List.map_append]
    exact List.mem_append_left _ (w.cl i u' hi hu' t' ht')
/-- while the goal is not met there is a next one to look at -/
theorem WI.more {E : Nat → List Nat} {M : List Nat} {st g : Nat} {bf : List (Nat × Nat)} {dn : Nat} (w : WI E M st bf dn) (hg : g ∉ bf.map (·.1)) (hr : ∃ b, Rch E st b ∧ g ∈ E b) : dn < bf.length + 1 := by
  have h1 := w.le
  by_cases h : dn < bf.length + 1
  · exact h
  · exfalso
    obtain ⟨b, hb, hgb⟩ := hr
    have all : ∀ u, u ∈ qOf st bf → ∀ t, t ∈ E u → t ∈ bf.map (·.1) := fun u hu t ht => by
      obtain ⟨i, hi, e⟩ := List.getElem_of_mem hu
      have hi' := hi
      rw [List.length_cons, List.length_map] at hi'
      exact w.cl i u (by omega) (by rw [List.getElem?_eq_getElem hi, e]) t ht
    have hbq : b ∈ qOf st bf := hb.closed (P := fun v => v ∈ qOf st bf) (fun a c ha hc => List.mem_cons_of_mem _ (all a ha c hc)) List.mem_cons_self
    exact hg (all b hbq g hgb)
/-- the walk back from the goal: its last node stands at place j of q -/
structure WB (E : Nat → List Nat) (M : List Nat) (st g : Nat) (bf : List (Nat × Nat)) (w : List Nat) (x j : Nat) : Prop where
  last : w[w.length - 1]? = some x
  ne : w ≠ []
  at_ : (qOf st bf)[j]? = some x
  len : w.length + j ≤ bf.length
  ch : ∀ i a b, w[i]? = some a → w[i + 1]? = some b → a ∈ E b
  goal : ∀ a, w[0]? = some a → g ∈ E a
  sub : ∀ x, x ∈ w → x ∈ M
theorem WB.start {E : Nat → List Nat} {M : List Nat} {st g p : Nat} {bf : List (Nat × Nat)} {dn : Nat} (w : WI E M st bf dn) (hst : st ∈ M) (hg : (g, p) ∈ bf) : ∃ j, WB E M st g bf [p] p j := by
  obtain ⟨i, hi, e⟩ := List.getElem_of_mem hg
  obtain ⟨j, h1, h2, h3⟩ := w.pr i g p (by rw [List.getElem?_eq_getElem hi, e])
  refine ⟨j, rfl, by simp, h2, by rw [List.length_singleton]; omega, fun i a b h h' => by simp at h', fun a ha => ?_, fun x hx => ?_⟩
  · have : p = a := by simpa using ha
    rw [← this]
    exact h3
  · have : x = p := by simpa using hx
    subst this
    cases j with
    | zero =>
      have : st = x := Option.some.inj h2
      rw [← this]
      exact hst
    | succ j =>
      have h2 : (bf.map (·.1))[j]? = some x := h2
      obtain ⟨q, hq, e⟩ := List.mem_map.mp (List.mem_of_getElem? h2)
      rw [← e]
      exact w.sub q hq
theorem WB.step {E : Nat → List Nat} {M : List Nat} {st g x j p dn : Nat} {bf : List (Nat × Nat)} {w : List Nat} (wi : WI E M st bf dn) (hst : st ∈ M) (b : WB E M st g bf w x j) (hx : x ≠ st) (hp : ∀ p', (x, p') ∈ bf → p' = p) : ∃ j', WB E M st g bf (w ++ [p]) p j' := by
  cases j with
  | zero => exact absurd (Option.some.inj b.at_).symm hx
  | succ j =>
    have h2 : (bf.map (·.1))[j]? = some x := b.at_
    rw [List.getElem?_map] at h2
    cases e : bf[j]? with
    | none =>
      rw [e] at h2
      cases h2
    | some q =>
      rw [e] at h2
      obtain ⟨x', p'⟩ := q
      have ex : x' = x := Option.some.inj h2
      subst ex
      have ep := hp p' (List.mem_of_getElem? e)
      subst ep
      obtain ⟨j', h3, h4, h5⟩ := wi.pr j x' p' e
      have hl := b.len
      have hwp : 0 < w.length := List.length_pos_iff.mpr b.ne
      refine ⟨j', ?_, by simp, h4, by rw [List.length_append, List.length_singleton]; omega, fun i a c ha hc => ?_, fun a ha => ?_, fun y hy => ?_⟩
      · rw [List.length_append, List.length_singleton, Nat.add_sub_cancel, List.getElem?_append_right (Nat.le_refl _), Nat.sub_self]
        rfl
      · by_cases h : i + 1 < w.length
        · rw [List.getElem?_append_left (by omega)] at ha
          rw [List.getElem?_append_left h] at hc
          exact b.ch i a c ha hc
        · have hl2 := (List.getElem?_eq_some_iff.mp hc).1
          rw [List.length_append, List.length_singleton] at hl2
          have ei : i = w.length - 1 := by omega
          rw [List.getElem?_append_right (by omega)] at hc
          have e0 : i + 1 - w.length = 0 := by omega
          rw [e0] at hc
          have ec : p' = c := Option.some.inj hc
          rw [List.getElem?_append_left (by omega), ei, b.last] at ha
          have ea : x' = a := Option.some.inj ha
          rw [← ec, ← ea]
          exact h5
      · rw [List.getElem?_append_left hwp] at ha
        exact b.goal a ha
      · rcases List.mem_append.mp hy with z | z
        · exact b.sub y z
        · rw [List.mem_singleton.mp z]
          cases j' with
          | zero =>
            have : st = p' := Option.some.inj h4
            rw [← this]
            exact hst
          | succ j'' =>
            have h4 : (bf.map (·.1))[j'']? = some p' := h4
            obtain ⟨q, hq, e⟩ := List.mem_map.mp (List.mem_of_getElem? h4)
            rw [← e]
            exact wi.sub q hq
structure WayOk (E : Nat → List Nat) (M : List Nat) (st g : Nat) (r : List Nat) : Prop where
  hd : r[0]? = some st
  ch : Ch E r
  goal : ∀ a, r[r.length - 1]? = some a → g ∈ E a
  len : r.length ≤ M.length
  sub : ∀ x, x ∈ r → x ∈ M
theorem WB.done {E : Nat → List Nat} {M : List Nat} {st g j dn : Nat} {bf : List (Nat × Nat)} {w : List Nat} (wi : WI E M st bf dn) (b : WB E M st g bf w st j) : WayOk E M st g w.reverse := by
  have hwp : 0 < w.length := List.length_pos_iff.mpr b.ne
  refine ⟨?_, Ch.rev b.ch, fun a ha => ?_, ?_, fun x hx => b.sub x (by simpa using hx)⟩
  · rw [List.getElem?_reverse hwp]
    exact b.last
  · rw [List.length_reverse] at ha
    obtain ⟨_, e⟩ := rev_at ha
    have : w.length - 1 - (w.length - 1) = 0 := by omega
    rw [this] at e
    exact b.goal a e
  · rw [List.length_reverse]
    have := b.len
    have := wi.len
    omega
/-! ### round trips -/
structure TI (E : Nat → List Nat) (M stops : List Nat) (k : Nat) (w : List Nat) : Prop where
  emp : k = 0 → w = []
  ne : 0 < k → w ≠ []
  hd : ∀ a, w[0]? = some a → stops[0]? = some a
  ch : Ch E w
  nxt : 0 < k → ∀ a b, w[w.length - 1]? = some a → stops[k % stops.length]? = some b → b ∈ E a
  len : w.length ≤ k * M.length
  has : ∀ i s, i < k → stops[i]? = some s → s ∈ w
  sub : ∀ x, x ∈ w → x ∈ M
theorem TI.start (E : Nat → List Nat) (M stops : List Nat) : TI E M stops 0 [] :=
  ⟨fun _ => rfl, fun h => absurd h (Nat.lt_irrefl _), fun a h => by simp at h, Ch.nil E, fun h => absurd h (Nat.lt_irrefl _), Nat.zero_le _, fun i s h => absurd h (Nat.not_lt_zero _), fun x h => absurd h (by simp)⟩
theorem TI.step {E : Nat → List Nat} {M stops w r : List Nat} {k a b : Nat} (t : TI E M stops k w) (hk : k < stops.length) (ha : stops[k]? = some a) (hb : stops[(k + 1) % stops.length]? = some b) (o : WayOk E M a b r) : TI E M stops (k + 1) (w ++ r) := by
  have hrp : 0 < r.length := (List.getElem?_eq_some_iff.mp o.hd).1
  refine ⟨fun h => absurd h (Nat.succ_ne_zero _), fun _ h => ?_, fun c hc => ?_, ?_, fun _ c d hc hd => ?_, ?_, fun i s hi hs => ?_, fun x hx => ?_⟩
  · have := congrArg List.length h
    rw [List.length_append, List.length_nil] at this
    omega
  · by_cases h0 : k = 0
    · subst h0
      rw [t.emp rfl, List.nil_append, o.hd] at hc
      rw [← Option.some.inj hc]
      exact ha
    · have hwp : 0 < w.length := List.length_pos_iff.mpr (t.ne (by omega))
      rw [List.getElem?_append_left hwp] at hc
      exact t.hd c hc
  · by_cases h0 : k = 0
    · rw [t.emp h0, List.nil_append]
      exact o.ch
    · refine t.ch.app o.ch fun c d hc hd => ?_
      rw [o.hd] at hd
      rw [← Option.some.inj hd]
      exact t.nxt (by omega) c a hc (by rw [Nat.mod_eq_of_lt hk]; exact ha)
  · rw [hb] at hd
    rw [← Option.some.inj hd]
    rw [List.length_append, List.getElem?_append_right (by omega)] at hc
    have e : w.length + r.length - 1 - w.length = r.length - 1 := by omega
    rw [e] at hc
    exact o.goal c hc
  · rw [List.length_append, Nat.succ_mul]
    have := t.len
    have := o.len
    omega
  · by_cases h : i = k
    · subst h
      rw [ha] at hs
      rw [← Option.some.inj hs]
      exact List.mem_append_right _ (List.mem_of_getElem? o.hd)
    · exact List.mem_append_left _ (t.has i s (by omega) hs)
  · rcases List.mem_append.mp hx with z | z
    · exact t.sub x z
    · exact o.sub x z
structure Trip (E : Nat → List Nat) (M ts loop : List Nat) : Prop where
  ne : loop ≠ []
  ch : Ch E loop
  close : ∀ a b, loop[loop.length - 1]? = some a → loop[0]? = some b → b ∈ E a
  len : loop.length ≤ (max 1 ts.length) * M.length
  has : ∀ t, t ∈ ts → t ∈ loop
  sub : ∀ x, x ∈ loop → x ∈ M
theorem TI.done {E : Nat → List Nat} {M stops ts w : List Nat} (t : TI E M stops stops.length w) (h0 : 0 < stops.length) (hl : stops.length ≤ max 1 ts.length) (ht : ∀ x, x ∈ ts → x ∈ stops) : Trip E M ts w := by
  refine ⟨t.ne h0, t.ch, fun a b ha hb => t.nxt h0 a b ha (by rw [Nat.mod_self]; exact t.hd b hb), Nat.le_trans t.len (Nat.mul_le_mul_right _ hl), fun x hx => ?_, t.sub⟩
  obtain ⟨i, hi, e⟩ := List.getElem_of_mem (ht x hx)
  exact t.has i x hi (by rw [List.getElem?_eq_getElem hi, e])
end K56
set_option Elab.async false
set_option linter.all false
set_option maxRecDepth 100000
set_option maxHeartbeats 4000000
/-! K56Base: the text by places; what stands in the heap; rules that lacked. -/
namespace K56
open PySem PySem.Spec PyProof.Rows L2
def topS (i : Nat) : Stmt := PySem.Challenge.pw_lassoproof_k56_whole_answer_judged.main.body.getD i (.Pass ⟨0, 0, 0, 0⟩)
abbrev nv (n : Nat) : V := .int (n : Int)
abbrev nvs (ns : List Nat) : List V := ns.map nv
/-- a list of nodes stands at a -/
abbrev LA (H : Hp) (a : Addr) (ns : List Nat) : Prop := H a = some (.lst (nvs ns))
theorem line1000 {n : Nat} (h : n ≤ 100000) : n < sizeLine := Nat.lt_of_le_of_lt h (by decide)
theorem line1000' {n : Nat} (h : n ≤ 100000) : n ≤ sizeLine := Nat.le_of_lt (line1000 h)
theorem same_upd {H : Hp} {p : Addr} {o : HO} (h : H p = none) : Same H (upd H p o) := fun b x e => by
  rw [upd_ne (ne_of_none e h)]
  exact e
theorem nvs_get {ns : List Nat} {i : Nat} {x : V} (h : (nvs ns)[i]? = some x) : ∃ n, ns[i]? = some n ∧ x = nv n := by
  rw [List.getElem?_map] at h
  cases e : ns[i]? with
  | none =>
    rw [e] at h
    cases h
  | some n =>
    rw [e] at h
    exact ⟨n, rfl, (Option.some.inj h).symm⟩
theorem nvs_len (ns : List Nat) : (nvs ns).length = ns.length := List.length_map ..
theorem nvs_snoc (ns : List Nat) (n : Nat) : nvs ns ++ [nv n] = nvs (ns ++ [n]) := by
  show ns.map nv ++ [nv n] = (ns ++ [n]).map nv
  rw [List.map_append]
  rfl
theorem nv_inj {a b : Nat} (h : nv a = nv b) : a = b := by
  have h : V.int (a : Int) = V.int (b : Int) := h
  injection h with h
  omega
theorem nvs_inj : ∀ {a b : List Nat}, nvs a = nvs b → a = b
  | [], [], _ => rfl
  | [], b :: r, h => by cases h
  | a :: r, [], h => by cases h
  | a :: r, b :: s, h => by
    have h : nv a :: nvs r = nv b :: nvs s := h
    injection h with h1 h2
    rw [nv_inj h1, nvs_inj h2]
theorem LA_inj {H : Hp} {a : Addr} {ns ms : List Nat} (h : LA H a ns) (h' : LA H a ms) : ns = ms := by
  have e := h.symm.trans h'
  injection e with e
  injection e with e
  exact nvs_inj e
/-- the key of a node -/
abbrev nk (n : Nat) : Key := Sum.inl (n : Int)
theorem nk_eq (a b : Nat) : nk a = nk b ↔ a = b := by
  constructor
  · intro h
    have h : (Sum.inl (a : Int) : Key) = Sum.inl (b : Int) := h
    injection h with h
    omega
  · intro h
    rw [h]
/-- a dict that is asked for its keys alone: S the nodes put in -/
def DS (H : Hp) (d : Addr) (S : List Nat) : Prop := ∃ kvs : List (Key × V), H d = some (.dK kvs) ∧ kvs.length ≤ S.length ∧ ∀ n : Nat, (valV kvs (nk n)).isSome = decide (n ∈ S)
theorem DS.nil {H : Hp} {d : Addr} (h : H d = some (.dK [])) : DS H d [] := ⟨[], h, Nat.le_refl _, fun n => by simp [valV_nil]⟩
theorem DS.get {H : Hp} {d : Addr} {S : List Nat} (h : DS H d S) (n : Nat) : ∃ o, DGet H d (nv n) o ∧ o.isSome = decide (n ∈ S) := by
  obtain ⟨kvs, e, _, hk⟩ := h
  exact ⟨_, DGet.k (k := nk n) e, hk n⟩
theorem ds_put {kvs : List (Key × V)} {S : List Nat} (hl : kvs.length ≤ S.length) (hk : ∀ n : Nat, (valV kvs (nk n)).isSome = decide (n ∈ S)) (n : Nat) (v : V) :
    (putK kvs (nk n) v).length ≤ (S ++ [n]).length ∧ ∀ m : Nat, (valV (putK kvs (nk n) v) (nk m)).isSome = decide (m ∈ S ++ [n]) := by
  refine ⟨?_, fun m => ?_⟩
  · have := length_putK kvs (nk n) v
    rw [List.length_append, List.length_singleton]
    omega
  · rw [valV_put]
    by_cases e : m = n
    · rw [if_pos ((nk_eq m n).mpr e)]
      simp [e]
    · rw [if_neg (fun z => e ((nk_eq m n).mp z)), hk m]
      simp [e]
theorem DS.put {H : Hp} {d : Addr} {S : List Nat} (h : DS H d S) (hl : S.length ≤ 100000) (n : Nat) (v : V) : ∃ H', DPut H d (nv n) v H' ∧ DS H' d (S ++ [n]) ∧ ∀ b, b ≠ d → H' b = H b := by
  obtain ⟨kvs, e, h1, hk⟩ := h
  obtain ⟨h2, h3⟩ := ds_put h1 hk n v
  exact ⟨_, DPut.k (k := nk n) e (line1000 (by omega)), ⟨_, upd_same, h2, h3⟩, fun b hb => upd_ne hb⟩
theorem DS.same {H H' : Hp} {d : Addr} {S : List Nat} (h : DS H d S) (s : H' d = H d) : DS H' d S := by
  obtain ⟨kvs, e, r⟩ := h
  exact ⟨kvs, by rw [s]; exact e, r⟩
theorem yes {σ : L2.St} {H : Hp} {A B : Hp → Prop} (h : A H) : tYes σ H fun b H3 => if b = true then A H3 else B H3 := by
  show if true = true then A H else B H
  rw [if_pos rfl]
  exact h
/-! ### dict comprehensions -/
section
variable {J : It} {n : Nat} {G : Hp → Prop} {Y : Nat → Hp → V → Hp → Prop}
theorem dc_it (w : Walk J n G Y) {g : TG} {tt : TT} {tk tv : TE} {vs : List Nat} {σ : L2.St} {H1 : Hp} {D : Addr} {Qd : Hp → Prop} (Pv : Nat → Hp → Prop) (h0 : Pv 0 (upd H1 D (.dK []))) (hG : ∀ i H, i ≤ n → Pv i H → G H)
    (hs : ∀ i x H H', i < n → Pv i H → Y i H x H' → g x (wipe σ vs) H' fun σ2 H2 => wipe σ2 vs = wipe σ vs ∧ tt σ2 H2 fun b H3 =>
      if b = true then tk σ2 H3 fun y H4 => tv σ2 H4 fun z H5 => ∃ kvs k, y = kV k ∧ H5 D = some (.dK kvs) ∧ kvs.length < sizeLine ∧ Pv (i + 1) (upd H5 D (.dK (putK kvs k z))) else Pv (i + 1) H3) (hd : ∀ H, Pv n H → Qd H) :
    ∃ W : Nat → Nat → Hp → Prop, (∃ m, W 0 m (upd H1 D (.dK []))) ∧ ∀ i m H, W i m H →
      (J.stop i H ∧ Qd H) ∨ (J.go i H ∧ ∃ Nx : Hp → Prop, (∀ H', Nx H' → ∃ m', m' < m ∧ W (i + 1) m' H') ∧ ∀ x H', J.yld i H x H' → g x (wipe σ vs) H' fun σ2 H2 => wipe σ2 vs = wipe σ vs ∧ tt σ2 H2 fun b H3 =>
        if b = true then tk σ2 H3 fun y H4 => tv σ2 H4 fun z H5 => ∃ kvs k, y = kV k ∧ H5 D = some (.dK kvs) ∧ kvs.length < sizeLine ∧ Nx (upd H5 D (.dK (putK kvs k z))) else Nx H3) := by
  refine ⟨fun i m H => m = n - i ∧ i ≤ n ∧ Pv i H, ⟨n, by simp, Nat.zero_le _, h0⟩, ?_⟩
  rintro i m H ⟨rfl, hi, p⟩
  have q := hG i H hi p
  by_cases hlt : i < n
  · exact .inr ⟨w.goes i H hlt q, Pv (i + 1), fun H' p' => ⟨n - (i + 1), by omega, rfl, hlt, p'⟩, fun x H' y => hs i x H H' hlt p (w.yields i H x H' hlt q y)⟩
  · have e : i = n := by omega
    subst e
    exact .inl ⟨w.stops H q, hd H p⟩
/-- over a list that the block leaves as it is -/
theorem dc_list {K : PySem.W.Frag} {a : Addr} {xs : List V} {g : TG} {tt : TT} {tk tv : TE} {vs : List Nat} {σ : L2.St} {H1 : Hp} {D : Addr} {Qd : Hp → Prop} (Pv : Nat → Hp → Prop) (h0 : Pv 0 (upd H1 D (.dK []))) (hl : ∀ i H, i ≤ xs.length → Pv i H → SqL K H a xs)
    (hs : ∀ i x H, xs[i]? = some x → Pv i H → g x (wipe σ vs) H fun σ2 H2 => wipe σ2 vs = wipe σ vs ∧ tt σ2 H2 fun b H3 =>
      if b = true then tk σ2 H3 fun y H4 => tv σ2 H4 fun z H5 => ∃ kvs k, y = kV k ∧ H5 D = some (.dK kvs) ∧ kvs.length < sizeLine ∧ Pv (i + 1) (upd H5 D (.dK (putK kvs k z))) else Pv (i + 1) H3) (hd : ∀ H, Pv xs.length H → Qd H) :
    ∃ W : Nat → Nat → Hp → Prop, (∃ m, W 0 m (upd H1 D (.dK []))) ∧ ∀ i m H, W i m H →
      ((Itl K a).stop i H ∧ Qd H) ∨ ((Itl K a).go i H ∧ ∃ Nx : Hp → Prop, (∀ H', Nx H' → ∃ m', m' < m ∧ W (i + 1) m' H') ∧ ∀ x H', (Itl K a).yld i H x H' → g x (wipe σ vs) H' fun σ2 H2 => wipe σ2 vs = wipe σ vs ∧ tt σ2 H2 fun b H3 =>
        if b = true then tk σ2 H3 fun y H4 => tv σ2 H4 fun z H5 => ∃ kvs k, y = kV k ∧ H5 D = some (.dK kvs) ∧ kvs.length < sizeLine ∧ Nx (upd H5 D (.dK (putK kvs k z))) else Nx H3) :=
  dc_it walk_list Pv h0 hl (fun i x H H' _ p y => by
    obtain ⟨e, y⟩ := y
    subst e
    exact hs i x _ y p) hd
end
theorem swd_true {kx vx : Expr} {gs : List Comprehension} {scope : Scope} {pos py : Pos} {y : Str} {l : Nat} {env : Env} (hk : env.scope.kind = .function) (hy : env.scope.names.lookup y = some .local) (hl : (py.line == pos.line) = true)
    (ha : (scope.names.any fun (n, k) => n == y && (k == .local || k == .cell)) = false) : swapsWith (.DictComp kx vx gs scope pos) (some (.Name y py)) l env = pure true := by
  have ky : env.kindOf y = some .local := hy
  have hb : env.blockKind = .function := by unfold Env.blockKind; rw [hk]; rfl
  unfold swapsWith
  simp only [hb, ky, ha, Expr.pos, hl]
  rfl
section
variable {X : Cx}
/-- name = {..} on one line, the name a local -/
theorem ps_setDc {i : Nat} {y : Str} {py : Pos} {kx vx tg iter : Expr} {ifs : List Expr} {scope : Scope} {own : List (Str × Nat)} {pos spos : Pos} {wi : L2.TI} {g : TG} {tt : TT} {tk tv : TE} (hc : X.calm = true) (hN : X.N.Nodup) (hy : X.N[i]? = some y) (hyl : X.env.scope.names.lookup y = some .local)
    (hsw : swapsWith (.DictComp kx vx [⟨tg, iter, ifs, 0⟩] scope pos) (some (.Name y py)) spos.line X.env = pure true) (hi : PI X tg iter wi) (ok : BlkOk X.N X.env.scope scope own)
    (hg : ∀ (s : Shared) (H : Hp) (C : Addr) (cl : List (Str × Addr)) (fp : List Addr), PG (X.blk s H scope (compEnvC scope cl C X.env) fp) tg g) (ht : ∀ (s : Shared) (H : Hp) (C : Addr) (cl : List (Str × Addr)) (fp : List Addr), PTs (X.blk s H scope (compEnvC scope cl C X.env) fp) ifs tt)
    (hk : ∀ (s : Shared) (H : Hp) (C : Addr) (cl : List (Str × Addr)) (fp : List Addr), PE (X.blk s H scope (compEnvC scope cl C X.env) fp) kx tk)
    (he : ∀ (s : Shared) (H : Hp) (C : Addr) (cl : List (Str × Addr)) (fp : List Addr), PE (X.blk s H scope (compEnvC scope cl C X.env) fp) vx tv) (hs : ∀ x, foldedSetIterable iter X.env x = pure x := by intro _; rfl) :
    PS X (.Assign [.Name y py] (.DictComp kx vx [⟨tg, iter, ifs, 0⟩] scope pos) spos) (tAsg (tDc wi g tt tk tv (own.map (·.2))) (gName i)) := by
  refine ⟨fun pins s σ H D I h => ?_⟩
  rw [exec_Assign_Name_used _ _ _ _ hsw]
  refine wpAny_bind (wpAny_standAt (wpAny_bind ?_))
  show wpAny _ X.A (do let _ ← comprehension (.DictComp kx vx [⟨tg, iter, ifs, 0⟩] scope pos) scope X.env (firstIterPos [⟨tg, iter, ifs, 0⟩] pos) newDict false (eval iter X.env) (some (assign (.Name y py) X.env))) _ _ s
  have h : tDc wi g tt tk tv (own.map (·.2)) σ H (fun x H1 => gName i x σ H1 D.nx) := h
  refine wpAny_bind (thn (dc_core (Qf := fun _ s' => SP X pins D .next s') hc hN I hi ok hg ht hk he hs h fun L C s' m H' I' q hn f => ?_) fun _ s' hq => wpAny_pure (wpAny_pure hq))
  show wpAny _ _ (assign (.Name y py) X.env (.ref L)) _ _ _
  refine wpAny_assign_Name (store_ok2 (v := V.ref L) I' hN hy (.inl hyl) rfl (fun s2 I2 ⟨a, sb, ha⟩ => ?_) (.inr hyl))
  obtain ⟨f0, f1, f2, f3, f4, f5⟩ := f
  have haC : C ≠ a := by
    rcases ha with z | z
    · rw [z]; exact f1
    · exact fun e => f4 y a z e.symm
  refine ⟨m, hn.sameBut sb haC, fun h3 sb3 => ?_⟩
  exact ⟨_, H', I2.turned (t' := s2.toks) (fun b o hb e => (sb3.2 b hb).trans e) f0 f1 f3 f4 f5, q⟩
end
end K56
set_option Elab.async false
set_option linter.all false
set_option maxRecDepth 100000
set_option maxHeartbeats 4000000
/-! K56Heap: lists of lists, lists of pairs, dicts of edges. -/
namespace K56
open PySem PySem.Spec PyProof.Rows L2
/-- a list of lists of nodes -/
structure LLp (H : Hp) (a : Addr) (G : List (List Nat)) (ps : List (Addr × List Nat)) : Prop where
  lst : H a = some (.lst (ps.map fun p => V.ref p.1))
  eq : ps.map (·.2) = G
  row : ∀ p, p ∈ ps → LA H p.1 p.2
def LL (H : Hp) (a : Addr) (G : List (List Nat)) : Prop := ∃ ps, LLp H a G ps
theorem LLp.same {H H' : Hp} {a : Addr} {G : List (List Nat)} {ps : List (Addr × List Nat)} (h : LLp H a G ps) (s : Same H H') : LLp H' a G ps := ⟨s _ _ h.lst, h.eq, fun p hp => s _ _ (h.row p hp)⟩
theorem LL.same {H H' : Hp} {a : Addr} {G : List (List Nat)} (h : LL H a G) (s : Same H H') : LL H' a G := let ⟨ps, h⟩ := h; ⟨ps, h.same s⟩
theorem LLp.len {H : Hp} {a : Addr} {G : List (List Nat)} {ps : List (Addr × List Nat)} (h : LLp H a G ps) : ps.length = G.length := by
  rw [← h.eq, List.length_map]
theorem LLp.at {H : Hp} {a : Addr} {G : List (List Nat)} {ps : List (Addr × List Nat)} (h : LLp H a G ps) {i : Nat} {p : Addr × List Nat} (hp : ps[i]? = some p) : G[i]? = some p.2 := by
  rw [← h.eq, List.getElem?_map, hp]
  rfl
theorem LL.at {H : Hp} {a : Addr} {G : List (List Nat)} (h : LL H a G) {v : Nat} (hv : v < G.length) : ∃ xs r, H a = some (.lst xs) ∧ atI xs (v : Int) = some (.ref r) ∧ LA H r (gE G v) := by
  obtain ⟨ps, h⟩ := h
  have hl := h.len
  have hv' : v < ps.length := by omega
  have e : ps[v]? = some ps[v] := List.getElem?_eq_getElem hv'
  refine ⟨_, ps[v].1, h.lst, atI_nat (j := v) (by rw [List.getElem?_map, e]; rfl), ?_⟩
  rw [gE_at (h.at e)]
  exact h.row _ (List.getElem_mem hv')
/-- the i-th of a list of lists, as a for walks it -/
theorem LLp.item {H : Hp} {a : Addr} {G : List (List Nat)} {ps : List (Addr × List Nat)} (h : LLp H a G ps) {i : Nat} {x : V} (hx : (ps.map fun p => V.ref p.1)[i]? = some x) : ∃ r g, x = .ref r ∧ G[i]? = some g ∧ LA H r g ∧ ps[i]? = some (r, g) := by
  rw [List.getElem?_map] at hx
  cases e : ps[i]? with
  | none =>
    rw [e] at hx
    cases hx
  | some p =>
    rw [e] at hx
    exact ⟨p.1, p.2, (Option.some.inj hx).symm, h.at e, h.row p (List.mem_of_getElem? e), rfl⟩
theorem LLp.nil {H : Hp} {a : Addr} (h : H a = some (.lst [])) : LLp H a [] [] := ⟨h, rfl, fun p hp => absurd hp (by simp)⟩
/-- one more list -/
theorem LLp.snoc {H H' : Hp} {a r : Addr} {G : List (List Nat)} {g : List Nat} {ps : List (Addr × List Nat)} (h : LLp H a G ps) (e : H' a = some (.lst ((ps.map fun p => V.ref p.1) ++ [V.ref r]))) (hs : ∀ p, p ∈ ps → H' p.1 = H p.1) (hr : LA H' r g) : LLp H' a (G ++ [g]) (ps ++ [(r, g)]) := by
  refine ⟨by rw [e, List.map_append]; rfl, by rw [List.map_append, h.eq]; rfl, fun p hp => ?_⟩
  rcases List.mem_append.mp hp with z | z
  · show H' p.1 = _
    rw [hs p z]
    exact h.row p z
  · rw [List.mem_singleton.mp z]
    exact hr
/-- a list of pairs of lists of nodes -/
abbrev PP := Addr × (Addr × List Nat) × (Addr × List Nat)
structure LPp (H : Hp) (a : Addr) (C : List (List Nat × List Nat)) (ps : List PP) : Prop where
  lst : H a = some (.lst (ps.map fun p => V.ref p.1))
  eq : ps.map (fun p => (p.2.1.2, p.2.2.2)) = C
  pair : ∀ p, p ∈ ps → H p.1 = some (.tup [.ref p.2.1.1, .ref p.2.2.1]) ∧ LA H p.2.1.1 p.2.1.2 ∧ LA H p.2.2.1 p.2.2.2
def LP (H : Hp) (a : Addr) (C : List (List Nat × List Nat)) : Prop := ∃ ps, LPp H a C ps
theorem LPp.same {H H' : Hp} {a : Addr} {C : List (List Nat × List Nat)} {ps : List PP} (h : LPp H a C ps) (s : Same H H') : LPp H' a C ps :=
  ⟨s _ _ h.lst, h.eq, fun p hp => let ⟨h1, h2, h3⟩ := h.pair p hp; ⟨s _ _ h1, s _ _ h2, s _ _ h3⟩⟩
theorem LP.same {H H' : Hp} {a : Addr} {C : List (List Nat × List Nat)} (h : LP H a C) (s : Same H H') : LP H' a C := let ⟨ps, h⟩ := h; ⟨ps, h.same s⟩
theorem LPp.len {H : Hp} {a : Addr} {C : List (List Nat × List Nat)} {ps : List PP} (h : LPp H a C ps) : ps.length = C.length := by
  rw [← h.eq, List.length_map]
theorem LPp.item {H : Hp} {a : Addr} {C : List (List Nat × List Nat)} {ps : List PP} (h : LPp H a C ps) {i : Nat} {x : V} (hx : (ps.map fun p => V.ref p.1)[i]? = some x) :
    ∃ t f s F S, x = .ref t ∧ C[i]? = some (F, S) ∧ H t = some (.tup [.ref f, .ref s]) ∧ LA H f F ∧ LA H s S ∧ ps[i]? = some (t, (f, F), (s, S)) := by
  rw [List.getElem?_map] at hx
  cases e : ps[i]? with
  | none =>
    rw [e] at hx
    cases hx
  | some p =>
    rw [e] at hx
    obtain ⟨h1, h2, h3⟩ := h.pair p (List.mem_of_getElem? e)
    refine ⟨p.1, _, _, _, _, (Option.some.inj hx).symm, ?_, h1, h2, h3, rfl⟩
    rw [← h.eq, List.getElem?_map, e]
    rfl
theorem LP.at {H : Hp} {a : Addr} {C : List (List Nat × List Nat)} (h : LP H a C) {i : Nat} {F S : List Nat} (hi : C[i]? = some (F, S)) : ∃ xs t f s, H a = some (.lst xs) ∧ atI xs (i : Int) = some (.ref t) ∧ H t = some (.tup [.ref f, .ref s]) ∧ LA H f F ∧ LA H s S := by
  obtain ⟨ps, h⟩ := h
  have hl := (List.getElem?_eq_some_iff.mp hi).1
  have hv' : i < ps.length := by rw [h.len]; exact hl
  have e : (ps.map fun p => V.ref p.1)[i]? = some (.ref ps[i].1) := by rw [List.getElem?_map, List.getElem?_eq_getElem hv']; rfl
  obtain ⟨t, f, s, F', S', ex, hc, h1, h2, h3, _⟩ := h.item e
  rw [hi] at hc
  cases hc
  rw [ex] at e
  exact ⟨_, t, f, s, h.lst, atI_nat e, h1, h2, h3⟩
/-! ### dicts whose keys are nodes -/
theorem valV_pairs {β : Type} {f : Nat × β → V} (v : Nat) : ∀ ps : List (Nat × β), (∃ p, p ∈ ps ∧ p.1 = v ∧ valV (ps.map fun p => (nk p.1, f p)) (nk v) = some (f p)) ∨ (v ∉ ps.map (·.1) ∧ valV (ps.map fun p => (nk p.1, f p)) (nk v) = none)
  | [] => .inr ⟨by simp, valV_nil⟩
  | p :: ps => by
    by_cases e : p.1 = v
    · refine .inl ⟨p, List.mem_cons_self, e, ?_⟩
      rw [List.map_cons]
      exact valV_pos (p := (nk p.1, f p)) ((nk_eq _ _).mpr e)
    · have ne : ¬ (nk p.1, f p).1 = nk v := fun z => e ((nk_eq _ _).mp z)
      rcases valV_pairs (f := f) v ps with ⟨q, h1, h2, h3⟩ | ⟨h1, h2⟩
      · refine .inl ⟨q, List.mem_cons_of_mem _ h1, h2, ?_⟩
        rw [List.map_cons, valV_neg ne]
        exact h3
      · refine .inr ⟨?_, ?_⟩
        · rw [List.map_cons, List.mem_cons]
          exact fun z => z.elim (fun z => e z.symm) h1
        · rw [List.map_cons, valV_neg ne]
          exact h2
/-- a dict of lists of nodes: M the keys in order, E the lists -/
structure DEp (H : Hp) (e : Addr) (M : List Nat) (E : Nat → List Nat) (ps : List (Nat × Addr)) : Prop where
  dct : H e = some (.dK (ps.map fun p => (nk p.1, V.ref p.2)))
  eq : ps.map (·.1) = M
  row : ∀ p, p ∈ ps → LA H p.2 (E p.1)
def DE (H : Hp) (e : Addr) (M : List Nat) (E : Nat → List Nat) : Prop := ∃ ps, DEp H e M E ps
theorem DEp.same {H H' : Hp} {e : Addr} {M : List Nat} {E : Nat → List Nat} {ps : List (Nat × Addr)} (h : DEp H e M E ps) (s : Same H H') : DEp H' e M E ps := ⟨s _ _ h.dct, h.eq, fun p hp => s _ _ (h.row p hp)⟩
theorem DE.same {H H' : Hp} {e : Addr} {M : List Nat} {E : Nat → List Nat} (h : DE H e M E) (s : Same H H') : DE H' e M E := let ⟨ps, h⟩ := h; ⟨ps, h.same s⟩
theorem DEp.get {H : Hp} {e : Addr} {M : List Nat} {E : Nat → List Nat} {ps : List (Nat × Addr)} (h : DEp H e M E ps) {v : Nat} (hv : v ∈ M) : ∃ r, (v, r) ∈ ps ∧ DGet H e (nv v) (some (.ref r)) ∧ LA H r (E v) := by
  rcases valV_pairs (f := fun p => V.ref p.2) v ps with ⟨p, h1, h2, h3⟩ | ⟨h1, _⟩
  · have g := DGet.k (k := nk v) h.dct
    rw [h3] at g
    subst h2
    exact ⟨p.2, h1, g, h.row p h1⟩
  · exact absurd hv (by rw [← h.eq]; exact h1)
theorem DE.get {H : Hp} {e : Addr} {M : List Nat} {E : Nat → List Nat} (h : DE H e M E) {v : Nat} (hv : v ∈ M) : ∃ r, DGet H e (nv v) (some (.ref r)) ∧ LA H r (E v) := by
  obtain ⟨ps, h⟩ := h
  obtain ⟨r, _, h1, h2⟩ := h.get hv
  exact ⟨r, h1, h2⟩
/-! ### {node: True for node in xs} -/
theorem wipe1 {σ : L2.St} {i : Nat} {v : V} : wipe ((wipe σ [i]).set i (some v)) [i] = wipe σ [i] := by
  show ((σ.set i none).set i (some v)).set i none = σ.set i none
  rw [List.set_set, List.set_set]
theorem slot1 {σ : L2.St} {i : Nat} {v : V} (hi : i < σ.length) : ((wipe σ [i]).set i (some v))[i]? = some (some v) := by
  show ((σ.set i none).set i (some v))[i]? = _
  rw [List.set_set]
  exact List.getElem?_set_self hi
theorem set_reads {K : PySem.W.Frag} {tl : TE} {b : Addr} {os : List Nat} {i : Nat} {nm : Str} {σ : L2.St} {H : Hp} {Q : VK} (ht : ∀ R : VK, R (.ref b) H → tl σ H R) (hb : LA H b os) (hl : os.length ≤ 100000) (hi : i < σ.length) (h : ∀ d H1, H d = none → Same H H1 → DS H1 d os → Q (.ref d) H1) :
    tDc (iList K tl) (gName i) tYes (tVar i) (tC (.bl true)) (([(nm, i)] : List (Str × Nat)).map (·.2)) σ H Q := by
  refine ht _ ⟨b, rfl, ⟨_, SqL.of hb⟩, fun D nd => ?_⟩
  refine dc_list (K := K) (a := b) (xs := nvs os) (Qd := fun H1 => Q (.ref D) H1) (fun j H1 => Same H H1 ∧ DS H1 D (os.take j)) ⟨same_upd nd, DS.nil upd_same⟩ (fun j H1 _ p => SqL.of (p.1 _ _ hb)) (fun j x H1 hx p => ?_) (fun H1 p => ?_)
  · obtain ⟨n, hn, rfl⟩ := nvs_get hx
    obtain ⟨p1, kvs, p2, p3, p4⟩ := p
    refine ⟨wipe1, yes ?_⟩
    refine ⟨nv n, slot1 hi, kvs, nk n, rfl, p2, line1000 (by rw [List.length_take] at p3; omega), fun b' o e => ?_, ?_⟩
    · rw [upd_ne (ne_of_none e nd)]
      exact p1 _ _ e
    · obtain ⟨h2, h3⟩ := ds_put p3 p4 n (.bl true)
      have e : os.take (j + 1) = os.take j ++ [n] := by rw [List.take_add_one, hn]; rfl
      rw [e]
      exact ⟨_, upd_same, h2, h3⟩
  · obtain ⟨p1, p2⟩ := p
    rw [nvs_len, List.take_length] at p2
    exact h D H1 nd p1 p2
/-- .. given to a name -/
theorem set_seq {K : PySem.W.Frag} {tl : TE} {b : Addr} {os : List Nat} {i j : Nat} {nm : Str} {σ : L2.St} {H : Hp} {D : Ends} {u : TS} (ht : ∀ R : VK, R (.ref b) H → tl σ H R) (hb : LA H b os) (hl : os.length ≤ 100000) (hi : i < σ.length)
    (h : ∀ d H1, H d = none → Same H H1 → DS H1 d os → u D (σ.set j (some (.ref d))) H1) :
    tSeq (tAsg (tDc (iList K tl) (gName i) tYes (tVar i) (tC (.bl true)) (([(nm, i)] : List (Str × Nat)).map (·.2))) (gName j)) u D σ H :=
  set_reads (nm := nm) (Q := fun x H1 => gName j x σ H1 (u D)) ht hb hl hi h
end K56
set_option Elab.async false
set_option linter.all false
set_option maxRecDepth 100000
set_option maxHeartbeats 4000000
/-! K56Fa: share, has_inner_edge, _law_meets, _law_leads. -/
namespace K56
open PySem PySem.Spec PyProof.Rows L2
section
variable {P : Program} {w : World} {K : PySem.W.Frag} {mg : Str → Option Value} {base : Heap}
/-! ### share -/
abbrev sShare : Stmt := topS 2
abbrev nShare : List Str := ["nodes", "others", "marked", "node"]
theorem scShare : FnScope nShare ["nodes", "others"] (defScope sShare) := ⟨rfl, rfl, rfl, by decide +kernel, rfl, by decide +kernel, by decide +kernel⟩
def meetB (ns os : List Nat) : Bool := ns.any fun x => decide (x ∈ os)
theorem meetB_iff {ns os : List Nat} : meetB ns os = true ↔ ∃ x, x ∈ ns ∧ x ∈ os := by
  unfold meetB
  rw [List.any_eq_true]
  constructor <;> rintro ⟨x, h1, h2⟩ <;> exact ⟨x, h1, by simpa using h2⟩
def spShare : Sp := fun vs H Q _ => ∃ (a b : Addr) (ns os : List Nat), vs = [.ref a, .ref b] ∧ LA H a ns ∧ LA H b os ∧ ns.length ≤ 1000 ∧ os.length ≤ 1000 ∧ ∀ H', Same H H' → Q (.bl (meetB ns os)) H'
theorem ok_share {f : Addr} {fd : FuncData} (F : Fun K "share" "share" sShare f fd) (ma : mg "any" = none) : FnOk P w K mg base CX0 1 f fd ["nodes", "others"] spShare := by
  refine F.ok scShare (fun vs H Q E h => ?_) (fun cdv A outer s H vs Q E hr h => ?_)
  · obtain ⟨a, b, ns, os, rfl, _⟩ := h
    rfl
  · obtain ⟨a, b, ns, os, rfl, ha, hb, la, lb, q⟩ := h
    have hu := hu_of hr
    refine ⟨_, pss_cons (ps_set (i := 2) scShare.nd rfl (.inr rfl) (pe_dc (own := [("node", 3)]) (g := gName 3) (tt := tYes) rfl scShare.nd (pi_list (pv 1)) (blkOk_by (N := nShare) (sc := defScope sShare) (by decide +kernel)) (fun _ _ _ _ _ => pg_name (i := 3) scShare.nd rfl (.inl rfl)) (fun _ _ _ _ _ => pts_nil) (fun _ _ _ _ _ => pv 3) (fun _ _ _ _ _ => pe_bl)))
      (pss_one (ps_ret (pe_callB (cr_any rfl) (by rfl) ma (by decide +kernel) (pa_cons (pe_lc (own := [("node", 3)]) (g := gName 3) (tt := tYes) rfl scShare.nd (pi_list (pv 0)) (blkOk_by (N := nShare) (sc := defScope sShare) (by decide +kernel)) (fun _ _ _ _ _ => pg_name (i := 3) scShare.nd rfl (.inl rfl)) (fun _ _ _ _ _ => pts_nil) (fun _ _ _ _ _ => pe_cmp (pc_din hu (pv 3) (pv 2)) rfl)) pa_nil)))), ?_⟩
    -- marked
    refine ⟨.ref b, rfl, b, rfl, ⟨_, SqL.of hb⟩, fun d nd => ?_⟩
    refine dc_list (K := K) (a := b) (xs := nvs os) (fun i H1 => (∀ b o, H b = some o → H1 b = some o) ∧ DS H1 d (os.take i)) ⟨same_upd nd, DS.nil upd_same⟩ (fun i H1 _ p => SqL.of (p.1 _ _ hb)) (fun i x H1 hx p => ?_) (fun H1 p => ?_)
    · obtain ⟨n, hn, rfl⟩ := nvs_get hx
      obtain ⟨p1, kvs, p2, p3, p4⟩ := p
      refine ⟨rfl, yes ?_⟩
      refine ⟨_, rfl, kvs, nk n, rfl, p2, line1000 (by rw [List.length_take] at p3; omega), fun b' o e => ?_, ?_⟩
      · rw [upd_ne (ne_of_none e nd)]
        exact p1 _ _ e
      · obtain ⟨h2, h3⟩ := ds_put p3 p4 n (.bl true)
        have e : os.take (i + 1) = os.take i ++ [n] := by rw [List.take_add_one, hn]; rfl
        rw [e]
        exact ⟨_, upd_same, h2, h3⟩
    · obtain ⟨p1, p2⟩ := p
      rw [nvs_len, List.take_length] at p2
      -- any([..])
      refine ⟨.ref a, rfl, a, rfl, ⟨_, SqL.of (p1 _ _ ha)⟩, fun e ne => ?_⟩
      refine lc_list (K := K) (a := a) (xs := nvs ns) (fun i H2 => (∀ b o, H1 b = some o → H2 b = some o) ∧ H2 e = some (.lst (((ns.take i).map fun x => decide (x ∈ os)).map V.bl))) ⟨same_upd ne, upd_same⟩ (fun i H2 _ p => SqL.of (p.1 _ _ (p1 _ _ ha))) (fun i x H2 hx p => ?_) (fun H2 p => ?_)
      · obtain ⟨n, hn, rfl⟩ := nvs_get hx
        obtain ⟨r1, r2⟩ := p
        obtain ⟨o, g, eo⟩ := (DS.same (H' := H2) p2 (by
          obtain ⟨kvs, z, _⟩ := id p2
          rw [z, r1 _ _ z])).get n
        refine ⟨rfl, yes ?_⟩
        refine ⟨_, rfl, .ref d, rfl, d, o, rfl, g, _, r2, ?_, fun b' o' e' => ?_, ?_⟩
        · rw [List.length_map, List.length_map, List.length_take]
          exact line1000 (by omega)
        · rw [upd_ne (ne_of_none e' ne)]
          exact r1 _ _ e'
        · rw [upd_same, List.take_add_one, hn, eo]
          simp
      · obtain ⟨r1, r2⟩ := p
        rw [nvs_len, List.take_length] at r2
        refine ⟨e, _, rfl, SqL.of r2, ?_⟩
        have : (ns.map fun x => decide (x ∈ os)).any id = meetB ns os := by
          unfold meetB
          rw [List.any_map]
          rfl
        rw [this]
        exact q _ fun b' o' e' => r1 _ _ (p1 _ _ e')
/-! ### _law_meets -/
abbrev sMeets : Stmt := topS 38
abbrev nMeets : List Str := ["_law_one", "_law_other", "_law_node"]
theorem scMeets : FnScope nMeets ["_law_one", "_law_other"] (defScope sMeets) := ⟨rfl, rfl, rfl, by decide +kernel, rfl, by decide +kernel, by decide +kernel⟩
theorem inV_nv (x : Nat) : ∀ os : List Nat, inV (nv x) (nvs os) = decide (x ∈ os)
  | [] => rfl
  | a :: os => by
    have ih := inV_nv x os
    unfold inV at ih ⊢
    rw [show nvs (a :: os) = nv a :: nvs os from rfl, List.any_cons, ih]
    have e : eqV (nv a) (nv x) = decide (x = a) := by
      show decide ((a : Int) = (x : Int)) = decide (x = a)
      by_cases h : x = a
      · subst h
        simp
      · rw [decide_eq_false h, decide_eq_false (fun z : (a : Int) = (x : Int) => h (by omega))]
    rw [e]
    simp
theorem flat_nvs (os : List Nat) : (nvs os).all flatV = true := by
  rw [List.all_eq_true]
  intro x hx
  obtain ⟨n, _, rfl⟩ := List.mem_map.mp hx
  rfl
def spMeets : Sp := fun vs H Q _ => ∃ (a b : Addr) (ns os : List Nat), vs = [.ref a, .ref b] ∧ LA H a ns ∧ LA H b os ∧ Q (.bl (meetB ns os)) H
theorem ok_meets {f : Addr} {fd : FuncData} (F : Fun K "_law_meets" "_law_meets" sMeets f fd) : FnOk P w K mg base CX0 1 f fd ["_law_one", "_law_other"] spMeets := by
  refine F.ok scMeets (fun vs H Q E h => ?_) (fun cdv A outer s H vs Q E hr h => ?_)
  · obtain ⟨a, b, ns, os, rfl, _⟩ := h
    rfl
  · obtain ⟨a, b, ns, os, rfl, ha, hb, q⟩ := h
    refine ⟨_, pss_cons (ps_for PassesOwn.never rfl (pi_list (pv 0)) (pg_name (i := 2) scMeets.nd rfl (.inl rfl))
      (pss_one (ps_if (pt_cmpR op_in_seq (pv 2) (pv 1) (by rfl)) (pss_one (ps_ret pe_bl)) pss_nil)))
      (pss_one (ps_ret pe_bl)), ?_⟩
    refine ⟨.ref a, rfl, a, rfl, ⟨_, SqL.of ha⟩, for_list (K := K) (a := a) (xs := nvs ns) (fun i σ H1 => ∃ v, σ = [some (.ref a), some (.ref b), v] ∧ H1 = H ∧ ∀ x, x ∈ ns.take i → x ∉ os) ⟨none, rfl, rfl, fun x h => absurd h (by simp)⟩ ?_ ?_ ?_⟩
    · rintro i σ H1 _ ⟨v, _, rfl, _⟩
      exact SqL.of ha
    · rintro i x σ H1 hx ⟨v, rfl, rfl, hn⟩
      obtain ⟨n, hn', rfl⟩ := nvs_get hx
      refine ⟨_, rfl, _, rfl, b, nvs os, rfl, .inl (SqL.of hb), rfl, flat_nvs os, _, rfl, ?_⟩
      show if inV (nv n) (nvs os) = true then _ else _
      rw [inV_nv]
      by_cases hm : n ∈ os
      · rw [decide_eq_true hm]
        refine iteT ?_
        have : meetB ns os = true := meetB_iff.mpr ⟨n, List.mem_of_getElem? hn', hm⟩
        rw [this] at q
        exact q
      · rw [decide_eq_false hm]
        refine iteF ⟨some (nv n), rfl, rfl, fun x hx => ?_⟩
        rcases mem_take_succ hn' hx with z | z
        · exact hn x z
        · rw [z]
          exact hm
    · rintro σ H1 ⟨v, rfl, rfl, hn⟩
      rw [nvs_len, List.take_length] at hn
      have : meetB ns os = false := by
        cases e : meetB ns os with
        | false => rfl
        | true =>
          obtain ⟨x, h1, h2⟩ := meetB_iff.mp e
          exact absurd h2 (hn x h1)
      rw [this] at q
      exact q
end
end K56
set_option Elab.async false
set_option linter.all false
set_option maxRecDepth 100000
set_option maxHeartbeats 4000000
/-! K56Fb: has_inner_edge, restricted, _law_leads. -/
namespace K56
open PySem PySem.Spec PyProof.Rows L2
section
variable {P : Program} {w : World} {K : PySem.W.Frag} {mg : Str → Option Value} {base : Heap}
/-! ### has_inner_edge -/
abbrev sInner : Stmt := topS 1
abbrev nInner : List Str := ["after", "nodes", "node", "inside", "target"]
theorem scInner : FnScope nInner ["after", "nodes"] (defScope sInner) := ⟨rfl, rfl, rfl, by decide +kernel, rfl, by decide +kernel, by decide +kernel⟩
def leadB (G : List (List Nat)) (ns os : List Nat) : Bool := ns.any fun v => meetB (gE G v) os
theorem leadB_iff {G : List (List Nat)} {ns os : List Nat} : leadB G ns os = true ↔ ∃ v x, v ∈ ns ∧ x ∈ gE G v ∧ x ∈ os := by
  unfold leadB
  rw [List.any_eq_true]
  constructor
  · rintro ⟨v, h1, h2⟩
    obtain ⟨x, h3, h4⟩ := meetB_iff.mp h2
    exact ⟨v, x, h1, h3, h4⟩
  · rintro ⟨v, x, h1, h3, h4⟩
    exact ⟨v, h1, meetB_iff.mpr ⟨x, h3, h4⟩⟩
theorem notB {b : Bool} (h : b = true → False) : b = false := by
  cases b with
  | false => rfl
  | true => exact (h rfl).elim
def spInner : Sp := fun vs H Q _ => ∃ (a b : Addr) (G : List (List Nat)) (ns : List Nat), vs = [.ref a, .ref b] ∧ LL H a G ∧ LA H b ns ∧ (∀ x, x ∈ ns → x < G.length) ∧ ns.length ≤ 1000 ∧ ∀ H', Same H H' → Q (.bl (leadB G ns ns)) H'
theorem ok_inner {f : Addr} {fd : FuncData} (F : Fun K "has_inner_edge" "has_inner_edge" sInner f fd) : FnOk P w K mg base CX0 1 f fd ["after", "nodes"] spInner := by
  refine F.ok scInner (fun vs H Q E h => ?_) (fun cdv A outer s H vs Q E hr h => ?_)
  · obtain ⟨a, b, G, ns, rfl, _⟩ := h
    rfl
  · obtain ⟨a, b, G, ns, rfl, ha, hb, hlt, hl, q⟩ := h
    have hu := hu_of hr
    refine ⟨_, pss_cons (ps_setDc (i := 3) (own := [("node", 2)]) (g := gName 2) (tt := tYes) rfl scInner.nd rfl rfl (swd_true rfl rfl rfl (by decide +kernel)) (pi_list (pv 1)) (blkOk_by (N := nInner) (sc := defScope sInner) (by decide +kernel)) (fun _ _ _ _ _ => pg_name (i := 2) scInner.nd rfl (.inl rfl)) (fun _ _ _ _ _ => pts_nil) (fun _ _ _ _ _ => pv 2) (fun _ _ _ _ _ => pe_bl))
      (pss_cons (ps_for PassesOwn.never rfl (pi_list (pv 1)) (pg_name (i := 2) scInner.nd rfl (.inl rfl))
        (pss_one (ps_for PassesOwn.never rfl (pi_list (pe_ix ix_list (pv 0) (pv 2) (fun _ _ => rfl))) (pg_name (i := 4) scInner.nd rfl (.inl rfl))
          (pss_one (ps_if (pt_cmp (pc_din hu (pv 4) (pv 3))) (pss_one (ps_ret pe_bl)) pss_nil)))))
      (pss_one (ps_ret pe_bl))), ?_⟩
    refine set_seq (b := b) ?ht hb (by omega) ?hi ?h
    (case ht => exact fun R h => ⟨_, rfl, h⟩)
    (case hi => exact (by decide : (2 : Nat) < 5))
    intro d H1 nd s1 hd
    have hb1 : LA H1 b ns := s1 _ _ hb
    have ha1 : LL H1 a G := ha.same s1
    refine ⟨.ref b, rfl, b, rfl, ⟨_, SqL.of hb1⟩, for_list (K := K) (a := b) (xs := nvs ns) (fun i σ H2 => ∃ v2 v4, σ = [some (.ref a), some (.ref b), v2, some (.ref d), v4] ∧ H2 = H1 ∧ ∀ v, v ∈ ns.take i → ∀ x, x ∈ gE G v → x ∉ ns) ⟨_, _, rfl, rfl, fun x h => absurd h (by simp)⟩ ?_ ?_ ?_⟩
    · rintro i σ H2 _ ⟨_, _, _, rfl, _⟩
      exact SqL.of hb1
    · rintro i x σ H2 hx ⟨v2, v4, rfl, rfl, hn⟩
      obtain ⟨n, hn', rfl⟩ := nvs_get hx
      have hnm := List.mem_of_getElem? hn'
      obtain ⟨xs, r, e1, e2, hr'⟩ := ha1.at (hlt n hnm)
      refine ⟨_, rfl, nv n, rfl, a, xs, _, .ref r, rfl, rfl, SqL.of e1, e2, r, rfl, ⟨_, SqL.of hr'⟩, for_list (K := K) (a := r) (xs := nvs (gE G n)) (fun j σ H3 => ∃ v4, σ = [some (.ref a), some (.ref b), some (nv n), some (.ref d), v4] ∧ H3 = H2 ∧ ∀ x, x ∈ (gE G n).take j → x ∉ ns) ⟨_, rfl, rfl, fun x h => absurd h (by simp)⟩ ?_ ?_ ?_⟩
      · rintro j σ H3 _ ⟨_, _, rfl, _⟩
        exact SqL.of hr'
      · rintro j y σ H3 hy ⟨v4, rfl, rfl, hm⟩
        obtain ⟨t, ht, rfl⟩ := nvs_get hy
        obtain ⟨o, g, eo⟩ := hd.get t
        refine ⟨_, rfl, _, rfl, d, o, rfl, g, _, rfl, ?_⟩
        show if o.isSome = true then _ else _
        rw [eo]
        by_cases hi : t ∈ ns
        · rw [decide_eq_true hi]
          refine iteT ?_
          have e := leadB_iff.mpr ⟨n, t, hnm, List.mem_of_getElem? ht, hi⟩
          have q' := q H3 s1
          rw [e] at q'
          exact q'
        · rw [decide_eq_false hi]
          refine iteF ⟨_, rfl, rfl, fun z hz => ?_⟩
          rcases mem_take_succ ht hz with z' | z'
          · exact hm z z'
          · rw [z']
            exact hi
      · rintro σ H3 ⟨v4, rfl, rfl, hm⟩
        rw [nvs_len, List.take_length] at hm
        refine ⟨_, _, rfl, rfl, fun v hv => ?_⟩
        rcases mem_take_succ hn' hv with z | z
        · exact hn v z
        · rw [z]
          exact hm
    · rintro σ H2 ⟨v2, v4, rfl, rfl, hn⟩
      rw [nvs_len, List.take_length] at hn
      have e : leadB G ns ns = false := notB fun e => by
        obtain ⟨v, x, h1, h2, h3⟩ := leadB_iff.mp e
        exact hn v h1 x h2 h3
      have q' := q H2 s1
      rw [e] at q'
      exact q'
/-! ### restricted -/
abbrev sRestr : Stmt := topS 4
abbrev nRestr : List Str := ["after", "members", "inside", "node", "target"]
theorem scRestr : FnScope nRestr ["after", "members"] (defScope sRestr) := ⟨rfl, rfl, rfl, by decide +kernel, rfl, by decide +kernel, by decide +kernel⟩
def sc4 : Scope := match defBody sRestr with
  | [_, .Return (some (.DictComp _ _ _ s _)) _] => s
  | _ => defScope sRestr
def spRestr : Sp := fun vs H Q _ => ∃ (a b : Addr) (G : List (List Nat)) (M : List Nat), vs = [.ref a, .ref b] ∧ LL H a G ∧ LA H b M ∧ (∀ x, x ∈ M → x < G.length) ∧ M.Nodup ∧ M.length ≤ 1000 ∧ GW G ∧
  ∀ H' e, Same H H' → H e = none → DE H' e M (rE G M) → Q (.ref e) H'
theorem ok_restr {f : Addr} {fd : FuncData} (F : Fun K "restricted" "restricted" sRestr f fd) : FnOk P w K mg base CX0 1 f fd ["after", "members"] spRestr := by
  refine F.ok scRestr (fun vs H Q E h => ?_) (fun cdv A outer s H vs Q E hr h => ?_)
  · obtain ⟨a, b, G, ns, rfl, _⟩ := h
    rfl
  · obtain ⟨a, b, G, M, rfl, ha, hb, hlt, hM, hl, gw, q⟩ := h
    have hu := hu_of hr
    refine ⟨_, pss_cons (ps_set (i := 2) scRestr.nd rfl (.inr rfl) (pe_dc (own := [("node", 3)]) (g := gName 3) (tt := tYes) rfl scRestr.nd (pi_list (pv 1)) (blkOk_by (N := nRestr) (sc := defScope sRestr) (by decide +kernel)) (fun _ _ _ _ _ => pg_name (i := 3) scRestr.nd rfl (.inl rfl)) (fun _ _ _ _ _ => pts_nil) (fun _ _ _ _ _ => pv 3) (fun _ _ _ _ _ => pe_bl)))
      (pss_one (ps_ret (pe_dc (own := [("node", 3)]) (g := gName 3) (tt := tYes) (tv := tLc (iList K (tOp (rIxL K) (tVar 0) (tVar 3))) (gName 4) (tB (tDIn (tVar 4) (tVar 2))) (tVar 4) [4]) rfl scRestr.nd (pi_list (pv 1)) (blkOk_by (N := nRestr) (sc := defScope sRestr) (by decide +kernel)) (fun _ _ _ _ _ => pg_name (i := 3) scRestr.nd rfl (.inl rfl)) (fun _ _ _ _ _ => pts_nil) (fun _ _ _ _ _ => pv 3)
        (fun _ _ _ _ _ => pe_lc (own := [("target", 4)]) (g := gName 4) rfl scRestr.nd (pi_list (pe_ix ix_list (pv 0) (pv 3) (fun _ _ => rfl))) (blkOk_by (N := nRestr) (sc := relS sc4 (defScope sRestr)) (by decide +kernel)) (fun _ _ _ _ _ => pg_name (i := 4) scRestr.nd rfl (.inl rfl)) (fun _ _ _ _ _ => pts_one (pt_cmp (pc_din hu (pv 4) (pv 2)))) (fun _ _ _ _ _ => pv 4))))), ?_⟩
    refine set_seq (b := b) ?ht hb (by omega) ?hi ?h
    (case ht => exact fun R h => ⟨_, rfl, h⟩)
    (case hi => exact (by decide : (3 : Nat) < 5))
    intro d H1 nd s1 hd
    have hb1 : LA H1 b M := s1 _ _ hb
    have ha1 : LL H1 a G := ha.same s1
    refine ⟨.ref b, rfl, b, rfl, ⟨_, SqL.of hb1⟩, fun e ne => ?_⟩
    refine dc_list (K := K) (a := b) (xs := nvs M) (fun i H2 => Same H1 H2 ∧ ∃ ps, DEp H2 e (M.take i) (rE G M) ps) ⟨same_upd ne, [], upd_same, by simp, fun p hp => absurd hp (by simp)⟩ (fun i H2 _ p => SqL.of (p.1 _ _ hb1)) (fun i x H2 hx p => ?_) (fun H2 p => ?_)
    · obtain ⟨n, hn, rfl⟩ := nvs_get hx
      obtain ⟨s2, ps, hp⟩ := p
      have hnm := List.mem_of_getElem? hn
      obtain ⟨xs, r, e1, e2, hr'⟩ := (ha1.same s2).at (hlt n hnm)
      refine ⟨rfl, yes ?_⟩
      refine ⟨_, rfl, .ref a, rfl, nv n, rfl, a, xs, _, .ref r, rfl, rfl, SqL.of e1, e2, r, rfl, ⟨_, SqL.of hr'⟩, fun l nl => ?_⟩
      have nel : e ≠ l := ne_of_none hp.dct nl
      refine lc_list (K := K) (a := r) (xs := nvs (gE G n)) (fun j H3 => Same H2 H3 ∧ H3 l = some (.lst (nvs (((gE G n).take j).filter fun w => decide (w ∈ M))))) ⟨same_upd nl, upd_same⟩ (fun j H3 _ p => SqL.of (p.1 _ _ hr')) (fun j y H3 hy p3 => ?_) (fun H3 p3 => ?_)
      · obtain ⟨t, ht, rfl⟩ := nvs_get hy
        obtain ⟨s3, el⟩ := p3
        obtain ⟨o, g, eo⟩ := (DS.same (H' := H3) hd (by
          obtain ⟨kvs, z, _⟩ := id hd
          rw [z, s3 _ _ (s2 _ _ z)])).get t
        have et : (gE G n).take (j + 1) = (gE G n).take j ++ [t] := by rw [List.take_add_one, ht]; rfl
        refine ⟨rfl, _, rfl, .ref d, rfl, d, o, rfl, g, _, rfl, ?_⟩
        show if o.isSome = true then _ else _
        rw [eo]
        by_cases hi : t ∈ M
        · rw [decide_eq_true hi]
          refine iteT ?_
          refine ⟨nv t, rfl, _, el, ?_, fun c o' z => ?_, ?_⟩
          · rw [nvs_len]
            have h1 := List.length_filter_le (fun w => decide (w ∈ M)) ((gE G n).take j)
            have h2 := gw.gE_len n
            rw [List.length_take] at h1
            exact line1000 (by omega)
          · rw [upd_ne (ne_of_none z nl)]
            exact s3 _ _ z
          · rw [upd_same, nvs_snoc, et, List.filter_append]
            simp [hi]
        · rw [decide_eq_false hi]
          refine iteF ⟨s3, ?_⟩
          rw [et, List.filter_append]
          simp [hi, el]
      · obtain ⟨s3, el⟩ := p3
        rw [nvs_len, List.take_length] at el
        have ed : H3 e = some (.dK (ps.map fun p => (nk p.1, V.ref p.2))) := s3 _ _ hp.dct
        have hlp : ps.length ≤ 1000 := by
          have := congrArg List.length hp.eq
          rw [List.length_map, List.length_take] at this
          omega
        refine ⟨_, nk n, rfl, ed, by rw [List.length_map]; exact line1000 (by omega), fun c o' z => ?_, ps ++ [(n, l)], ?_, ?_, fun p hp' => ?_⟩
        · rw [upd_ne (ne_of_none z ne)]
          exact s3 _ _ (s2 _ _ z)
        · have hnew : valV (ps.map fun p => (nk p.1, V.ref p.2)) (nk n) = none := by
            rcases valV_pairs (f := fun p => V.ref p.2) n ps with ⟨p, h1, h2, _⟩ | ⟨_, h2⟩
            · exfalso
              have hm : n ∈ M.take i := by
                rw [← hp.eq, ← h2]
                exact List.mem_map_of_mem h1
              obtain ⟨j, hj, ej⟩ := List.getElem_of_mem hm
              rw [List.length_take] at hj
              rw [List.getElem_take] at ej
              have := nd_ix hM (i := j) (j := i) (x := n) (by rw [List.getElem?_eq_getElem (by omega), ej]) hn
              omega
            · exact h2
          rw [upd_same, putK_new _ hnew, List.map_append]
          rfl
        · rw [List.map_append, hp.eq, List.take_add_one, hn]
          rfl
        · rcases List.mem_append.mp hp' with z | z
          · have z1 := s3 _ _ (hp.row p z)
            show upd H3 e _ p.2 = _
            rw [upd_ne]
            · exact z1
            · exact ne_of z1 ed (by intro q; cases q)
          · rw [List.mem_singleton.mp z]
            show upd H3 e _ l = _
            rw [upd_ne nel.symm, rE_of hnm]
            exact el
    · obtain ⟨s2, ps, hp⟩ := p
      rw [nvs_len, List.take_length] at hp
      exact q _ e (s1.trans s2) (s1.free ne) ⟨ps, hp⟩
/-! ### _law_leads -/
abbrev sLeads : Stmt := topS 39
abbrev nLeads : List Str := ["_law_after", "_law_one", "_law_other", "_law_v"]
theorem scLeads : FnScope nLeads ["_law_after", "_law_one", "_law_other"] (defScope sLeads) := ⟨rfl, rfl, rfl, by decide +kernel, rfl, by decide +kernel, by decide +kernel⟩
def spLeads : Sp := fun vs H Q _ => ∃ (a b c : Addr) (G : List (List Nat)) (ns os : List Nat), vs = [.ref a, .ref b, .ref c] ∧ LL H a G ∧ LA H b ns ∧ LA H c os ∧ (∀ x, x ∈ ns → x < G.length) ∧ Q (.bl (leadB G ns os)) H
theorem ok_leads {f fM : Addr} {fd fdM : FuncData} (F : Fun K "_law_leads" "_law_leads" sLeads f fd) (FM : Fun K "_law_meets" "_law_meets" sMeets fM fdM) (bM : Binds K fdM ["_law_one", "_law_other"] []) (gM : mg "_law_meets" = some (.ref fM)) : FnOk P w K mg base CX0 2 f fd ["_law_after", "_law_one", "_law_other"] spLeads := by
  have GM : FnOk P w K mg base CX0 1 fM fdM ["_law_one", "_law_other"] spMeets := ok_meets FM
  refine F.ok scLeads (fun vs H Q E h => ?_) (fun cdv A outer s H vs Q E hr h => ?_)
  · obtain ⟨a, b, c, G, ns, os, rfl, _⟩ := h
    rfl
  · obtain ⟨a, b, c, G, ns, os, rfl, ha, hb, hc, hlt, q⟩ := h
    refine ⟨_, pss_cons (ps_for PassesOwn.never rfl (pi_list (pv 1)) (pg_name (i := 3) scLeads.nd rfl (.inl rfl))
      (pss_one (ps_if (pt_val (pe_call GM hr (by rfl) gM FM.kp bM .nil pass0 (pa_cons (pe_ix ix_list (pv 0) (pv 3) (fun _ _ => rfl)) (pa_cons (pv 2) pa_nil)))) (pss_one (ps_ret pe_bl)) pss_nil)))
      (pss_one (ps_ret pe_bl)), ?_⟩
    refine ⟨.ref b, rfl, b, rfl, ⟨_, SqL.of hb⟩, for_list (K := K) (a := b) (xs := nvs ns) (fun i σ H1 => ∃ v, σ = [some (.ref a), some (.ref b), some (.ref c), v] ∧ H1 = H ∧ ∀ v, v ∈ ns.take i → meetB (gE G v) os = false) ⟨none, rfl, rfl, fun x h => absurd h (by simp)⟩ ?_ ?_ ?_⟩
    · rintro i σ H1 _ ⟨v, _, rfl, _⟩
      exact SqL.of hb
    · rintro i x σ H1 hx ⟨v, rfl, rfl, hn⟩
      obtain ⟨n, hn', rfl⟩ := nvs_get hx
      have hnm := List.mem_of_getElem? hn'
      obtain ⟨xs, r, e1, e2, hr'⟩ := ha.at (hlt n hnm)
      refine ⟨_, rfl, nv n, rfl, a, xs, _, .ref r, rfl, rfl, SqL.of e1, e2, _, rfl, r, c, gE G n, os, rfl, hr', hc, _, rfl, ?_⟩
      cases em : meetB (gE G n) os with
      | true =>
        refine iteT ?_
        have e : leadB G ns os = true := List.any_eq_true.mpr ⟨n, hnm, em⟩
        rw [e] at q
        exact q
      | false =>
        refine iteF ⟨_, rfl, rfl, fun v hv => ?_⟩
        rcases mem_take_succ hn' hv with z | z
        · exact hn v z
        · rw [z]
          exact em
    · rintro σ H1 ⟨v, rfl, rfl, hn⟩
      rw [nvs_len, List.take_length] at hn
      have e : leadB G ns os = false := notB fun e => by
        obtain ⟨v, h1, h2⟩ := List.any_eq_true.mp e
        rw [hn v h1] at h2
        cases h2
      rw [e] at q
      exact q
end
end K56
set_option Elab.async false
set_option linter.all false
set_option maxRecDepth 100000
set_option maxHeartbeats 4000000
/-! K56Fc: finish_from. -/
namespace K56
open PySem PySem.Spec PyProof.Rows L2
/-- a stack of pairs -/
def SK (H : Hp) (a : Addr) (stk : List (Nat × Nat)) : Prop := ∃ ts : List (Addr × (Nat × Nat)), H a = some (.lst (ts.map fun t => V.ref t.1)) ∧ ts.map (·.2) = stk ∧ ∀ t, t ∈ ts → H t.1 = some (.tup [nv t.2.1, nv t.2.2])
/-- its top -/
theorem SK.top {H : Hp} {a : Addr} {stk : List (Nat × Nat)} (h : SK H a stk) (hn : stk ≠ []) : ∃ rest v k t ts, stk = rest ++ [(v, k)] ∧ H a = some (.lst (ts ++ [V.ref t])) ∧ H t = some (.tup [nv v, nv k]) ∧ ∀ H' : Hp, H' a = some (.lst ts) → (∀ c, c ≠ a → H' c = H c) → SK H' a rest := by
  obtain ⟨ts, h1, h2, h3⟩ := h
  have hts : ts ≠ [] := fun e => hn (by rw [← h2, e]; rfl)
  have e : ts = ts.dropLast ++ [ts.getLast hts] := (List.dropLast_concat_getLast hts).symm
  refine ⟨ts.dropLast.map (·.2), (ts.getLast hts).2.1, (ts.getLast hts).2.2, (ts.getLast hts).1, ts.dropLast.map fun t => V.ref t.1, ?_, ?_, ?_, fun H' e1 e2 => ⟨ts.dropLast, e1, rfl, fun t ht => ?_⟩⟩
  · rw [← h2]
    conv => lhs; rw [e]
    rw [List.map_append]
    rfl
  · rw [h1]
    conv => lhs; rw [e]
    rw [List.map_append]
    rfl
  · exact h3 _ (List.getLast_mem hts)
  · have ht' := h3 t (List.dropLast_subset _ ht)
    rw [e2 t.1 (ne_of ht' h1 (by intro q; cases q))]
    exact ht'
theorem SK.push {H H' : Hp} {a t : Addr} {stk : List (Nat × Nat)} {v k : Nat} {xs : List V} (h : SK H a stk) (hx : H a = some (.lst xs)) (e : H' a = some (.lst (xs ++ [V.ref t]))) (ht : H' t = some (.tup [nv v, nv k])) (hs : ∀ c o, H c = some o → c ≠ a → H' c = some o) : SK H' a (stk ++ [(v, k)]) := by
  obtain ⟨ts, h1, h2, h3⟩ := h
  have ex : xs = ts.map fun t => V.ref t.1 := by
    rw [hx] at h1
    injection h1 with h1
    injection h1
  subst ex
  refine ⟨ts ++ [(t, (v, k))], by rw [e, List.map_append]; rfl, by rw [List.map_append, h2]; rfl, fun q hq => ?_⟩
  rcases List.mem_append.mp hq with z | z
  · have hz := h3 q z
    exact hs _ _ hz (ne_of hz h1 (by intro q; cases q))
  · rw [List.mem_singleton.mp z]
    exact ht
theorem SK.len {H : Hp} {a : Addr} {stk : List (Nat × Nat)} {xs : List V} (h : SK H a stk) (hx : H a = some (.lst xs)) : xs.length = stk.length := by
  obtain ⟨ts, h1, h2, h3⟩ := h
  rw [hx] at h1
  injection h1 with h1
  injection h1 with h1
  rw [h1, ← h2, List.length_map, List.length_map]
theorem SK.keep {H H' : Hp} {a : Addr} {stk : List (Nat × Nat)} (h : SK H a stk) (hs : ∀ c o, H c = some o → (∀ xs, o = .tup xs → H' c = some o) ∧ (c = a → H' c = some o)) : SK H' a stk := by
  obtain ⟨ts, h1, h2, h3⟩ := h
  exact ⟨ts, (hs _ _ h1).2 rfl, h2, fun t ht => (hs _ _ (h3 t ht)).1 _ rfl⟩
section
variable {P : Program} {w : World} {K : PySem.W.Frag} {mg : Str → Option Value} {base : Heap}
/-! ### finish_from -/
abbrev sFin : Stmt := topS 6
abbrev nFin : List Str := ["edges", "start", "seen", "order", "stack", "node", "k", "target"]
theorem scFin : FnScope nFin ["edges", "start", "seen", "order"] (defScope sFin) := ⟨rfl, rfl, rfl, by decide +kernel, rfl, by decide +kernel, by decide +kernel⟩
def spFin : Sp := fun vs H Q _ => ∃ (e sd od : Addr) (st : Nat) (M S O : List Nat) (E : Nat → List Nat) (ps : List (Nat × Addr)), vs = [.ref e, nv st, .ref sd, .ref od] ∧ DEp H e M E ps ∧ DS H sd S ∧ LA H od O ∧ e ≠ sd ∧ (∀ p, p ∈ ps → p.2 ≠ od) ∧ M.length ≤ 1000 ∧ (∀ u, u ∈ M → ∀ w, w ∈ E u → w ∈ M) ∧ st ∈ M ∧ st ∉ S ∧
  S.Nodup ∧ (∀ v, v ∈ S → v ∈ M) ∧ O.length ≤ 1000 ∧
  ∀ (H' : Hp) (new S' : List Nat), DFin E S st new → DS H' sd S' → S'.Nodup → (∀ v, v ∈ S' ↔ v ∈ S ∨ v ∈ new) → (∀ v, v ∈ S' → v ∈ M) → LA H' od (O ++ new) → (∀ c o, H c = some o → c ≠ sd → c ≠ od → H' c = some o) → Q .non H'
/-- the state of the loop -/
structure FinSt (H Hc : Hp) (ka sd oa : Addr) (st : Nat) (M S O : List Nat) (E : Nat → List Nat) (stk : List (Nat × Nat)) (new S' : List Nat) : Prop where
  di : DI E S st new stk
  nd : S'.Nodup
  mem : ∀ v, v ∈ S' ↔ v ∈ S ∨ v ∈ new ++ nds stk
  sub : ∀ v, v ∈ S' → v ∈ M
  sk : SK Hc ka stk
  ds : DS Hc sd S'
  od : LA Hc oa (O ++ new)
  keep : ∀ c o, H c = some o → c ≠ sd → c ≠ oa → Hc c = some o
  nsk : H ka = none
theorem FinSt.newlen {H Hc : Hp} {sk sd oa : Addr} {st : Nat} {M S O : List Nat} {E : Nat → List Nat} {stk : List (Nat × Nat)} {new S' : List Nat} (I : FinSt H Hc sk sd oa st M S O E stk new S') : new.length + stk.length ≤ M.length ∧ S'.length ≤ M.length := by
  have h1 : (new ++ nds stk).length ≤ M.length := nodup_sub I.di.nd fun x hx => I.sub x ((I.mem x).mpr (.inr hx))
  rw [List.length_append, List.length_map] at h1
  exact ⟨h1, nodup_sub I.nd I.sub⟩
theorem ok_fin {f : Addr} {fd : FuncData} (F : Fun K "finish_from" "finish_from" sFin f fd) (ml : mg "len" = none) : FnOk P w K mg base CX0 1 f fd ["edges", "start", "seen", "order"] spFin := by
  refine F.ok scFin (fun vs H Q E h => ?_) (fun cdv A outer s H vs Q E' hr h => ?_)
  · obtain ⟨e, sd, od, st, M, S, O, E, ps, rfl, _⟩ := h
    rfl
  · obtain ⟨e, sd, od, st, M, S, O, E, ps, rfl, he, hs, ho, nes, hro, hMl, hEM, hst, hstS, hSn, hSM, hOl, q⟩ := h
    have hu := hu_of hr
    refine ⟨_, pss_cons (ps_dput hu (pv 2) (pv 1) pe_bl rfl)
      (pss_cons (ps_set (i := 4) scFin.nd rfl (.inl rfl) (pe_lst (pa_cons (pe_tup (pa_cons (pv 1) (pa_cons pe_int pa_nil))) pa_nil)))
      (pss_one (ps_while PassesOwn.never (pt_truth (pv 4) (by intro _; rfl))
        (pss_cons (ps_asg (pe_bm0 PySem.F.plainAttrs_list PySem.F.slot_list_pop PySem.F.type_list_pop mt_pop (pv 4)) (pg_tup rfl (pgs_cons (pg_name (i := 5) scFin.nd rfl (.inl rfl)) (pgs_cons (pg_name (i := 6) scFin.nd rfl (.inl rfl)) pgs_nil))))
        (pss_cons (ps_if (pt_cmpR op_eq (pv 6) (pe_callB call_len_seq (by rfl) ml PySem.boot_len (pa_cons (pe_dget hu (pv 0) (pv 5) (fun _ _ => rfl)) pa_nil)) (nomark _))
          (pss_cons (ps_expr (pe_bm PySem.F.plainAttrs_list PySem.F.slot_list_append PySem.F.type_list_append mt_append (pv 3) (pa_cons (pv 5) pa_nil))) (pss_one ps_continue)) pss_nil)
        (pss_cons (ps_expr (pe_bm PySem.F.plainAttrs_list PySem.F.slot_list_append PySem.F.type_list_append mt_append (pv 4) (pa_cons (pe_tup (pa_cons (pv 5) (pa_cons (pe_op op_add (pv 6) pe_int) pa_nil))) pa_nil)))
        (pss_cons (ps_set (i := 7) scFin.nd rfl (.inl rfl) (pe_ix ix_list (pe_dget hu (pv 0) (pv 5) (fun _ _ => rfl)) (pv 6) (fun _ _ => rfl)))
        (pss_one (ps_if (pt_cmp (pc_dnotin hu (pv 7) (pv 2)))
          (pss_cons (ps_dput hu (pv 2) (pv 7) pe_bl rfl) (pss_one (ps_expr (pe_bm PySem.F.plainAttrs_list PySem.F.slot_list_append PySem.F.type_list_append mt_append (pv 4) (pa_cons (pe_tup (pa_cons (pv 7) (pa_cons pe_int pa_nil))) pa_nil))))) pss_nil))))))))), ?_⟩
    have hSl : S.length ≤ M.length := nodup_sub hSn hSM
    have neo : e ≠ od := ne_of he.dct ho (by intro z; cases z)
    obtain ⟨_, hsd, _⟩ := id hs
    have nso : od ≠ sd := ne_of ho hsd (by intro z; cases z)
    -- seen[start] = True
    obtain ⟨H1, p1, d1, k1⟩ := hs.put (by omega) st (.bl true)
    refine ⟨.ref sd, rfl, nv st, rfl, sd, H1, rfl, p1, ?_⟩
    obtain ⟨_, hsd1, _⟩ := id d1
    -- stack = [(start, 0)]
    refine ⟨nv st, rfl, (by show 2 ≤ sizeLine; decide), fun t nt => ⟨(by show 1 ≤ sizeLine; decide), fun sk nsk => ?_⟩⟩
    have keep0 : ∀ c o, H c = some o → c ≠ sd → H1 c = some o := fun c o z hc => by rw [k1 c hc]; exact z
    have ntsk : t ≠ sk := fun z => by rw [← z, upd_same] at nsk; cases nsk
    have sm : Same H1 (upd (upd H1 t (.tup [nv st, .int 0])) sk (.lst [.ref t])) := (same_upd nt).trans (same_upd nsk)
    have fsk : H sk = none := by
      have z := (same_upd nt).free nsk
      by_cases h : sk = sd
      · rw [h, hsd1] at z
        cases z
      · rw [← k1 sk h]
        exact z
    refine ⟨fun m σ Hc => ∃ stk new S' v5 v6 v7, σ = [some (.ref e), some (nv st), some (.ref sd), some (.ref od), some (.ref sk), v5, v6, v7] ∧ FinSt H Hc sk sd od st M S O E stk new S' ∧ m = dfsW E M S' stk,
      ⟨_, [(st, 0)], [], S ++ [st], none, none, none, rfl, ⟨DI.init hstS, ?_, fun v => ?_, fun v hv => ?_, ⟨[(t, (st, 0))], upd_same, rfl, fun z hz => ?_⟩, ?_, ?_, fun c o z h1 h2 => sm c o (keep0 c o z h1), fsk⟩, rfl⟩, ?_⟩
    · rw [List.nodup_append]
      refine ⟨hSn, by simp, fun a ha b hb z => hstS ?_⟩
      rw [← List.mem_singleton.mp hb, ← z]
      exact ha
    · simp
    · rcases List.mem_append.mp hv with z | z
      · exact hSM v z
      · rw [List.mem_singleton.mp z]
        exact hst
    · rw [List.mem_singleton.mp hz]
      show upd (upd H1 t _) sk _ t = _
      rw [upd_ne ntsk, upd_same]
      rfl
    · exact d1.same (by rw [sm sd _ hsd1, hsd1])
    · rw [List.append_nil]
      exact sm od _ (keep0 od _ ho nso)
    · rintro m σ Hc ⟨stk, new, S', v5, v6, v7, rfl, I, rfl⟩
      have hdep : DEp Hc e M E ps := ⟨I.keep e _ he.dct nes neo, he.eq, fun p hp => I.keep _ _ (he.row p hp) (ne_of (he.row p hp) hsd (by intro z; cases z)) (hro p hp)⟩
      obtain ⟨hl1, hl2⟩ := I.newlen
      by_cases hstk : stk = []
      · -- the stack is empty
        subst hstk
        obtain ⟨ts, e1, e2, _⟩ := id I.sk
        have ets : ts = [] := List.map_eq_nil_iff.mp e2
        subst ets
        refine ⟨.ref sk, rfl, false, .inl ⟨_, SqL.of e1, rfl⟩, iteF ?_⟩
        refine q Hc new S' I.di.done I.ds I.nd (fun v => ?_) I.sub I.od I.keep
        have := I.mem v
        rw [show new ++ nds [] = new from List.append_nil _] at this
        exact this
      · obtain ⟨rest, v, k, t0, ts, rfl, e1, e2, e3⟩ := I.sk.top hstk
        have hvM : v ∈ M := I.sub v ((I.mem v).mpr (.inr (List.mem_append_right _ (by rw [nds_snoc]; simp))))
        refine ⟨.ref sk, rfl, true, .inl ⟨_, SqL.of e1, by simp⟩, iteT ?_⟩
        refine ⟨fun σ' H' => ∃ stk' new' S'' v5 v6 v7, σ' = [some (.ref e), some (nv st), some (.ref sd), some (.ref od), some (.ref sk), v5, v6, v7] ∧ FinSt H H' sk sd od st M S O E stk' new' S'' ∧ dfsW E M S'' stk' < dfsW E M S' (rest ++ [(v, k)]),
          fun σ' H' ⟨stk', new', S'', v5, v6, v7, h1, h2, h3⟩ => ⟨_, h3, stk', new', S'', v5, v6, v7, h1, h2, rfl⟩, ?_⟩
        -- node, k = stack.pop()
        have H2sk : upd Hc sk (.lst (ts ++ [V.ref t0]).dropLast) sk = some (.lst ts) := by rw [upd_same, List.dropLast_concat]
        generalize hH2 : upd Hc sk (.lst (ts ++ [V.ref t0]).dropLast) = H2 at H2sk
        have k2 : ∀ c, c ≠ sk → H2 c = Hc c := fun c hc => by rw [← hH2, upd_ne hc]
        have nt0 : t0 ≠ sk := ne_of e2 e1 (by intro z; cases z)
        have keepS : ∀ c o, H c = some o → c ≠ sk := fun c o z => ne_of_none z I.nsk
        have dep2 : DEp H2 e M E ps := ⟨by rw [k2 e (keepS e _ he.dct)]; exact hdep.dct, hdep.eq, fun p hp => by
          show H2 p.2 = _
          rw [k2 p.2 (keepS _ _ (he.row p hp))]
          exact hdep.row p hp⟩
        have od2 : LA H2 od (O ++ new) := by
          show H2 od = _
          rw [k2 od (keepS od _ ho)]
          exact I.od
        have sd2 : H2 sd = Hc sd := k2 sd (keepS sd _ hsd)
        have sk2 : SK H2 sk rest := e3 H2 H2sk k2
        obtain ⟨r, hr1, hr2, hr3⟩ := dep2.get hvM
        refine ⟨.ref sk, rfl, .inl ⟨rfl, _, SqL.of e1⟩, sk, _, .ref t0, rfl, rfl, e1, by simp, ?_⟩
        rw [hH2]
        refine ⟨t0, [nv v, nv k], rfl, SqT.of (by rw [k2 t0 nt0]; exact e2), rfl, nv v, [nv k], rfl, nv k, [], rfl, rfl, ?_⟩
        -- if k == len(edges[node])
        refine ⟨nv k, rfl, .ref e, rfl, nv v, rfl, e, .ref r, rfl, hr2, r, nvs (E v), rfl, .inl (SqL.of hr3), rfl, _, rfl, ite2 (fun ek => ?_) (fun ek => ?_)⟩
        · have ek : k = (E v).length := by
            have z := V.int.inj (of_decide_eq_true ek)
            rw [nvs_len] at z
            omega
          refine ⟨.ref od, rfl, .inl ⟨rfl, _, SqL.of od2⟩, nv v, rfl, od, _, _, rfl, rfl, od2, ?_, ?_⟩
          · rw [nvs_len, List.length_append]
            exact line1000 (by omega)
          · have dif := I.di.fin ek
            refine ⟨rest, new ++ [v], S', _, _, _, rfl, ⟨dif, I.nd, fun x => ?_, I.sub, ?_, ?_, ?_, fun c o z h1 h2 => ?_, I.nsk⟩, dfsW_fin ek⟩
            · rw [I.mem x, nds_snoc]
              simp only [List.mem_append, List.mem_singleton]
              constructor
              · intro h
                rcases h with h | h | h | h
                · exact .inl h
                · exact .inr (.inl (.inl h))
                · exact .inr (.inr h)
                · exact .inr (.inl (.inr h))
              · intro h
                rcases h with h | (h | h) | h
                · exact .inl h
                · exact .inr (.inl h)
                · exact .inr (.inr (.inr h))
                · exact .inr (.inr (.inl h))
            · exact sk2.keep fun c o z => ⟨fun xs ex => by rw [upd_ne (ne_of z od2 (by rw [ex]; intro q; cases q))]; exact z, fun ec => by rw [upd_ne (by rw [ec]; exact (keepS od _ ho).symm)]; exact z⟩
            · exact I.ds.same (by rw [upd_ne nso.symm, sd2])
            · rw [LA, upd_same, nvs_snoc, List.append_assoc]
            · rw [upd_ne h2, k2 c (keepS c o z)]
              exact I.keep c o z h1 h2
        · have hk : k < (E v).length := by
            have z1 := (I.di.kk (v, k) (by simp)).1
            have z2 : k ≠ (E v).length := fun z => ek (decide_eq_true (by rw [nvs_len, ← z]))
            have z1 : k ≤ (E v).length := z1
            omega
          obtain ⟨tt, htt⟩ : ∃ tt, (E v)[k]? = some tt := ⟨_, List.getElem?_eq_getElem hk⟩
          have httM : tt ∈ M := hEM v hvM tt (List.mem_of_getElem? htt)
          -- stack.append((node, k + 1))
          refine ⟨.ref sk, rfl, .inl ⟨rfl, _, SqL.of H2sk⟩, nv v, rfl, nv k, rfl, _, _, rfl, rfl, (by show 2 ≤ sizeLine; decide), fun t1 nt1 => ?_⟩
          have n1 : t1 ≠ sk := (ne_of_none H2sk nt1).symm
          have s3 : Same H2 (upd H2 t1 (.tup [nv v, .int ((k : Int) + 1)])) := same_upd nt1
          have lts : ts.length ≤ M.length := by
            have := sk2.len H2sk
            rw [List.length_append] at hl1
            omega
          refine ⟨sk, ts, .ref t1, rfl, rfl, s3 sk _ H2sk, line1000 (by omega), ?_⟩
          generalize hH4 : upd (upd H2 t1 (.tup [nv v, .int ((k : Int) + 1)])) sk (.lst (ts ++ [V.ref t1])) = H4
          have H4sk : H4 sk = some (.lst (ts ++ [V.ref t1])) := by rw [← hH4, upd_same]
          have k4 : ∀ c o, H2 c = some o → c ≠ sk → H4 c = some o := fun c o z hc => by
            rw [← hH4, upd_ne hc]
            exact s3 c o z
          have H4t1 : H4 t1 = some (.tup [nv v, nv (k + 1)]) := by
            rw [← hH4, upd_ne n1, upd_same]
            rfl
          have sk4 : SK H4 sk (rest ++ [(v, k + 1)]) := sk2.push H2sk H4sk H4t1 k4
          have keep4 : ∀ c o, H c = some o → c ≠ sd → c ≠ od → H4 c = some o := fun c o z h1 h2 => k4 c o (by rw [k2 c (keepS c o z)]; exact I.keep c o z h1 h2) (keepS c o z)
          have dep4 : DEp H4 e M E ps := ⟨k4 _ _ dep2.dct (keepS e _ he.dct), dep2.eq, fun p hp => k4 _ _ (dep2.row p hp) (keepS _ _ (he.row p hp))⟩
          obtain ⟨_, hsdc, _⟩ := id I.ds
          have sd4 : H4 sd = Hc sd := by rw [hsdc, k4 sd _ (by rw [sd2]; exact hsdc) (keepS sd _ hsd)]
          have ds4 : DS H4 sd S' := I.ds.same sd4
          have od4 : LA H4 od (O ++ new) := k4 od _ od2 (keepS od _ ho)
          -- target = edges[node][k]
          obtain ⟨r', hr1', hr2', hr3'⟩ := dep4.get hvM
          refine ⟨.ref e, rfl, nv v, rfl, e, .ref r', rfl, hr2', nv k, rfl, r', nvs (E v), _, nv tt, rfl, rfl, SqL.of hr3', atI_nat (by rw [List.getElem?_map, htt]; rfl), ?_⟩
          -- if target not in seen
          obtain ⟨o, g, eo⟩ := ds4.get tt
          refine ⟨nv tt, rfl, .ref sd, rfl, sd, o, rfl, g, _, rfl, ?_⟩
          show if (!o.isSome) = true then _ else _
          rw [eo]
          by_cases hts : tt ∈ S'
          · rw [decide_eq_true hts]
            refine iteF ?_
            refine ⟨rest ++ [(v, k + 1)], new, S', _, _, _, rfl, ⟨I.di.skip htt ((I.mem tt).mp hts), I.nd, fun x => ?_, I.sub, sk4, ds4, od4, keep4, I.nsk⟩, dfsW_skip hk⟩
            have := I.mem x
            rw [nds_snoc] at this ⊢
            exact this
          · rw [decide_eq_false hts]
            refine iteT ?_
            have h0 : tt ∉ S := fun z => hts ((I.mem tt).mpr (.inl z))
            have hn : tt ∉ new ++ nds (rest ++ [(v, k)]) := fun z => hts ((I.mem tt).mpr (.inr z))
            obtain ⟨H5, p5, d5, k5⟩ := ds4.put (by omega) tt (.bl true)
            refine ⟨.ref sd, rfl, nv tt, rfl, sd, H5, rfl, p5, ?_⟩
            have H5sk : H5 sk = some (.lst (ts ++ [V.ref t1])) := by rw [k5 sk (keepS sd _ hsd).symm]; exact H4sk
            refine ⟨.ref sk, rfl, .inl ⟨rfl, _, SqL.of H5sk⟩, nv tt, rfl, (by show 2 ≤ sizeLine; decide), fun t2 nt2 => ?_⟩
            have s6 : Same H5 (upd H5 t2 (.tup [nv tt, .int 0])) := same_upd nt2
            have n2 : t2 ≠ sk := (ne_of_none H5sk nt2).symm
            refine ⟨sk, _, .ref t2, rfl, rfl, s6 sk _ H5sk, (by rw [List.length_append]; exact line1000 (by show ts.length + 1 ≤ 100000; omega)), ?_⟩
            generalize hH7 : upd (upd H5 t2 (.tup [nv tt, .int 0])) sk (.lst (ts ++ [V.ref t1] ++ [V.ref t2])) = H7
            have k7 : ∀ c o, H5 c = some o → c ≠ sk → H7 c = some o := fun c o z hc => by
              rw [← hH7, upd_ne hc]
              exact s6 c o z
            have sk5 : SK H5 sk (rest ++ [(v, k + 1)]) := sk4.keep fun c o z => ⟨fun xs ex => by rw [k5 c (ne_of z (sd4.trans hsdc) (by rw [ex]; intro q; cases q))]; exact z, fun ec => by rw [k5 c (by rw [ec]; exact (keepS sd _ hsd).symm)]; exact z⟩
            obtain ⟨_, hsd5, _⟩ := id d5
            refine ⟨rest ++ [(v, k + 1)] ++ [(tt, 0)], new, S' ++ [tt], _, _, _, rfl, ⟨I.di.push htt h0 hn, ?_, fun x => ?_, fun x hx => ?_, sk5.push H5sk (by rw [← hH7, upd_same]) (by rw [← hH7, upd_ne n2, upd_same]; rfl) k7, ?_, ?_, fun c o z h1 h2 => k7 c o (by rw [k5 c h1]; exact keep4 c o z h1 h2) (keepS c o z), I.nsk⟩, dfsW_push hk httM hts⟩
            · rw [List.nodup_append]
              refine ⟨I.nd, by simp, fun a ha b hb z => hts ?_⟩
              rw [← List.mem_singleton.mp hb, ← z]
              exact ha
            · have := I.mem x
              rw [nds_snoc] at this
              rw [nds_snoc, nds_snoc, List.mem_append, this]
              simp only [List.mem_append, List.mem_singleton]
              constructor
              · intro h
                rcases h with (h | h | h | h) | h
                · exact .inl h
                · exact .inr (.inl h)
                · exact .inr (.inr (.inl (.inl h)))
                · exact .inr (.inr (.inl (.inr h)))
                · exact .inr (.inr (.inr h))
              · intro h
                rcases h with h | h | (h | h) | h
                · exact .inl (.inl h)
                · exact .inl (.inr (.inl h))
                · exact .inl (.inr (.inr (.inl h)))
                · exact .inl (.inr (.inr (.inr h)))
                · exact .inr h
            · rcases List.mem_append.mp hx with z | z
              · exact I.sub x z
              · rw [List.mem_singleton.mp z]
                exact httM
            · exact d5.same (by rw [hsd5]; exact k7 sd _ hsd5 (keepS sd _ hsd))
            · exact k7 od _ (by rw [k5 od nso]; exact od4) (keepS od _ ho)
end
end K56
set_option Elab.async false
set_option linter.all false
set_option maxRecDepth 100000
set_option maxHeartbeats 4000000
/-! K56Fd: turned. -/
namespace K56
open PySem PySem.Spec PyProof.Rows L2
/-- u as often as w stands in us -/
def occ (us : List Nat) (u w : Nat) : List Nat := (us.filter fun x => decide (x = w)).map fun _ => u
theorem occ_len (us : List Nat) (u w : Nat) : (occ us u w).length ≤ us.length := by
  unfold occ
  rw [List.length_map]
  exact List.length_filter_le _ _
theorem mem_occ {us : List Nat} {u w x : Nat} : x ∈ occ us u w ↔ x = u ∧ w ∈ us := by
  unfold occ
  simp only [List.mem_map, List.mem_filter, decide_eq_true_eq]
  constructor
  · rintro ⟨y, ⟨h1, h2⟩, h3⟩
    exact ⟨h3.symm, by rw [← h2]; exact h1⟩
  · rintro ⟨h1, h2⟩
    exact ⟨w, ⟨h2, rfl⟩, h1.symm⟩
theorem occ_snoc (us : List Nat) (t u w : Nat) : occ (us ++ [t]) u w = if t = w then occ us u w ++ [u] else occ us u w := by
  unfold occ
  rw [List.filter_append, List.map_append]
  by_cases h : t = w
  · rw [if_pos h]
    simp [h]
  · rw [if_neg h]
    simp [h]
/-- the edges turned round -/
def bE (M : List Nat) (E : Nat → List Nat) (w : Nat) : List Nat := M.flatMap fun u => occ (E u) u w
theorem mem_bE {M : List Nat} {E : Nat → List Nat} {u w : Nat} : u ∈ bE M E w ↔ u ∈ M ∧ w ∈ E u := by
  unfold bE
  rw [List.mem_flatMap]
  constructor
  · rintro ⟨x, h1, h2⟩
    obtain ⟨h3, h4⟩ := mem_occ.mp h2
    rw [h3]
    exact ⟨h1, h4⟩
  · rintro ⟨h1, h2⟩
    exact ⟨u, h1, mem_occ.mpr ⟨rfl, h2⟩⟩
theorem bE_snoc (M : List Nat) (E : Nat → List Nat) (u w : Nat) : bE (M ++ [u]) E w = bE M E w ++ occ (E u) u w := by
  unfold bE
  rw [List.flatMap_append]
  simp
theorem bE_len {M : List Nat} {E : Nat → List Nat} {w : Nat} (h : ∀ u, u ∈ M → (E u).length ≤ 60) : (bE M E w).length ≤ 60 * M.length := by
  unfold bE
  induction M with
  | nil => exact Nat.zero_le _
  | cons a M ih =>
    rw [List.flatMap_cons, List.length_append, List.length_cons]
    have h1 := ih fun u hu => h u (List.mem_cons_of_mem _ hu)
    have h2 := occ_len (E a) a w
    have h3 := h a List.mem_cons_self
    omega
section
variable {P : Program} {w : World} {K : PySem.W.Frag} {mg : Str → Option Value} {base : Heap}
/-! ### turned -/
abbrev sTurn : Stmt := topS 5
abbrev nTurn : List Str := ["edges", "node", "back", "targets", "target"]
theorem scTurn : FnScope nTurn ["edges"] (defScope sTurn) := ⟨rfl, rfl, rfl, by decide +kernel, rfl, by decide +kernel, by decide +kernel⟩
def spTurn : Sp := fun vs H Q _ => ∃ (e : Addr) (M : List Nat) (E : Nat → List Nat), vs = [.ref e] ∧ DE H e M E ∧ M.Nodup ∧ M.length ≤ 1000 ∧ (∀ u, u ∈ M → (E u).length ≤ 60 ∧ ∀ w, w ∈ E u → w ∈ M) ∧
  ∀ (H' : Hp) (b : Addr) (qs : List (Nat × Addr)), Same H H' → H b = none → DEp H' b M (bE M E) qs → Q (.ref b) H'
/-- the rows of the new dict, each at its own place -/
structure BackSt (H0 Hc : Hp) (b : Addr) (M : List Nat) (B : Nat → List Nat) (qs : List (Nat × Addr)) : Prop where
  d : DEp Hc b M B qs
  nd : (qs.map (·.2)).Nodup
  keep : ∀ c o, H0 c = some o → Hc c = some o
  new : ∀ p, p ∈ qs → H0 p.2 = none
  nb : H0 b = none
theorem ok_turn {f : Addr} {fd : FuncData} (F : Fun K "turned" "turned" sTurn f fd) : FnOk P w K mg base CX0 1 f fd ["edges"] spTurn := by
  refine F.ok scTurn (fun vs H Q E h => ?_) (fun cdv A outer s H vs Q E' hr h => ?_)
  · obtain ⟨e, M, E, rfl, _⟩ := h
    rfl
  · obtain ⟨e, M, E, rfl, ⟨ps, he⟩, hM, hMl, hE, q⟩ := h
    have hu := hu_of hr
    have hlen : ps.length = M.length := by rw [← he.eq, List.length_map]
    refine ⟨_, pss_cons (ps_lock (ps_setDc (i := 2) (own := [("node", 1)]) (g := gName 1) (tt := tYes) rfl scTurn.nd rfl rfl (swd_true rfl rfl rfl (by decide +kernel)) (pi_keys (pv 0)) (blkOk_by (N := nTurn) (sc := defScope sTurn) (by decide +kernel)) (fun _ _ _ _ _ => pg_name (i := 1) scTurn.nd rfl (.inl rfl)) (fun _ _ _ _ _ => pts_nil) (fun _ _ _ _ _ => pv 1) (fun _ _ _ _ _ => pe_lst pa_nil)))
      (pss_cons (ps_lock (ps_for PassesOwn.never rfl (pi_items (pv 0)) (pg_tup rfl (pgs_cons (pg_name (i := 1) scTurn.nd rfl (.inl rfl)) (pgs_cons (pg_name (i := 3) scTurn.nd rfl (.inl rfl)) pgs_nil)))
        (pss_one (ps_for PassesOwn.never rfl (pi_list (pv 3)) (pg_name (i := 4) scTurn.nd rfl (.inl rfl))
          (pss_one (ps_expr (pe_bm PySem.F.plainAttrs_list PySem.F.slot_list_append PySem.F.type_list_append mt_append (pe_dget hu (pv 2) (pv 4) (fun _ _ => rfl)) (pa_cons (pv 1) pa_nil))))))))
      (pss_one (ps_ret (pv 2)))), ?_⟩
    -- back = {node: [] for node in edges}
    refine ⟨e, _, he.dct, True.intro, fun od => ?_⟩
    generalize hH0 : upd H e (.frz od (.dK (ps.map fun p => (nk p.1, V.ref p.2)))) = H0
    have H0e : H0 e = some (.frz od (.dK (ps.map fun p => (nk p.1, V.ref p.2)))) := by rw [← hH0, upd_same]
    have k0 : ∀ c, c ≠ e → H0 c = H c := fun c hc => by rw [← hH0, upd_ne hc]
    refine ⟨.ref e, rfl, e, od, rfl, .inl ⟨_, H0e, fun b nb => ?_⟩⟩
    refine dc_it walk_keys (fun i H1 => ∃ qs, BackSt H0 H1 b (M.take i) (fun _ => []) qs) ⟨[], ⟨upd_same, by simp, fun p hp => absurd hp (by simp)⟩, by simp, same_upd nb, fun p hp => absurd hp (by simp), nb⟩ (fun i H1 _ ⟨qs, p⟩ => p.keep _ _ H0e) (fun i x H1 H1' hi ⟨qs, p⟩ y => ?_) (fun H1 ⟨qs, p⟩ => ?_)
    · obtain ⟨rfl, k, v, hk, rfl⟩ := y
      rw [List.length_map] at hi
      obtain ⟨n, hn⟩ : ∃ n, M[i]? = some n := ⟨_, List.getElem?_eq_getElem (by omega)⟩
      have ek : k = nk n := by
        rw [List.getElem?_map] at hk
        rw [← he.eq, List.getElem?_map] at hn
        cases z : ps[i]? with
        | none =>
          rw [z] at hk
          cases hk
        | some pp =>
          rw [z] at hk hn
          have h1 := Option.some.inj hk
          have h2 : pp.1 = n := Option.some.inj hn
          rw [← h2]
          exact (Prod.mk.inj h1).1.symm
      subst ek
      refine ⟨rfl, yes ?_⟩
      refine ⟨nv n, rfl, Nat.zero_le _, fun l nl => ?_⟩
      have nbl : b ≠ l := ne_of_none p.d.dct nl
      have hql : qs.length = i := by
        have := congrArg List.length p.d.eq
        rw [List.length_map, List.length_take] at this
        omega
      have hnew : valV (qs.map fun p => (nk p.1, V.ref p.2)) (nk n) = none := by
        rcases valV_pairs (f := fun p => V.ref p.2) n qs with ⟨q, h1, h2, _⟩ | ⟨_, h2⟩
        · exfalso
          have hm : n ∈ M.take i := by
            rw [← p.d.eq, ← h2]
            exact List.mem_map_of_mem h1
          obtain ⟨j, hj, ej⟩ := List.getElem_of_mem hm
          rw [List.length_take] at hj
          rw [List.getElem_take] at ej
          have := nd_ix hM (i := j) (j := i) (x := n) (by rw [List.getElem?_eq_getElem (by omega), ej]) hn
          omega
        · exact h2
      have hb1 : upd H1' l (.lst []) b = some (.dK (qs.map fun p => (nk p.1, V.ref p.2))) := by rw [upd_ne nbl]; exact p.d.dct
      have nlq : l ∉ qs.map (·.2) := fun z => by
        obtain ⟨q, h1, h2⟩ := List.mem_map.mp z
        have z1 : H1' q.2 = some (.lst []) := p.d.row q h1
        have h2 : q.2 = l := h2
        rw [h2, nl] at z1
        cases z1
      refine ⟨_, nk n, rfl, hb1, by rw [List.length_map]; exact line1000 (by omega), qs ++ [(n, l)], ⟨?_, ?_, fun q hq => ?_⟩, ?_, fun c o z => ?_, fun q hq => ?_, p.nb⟩
      · rw [upd_same, putK_new _ hnew, List.map_append]
        rfl
      · rw [List.map_append, p.d.eq, List.take_add_one, hn]
        rfl
      · rcases List.mem_append.mp hq with z | z
        · have z1 := p.d.row q z
          show upd (upd H1' l _) b _ q.2 = _
          rw [upd_ne (ne_of z1 p.d.dct (by intro q; cases q)), upd_ne (ne_of_none z1 nl)]
          exact z1
        · rw [List.mem_singleton.mp z]
          show upd (upd H1' l _) b _ l = _
          rw [upd_ne nbl.symm, upd_same]
          rfl
      · rw [List.map_append, List.nodup_append]
        refine ⟨p.nd, by simp, fun a ha b hb z => nlq ?_⟩
        have eb : b = l := List.mem_singleton.mp hb
        rw [← eb, ← z]
        exact ha
      · rw [upd_ne (fun ec => by rw [ec, p.nb] at z; cases z), upd_ne (ne_of_none (p.keep _ _ z) nl)]
        exact p.keep _ _ z
      · rcases List.mem_append.mp hq with z | z
        · exact p.new q z
        · rw [List.mem_singleton.mp z]
          cases e1 : H0 l with
          | none => rfl
          | some o =>
            have := p.keep _ _ e1
            rw [nl] at this
            cases this
    · -- the end of the first loop: the dict is free again
      rw [List.length_map, hlen, List.take_length] at p
      have He : H1 e = some (.frz od (.dK (ps.map fun p => (nk p.1, V.ref p.2)))) := p.keep _ _ H0e
      refine ⟨He, ?_⟩
      generalize hH2 : upd H1 e (.dK (ps.map fun p => (nk p.1, V.ref p.2))) = H2
      have H2e : H2 e = some (.dK (ps.map fun p => (nk p.1, V.ref p.2))) := by rw [← hH2, upd_same]
      have k2 : ∀ c, c ≠ e → H2 c = H1 c := fun c hc => by rw [← hH2, upd_ne hc]
      have nbe : b ≠ e := fun z => by
        have := p.nb
        rw [z, H0e] at this
        cases this
      have nqe : ∀ q, q ∈ qs → q.2 ≠ e := fun q hq z => by
        have := p.new q hq
        rw [z, H0e] at this
        cases this
      have s2 : Same H H2 := fun c o z => by
        by_cases hc : c = e
        · subst hc
          rw [he.dct] at z
          cases z
          exact H2e
        · rw [k2 c hc]
          exact p.keep c o (by rw [k0 c hc]; exact z)
      have nbH : H b = none := by
        rw [← k0 b nbe]
        exact p.nb
      -- for node, targets in edges.items(): ..
      refine ⟨e, _, H2e, True.intro, fun od2 => ?_⟩
      generalize hH3 : upd H2 e (.frz od2 (.dK (ps.map fun p => (nk p.1, V.ref p.2)))) = H3
      have H3e : H3 e = some (.frz od2 (.dK (ps.map fun p => (nk p.1, V.ref p.2)))) := by rw [← hH3, upd_same]
      have k3 : ∀ c, c ≠ e → H3 c = H1 c := fun c hc => by rw [← hH3, upd_ne hc, k2 c hc]
      -- what the loops keep: all that stood ahead, but for the lock
      have keepQ : ∀ c o, H c = some o → c ≠ e → H3 c = some o ∧ (∀ q, q ∈ qs → c ≠ q.2) ∧ c ≠ b := fun c o z hc => by
        have z0 : H0 c = some o := by rw [k0 c hc]; exact z
        exact ⟨by rw [k3 c hc]; exact p.keep c o z0, fun q hq => ne_of_none z0 (p.new q hq), ne_of_none z0 p.nb⟩
      refine ⟨.ref e, rfl, e, od2, _, rfl, H3e, for_it walk_items (fun i σ Hc => ∃ v1 v3 v4, σ = [some (.ref e), v1, some (.ref b), v3, v4] ∧ DEp Hc b M (bE (M.take i) E) qs ∧ (∀ c o, H3 c = some o → c ∉ qs.map (·.2) → Hc c = some o))
        ⟨none, none, none, rfl, ⟨by rw [k3 b nbe]; exact p.d.dct, p.d.eq, fun q hq => by
          show H3 q.2 = _
          rw [k3 _ (nqe q hq)]
          exact p.d.row q hq⟩, fun c o z _ => z⟩ (fun i σ Hc _ ⟨_, _, _, _, _, kp⟩ => kp e _ H3e fun z => ?_) ?_ ?_⟩
      · obtain ⟨q, h1, h2⟩ := List.mem_map.mp z
        exact nqe q h1 h2
      · rintro i x σ Hc Hc' hi ⟨v1, v3, v4, rfl, dep, kp⟩ ⟨T, xk, xv, rfl, nT, rfl, hk, hv⟩
        rw [List.length_map] at hi
        have hps : ps[i]? = some ps[i] := List.getElem?_eq_getElem hi
        have exk : xk = nv ps[i].1 := by
          have hk : Option.map (fun kv => kV kv.1) (ps.map fun p => (nk p.1, V.ref p.2))[i]? = some xk := hk
          rw [List.getElem?_map, hps] at hk
          exact (Option.some.inj hk).symm
        have exv : xv = V.ref ps[i].2 := by
          have hv : Option.map Prod.snd (ps.map fun p => (nk p.1, V.ref p.2))[i]? = some xv := hv
          rw [List.getElem?_map, hps] at hv
          exact (Option.some.inj hv).symm
        subst exk exv
        have hn : M[i]? = some ps[i].1 := by
          rw [← he.eq, List.getElem?_map, hps]
          rfl
        have hnM : ps[i].1 ∈ M := List.mem_of_getElem? hn
        have hmem : ps[i] ∈ ps := List.getElem_mem hi
        generalize ps[i] = pi at hn hnM hmem
        obtain ⟨n, r⟩ := pi
        have rowH : LA H r (E n) := he.row _ hmem
        have nre : r ≠ e := ne_of rowH he.dct (by intro z; cases z)
        obtain ⟨r3, nrq, nrb⟩ := keepQ r _ rowH nre
        have hrq : r ∉ qs.map (·.2) := fun z => by
          obtain ⟨q, h1, h2⟩ := List.mem_map.mp z
          exact nrq q h1 h2.symm
        have rowc : LA Hc r (E n) := kp r _ r3 hrq
        have sT : Same Hc (upd Hc T (.tup [nv n, .ref r])) := same_upd nT
        refine ⟨T, [nv n, .ref r], rfl, SqT.of upd_same, rfl, nv n, [.ref r], rfl, .ref r, [], rfl, rfl, ?_⟩
        refine ⟨.ref r, rfl, r, rfl, ⟨_, SqL.of (sT r _ rowc)⟩, for_list (K := K) (a := r) (xs := nvs (E n)) (fun j σ Hd => ∃ v4, σ = [some (.ref e), some (nv n), some (.ref b), some (.ref r), v4] ∧ DEp Hd b M (fun x => bE (M.take i) E x ++ occ ((E n).take j) n x) qs ∧ (∀ c o, H3 c = some o → c ∉ qs.map (·.2) → Hd c = some o))
          ⟨_, rfl, ⟨sT _ _ dep.dct, dep.eq, fun q hq => sT _ _ (by
            have := dep.row q hq
            show Hc q.2 = some (.lst (nvs (bE (M.take i) E q.1 ++ [])))
            rw [List.append_nil]
            exact this)⟩, fun c o z hc => sT _ _ (kp c o z hc)⟩ (fun j σ Hd _ ⟨_, _, _, kd⟩ => SqL.of (kd r _ r3 hrq)) ?_ ?_⟩
        · rintro j y σ Hd hy ⟨v4, rfl, dd, kd⟩
          obtain ⟨t, ht, rfl⟩ := nvs_get hy
          have htE := List.mem_of_getElem? ht
          have htM : t ∈ M := (hE n hnM).2 t htE
          obtain ⟨rt, hq1, hq2, hq3⟩ := dd.get htM
          refine ⟨.ref b, rfl, nv t, rfl, b, .ref rt, rfl, hq2, .inl ⟨rfl, _, SqL.of hq3⟩, nv n, rfl, rt, _, _, rfl, rfl, hq3, ?_, _, rfl, ⟨?_, dd.eq, fun q hq => ?_⟩, fun c o z hc => ?_⟩
          · rw [nvs_len, List.length_append]
            have h1 := bE_len (M := M.take i) (E := E) (w := t) fun u hu => (hE u (List.mem_of_mem_take hu)).1
            have h2 := occ_len ((E n).take j) n t
            have h3 := (hE n hnM).1
            rw [List.length_take] at h1 h2
            exact line1000 (by omega)
          · rw [upd_ne (ne_of dd.dct hq3 (by intro z; cases z))]
            exact dd.dct
          · have et : (E n).take (j + 1) = (E n).take j ++ [t] := by rw [List.take_add_one, ht]; rfl
            show upd Hd rt _ q.2 = _
            by_cases hqt : q.2 = rt
            · have e1 : q = (t, rt) := by
                obtain ⟨a, ha, ea⟩ := List.getElem_of_mem hq
                obtain ⟨a', ha', ea'⟩ := List.getElem_of_mem hq1
                have : a = a' := nd_ix p.nd (i := a) (j := a') (x := rt) (by rw [List.getElem?_map, List.getElem?_eq_getElem ha, ea]; exact congrArg some hqt) (by rw [List.getElem?_map, List.getElem?_eq_getElem ha', ea']; rfl)
                subst this
                rw [← ea, ea']
              subst e1
              show upd Hd rt _ rt = _
              rw [upd_same, nvs_snoc, et, occ_snoc, if_pos rfl, List.append_assoc]
            · have z := dd.row q hq
              have nt : t ≠ q.1 := fun z' => hqt (by
                obtain ⟨a, ha, ea⟩ := List.getElem_of_mem hq
                obtain ⟨a', ha', ea'⟩ := List.getElem_of_mem hq1
                have : a = a' := nd_ix hM (i := a) (j := a') (x := t) (by rw [← dd.eq, List.getElem?_map, List.getElem?_eq_getElem ha, ea, z']; rfl) (by rw [← dd.eq, List.getElem?_map, List.getElem?_eq_getElem ha', ea']; rfl)
                subst this
                rw [← ea, ea'])
              rw [upd_ne hqt, et, occ_snoc, if_neg nt]
              exact z
          · rw [upd_ne (fun ec => hc (by rw [ec]; exact List.mem_map.mpr ⟨_, hq1, rfl⟩))]
            exact kd c o z hc
        · rintro σ Hd ⟨v4, rfl, dd, kd⟩
          rw [nvs_len, List.take_length] at dd
          refine ⟨_, _, _, rfl, ⟨dd.dct, dd.eq, fun q hq => ?_⟩, kd⟩
          have et : M.take (i + 1) = M.take i ++ [n] := by rw [List.take_add_one, hn]; rfl
          show Hd q.2 = _
          rw [et, bE_snoc]
          exact dd.row q hq
      · rintro σ Hc ⟨v1, v3, v4, rfl, dep, kp⟩
        rw [List.length_map, hlen, List.take_length] at dep
        have nee : e ∉ qs.map (·.2) := fun z => by
          obtain ⟨q, h1, h2⟩ := List.mem_map.mp z
          exact nqe q h1 h2
        refine ⟨kp e _ H3e nee, .ref b, rfl, ?_⟩
        refine q _ b qs (fun c o z => ?_) nbH ⟨?_, dep.eq, fun q hq => ?_⟩
        · by_cases hc : c = e
          · subst hc
            rw [he.dct] at z
            cases z
            exact upd_same
          · obtain ⟨h1, h2, h3⟩ := keepQ c o z hc
            rw [upd_ne hc]
            refine kp c o h1 fun z' => ?_
            obtain ⟨q, h4, h5⟩ := List.mem_map.mp z'
            exact h2 q h4 h5.symm
        · rw [upd_ne nbe]
          exact dep.dct
        · show upd Hc e _ q.2 = _
          rw [upd_ne (nqe q hq)]
          exact dep.row q hq
end
end K56
set_option Elab.async false
set_option linter.all false
set_option maxRecDepth 100000
set_option maxHeartbeats 4000000
/-! K56Fe: components. -/
namespace K56
open PySem PySem.Spec PyProof.Rows L2
/-- a def of the text, as the others call it -/
structure Df (K : PySem.W.Frag) (mg : Str → Option Value) (x : Str) (i : Nat) (ps : List Str) (f : Addr) (fd : FuncData) : Prop where
  F : Fun K x x (topS i) f fd
  b : Binds K fd ps []
  g : mg x = some (.ref f)
theorem GW.rE_len {G : List (List Nat)} (gw : GW G) (M : List Nat) (v : Nat) : (rE G M v).length ≤ 60 := by
  unfold rE
  split
  · exact Nat.le_trans (List.length_filter_le _ _) (gw.gE_len v)
  · exact Nat.zero_le _
theorem nvs_rev (ns : List Nat) : (nvs ns).reverse = nvs ns.reverse := List.map_reverse.symm
theorem nvs_cast (ns : List Nat) : nvs ns = (ns.map fun n : Nat => (n : Int)).map V.int := by
  rw [List.map_map]
  rfl
/-- a sorted list of nodes is a list of nodes -/
theorem sorted_nodes {ns : List Nat} {ms : List Int} (hp : ms.Perm (ns.map fun n : Nat => (n : Int))) (hs : ms.Pairwise (· ≤ ·)) (hn : ns.Nodup) : ∃ qs : List Nat, ms.map V.int = nvs qs ∧ Asc qs ∧ (∀ v, v ∈ qs ↔ v ∈ ns) ∧ qs.length = ns.length := by
  have e : ms = (ms.map Int.toNat).map fun n : Nat => (n : Int) := by
    rw [List.map_map]
    refine (List.map_id' ms).symm.trans (List.map_congr_left fun x hx => ?_)
    obtain ⟨n, _, rfl⟩ := List.mem_map.mp (hp.mem_iff.mp hx)
    rfl
  have hp2 : (ms.map Int.toNat).Perm ns := by
    have := hp.map Int.toNat
    rw [List.map_map] at this
    have e2 : (ns.map (Int.toNat ∘ fun n : Nat => (n : Int))) = ns := by
      refine (List.map_congr_left fun x _ => ?_).trans (List.map_id' ns)
      rfl
    rw [e2] at this
    exact this
  refine ⟨ms.map Int.toNat, ?_, ?_, fun v => hp2.mem_iff, hp2.length_eq⟩
  · rw [nvs_cast, ← e]
  · refine asc_of_le ?_ (hp2.nodup_iff.mpr hn)
    rw [e, List.pairwise_map] at hs
    exact hs.imp fun h => by omega
section
variable {P : Program} {w : World} {K : PySem.W.Frag} {mg : Str → Option Value} {base : Heap}
/-! ### components -/
abbrev sComp : Stmt := topS 7
abbrev nComp : List Str := ["after", "members", "edges", "order", "seen", "node", "back", "parts", "taken", "part"]
theorem scComp : FnScope nComp ["after", "members"] (defScope sComp) := ⟨rfl, rfl, rfl, by decide +kernel, rfl, by decide +kernel, by decide +kernel⟩
def spComp : Sp := fun vs H Q _ => ∃ (a b : Addr) (G : List (List Nat)) (M : List Nat), vs = [.ref a, .ref b] ∧ LL H a G ∧ LA H b M ∧ (∀ x, x ∈ M → x < G.length) ∧ M.Nodup ∧ M.length ≤ 60 ∧ GW G ∧
  ∀ (H' : Hp) (p : Addr) (Ps : List (List Nat)) (pps : List (Addr × List Nat)), Same H H' → H p = none → LLp H' p Ps pps → (∀ r, r ∈ pps → H r.1 = none) → Comps (rE G M) M Ps → Q (.ref p) H'
theorem ok_comp {f fR fF fT : Addr} {fd fdR fdF fdT : FuncData} (F : Fun K "components" "components" sComp f fd) (DR : Df K mg "restricted" 4 ["after", "members"] fR fdR) (DF : Df K mg "finish_from" 6 ["edges", "start", "seen", "order"] fF fdF) (DT : Df K mg "turned" 5 ["edges"] fT fdT)
    (ml : mg "len" = none) (ms : mg "sorted" = none) : FnOk P w K mg base CX0 2 f fd ["after", "members"] spComp := by
  have GR : FnOk P w K mg base CX0 1 fR fdR ["after", "members"] spRestr := ok_restr DR.F
  have GF : FnOk P w K mg base CX0 1 fF fdF ["edges", "start", "seen", "order"] spFin := ok_fin DF.F ml
  have GT : FnOk P w K mg base CX0 1 fT fdT ["edges"] spTurn := ok_turn DT.F
  refine F.ok scComp (fun vs H Q E h => ?_) (fun cdv A outer s H vs Q E hr h => ?_)
  · obtain ⟨a, b, G, M, rfl, _⟩ := h
    rfl
  · obtain ⟨a, b, G, M, rfl, ha, hb, hlt, hM, hl, gw, q⟩ := h
    have hu := hu_of hr
    refine ⟨_, pss_cons (ps_set (i := 2) scComp.nd rfl (.inl rfl) (pe_call GR hr (by rfl) DR.g DR.F.kp DR.b .nil pass0 (pa_cons (pv 0) (pa_cons (pv 1) pa_nil))))
      (pss_cons (ps_set (i := 3) scComp.nd rfl (.inl rfl) (pe_lst pa_nil))
      (pss_cons (ps_set (i := 4) scComp.nd rfl (.inl rfl) pe_dnewK)
      (pss_cons (ps_for PassesOwn.never rfl (pi_list (pv 1)) (pg_name (i := 5) scComp.nd rfl (.inl rfl))
        (pss_one (ps_if (pt_cmp (pc_dnotin hu (pv 5) (pv 4))) (pss_one (ps_expr (pe_call GF hr (by rfl) DF.g DF.F.kp DF.b .nil pass0 (pa_cons (pv 2) (pa_cons (pv 5) (pa_cons (pv 4) (pa_cons (pv 3) pa_nil))))))) pss_nil)))
      (pss_cons (ps_set (i := 6) scComp.nd rfl (.inl rfl) (pe_call GT hr (by rfl) DT.g DT.F.kp DT.b .nil pass0 (pa_cons (pv 2) pa_nil)))
      (pss_cons (ps_set (i := 7) scComp.nd rfl (.inl rfl) (pe_lst pa_nil))
      (pss_cons (ps_set (i := 8) scComp.nd rfl (.inl rfl) pe_dnewK)
      (pss_cons (ps_for PassesOwn.never rfl (pi_list (pe_revL (pv 3))) (pg_name (i := 5) scComp.nd rfl (.inl rfl))
        (pss_one (ps_if (pt_cmp (pc_dnotin hu (pv 5) (pv 8)))
          (pss_cons (ps_set (i := 9) scComp.nd rfl (.inl rfl) (pe_lst pa_nil))
          (pss_cons (ps_expr (pe_call GF hr (by rfl) DF.g DF.F.kp DF.b .nil pass0 (pa_cons (pv 6) (pa_cons (pv 5) (pa_cons (pv 8) (pa_cons (pv 9) pa_nil))))))
          (pss_one (ps_expr (pe_bm PySem.F.plainAttrs_list PySem.F.slot_list_append PySem.F.type_list_append mt_append (pv 7) (pa_cons (pe_callB cr_sorted (by rfl) ms (by decide +kernel) (pa_cons (pv 9) pa_nil)) pa_nil)))))) pss_nil)))
      (pss_one (ps_ret (pv 7)))))))))), ?_⟩
    -- edges = restricted(after, members)
    refine ⟨.ref a, rfl, .ref b, rfl, a, b, G, M, rfl, ha, hb, hlt, hM, by omega, gw, fun H1 e s1 ne ⟨ps, he⟩ => ?_⟩
    have hE1 : ∀ u w, w ∈ rE G M u → u ∈ M ∧ w ∈ M := fun u w h => let ⟨h1, _, h2⟩ := mem_rE.mp h; ⟨h1, h2⟩
    -- order = []; seen = {}
    refine ⟨Nat.zero_le _, fun o no => ?_⟩
    have s2 : Same H1 (upd H1 o (.lst [])) := same_upd no
    intro sd nsd
    have nso : o ≠ sd := fun z => by rw [← z, upd_same] at nsd; cases nsd
    have s3 : Same (upd H1 o (.lst [])) (upd (upd H1 o (.lst [])) sd (.dK [])) := same_upd nsd
    generalize hH2 : upd (upd H1 o (.lst [])) sd (.dK []) = H2
    have s12 : Same H1 H2 := by rw [← hH2]; exact s2.trans s3
    have o2 : LA H2 o [] := by
      rw [← hH2]
      exact s3 o _ upd_same
    have sd2 : DS H2 sd [] := DS.nil (by rw [← hH2, upd_same])
    have nesd : e ≠ sd := ne_of_none (s2 e _ he.dct) nsd
    have fo : ∀ c u, H1 c = some u → c ≠ o := fun c u z => ne_of_none z no
    have fsd : ∀ c u, H1 c = some u → c ≠ sd := fun c u z => ne_of_none (s2 c u z) nsd
    have hb2 : LA H2 b M := s12 b _ (s1 b _ hb)
    refine ⟨.ref b, rfl, b, rfl, ⟨_, SqL.of hb2⟩, for_list (K := K) (a := b) (xs := nvs M) (fun i σ Hc => ∃ O S v5, σ = [some (.ref a), some (.ref b), some (.ref e), some (.ref o), some (.ref sd), v5, none, none, none, none] ∧ P1 (rE G M) M O i ∧ DS Hc sd S ∧ S.Nodup ∧ (∀ v, v ∈ S ↔ v ∈ O) ∧ LA Hc o O ∧ Same H1 Hc)
      ⟨[], [], none, rfl, P1.start _ _, sd2, List.nodup_nil, fun v => Iff.rfl, o2, s12⟩ (fun i σ Hc _ ⟨_, _, _, _, _, _, _, _, _, sm⟩ => SqL.of (sm b _ (s1 b _ hb))) ?_ ?_⟩
    · rintro i x σ Hc hx ⟨O, S, v5, rfl, p1, hS, Sn, SO, hO, sm⟩
      obtain ⟨n, hn, rfl⟩ := nvs_get hx
      obtain ⟨od, g, eo⟩ := hS.get n
      refine ⟨nv n, rfl, .ref sd, rfl, sd, od, rfl, g, _, rfl, ?_⟩
      show if (!od.isSome) = true then _ else _
      rw [eo]
      by_cases hnS : n ∈ S
      · rw [decide_eq_true hnS]
        exact iteF ⟨O, S, _, rfl, p1.skip hn ((SO n).mp hnS), hS, Sn, SO, hO, sm⟩
      · rw [decide_eq_false hnS]
        refine iteT ?_
        have hnM := List.mem_of_getElem? hn
        have Ol : O.length ≤ M.length := nodup_sub p1.nd p1.sub
        refine ⟨.ref e, rfl, nv n, rfl, .ref sd, rfl, .ref o, rfl, e, sd, o, n, M, S, O, rE G M, ps, rfl, he.same sm, hS, hO, nesd, fun p hp => fo _ _ (he.row p hp), by omega, fun u _ w h => (hE1 u w h).2, hnM, hnS, Sn, fun v hv => p1.sub v ((SO v).mp hv), by omega, ?_⟩
        intro H' new S' df ds' sn' mem' sub' o' kp
        refine ⟨O ++ new, S', _, rfl, p1.add hn SO (fun u w h => (hE1 u w h).2) df, ds', sn', fun v => ?_, o', fun c u z => kp c u (sm c u z) (fsd c u z) (fo c u z)⟩
        rw [mem', SO, List.mem_append]
    · rintro σ Hc ⟨O, S, v5, rfl, p1, hS, Sn, SO, hO, sm⟩
      rw [nvs_len] at p1
      have Ol : O.length ≤ M.length := nodup_sub p1.nd p1.sub
      -- back = turned(edges)
      refine ⟨.ref e, rfl, e, M, rE G M, rfl, ⟨ps, he.same sm⟩, hM, by omega, fun u _ => ⟨gw.rE_len M u, fun w h => (hE1 u w h).2⟩, fun H3 bk qs s3' nbk hbk => ?_⟩
      have hB : ∀ u w, u ∈ bE M (rE G M) w ↔ w ∈ rE G M u := fun u w => by
        rw [mem_bE]
        exact ⟨fun h => h.2, fun h => ⟨(hE1 u w h).1, h⟩⟩
      -- parts = []; taken = {}
      refine ⟨Nat.zero_le _, fun pa npa => ?_⟩
      intro tk ntk
      have s4 : Same H3 (upd H3 pa (.lst [])) := same_upd npa
      have s5 : Same (upd H3 pa (.lst [])) (upd (upd H3 pa (.lst [])) tk (.dK [])) := same_upd ntk
      have npt : pa ≠ tk := ne_of_none upd_same ntk
      have fpa : ∀ c u, H3 c = some u → c ≠ pa := fun c u z => ne_of_none z npa
      have ftk : ∀ c u, H3 c = some u → c ≠ tk := fun c u z => ne_of_none (s4 c u z) ntk
      generalize hH4 : upd (upd H3 pa (.lst [])) tk (.dK []) = H4
      have s34 : Same H3 H4 := by rw [← hH4]; exact s4.trans s5
      have pa4 : H4 pa = some (.lst []) := by
        rw [← hH4]
        exact s5 pa _ upd_same
      have tk4 : DS H4 tk [] := DS.nil (by rw [← hH4, upd_same])
      have o4 : LA H4 o O := s34 o _ (s3' o _ hO)
      have nbt : bk ≠ tk := ftk bk _ hbk.dct
      -- for node in order[::-1]
      refine ⟨.ref o, rfl, o, nvs O, rfl, SqL.of o4, fun rl nrl => ?_⟩
      have s6 : Same H4 (upd H4 rl (.lst (nvs O).reverse)) := same_upd nrl
      have nrp : rl ≠ pa := (ne_of_none pa4 nrl).symm
      have tk4' : H4 tk = some (.dK []) := by rw [← hH4, upd_same]
      have nrt : rl ≠ tk := (ne_of_none tk4' nrl).symm
      generalize hH5 : upd H4 rl (.lst (nvs O).reverse) = H5 at s6
      have rl5 : LA H5 rl O.reverse := by rw [← hH5, LA, upd_same, nvs_rev]
      have s35 : Same H3 H5 := s34.trans s6
      refine ⟨rl, rfl, ⟨_, SqL.of rl5⟩, for_list (K := K) (a := rl) (xs := nvs O.reverse) (fun i σ Hd => ∃ T Ps pps v5 v9, σ = [some (.ref a), some (.ref b), some (.ref e), some (.ref o), some (.ref sd), v5, some (.ref bk), some (.ref pa), some (.ref tk), v9] ∧ P2 (rE G M) (bE M (rE G M)) M O T Ps i ∧ DS Hd tk T ∧ T.Nodup ∧ LLp Hd pa Ps pps ∧ Ps.length ≤ i ∧ Same H3 Hd ∧ LA Hd rl O.reverse ∧ ∀ r, r ∈ pps → H r.1 = none)
        ⟨[], [], [], _, _, rfl, P2.start _ _ _ _, tk4.same (by rw [s6 tk _ tk4', tk4']), List.nodup_nil, LLp.nil (s6 pa _ pa4), Nat.le_refl _, s35, rl5, fun r hr => absurd hr (by simp)⟩ (fun i σ Hd _ ⟨_, _, _, _, _, _, _, _, _, _, _, _, h, _⟩ => SqL.of h) ?_ ?_⟩
      · rintro i x σ Hd hx ⟨T, Ps, pps, v5', v9, rfl, p2, hT, Tn, hP, hPl, smd, hrl, hnw⟩
        obtain ⟨n, hn, rfl⟩ := nvs_get hx
        obtain ⟨od, g, eo⟩ := hT.get n
        refine ⟨nv n, rfl, .ref tk, rfl, tk, od, rfl, g, _, rfl, ?_⟩
        show if (!od.isSome) = true then _ else _
        rw [eo]
        by_cases hnT : n ∈ T
        · rw [decide_eq_true hnT]
          exact iteF ⟨T, Ps, pps, _, _, rfl, p2.skip hn hnT, hT, Tn, hP, by omega, smd, hrl, hnw⟩
        · rw [decide_eq_false hnT]
          refine iteT ?_
          have hi := (List.getElem?_eq_some_iff.mp hn).1
          rw [List.length_reverse] at hi
          have hnM : n ∈ M := p1.sub n (by
            have := List.mem_of_getElem? hn
            rw [List.mem_reverse] at this
            exact this)
          -- part = []
          refine ⟨Nat.zero_le _, fun pp npp => ?_⟩
          have s7 : Same Hd (upd Hd pp (.lst [])) := same_upd npp
          have fpp : ∀ c u, Hd c = some u → c ≠ pp := fun c u z => ne_of_none z npp
          obtain ⟨_, htk, _⟩ := id hT
          have bkd : DEp (upd Hd pp (.lst [])) bk M (bE M (rE G M)) qs := (hbk.same smd).same s7
          refine ⟨.ref bk, rfl, nv n, rfl, .ref tk, rfl, .ref pp, rfl, bk, tk, pp, n, M, T, [], bE M (rE G M), qs, rfl, bkd, hT.same (by rw [s7 tk _ htk, htk]), upd_same, nbt, fun p hp => fpp _ _ (smd _ _ (hbk.row p hp)), by omega, fun u _ w h => (hE1 w u ((hB w u).mp h)).1, hnM, hnT, Tn, p2.sub, Nat.zero_le _, ?_⟩
          intro H' new T' df dt' tn' mem' sub' pp' kp
          have pp' : LA H' pp new := pp'
          have newl : new.length ≤ M.length := nodup_sub df.nd fun v hv => sub' v ((mem' v).mpr (.inr hv))
          have kd : ∀ c u, Hd c = some u → c ≠ tk → H' c = some u := fun c u z hc => kp c u (s7 c u z) hc (fpp c u z)
          have pa' : LLp H' pa Ps pps := ⟨kd pa _ hP.lst npt, hP.eq, fun p hp => kd _ _ (hP.row p hp) (ne_of (hP.row p hp) htk (by intro z; cases z))⟩
          -- parts.append(sorted(part))
          refine ⟨.ref pa, rfl, .inl ⟨rfl, _, SqL.of pa'.lst⟩, .ref pp, rfl, pp, new.map fun n : Nat => (n : Int), rfl, SqL.of (by rw [← nvs_cast]; exact pp'), (by rw [List.length_map]; omega), fun ms' sp perm srt nsp => ?_⟩
          obtain ⟨qs', e1, e2, e3, e4⟩ := sorted_nodes perm srt df.nd
          rw [e1]
          have s8 : Same H' (upd H' sp (.lst (nvs qs'))) := same_upd nsp
          have nsp' : ∀ c u, H' c = some u → c ≠ sp := fun c u z => ne_of_none z nsp
          have hpl : pps.length ≤ 60 := by
            have := hP.len
            omega
          refine ⟨pa, _, .ref sp, rfl, rfl, s8 pa _ pa'.lst, (by rw [List.length_map]; exact line1000 (by omega)), ?_⟩
          refine ⟨T', Ps ++ [qs'], pps ++ [(sp, qs')], _, _, rfl, p2.add hn hnT p1 hE1 hB df mem' e2 e3, ?_, tn', pa'.snoc upd_same (fun p hp => ?_) ?_, by rw [List.length_append, List.length_singleton]; omega, fun c u z => ?_, ?_, fun r hr => ?_⟩
          · obtain ⟨_, htk', _⟩ := id dt'
            exact dt'.same (by rw [upd_ne npt.symm, upd_ne (nsp' tk _ htk')])
          · have z := pa'.row p hp
            rw [upd_ne (fun ec => ?_), upd_ne (nsp' _ _ z)]
            have := pa'.lst
            rw [← ec, z] at this
            injection this with this
            injection this with this
            cases pps with
            | nil => cases hp
            | cons p0 r0 =>
              cases hg : p.2 with
              | nil =>
                rw [hg] at this
                cases this
              | cons g0 g1 =>
                rw [hg] at this
                cases this
          · show upd _ pa _ sp = _
            rw [upd_ne (nsp' pa _ pa'.lst).symm, upd_same]
          · have z1 := smd c u z
            rw [upd_ne (fpa c u z)]
            exact s8 c u (kd c u z1 (ftk c u z))
          · show upd _ pa _ rl = _
            rw [upd_ne nrp]
            exact s8 rl _ (kd rl _ hrl nrt)
          · rcases List.mem_append.mp hr with z | z
            · exact hnw r z
            · rw [List.mem_singleton.mp z]
              exact (show Same H H' from fun c u z => kd c u (smd c u (s3' c u (sm c u (s1 c u z)))) (ftk c u (s3' c u (sm c u (s1 c u z))))).free nsp
      · rintro σ Hd ⟨T, Ps, pps, v5', v9, rfl, p2, hT, Tn, hP, hPl, smd, hrl, hnw⟩
        rw [nvs_len, List.length_reverse] at p2
        exact ⟨.ref pa, rfl, q Hd pa Ps pps (fun c u z => smd c u (s3' c u (sm c u (s1 c u z)))) ((show Same H H3 from fun c u z => s3' c u (sm c u (s1 c u z))).free npa) hP hnw (p2.end (Nat.le_refl _) p1)⟩
end
end K56
set_option Elab.async false
set_option linter.all false
set_option maxRecDepth 100000
set_option maxHeartbeats 4000000
/-! K56Ff: distances, reachable, node_before. -/
namespace K56
open PySem PySem.Spec PyProof.Rows L2
/-- a distance or None -/
def dv : Option Nat → V
  | none => .non
  | some d => nv d
abbrev dvs (D : List (Option Nat)) : List V := D.map dv
theorem dvs_at {D : List (Option Nat)} {v : Nat} {o : Option Nat} (h : D[v]? = some o) : atI (dvs D) (v : Int) = some (dv o) := atI_nat (by rw [List.getElem?_map, h]; rfl)
theorem ixN_nat {n j : Nat} (h : j < n) : ixN n (j : Int) = some j := by
  unfold ixN
  rw [if_pos (Int.natCast_nonneg _), if_pos (by omega)]
  simp
theorem dvs_set (D : List (Option Nat)) (v : Nat) (o : Option Nat) : (dvs D).set v (dv o) = dvs (D.set v o) := List.map_set.symm
theorem dv_non (o : Option Nat) : decide (dv o = V.non) = o.isNone := by
  cases o with
  | none => rfl
  | some d => exact decide_eq_false (fun z => by cases z)
section
variable {P : Program} {w : World} {K : PySem.W.Frag} {mg : Str → Option Value} {base : Heap}
/-! ### distances -/
abbrev sDist : Stmt := topS 13
abbrev nDist : List Str := ["after", "starts", "steps", "queue", "node", "done", "target", "_"]
theorem scDist : FnScope nDist ["after", "starts"] (defScope sDist) := ⟨rfl, rfl, rfl, by decide +kernel, rfl, by decide +kernel, by decide +kernel⟩
def spDist : Sp := fun vs H Q _ => ∃ (a b : Addr) (G : List (List Nat)) (S : List Nat), vs = [.ref a, .ref b] ∧ LL H a G ∧ LA H b S ∧ (∀ x, x ∈ S → x < G.length) ∧ GW G ∧
  ∀ (H' : Hp) (p : Addr) (D : List (Option Nat)), Same H H' → H' p = some (.lst (dvs D)) → DistOk G S D → Q (.ref p) H'
theorem ok_dist {f : Addr} {fd : FuncData} (F : Fun K "distances" "distances" sDist f fd) (ml : mg "len" = none) : FnOk P w K mg base CX0 1 f fd ["after", "starts"] spDist := by
  refine F.ok scDist (fun vs H Q E h => ?_) (fun cdv A outer s H vs Q E hr h => ?_)
  · obtain ⟨a, b, G, S, rfl, _⟩ := h
    rfl
  · obtain ⟨a, b, G, S, rfl, ha, hb, hlt, gw, q⟩ := h
    refine ⟨_, pss_cons (ps_setLc (i := 2) (own := [("_", 7)]) (g := gName 7) (tt := tYes) rfl scDist.nd rfl rfl (sw_true rfl rfl rfl (by decide +kernel)) (pi_list (pv 0)) (blkOk_by (N := nDist) (sc := defScope sDist) (by decide +kernel)) (fun _ _ _ _ _ => pg_name (i := 7) scDist.nd rfl (.inl rfl)) (fun _ _ _ _ _ => pts_nil) (fun _ _ _ _ _ => pe_non))
      (pss_cons (ps_set (i := 3) scDist.nd rfl (.inl rfl) (pe_lst pa_nil))
      (pss_cons (ps_for PassesOwn.never rfl (pi_list (pv 1)) (pg_name (i := 4) scDist.nd rfl (.inl rfl))
        (pss_one (ps_if (pt_cmp (pc_isN (pe_ix ix_list (pv 2) (pv 4) (fun _ _ => rfl))))
          (pss_cons (ps_asg pe_int (pg_sub (pv 2) (pv 4) set_list)) (pss_one (ps_expr (pe_bm PySem.F.plainAttrs_list PySem.F.slot_list_append PySem.F.type_list_append mt_append (pv 3) (pa_cons (pv 4) pa_nil))))) pss_nil)))
      (pss_cons (ps_set (i := 5) scDist.nd rfl (.inl rfl) pe_int)
      (pss_cons (ps_while PassesOwn.never (pt_cmpR op_lt (pv 5) (pe_callB call_len_seq (by rfl) ml PySem.boot_len (pa_cons (pv 3) pa_nil)) (nomark _))
        (pss_cons (ps_set (i := 4) scDist.nd rfl (.inl rfl) (pe_ix ix_list (pv 3) (pv 5) (fun _ _ => rfl)))
        (pss_cons (ps_for PassesOwn.never rfl (pi_list (pe_ix ix_list (pv 0) (pv 4) (fun _ _ => rfl))) (pg_name (i := 6) scDist.nd rfl (.inl rfl))
          (pss_one (ps_if (pt_cmp (pc_isN (pe_ix ix_list (pv 2) (pv 6) (fun _ _ => rfl))))
            (pss_cons (ps_asg (pe_op op_add (pe_ix ix_list (pv 2) (pv 4) (fun _ _ => rfl)) pe_int) (pg_sub (pv 2) (pv 6) set_list)) (pss_one (ps_expr (pe_bm PySem.F.plainAttrs_list PySem.F.slot_list_append PySem.F.type_list_append mt_append (pv 3) (pa_cons (pv 6) pa_nil))))) pss_nil)))
        (pss_one (ps_aug (i := 5) scDist.nd rfl (.inl rfl) pe_int ip_add)))))
      (pss_one (ps_ret (pv 2))))))), ?_⟩
    obtain ⟨ps, hap⟩ := id ha
    have hpl := hap.len
    have hn := gw.n60
    -- steps = [None for _ in after]
    refine ⟨.ref a, rfl, a, rfl, ⟨_, SqL.of hap.lst⟩, fun st nst => ?_⟩
    refine lc_list (K := K) (a := a) (xs := ps.map fun p => V.ref p.1) (fun i H1 => Same H H1 ∧ H1 st = some (.lst (dvs (List.replicate i none)))) ⟨same_upd nst, upd_same⟩ (fun i H1 _ p => SqL.of (p.1 _ _ hap.lst)) (fun i x H1 hx p => ?_) (fun H1 p => ?_)
    · refine ⟨rfl, yes ⟨_, p.2, ?_, fun c u z => ?_, ?_⟩⟩
      · have hi := (List.getElem?_eq_some_iff.mp hx).1
        rw [List.length_map] at hi
        rw [List.length_map, List.length_replicate]
        exact line1000 (by omega)
      · rw [upd_ne (ne_of_none z nst)]
        exact p.1 c u z
      · rw [upd_same, List.replicate_succ']
        show some (HO.lst (dvs (List.replicate i none) ++ [dv none])) = some (HO.lst ((List.replicate i none ++ [none]).map dv))
        rw [List.map_append]
        rfl
    · obtain ⟨s1, h1⟩ := p
      rw [List.length_map, hpl] at h1
      -- queue = []
      refine ⟨Nat.zero_le _, fun qa nqa => ?_⟩
      have nsq : st ≠ qa := ne_of_none h1 nqa
      have s2 : Same H1 (upd H1 qa (.lst [])) := same_upd nqa
      have fst : ∀ c u, H c = some u → c ≠ st := fun c u z => ne_of_none z nst
      have fqa : ∀ c u, H c = some u → c ≠ qa := fun c u z => ne_of_none (s1 c u z) nqa
      have setq : ∀ {Hc : Hp} {D : List (Option Nat)} {qu : List Nat} {v : Nat} {o : Option Nat}, Same H Hc → Same H (upd (upd Hc st (.lst (dvs D))) qa (.lst (nvs qu))) := fun sm c u z => by
        rw [upd_ne (fqa c u z), upd_ne (fst c u z)]
        exact sm c u z
      have hb2 : ∀ {Hc : Hp}, Same H Hc → SqL K Hc b (nvs S) := fun sm => SqL.of (sm b _ hb)
      refine ⟨.ref b, rfl, b, rfl, ⟨_, hb2 (s1.trans s2)⟩, for_list (K := K) (a := b) (xs := nvs S) (fun i σ Hc => ∃ D qu v4, σ = [some (.ref a), some (.ref b), some (.ref st), some (.ref qa), v4, none, none, none] ∧ BI G S D qu ∧ (∀ x, x ∈ S.take i → x ∈ qu) ∧ Same H Hc ∧ Hc st = some (.lst (dvs D)) ∧ LA Hc qa qu)
        ⟨_, [], _, rfl, BI.start G S, fun x hx => absurd hx (by simp), s1.trans s2, s2 st _ h1, upd_same⟩ (fun i σ Hc _ ⟨_, _, _, _, _, _, sm, _⟩ => hb2 sm) ?_ ?_⟩
      · rintro i x σ Hc hx ⟨D, qu, v4, rfl, bi, hS, sm, hst, hqa⟩
        obtain ⟨n, hn', rfl⟩ := nvs_get hx
        have hnS := List.mem_of_getElem? hn'
        have hnl : n < D.length := by rw [bi.len]; exact hlt n hnS
        obtain ⟨o, ho⟩ : ∃ o, D[n]? = some o := ⟨_, List.getElem?_eq_getElem hnl⟩
        refine ⟨.ref st, rfl, nv n, rfl, st, dvs D, _, dv o, rfl, rfl, SqL.of hst, dvs_at ho, _, rfl, ?_⟩
        show if decide (dv o = V.non) = true then _ else _
        rw [dv_non]
        cases o with
        | some d =>
          refine iteF ⟨D, qu, _, rfl, bi, fun x hx => ?_, sm, hst, hqa⟩
          rcases mem_take_succ hn' hx with z | z
          · exact hS x z
          · rw [z]
            exact (bi.mem n).mpr ⟨d, ho⟩
        | none =>
          refine iteT ?_
          refine ⟨.ref st, rfl, nv n, rfl, st, dvs D, _, n, rfl, rfl, hst, ixN_nat (by rw [List.length_map]; exact hnl), ?_⟩
          rw [show (dvs D).set n (.int 0) = dvs (D.set n (some 0)) from dvs_set D n (some 0)]
          have hq2 : upd Hc st (.lst (dvs (D.set n (some 0)))) qa = some (.lst (nvs qu)) := by rw [upd_ne nsq.symm]; exact hqa
          refine ⟨.ref qa, rfl, .inl ⟨rfl, _, SqL.of hq2⟩, nv n, rfl, qa, _, _, rfl, rfl, hq2, ?_, D.set n (some 0), qu ++ [n], _, rfl, bi.push ho (.inl ⟨rfl, hnS⟩), fun x hx => ?_, ?_, ?_, ?_⟩
          · have := bi.qlen
            rw [nvs_len]
            exact line1000 (by omega)
          · rcases mem_take_succ hn' hx with z | z
            · exact List.mem_append_left _ (hS x z)
            · rw [z]
              simp
          · rw [nvs_snoc]
            exact setq (v := 0) (o := none) sm
          · rw [upd_ne nsq, upd_same]
          · rw [LA, upd_same, nvs_snoc]
      · rintro σ Hc ⟨D, qu, v4, rfl, bi, hS, sm, hst, hqa⟩
        rw [nvs_len, List.take_length] at hS
        refine ⟨fun m σ Hc => ∃ D qu v4 v6 dn, σ = [some (.ref a), some (.ref b), some (.ref st), some (.ref qa), v4, some (nv dn), v6, none] ∧ BI G S D qu ∧ (∀ x, x ∈ S → x ∈ qu) ∧ dn ≤ qu.length ∧ (∀ i u, i < dn → qu[i]? = some u → ∀ v, v ∈ gE G u → v ∈ qu) ∧ Same H Hc ∧ Hc st = some (.lst (dvs D)) ∧ LA Hc qa qu ∧ m = G.length - dn,
          ⟨_, D, qu, v4, none, 0, rfl, bi, hS, Nat.zero_le _, fun i u h => absurd h (Nat.not_lt_zero _), sm, hst, hqa, rfl⟩, ?_⟩
        rintro m σ Hc ⟨D, qu, v4, v6, dn, rfl, bi, hS, hdn, hcl, sm, hst, hqa, rfl⟩
        have hql := bi.qlen
        refine ⟨nv dn, rfl, .ref qa, rfl, qa, nvs qu, rfl, .inl (SqL.of hqa), _, _, rfl, rfl, _, rfl, ?_⟩
        refine ite2 (fun ed => ?_) (fun ed => ?_)
        · have ed : dn < qu.length := by
            have := of_decide_eq_true ed
            rw [nvs_len] at this
            omega
          obtain ⟨u, hu⟩ : ∃ u, qu[dn]? = some u := ⟨_, List.getElem?_eq_getElem ed⟩
          have huq := List.mem_of_getElem? hu
          have hult := bi.lt huq
          refine ⟨fun σ' H' => ∃ D qu v4 v6 dn', σ' = [some (.ref a), some (.ref b), some (.ref st), some (.ref qa), v4, some (nv dn'), v6, none] ∧ BI G S D qu ∧ (∀ x, x ∈ S → x ∈ qu) ∧ dn' ≤ qu.length ∧ (∀ i u, i < dn' → qu[i]? = some u → ∀ v, v ∈ gE G u → v ∈ qu) ∧ Same H H' ∧ H' st = some (.lst (dvs D)) ∧ LA H' qa qu ∧ G.length - dn' < G.length - dn,
            fun σ' H' ⟨D, qu, v4, v6, dn', h1, h2, h3, h4, h5, h6, h7, h8, h9⟩ => ⟨_, h9, D, qu, v4, v6, dn', h1, h2, h3, h4, h5, h6, h7, h8, rfl⟩, ?_⟩
          -- node = queue[done]
          refine ⟨.ref qa, rfl, nv dn, rfl, qa, nvs qu, _, nv u, rfl, rfl, SqL.of hqa, atI_nat (by rw [List.getElem?_map, hu]; rfl), ?_⟩
          obtain ⟨xs, r, e1, e2, hr'⟩ := ha.at hult
          refine ⟨.ref a, rfl, nv u, rfl, a, xs, _, .ref r, rfl, rfl, SqL.of (sm _ _ e1), e2, r, rfl, ⟨_, SqL.of (sm _ _ hr')⟩, for_list (K := K) (a := r) (xs := nvs (gE G u)) (fun j σ Hd => ∃ D qu' v6, σ = [some (.ref a), some (.ref b), some (.ref st), some (.ref qa), some (nv u), some (nv dn), v6, none] ∧ BI G S D qu' ∧ (∃ more, qu' = qu ++ more) ∧ (∀ x, x ∈ (gE G u).take j → x ∈ qu') ∧ Same H Hd ∧ Hd st = some (.lst (dvs D)) ∧ LA Hd qa qu')
            ⟨D, qu, _, rfl, bi, ⟨[], (List.append_nil _).symm⟩, fun x hx => absurd hx (by simp), sm, hst, hqa⟩ (fun j σ Hd _ ⟨_, _, _, _, _, _, _, sm, _⟩ => SqL.of (sm _ _ hr')) ?_ ?_⟩
          · rintro j y σ Hd hy ⟨D, qu', v6, rfl, bi, ⟨more, hmore⟩, hj, sm, hst, hqa⟩
            obtain ⟨t, ht, rfl⟩ := nvs_get hy
            have htG := List.mem_of_getElem? ht
            have htl : t < D.length := by rw [bi.len]; exact gw.gE_lt htG
            have huq' : u ∈ qu' := by rw [hmore]; exact List.mem_append_left _ huq
            obtain ⟨o, ho⟩ : ∃ o, D[t]? = some o := ⟨_, List.getElem?_eq_getElem htl⟩
            refine ⟨.ref st, rfl, nv t, rfl, st, dvs D, _, dv o, rfl, rfl, SqL.of hst, dvs_at ho, _, rfl, ?_⟩
            show if decide (dv o = V.non) = true then _ else _
            rw [dv_non]
            cases o with
            | some d =>
              refine iteF ⟨D, qu', _, rfl, bi, ⟨more, hmore⟩, fun x hx => ?_, sm, hst, hqa⟩
              rcases mem_take_succ ht hx with z | z
              · exact hj x z
              · rw [z]
                exact (bi.mem t).mpr ⟨d, ho⟩
            | none =>
              refine iteT ?_
              obtain ⟨d, hd⟩ := (bi.mem u).mp huq'
              refine ⟨.ref st, rfl, nv u, rfl, st, dvs D, _, nv d, rfl, rfl, SqL.of hst, dvs_at hd, _, _, rfl, rfl, .ref st, rfl, nv t, rfl, st, dvs D, _, t, rfl, rfl, hst, ixN_nat (by rw [List.length_map]; exact htl), ?_⟩
              rw [show (dvs D).set t (.int ((d : Int) + 1)) = dvs (D.set t (some (d + 1))) from dvs_set D t (some (d + 1))]
              have hq2 : upd Hd st (.lst (dvs (D.set t (some (d + 1))))) qa = some (.lst (nvs qu')) := by rw [upd_ne nsq.symm]; exact hqa
              have hql' := bi.qlen
              refine ⟨.ref qa, rfl, .inl ⟨rfl, _, SqL.of hq2⟩, nv t, rfl, qa, _, _, rfl, rfl, hq2, ?_, D.set t (some (d + 1)), qu' ++ [t], _, rfl, bi.push ho (.inr ⟨u, d, rfl, hd, htG⟩), ⟨more ++ [t], by rw [hmore, List.append_assoc]⟩, fun x hx => ?_, ?_, ?_, ?_⟩
              · rw [nvs_len]
                exact line1000 (by omega)
              · rcases mem_take_succ ht hx with z | z
                · exact List.mem_append_left _ (hj x z)
                · rw [z]
                  simp
              · rw [nvs_snoc]
                exact setq (v := 0) (o := none) sm
              · rw [upd_ne nsq, upd_same]
              · rw [LA, upd_same, nvs_snoc]
          · rintro σ Hd ⟨D, qu', v6, rfl, bi, ⟨more, hmore⟩, hj, sm, hst, hqa⟩
            rw [nvs_len, List.take_length] at hj
            have hql' := bi.qlen
            have hlen' : dn < qu'.length := by rw [hmore, List.length_append]; omega
            refine ⟨_, rfl, _, _, rfl, rfl, D, qu', _, _, dn + 1, rfl, bi, fun x hx => ?_, hlen', fun i u' hi hu' v hv => ?_, sm, hst, hqa, by omega⟩
            · rw [hmore]
              exact List.mem_append_left _ (hS x hx)
            · by_cases hid : i = dn
              · subst hid
                rw [hmore, List.getElem?_append_left ed, hu] at hu'
                cases hu'
                exact hj v hv
              · rw [hmore, List.getElem?_append_left (by omega)] at hu'
                rw [hmore]
                exact List.mem_append_left _ (hcl i u' (by omega) hu' v hv)
        · have ed : ¬ dn < qu.length := fun z => ed (decide_eq_true (by rw [nvs_len]; omega))
          refine ⟨.ref st, rfl, q Hc st D sm hst (bi.fin hS fun u hu v hv => ?_)⟩
          obtain ⟨i, hi, ei⟩ := List.getElem_of_mem hu
          exact hcl i u (by omega) (by rw [List.getElem?_eq_getElem hi, ei]) v hv
end
end K56
set_option Elab.async false
set_option linter.all false
set_option maxRecDepth 100000
set_option maxHeartbeats 4000000
/-! K56Fg: reachable, node_before, way, round_trip. -/
namespace K56
open PySem PySem.Spec PyProof.Rows L2
theorem getB {D : List (Option Nat)} {v : Nat} {o : Option Nat} (h : D[v]? = some o) : D.getD v none = o := by
  rw [List.getD_eq_getElem?_getD, h]
  rfl
theorem last_at {w : List Nat} {x : Nat} (h : w[w.length - 1]? = some x) : atI (nvs w) (-1) = some (nv x) := by
  have hne : w ≠ [] := fun e => by
    rw [e] at h
    simp at h
  have e : w = w.dropLast ++ [x] := by
    have h1 := List.dropLast_concat_getLast hne
    have h2 : w.getLast hne = x := by
      have := List.getLast?_eq_getElem? (l := w)
      rw [h, List.getLast?_eq_some_getLast hne] at this
      exact Option.some.inj this
    rw [← h2]
    exact h1.symm
  rw [e, show nvs (w.dropLast ++ [x]) = nvs w.dropLast ++ [nv x] from (nvs_snoc _ _).symm]
  exact atI_last _ _
section
variable {P : Program} {w : World} {K : PySem.W.Frag} {mg : Str → Option Value} {base : Heap}
/-! ### reachable -/
abbrev sReach : Stmt := topS 12
abbrev nReach : List Str := ["after", "starts", "node", "steps"]
theorem scReach : FnScope nReach ["after", "starts"] (defScope sReach) := ⟨rfl, rfl, rfl, by decide +kernel, rfl, by decide +kernel, by decide +kernel⟩
def spReach : Sp := fun vs H Q _ => ∃ (a b : Addr) (G : List (List Nat)) (S : List Nat), vs = [.ref a, .ref b] ∧ LL H a G ∧ LA H b S ∧ (∀ x, x ∈ S → x < G.length) ∧ GW G ∧
  ∀ (H' : Hp) (p : Addr) (ns : List Nat), Same H H' → LA H' p ns → Asc ns → (∀ v, v ∈ ns ↔ Rs G S v) → (∀ v, v ∈ ns → v < G.length) → Q (.ref p) H'
theorem ok_reach {f fD : Addr} {fd fdD : FuncData} (F : Fun K "reachable" "reachable" sReach f fd) (DD : Df K mg "distances" 13 ["after", "starts"] fD fdD) (ml : mg "len" = none) (me : mg "enumerate" = none) : FnOk P w K mg base CX0 2 f fd ["after", "starts"] spReach := by
  have GD : FnOk P w K mg base CX0 1 fD fdD ["after", "starts"] spDist := ok_dist DD.F ml
  refine F.ok scReach (fun vs H Q E h => ?_) (fun cdv A outer s H vs Q E hr h => ?_)
  · obtain ⟨a, b, G, S, rfl, _⟩ := h
    rfl
  · obtain ⟨a, b, G, S, rfl, ha, hb, hlt, gw, q⟩ := h
    refine ⟨_, pss_one (ps_ret (pe_lc (own := [("node", 2), ("steps", 3)]) (g := gTup K 2 (gCons (gName 2) (gCons (gName 3) gNil))) rfl scReach.nd (pi_enum (by rfl) me (pa_cons (pe_call GD hr (by rfl) DD.g DD.F.kp DD.b .nil pass0 (pa_cons (pv 0) (pa_cons (pv 1) pa_nil))) pa_nil)) (blkOk_by (N := nReach) (sc := defScope sReach) (by decide +kernel))
      (fun _ _ _ _ _ => pg_tup rfl (pgs_cons (pg_name (i := 2) scReach.nd rfl (.inl rfl)) (pgs_cons (pg_name (i := 3) scReach.nd rfl (.inl rfl)) pgs_nil))) (fun _ _ _ _ _ => pts_one (pt_cmp (pc_notN (pv 3)))) (fun _ _ _ _ _ => pv 2))), ?_⟩
    refine ⟨.ref a, rfl, .ref b, rfl, a, b, G, S, rfl, ha, hb, hlt, gw, fun H1 dp D s1 hD dok => ?_⟩
    have hn := gw.n60
    have hDl := dok.len
    refine ⟨dp, _, rfl, SqL.of hD, fun l nl => ?_⟩
    refine lc_it walk_enum (fun i H2 => Same H1 H2 ∧ H2 l = some (.lst (nvs ((List.range i).filter fun v => (D.getD v none).isSome)))) ⟨same_upd nl, upd_same⟩ (fun i H2 _ p => SqL.of (p.1 _ _ hD)) (fun i x H2 H2' hi p y => ?_) (fun H2 p => ?_)
    · obtain ⟨s2, hl⟩ := p
      obtain ⟨T, x1, x2, rfl, nT, rfl, h1, h2⟩ := y
      rw [List.length_map] at hi
      obtain ⟨o, ho⟩ : ∃ o, D[i]? = some o := ⟨_, List.getElem?_eq_getElem hi⟩
      have e1 : V.int (i : Int) = x1 := Option.some.inj h1
      have e2 : dv o = x2 := by
        have h2 : (dvs D)[i]? = some x2 := h2
        rw [List.getElem?_map, ho] at h2
        exact Option.some.inj h2
      subst e1 e2
      have nlT : l ≠ T := ne_of_none hl nT
      have sT : Same H2 (upd H2 T (.tup [.int (i : Int), dv o])) := same_upd nT
      refine ⟨T, _, rfl, SqT.of upd_same, rfl, _, _, rfl, _, _, rfl, rfl, rfl, _, rfl, _, rfl, ?_⟩
      show if (!decide (dv o = V.non)) = true then _ else _
      rw [dv_non]
      have er : (List.range (i + 1)).filter (fun v => (D.getD v none).isSome) = (List.range i).filter (fun v => (D.getD v none).isSome) ++ if o.isSome then [i] else [] := by
        rw [List.range_succ, List.filter_append]
        congr 1
        rw [List.filter_cons, List.filter_nil, getB ho]
      cases o with
      | none =>
        refine iteF ⟨s2.trans sT, ?_⟩
        rw [er]
        show upd H2 T _ l = some (.lst (nvs (_ ++ [])))
        rw [List.append_nil, upd_ne nlT]
        exact hl
      | some d =>
        refine iteT ?_
        refine ⟨.int (i : Int), rfl, _, sT l _ hl, ?_, fun c u z => ?_, ?_⟩
        · rw [nvs_len]
          have := List.length_filter_le (fun v => (D.getD v none).isSome) (List.range i)
          rw [List.length_range] at this
          exact line1000 (by omega)
        · rw [upd_ne (ne_of_none z nl)]
          exact sT c u (s2 c u z)
        · rw [upd_same, er]
          show some (HO.lst (nvs _ ++ [nv i])) = some (.lst (nvs (_ ++ [i])))
          rw [nvs_snoc]
    · obtain ⟨s2, hl⟩ := p
      rw [List.length_map] at hl
      have hm : ∀ v, v ∈ (List.range D.length).filter (fun v => (D.getD v none).isSome) ↔ ∃ d, D[v]? = some (some d) := fun v => by
        rw [List.mem_filter, List.mem_range]
        constructor
        · rintro ⟨h1, h2⟩
          obtain ⟨o, ho⟩ : ∃ o, D[v]? = some o := ⟨_, List.getElem?_eq_getElem h1⟩
          rw [getB ho] at h2
          cases o with
          | none => cases h2
          | some d => exact ⟨d, ho⟩
        · rintro ⟨d, hd⟩
          exact ⟨(List.getElem?_eq_some_iff.mp hd).1, by rw [getB hd]; rfl⟩
      refine q H2 l _ (fun c u z => s2 c u (s1 c u z)) hl (List.pairwise_lt_range.filter _) (fun v => (hm v).trans (dok.rs v)) fun v hv => ?_
      obtain ⟨d, hd⟩ := (hm v).mp hv
      have := (List.getElem?_eq_some_iff.mp hd).1
      omega
/-! ### node_before -/
abbrev sNb : Stmt := topS 15
abbrev nNb : List Str := ["after", "steps", "node", "before", "targets"]
theorem scNb : FnScope nNb ["after", "steps", "node"] (defScope sNb) := ⟨rfl, rfl, rfl, by decide +kernel, rfl, by decide +kernel, by decide +kernel⟩
def spNb : Sp := fun vs H Q _ => ∃ (a t : Addr) (G : List (List Nat)) (D : List (Option Nat)) (n d : Nat), vs = [.ref a, .ref t, nv n] ∧ LL H a G ∧ H t = some (.lst (dvs D)) ∧ D.length = G.length ∧ D[n]? = some (some (d + 1)) ∧ (∃ u, D[u]? = some (some d) ∧ n ∈ gE G u) ∧
  ∀ (H' : Hp) (u : Nat), Same H H' → D[u]? = some (some d) → n ∈ gE G u → Q (nv u) H'
theorem ok_nb {f : Addr} {fd : FuncData} (F : Fun K "node_before" "node_before" sNb f fd) (me : mg "enumerate" = none) : FnOk P w K mg base CX0 1 f fd ["after", "steps", "node"] spNb := by
  refine F.ok scNb (fun vs H Q E h => ?_) (fun cdv A outer s H vs Q E hr h => ?_)
  · obtain ⟨a, t, G, D, n, d, rfl, _⟩ := h
    rfl
  · obtain ⟨a, t, G, D, n, d, rfl, ⟨ps, ha⟩, ht, hDl, hn, ⟨u0, hu1, hu2⟩, q⟩ := h
    refine ⟨_, pss_cons (ps_for PassesOwn.never rfl (pi_enum (by rfl) me (pa_cons (pv 0) pa_nil)) (pg_tup rfl (pgs_cons (pg_name (i := 3) scNb.nd rfl (.inl rfl)) (pgs_cons (pg_name (i := 4) scNb.nd rfl (.inl rfl)) pgs_nil)))
      (pss_one (ps_if (PW.pt (pw_and (pt_cmp (pc_notN (pe_ix ix_list (pv 1) (pv 3) (fun _ _ => rfl)))) (pw_and (pt_cmpR op_eq (pe_op op_add (pe_ix ix_list (pv 1) (pv 3) (fun _ _ => rfl)) pe_int) (pe_ix ix_list (pv 1) (pv 2) (fun _ _ => rfl)) (nomark _)) (pw_and1 (pt_cmpR op_in_seq (pv 2) (pv 4) (by rfl)))))) (pss_one (ps_ret (pv 3))) pss_nil)))
      (pss_one (ps_ret (pv 2))), ?_⟩
    refine ⟨.ref a, rfl, a, _, rfl, SqL.of ha.lst, for_it walk_enum (fun i σ H1 => ∃ v3 v4, σ = [some (.ref a), some (.ref t), some (nv n), v3, v4] ∧ Same H H1 ∧ ∀ u, u < i → ¬ (D[u]? = some (some d) ∧ n ∈ gE G u)) ⟨_, _, rfl, Same.refl H, fun u h => absurd h (Nat.not_lt_zero _)⟩ (fun i σ H1 _ ⟨_, _, _, s1, _⟩ => SqL.of (s1 _ _ ha.lst)) ?_ ?_⟩
    · rintro i x σ H1 H1' hi ⟨v3, v4, rfl, s1, hno⟩ ⟨T, x1, x2, rfl, nT, rfl, h1, h2⟩
      have e1 : V.int (i : Int) = x1 := Option.some.inj h1
      obtain ⟨r, g, e2, hg, hr', _⟩ := ha.item h2
      subst e1 e2
      have sT : Same H1 (upd H1 T (.tup [.int (i : Int), .ref r])) := same_upd nT
      have sm : Same H (upd H1 T (.tup [.int (i : Int), .ref r])) := s1.trans sT
      rw [List.length_map, ha.len] at hi
      obtain ⟨o, ho⟩ : ∃ o, D[i]? = some o := ⟨_, List.getElem?_eq_getElem (by omega)⟩
      have eg : gE G i = g := gE_at hg
      have ht' : SqL K (upd H1 T (.tup [.int (i : Int), .ref r])) t (dvs D) := SqL.of (sm t _ ht)
      refine ⟨T, _, rfl, SqT.of upd_same, rfl, _, _, rfl, _, _, rfl, rfl, ?_⟩
      have skip : ¬ (D[i]? = some (some d) ∧ n ∈ gE G i) → ∃ v3 v4, [some (V.ref a), some (.ref t), some (nv n), some (.int (i : Int)), some (.ref r)] = [some (.ref a), some (.ref t), some (nv n), v3, v4] ∧ Same H (upd H1 T (.tup [.int (i : Int), .ref r])) ∧ ∀ u, u < i + 1 → ¬ (D[u]? = some (some d) ∧ n ∈ gE G u) := fun hx => ⟨_, _, rfl, sm, fun u hu => by
        by_cases e : u = i
        · rw [e]
          exact hx
        · exact hno u (by omega)⟩
      refine ⟨.ref t, rfl, nv i, rfl, t, dvs D, _, dv o, rfl, rfl, ht', dvs_at ho, _, rfl, ?_⟩
      show if (!decide (dv o = V.non)) = true then _ else _
      rw [dv_non]
      cases o with
      | none => exact iteF (iteF (skip fun z => by rw [ho] at z; cases z.1))
      | some e =>
        refine iteT ⟨.ref t, rfl, nv i, rfl, t, dvs D, _, nv e, rfl, rfl, ht', dvs_at ho, _, _, rfl, rfl, .ref t, rfl, nv n, rfl, t, dvs D, _, nv (d + 1), rfl, rfl, ht', dvs_at hn, rfl, _, rfl, ?_⟩
        refine ite2 (fun ee => ?_) (fun ee => ?_)
        · have ee : e = d := by
            have := V.int.inj (of_decide_eq_true ee)
            omega
          subst ee
          refine ⟨nv n, rfl, .ref r, rfl, r, nvs g, rfl, .inl (SqL.of (sm r _ hr')), rfl, flat_nvs g, _, rfl, ?_⟩
          show if inV (nv n) (nvs g) = true then _ else _
          rw [inV_nv]
          by_cases hm : n ∈ g
          · rw [decide_eq_true hm]
            exact iteT ⟨_, rfl, q _ i sm ho (by rw [eg]; exact hm)⟩
          · rw [decide_eq_false hm]
            exact iteF (skip fun z => hm (by rw [← eg]; exact z.2))
        · have ee : ¬ e = d := fun z => ee (decide_eq_true (by rw [z]; rfl))
          exact iteF (skip fun z => ee (by
            have := ho.symm.trans z.1
            cases this
            rfl))
    · rintro σ H1 ⟨v3, v4, rfl, s1, hno⟩
      rw [List.length_map, ha.len] at hno
      have := (List.getElem?_eq_some_iff.mp hu1).1
      exact absurd ⟨hu1, hu2⟩ (hno u0 (by omega))
/-! ### way -/
abbrev sWay : Stmt := topS 9
abbrev nWay : List Str := ["edges", "start", "goal", "before", "queue", "done", "node", "target", "walk"]
theorem scWay : FnScope nWay ["edges", "start", "goal"] (defScope sWay) := ⟨rfl, rfl, rfl, by decide +kernel, rfl, by decide +kernel, by decide +kernel⟩
def spWay : Sp := fun vs H Q _ => ∃ (e : Addr) (M : List Nat) (E : Nat → List Nat) (st g : Nat), vs = [.ref e, nv st, nv g] ∧ DE H e M E ∧ M.length ≤ 1000 ∧ (∀ u w, w ∈ E u → w ∈ M) ∧ st ∈ M ∧ (∃ b, Rch E st b ∧ g ∈ E b) ∧
  ∀ (H' : Hp) (p : Addr) (r : List Nat), Same H H' → LA H' p r → H p = none → WayOk E M st g r → Q (.ref p) H'
/-- the dict of the nodes met -/
abbrev BF (H : Hp) (d : Addr) (bf : List (Nat × Nat)) : Prop := H d = some (.dK (bf.map fun p => (nk p.1, nv p.2)))
theorem bf_has (bf : List (Nat × Nat)) (n : Nat) : (valV (bf.map fun p => (nk p.1, nv p.2)) (nk n)).isSome = decide (n ∈ bf.map (·.1)) := by
  rcases valV_pairs (f := fun p : Nat × Nat => nv p.2) n bf with ⟨p, h1, h2, h3⟩ | ⟨h1, h2⟩
  · rw [h3, decide_eq_true (List.mem_map.mpr ⟨p, h1, h2⟩)]
    rfl
  · rw [h2, decide_eq_false h1]
    rfl
theorem ok_way {f : Addr} {fd : FuncData} (F : Fun K "way" "way" sWay f fd) : FnOk P w K mg base CX0 1 f fd ["edges", "start", "goal"] spWay := by
  refine F.ok scWay (fun vs H Q E h => ?_) (fun cdv A outer s H vs Q E' hr h => ?_)
  · obtain ⟨e, M, E, st, g, rfl, _⟩ := h
    rfl
  · obtain ⟨e, M, E, st, g, rfl, he, hMl, hE, hst, hgo, q⟩ := h
    have hu := hu_of hr
    refine ⟨_, pss_cons (ps_set (i := 3) scWay.nd rfl (.inl rfl) pe_dnewK)
      (pss_cons (ps_set (i := 4) scWay.nd rfl (.inl rfl) (pe_lst (pa_cons (pv 1) pa_nil)))
      (pss_cons (ps_set (i := 5) scWay.nd rfl (.inl rfl) pe_int)
      (pss_cons (ps_while PassesOwn.never (pt_cmp (pc_dnotin hu (pv 2) (pv 3)))
        (pss_cons (ps_set (i := 6) scWay.nd rfl (.inl rfl) (pe_ix ix_list (pv 4) (pv 5) (fun _ _ => rfl)))
        (pss_cons (ps_for PassesOwn.never rfl (pi_list (pe_dget hu (pv 0) (pv 6) (fun _ _ => rfl))) (pg_name (i := 7) scWay.nd rfl (.inl rfl))
          (pss_one (ps_if (pt_cmp (pc_dnotin hu (pv 7) (pv 3)))
            (pss_cons (ps_dput hu (pv 3) (pv 7) (pv 6) rfl) (pss_one (ps_expr (pe_bm PySem.F.plainAttrs_list PySem.F.slot_list_append PySem.F.type_list_append mt_append (pv 4) (pa_cons (pv 7) pa_nil))))) pss_nil)))
        (pss_one (ps_aug (i := 5) scWay.nd rfl (.inl rfl) pe_int ip_add)))))
      (pss_cons (ps_set (i := 8) scWay.nd rfl (.inl rfl) (pe_lst (pa_cons (pe_dget hu (pv 3) (pv 2) (fun _ _ => rfl)) pa_nil)))
      (pss_cons (ps_while PassesOwn.never (pt_cmpR op_ne (pe_ix ix_list (pv 8) (pe_un un_neg pe_int) (fun _ _ => rfl)) (pv 1) (nomark _))
        (pss_one (ps_expr (pe_bm PySem.F.plainAttrs_list PySem.F.slot_list_append PySem.F.type_list_append mt_append (pv 8) (pa_cons (pe_dget hu (pv 3) (pe_ix ix_list (pv 8) (pe_un un_neg pe_int) (fun _ _ => rfl)) (fun _ _ => rfl)) pa_nil)))))
      (pss_one (ps_ret (pe_revL (pv 8))))))))), ?_⟩
    obtain ⟨ps, hep⟩ := id he
    -- before = {}; queue = [start]; done = 0
    intro bd nbd
    have s1 : Same H (upd H bd (.dK [])) := same_upd nbd
    refine ⟨nv st, rfl, (by show 1 ≤ sizeLine; decide), fun qa nqa => ?_⟩
    have s2 : Same (upd H bd (.dK [])) (upd (upd H bd (.dK [])) qa (.lst [nv st])) := same_upd nqa
    have nbq : bd ≠ qa := ne_of_none upd_same nqa
    have fbd : ∀ c u, H c = some u → c ≠ bd := fun c u z => ne_of_none z nbd
    have fqa : ∀ c u, H c = some u → c ≠ qa := fun c u z => ne_of_none (s1 c u z) nqa
    refine ⟨fun m σ Hc => ∃ bf dn v6 v7, σ = [some (.ref e), some (nv st), some (nv g), some (.ref bd), some (.ref qa), some (nv dn), v6, v7, none] ∧ WI E M st bf dn ∧ BF Hc bd bf ∧ LA Hc qa (qOf st bf) ∧ Same H Hc ∧ m = M.length + 2 - dn,
      ⟨_, [], 0, none, none, rfl, WI.start E M st, s2 bd _ upd_same, upd_same, s1.trans s2, rfl⟩, ?_⟩
    rintro m σ Hc ⟨bf, dn, v6, v7, rfl, wi, hbf, hqa, sm, rfl⟩
    refine ⟨nv g, rfl, .ref bd, rfl, bd, _, rfl, DGet.k (k := nk g) hbf, _, rfl, ?_⟩
    show if (!(valV (bf.map fun p => (nk p.1, nv p.2)) (nk g)).isSome) = true then _ else _
    rw [bf_has]
    have wl := wi.len
    by_cases hg : g ∈ bf.map (·.1)
    · rw [decide_eq_true hg]
      refine iteF ?_
      -- walk = [before[goal]]
      rcases valV_pairs (f := fun p : Nat × Nat => nv p.2) g bf with ⟨p0, h1, h2, h3⟩ | ⟨h1, _⟩
      · have look : ∀ x p, (x, p) ∈ bf → valV (bf.map fun p => (nk p.1, nv p.2)) (nk x) = some (nv p) := fun x p hp => by
          rcases valV_pairs (f := fun p : Nat × Nat => nv p.2) x bf with ⟨p1, h1, h2, h3⟩ | ⟨h1, _⟩
          · obtain ⟨i, hi, ei⟩ := List.getElem_of_mem h1
            obtain ⟨i', hi', ei'⟩ := List.getElem_of_mem hp
            have : i = i' := nd_ix wi.nd (i := i) (j := i') (x := x) (by rw [List.getElem?_map, List.getElem?_eq_getElem hi, ei]; exact congrArg some h2) (by rw [List.getElem?_map, List.getElem?_eq_getElem hi', ei']; rfl)
            subst this
            rw [h3, ← ei, ei']
          · exact absurd (List.mem_map.mpr ⟨_, hp, rfl⟩) h1
        obtain ⟨g', p⟩ := p0
        have h2 : g' = g := h2
        subst h2
        have gg := DGet.k (k := nk g') hbf
        rw [h3] at gg
        refine ⟨.ref bd, rfl, nv g', rfl, bd, nv p, rfl, gg, (by show 1 ≤ sizeLine; decide), fun wk nwk => ?_⟩
        have s3 : Same Hc (upd Hc wk (.lst [nv p])) := same_upd nwk
        have fwk : ∀ c u, Hc c = some u → c ≠ wk := fun c u z => ne_of_none z nwk
        obtain ⟨j0, wb0⟩ := WB.start wi hst h1
        refine ⟨fun m σ Hd => ∃ wl x j, σ = [some (.ref e), some (nv st), some (nv g'), some (.ref bd), some (.ref qa), some (nv dn), v6, v7, some (.ref wk)] ∧ WB E M st g' bf wl x j ∧ LA Hd wk wl ∧ Same Hc Hd ∧ m = M.length - wl.length,
          ⟨_, [p], p, j0, rfl, wb0, upd_same, s3, rfl⟩, ?_⟩
        rintro m σ Hd ⟨wlk, x, j, rfl, wb, hwk, sd, rfl⟩
        have gl : atI (nvs wlk) (-1) = some (nv x) := last_at wb.last
        refine ⟨.ref wk, rfl, 1, rfl, wk, nvs wlk, -1, nv x, rfl, rfl, SqL.of hwk, gl, nv st, rfl, rfl, _, rfl, ?_⟩
        have hwl := wb.len
        by_cases hx : x = st
        · subst hx
          rw [decide_eq_true rfl]
          refine iteF ?_
          refine ⟨.ref wk, rfl, wk, nvs wlk, rfl, SqL.of hwk, fun rp nrp => ?_⟩
          refine q _ rp wlk.reverse (fun c u z => ?_) (by rw [LA, upd_same, nvs_rev]) ?_ (wb.done wi)
          · rw [upd_ne (ne_of_none (sd c u (sm c u z)) nrp)]
            exact sd c u (sm c u z)
          · exact (sm.trans sd).free nrp
        · rw [decide_eq_false (fun z => hx (nv_inj z))]
          refine iteT ?_
          refine ⟨fun σ' H' => ∃ wl x j, σ' = [some (.ref e), some (nv st), some (nv g'), some (.ref bd), some (.ref qa), some (nv dn), v6, v7, some (.ref wk)] ∧ WB E M st g' bf wl x j ∧ LA H' wk wl ∧ Same Hc H' ∧ M.length - wl.length < M.length - wlk.length,
            fun σ' H' ⟨wl, x, j, h1, h2, h3, h4, h5⟩ => ⟨_, h5, wl, x, j, h1, h2, h3, h4, rfl⟩, ?_⟩
          -- walk.append(before[walk[-1]])
          have hxk : x ∈ bf.map (·.1) := by
            cases j with
            | zero => exact absurd (Option.some.inj wb.at_).symm hx
            | succ j => exact List.mem_of_getElem? (show (bf.map (·.1))[j]? = some x from wb.at_)
          obtain ⟨q0, hq0, eq0⟩ := List.mem_map.mp hxk
          obtain ⟨x', p'⟩ := q0
          have eq0 : x' = x := eq0
          subst eq0
          have hbd := DGet.k (k := nk x') (sd bd _ hbf)
          rw [look x' p' hq0] at hbd
          obtain ⟨j', wb'⟩ := wb.step wi hst hx (p := p') fun p2 hp2 => by
            have h5 := look x' p' hq0
            have h6 := look x' p2 hp2
            rw [h5] at h6
            exact (nv_inj (Option.some.inj h6)).symm
          refine ⟨.ref wk, rfl, .inl ⟨rfl, _, SqL.of hwk⟩, .ref bd, rfl, .ref wk, rfl, 1, rfl, wk, nvs wlk, -1, nv x', rfl, rfl, SqL.of hwk, gl, bd, nv p', rfl, hbd, wk, _, _, rfl, rfl, hwk, ?_, wlk ++ [p'], p', j', rfl, wb', by rw [LA, upd_same, nvs_snoc], fun c u z => ?_, ?_⟩
          · rw [nvs_len]
            exact line1000 (by omega)
          · rw [upd_ne (fwk c u z)]
            exact sd c u z
          · have := wb'.len
            rw [List.length_append, List.length_singleton] at this ⊢
            omega
      · exact absurd hg h1
    · rw [decide_eq_false hg]
      refine iteT ?_
      have hdn := wi.more hg hgo
      refine ⟨fun σ' H' => ∃ bf dn' v6 v7, σ' = [some (.ref e), some (nv st), some (nv g), some (.ref bd), some (.ref qa), some (nv dn'), v6, v7, none] ∧ WI E M st bf dn' ∧ BF H' bd bf ∧ LA H' qa (qOf st bf) ∧ Same H H' ∧ M.length + 2 - dn' < M.length + 2 - dn,
        fun σ' H' ⟨bf, dn', v6, v7, h1, h2, h3, h4, h5, h6⟩ => ⟨_, h6, bf, dn', v6, v7, h1, h2, h3, h4, h5, rfl⟩, ?_⟩
      obtain ⟨u, hu'⟩ : ∃ u, (qOf st bf)[dn]? = some u := ⟨_, List.getElem?_eq_getElem (by rw [List.length_cons, List.length_map]; exact hdn)⟩
      have huM : u ∈ M := by
        rcases List.mem_cons.mp (List.mem_of_getElem? hu') with z | z
        · rw [z]
          exact hst
        · obtain ⟨p, hp, ep⟩ := List.mem_map.mp z
          rw [← ep]
          exact wi.sub p hp
      obtain ⟨r, hr1, hr2⟩ := (he.same sm).get huM
      obtain ⟨_, hr0⟩ := he.get huM
      refine ⟨.ref qa, rfl, nv dn, rfl, qa, nvs (qOf st bf), _, nv u, rfl, rfl, SqL.of hqa, atI_nat (by rw [List.getElem?_map, hu']; rfl), ?_⟩
      obtain ⟨ps2, hep2⟩ := id he
      obtain ⟨rr, _, hg1, hg2⟩ := hep2.get huM
      have hg3 : DGet Hc e (nv u) (some (.ref rr)) ∧ LA Hc rr (E u) := by
        obtain ⟨rr2, hm2, hg4, hg5⟩ := (hep2.same sm).get huM
        have : DGet Hc e (nv u) (some (.ref rr)) := by
          rcases valV_pairs (f := fun p : Nat × Addr => V.ref p.2) u ps2 with ⟨p1, k1, k2, k3⟩ | ⟨k1, _⟩
          · have z := DGet.k (k := nk u) (hep2.same sm).dct
            have z' := DGet.k (k := nk u) hep2.dct
            rw [k3] at z z'
            have : some (V.ref p1.2) = some (V.ref rr) := by
              rcases hg1 with ⟨kvs, k, rd, ek, ev⟩ | ⟨kvs, k, b, rd, ek, _⟩
              · have ek : nk u = k := kV_inj (a := nk u) ek
                subst ek
                rcases rd with rd | ⟨o, rd⟩
                · rw [hep2.dct] at rd
                  cases rd
                  rw [ev, k3]
                · rw [hep2.dct] at rd
                  cases rd
              · cases ek
            rw [this] at z
            exact z
          · exact absurd (by rw [hep2.eq]; exact huM) k1
        exact ⟨this, sm rr _ hg2⟩
      obtain ⟨hg4, hg5⟩ := hg3
      refine ⟨.ref e, rfl, nv u, rfl, e, .ref rr, rfl, hg4, rr, rfl, ⟨_, SqL.of hg5⟩, for_list (K := K) (a := rr) (xs := nvs (E u)) (fun j σ Hd => ∃ bf' v7, σ = [some (.ref e), some (nv st), some (nv g), some (.ref bd), some (.ref qa), some (nv dn), some (nv u), v7, none] ∧ WI E M st bf' dn ∧ (qOf st bf')[dn]? = some u ∧ (∀ x, x ∈ (E u).take j → x ∈ bf'.map (·.1)) ∧ BF Hd bd bf' ∧ LA Hd qa (qOf st bf') ∧ Same H Hd)
        ⟨bf, _, rfl, wi, hu', fun x hx => absurd hx (by simp), hbf, hqa, sm⟩ (fun j σ Hd _ ⟨_, _, _, _, _, _, _, _, sd⟩ => SqL.of (sd rr _ hg2)) ?_ ?_⟩
      · rintro j y σ Hd hy ⟨bf', v7, rfl, wi', hu2, hj, hbf', hqa', sd⟩
        obtain ⟨t, ht, rfl⟩ := nvs_get hy
        have htE := List.mem_of_getElem? ht
        refine ⟨nv t, rfl, .ref bd, rfl, bd, _, rfl, DGet.k (k := nk t) hbf', _, rfl, ?_⟩
        show if (!(valV (bf'.map fun p => (nk p.1, nv p.2)) (nk t)).isSome) = true then _ else _
        rw [bf_has]
        have wl' := wi'.len
        by_cases htb : t ∈ bf'.map (·.1)
        · rw [decide_eq_true htb]
          refine iteF ⟨bf', _, rfl, wi', hu2, fun x hx => ?_, hbf', hqa', sd⟩
          rcases mem_take_succ ht hx with z | z
          · exact hj x z
          · rw [z]
            exact htb
        · rw [decide_eq_false htb]
          refine iteT ?_
          have hnew : valV (bf'.map fun p => (nk p.1, nv p.2)) (nk t) = none := by
            have := bf_has bf' t
            rw [decide_eq_false htb] at this
            exact Option.isNone_iff_eq_none.mp (by rw [Option.isNone_iff_eq_none]; exact Option.not_isSome_iff_eq_none.mp (by rw [this]; decide))
          refine ⟨nv u, rfl, .ref bd, rfl, nv t, rfl, bd, _, rfl, DPut.k (k := nk t) hbf' (by rw [List.length_map]; exact line1000 (by omega)), ?_⟩
          have hq2 : upd Hd bd (.dK (putK (bf'.map fun p => (nk p.1, nv p.2)) (nk t) (nv u))) qa = some (.lst (nvs (qOf st bf'))) := by rw [upd_ne nbq.symm]; exact hqa'
          refine ⟨.ref qa, rfl, .inl ⟨rfl, _, SqL.of hq2⟩, nv t, rfl, qa, _, _, rfl, rfl, hq2, ?_, bf' ++ [(t, u)], _, rfl, wi'.push hu2 htE htb (hE u t htE), ?_, fun x hx => ?_, ?_, ?_, fun c u' z => ?_⟩
          · rw [nvs_len, List.length_cons, List.length_map]
            exact line1000 (by omega)
          · rw [qOf_snoc, List.getElem?_append_left (List.getElem?_eq_some_iff.mp hu2).1]
            exact hu2
          · rw [List.map_append]
            rcases mem_take_succ ht hx with z | z
            · exact List.mem_append_left _ (hj x z)
            · rw [z]
              simp
          · rw [BF, upd_ne nbq, upd_same, putK_new _ hnew, List.map_append]
            rfl
          · rw [LA, upd_same, nvs_snoc, qOf_snoc]
          · rw [upd_ne (fqa c u' z), upd_ne (fbd c u' z)]
            exact sd c u' z
      · rintro σ Hd ⟨bf', v7, rfl, wi', hu2, hj, hbf', hqa', sd⟩
        rw [nvs_len, List.take_length] at hj
        have hd2 := (List.getElem?_eq_some_iff.mp hu2).1
        rw [List.length_cons, List.length_map] at hd2
        have wl' := wi'.len
        refine ⟨_, rfl, _, _, rfl, rfl, bf', dn + 1, _, _, rfl, ⟨wi'.nd, wi'.sub, wi'.pr, hd2, fun i u' hi hu3 t ht => ?_⟩, hbf', hqa', sd, by omega⟩
        by_cases ei : i = dn
        · subst ei
          rw [hu2] at hu3
          cases hu3
          exact hj t ht
        · exact wi'.cl i u' (by omega) hu3 t ht
end
end K56
set_option Elab.async false
set_option linter.all false
set_option maxRecDepth 100000
set_option maxHeartbeats 4000000
/-! K56Fh: round_trip, common, needed, reason_for. -/
namespace K56
open PySem PySem.Spec PyProof.Rows L2
/-- in a strongly connected part with an edge every one is reached from every one by an edge at least -/
theorem sc_edge {E : Nat → List Nat} {M : List Nat} (sc : ∀ a, a ∈ M → ∀ b, b ∈ M → Rch E a b) (he : ∃ x y, x ∈ M ∧ y ∈ M ∧ y ∈ E x) {st g : Nat} (hs : st ∈ M) (hg : g ∈ M) : ∃ b, Rch E st b ∧ g ∈ E b := by
  obtain ⟨x, y, hx, hy, hxy⟩ := he
  have h1 := sc st hs x hx
  have h2 := sc y hy g hg
  cases h2 with
  | refl => exact ⟨x, h1, hxy⟩
  | step h3 h4 => exact ⟨_, h1.trans (.head hxy h3), h4⟩
section
variable {P : Program} {w : World} {K : PySem.W.Frag} {mg : Str → Option Value} {base : Heap}
/-! ### round_trip -/
abbrev sTrip : Stmt := topS 10
abbrev nTrip : List Str := ["after", "members", "targets", "edges", "stops", "node", "walk", "k"]
theorem scTrip : FnScope nTrip ["after", "members", "targets"] (defScope sTrip) := ⟨rfl, rfl, rfl, by decide +kernel, rfl, by decide +kernel, by decide +kernel⟩
def spTrip : Sp := fun vs H Q _ => ∃ (a b c : Addr) (G : List (List Nat)) (M ts : List Nat), vs = [.ref a, .ref b, .ref c] ∧ LL H a G ∧ LA H b M ∧ LA H c ts ∧ (∀ x, x ∈ M → x < G.length) ∧ M.Nodup ∧ M.length ≤ 60 ∧ GW G ∧ (∀ x, x ∈ ts → x ∈ M) ∧ ts.length ≤ 100 ∧ M ≠ [] ∧
  (∀ x, x ∈ M → ∀ y, y ∈ M → Rch (rE G M) x y) ∧ (∃ x y, x ∈ M ∧ y ∈ M ∧ y ∈ rE G M x) ∧
  ∀ (H' : Hp) (p : Addr) (loop : List Nat), Same H H' → LA H' p loop → Trip (rE G M) M ts loop → Q (.ref p) H'
theorem ok_trip {f fR fW : Addr} {fd fdR fdW : FuncData} (F : Fun K "round_trip" "round_trip" sTrip f fd) (DR : Df K mg "restricted" 4 ["after", "members"] fR fdR) (DW : Df K mg "way" 9 ["edges", "start", "goal"] fW fdW)
    (ml : mg "len" = none) (mr : mg "range" = none) : FnOk P w K mg base CX0 2 f fd ["after", "members", "targets"] spTrip := by
  have GR : FnOk P w K mg base CX0 1 fR fdR ["after", "members"] spRestr := ok_restr DR.F
  have GW' : FnOk P w K mg base CX0 1 fW fdW ["edges", "start", "goal"] spWay := ok_way DW.F
  refine F.ok scTrip (fun vs H Q E h => ?_) (fun cdv A outer s H vs Q E hr h => ?_)
  · obtain ⟨a, b, c, G, M, ts, rfl, _⟩ := h
    rfl
  · obtain ⟨a, b, c, G, M, ts, rfl, ha, hb, hc, hlt, hM, hMl, gw, htM, htl, hMne, sc, hed, q⟩ := h
    refine ⟨_, pss_cons (ps_set (i := 3) scTrip.nd rfl (.inl rfl) (pe_call GR hr (by rfl) DR.g DR.F.kp DR.b .nil pass0 (pa_cons (pv 0) (pa_cons (pv 1) pa_nil))))
      (pss_cons (ps_set (i := 4) scTrip.nd rfl (.inl rfl) (pe_lst pa_nil))
      (pss_cons (ps_for PassesOwn.never rfl (pi_list (pv 2)) (pg_name (i := 5) scTrip.nd rfl (.inl rfl))
        (pss_one (ps_if (pt_cmpR op_notIn_seq (pv 5) (pv 4) (by rfl)) (pss_one (ps_expr (pe_bm PySem.F.plainAttrs_list PySem.F.slot_list_append PySem.F.type_list_append mt_append (pv 4) (pa_cons (pv 5) pa_nil)))) pss_nil)))
      (pss_cons (ps_if (pt_not (pt_truth (pv 4) (by intro _; rfl))) (pss_one (ps_expr (pe_bm PySem.F.plainAttrs_list PySem.F.slot_list_append PySem.F.type_list_append mt_append (pv 4) (pa_cons (pe_ix ix_list (pv 1) pe_int (fun _ _ => rfl)) pa_nil)))) pss_nil)
      (pss_cons (ps_set (i := 6) scTrip.nd rfl (.inl rfl) (pe_lst pa_nil))
      (pss_cons (ps_for PassesOwn.never rfl (pi_range1 (by rfl) mr (pa_cons (pe_callB call_len_seq (by rfl) ml PySem.boot_len (pa_cons (pv 4) pa_nil)) pa_nil)) (pg_name (i := 7) scTrip.nd rfl (.inl rfl))
        (pss_one (ps_expr (pe_bm PySem.F.plainAttrs_list PySem.F.slot_list_extend PySem.F.type_list_extend mt_extend (pv 6) (pa_cons (pe_call GW' hr (by rfl) DW.g DW.F.kp DW.b .nil pass0 (pa_cons (pv 3) (pa_cons (pe_ix ix_list (pv 4) (pv 7) (fun _ _ => rfl)) (pa_cons (pe_ix ix_list (pv 4) (pe_op op_mod (pe_op op_add (pv 7) pe_int) (pe_callB call_len_seq (by rfl) ml PySem.boot_len (pa_cons (pv 4) pa_nil))) (fun _ _ => rfl)) pa_nil)))) pa_nil)))))
      (pss_one (ps_ret (pv 6)))))))), ?_⟩
    -- edges = restricted(after, members); stops = []
    refine ⟨.ref a, rfl, .ref b, rfl, a, b, G, M, rfl, ha, hb, hlt, hM, by omega, gw, fun H1 e s1 ne he => ?_⟩
    refine ⟨Nat.zero_le _, fun sp nsp => ?_⟩
    have s2 : Same H1 (upd H1 sp (.lst [])) := same_upd nsp
    have fsp : ∀ c u, H1 c = some u → c ≠ sp := fun c u z => ne_of_none z nsp
    have hc1 : LA H1 c ts := s1 c _ hc
    refine ⟨.ref c, rfl, c, rfl, ⟨_, SqL.of (s2 c _ hc1)⟩, for_list (K := K) (a := c) (xs := nvs ts) (fun i σ Hc => ∃ stops v5, σ = [some (.ref a), some (.ref b), some (.ref c), some (.ref e), some (.ref sp), v5, none, none] ∧ LA Hc sp stops ∧ stops.length ≤ i ∧ (∀ x, x ∈ ts.take i → x ∈ stops) ∧ (∀ x, x ∈ stops → x ∈ M) ∧ Same H1 Hc)
      ⟨[], none, rfl, upd_same, Nat.le_refl _, fun x hx => absurd hx (by simp), fun x hx => absurd hx (by simp), s2⟩ (fun i σ Hc _ ⟨_, _, _, _, _, _, _, sm⟩ => SqL.of (sm c _ hc1)) ?_ ?_⟩
    · rintro i x σ Hc hx ⟨stops, v5, rfl, hs, hl, hi, hsM, sm⟩
      obtain ⟨n, hn, rfl⟩ := nvs_get hx
      have hnt := List.mem_of_getElem? hn
      have hil := (List.getElem?_eq_some_iff.mp hn).1
      refine ⟨_, rfl, _, rfl, sp, nvs stops, rfl, .inl (SqL.of hs), rfl, flat_nvs stops, _, rfl, ?_⟩
      show if (!inV (nv n) (nvs stops)) = true then _ else _
      rw [inV_nv]
      by_cases hns : n ∈ stops
      · rw [decide_eq_true hns]
        refine iteF ⟨stops, _, rfl, hs, by omega, fun x hx => ?_, hsM, sm⟩
        rcases mem_take_succ hn hx with z | z
        · exact hi x z
        · rw [z]
          exact hns
      · rw [decide_eq_false hns]
        refine iteT ⟨.ref sp, rfl, .inl ⟨rfl, _, SqL.of hs⟩, nv n, rfl, sp, _, _, rfl, rfl, hs, (by rw [nvs_len]; exact line1000 (by omega)), stops ++ [n], _, rfl, by rw [LA, upd_same, nvs_snoc], by rw [List.length_append, List.length_singleton]; omega, fun x hx => ?_, fun x hx => ?_, fun c u z => ?_⟩
        · rcases mem_take_succ hn hx with z | z
          · exact List.mem_append_left _ (hi x z)
          · rw [z]
            simp
        · rcases List.mem_append.mp hx with z | z
          · exact hsM x z
          · rw [List.mem_singleton.mp z]
            exact htM n hnt
        · rw [upd_ne (fsp c u z)]
          exact sm c u z
    · rintro σ Hc ⟨stops, v5, rfl, hs, hl, hi, hsM, sm⟩
      rw [nvs_len] at hl
      rw [nvs_len, List.take_length] at hi
      -- what follows, from the stops
      have rest : ∀ (Hd : Hp) (st2 : List Nat), LA Hd sp st2 → 0 < st2.length → st2.length ≤ max 1 ts.length → (∀ x, x ∈ ts → x ∈ st2) → (∀ x, x ∈ st2 → x ∈ M) → Same H1 Hd → tSeq (tAsg (tLst tNil) (gName 6)) (tSeq (tFor (iRng1 (tCons (tCB (fun xs H Q => ∃ p ys, xs = [.ref p] ∧ (SqL K H p ys ∨ SqT K H p ys) ∧ Q (.int ys.length) H) (tCons (tVar 4) tNil)) tNil)) (gName 7)
          (tDrop (tBM K "list" rExtend (tVar 6) (tCons (tCall spWay [] E0 (tCons (tVar 3) (tCons (tOp (rIxL K) (tVar 4) (tVar 7)) (tCons (tOp (rIxL K) (tVar 4) (tOp (rI (fun _ j => 0 < j) fun i j => .int (i % j)) (tOp (rI0 fun i j => .int (i + j)) (tVar 7) (tC (.int 1))) (tCB (fun xs H Q => ∃ p ys, xs = [.ref p] ∧ (SqL K H p ys ∨ SqT K H p ys) ∧ Q (.int ys.length) H) (tCons (tVar 4) tNil)))) tNil)))) tNil)))) (tRet (tVar 6))) { nx := fun _ H' => Q .non H', rt := Q } [some (.ref a), some (.ref b), some (.ref c), some (.ref e), some (.ref sp), v5, none, none] Hd := by
        intro Hd st2 hs2 h0 hle hts hs2M sd
        refine ⟨Nat.zero_le _, fun wk nwk => ?_⟩
        have s3 : Same Hd (upd Hd wk (.lst [])) := same_upd nwk
        have fwk : ∀ c u, Hd c = some u → c ≠ wk := fun c u z => ne_of_none z nwk
        have nsw : sp ≠ wk := fwk sp _ hs2
        have hl2 : st2.length ≤ 100 := by omega
        refine ⟨.ref sp, rfl, sp, nvs st2, rfl, .inl (SqL.of (s3 sp _ hs2)), _, rfl, by rw [nvs_len]; omega, by rw [nvs_len]; omega, for_range (n := (((nvs st2).length : Nat) : Int).toNat) (fun k σ Hx => ∃ wlk v7, σ = [some (.ref a), some (.ref b), some (.ref c), some (.ref e), some (.ref sp), v5, some (.ref wk), v7] ∧ TI (rE G M) M st2 k wlk ∧ LA Hx wk wlk ∧ (∀ c u, Hd c = some u → Hx c = some u))
          ⟨[], _, rfl, TI.start _ _ _, upd_same, s3⟩ ?_ ?_⟩
        · rintro k σ Hx hk ⟨wlk, v7, rfl, ti, hwk, sx⟩
          rw [nvs_len, Int.toNat_natCast] at hk
          have hm : (k + 1) % st2.length < st2.length := Nat.mod_lt _ h0
          obtain ⟨p1, hp1⟩ : ∃ p1, st2[k]? = some p1 := ⟨_, List.getElem?_eq_getElem hk⟩
          obtain ⟨p2, hp2⟩ : ∃ p2, st2[(k + 1) % st2.length]? = some p2 := ⟨_, List.getElem?_eq_getElem hm⟩
          have hx2 : LA Hx sp st2 := sx sp _ hs2
          have m1 := hs2M p1 (List.mem_of_getElem? hp1)
          have m2 := hs2M p2 (List.mem_of_getElem? hp2)
          have e0 : ((0 : Int) + (k : Int) + 1) % ((nvs st2).length : Int) = (((k + 1) % st2.length : Nat) : Int) := by
            rw [nvs_len, show (0 : Int) + (k : Int) + 1 = ((k + 1 : Nat) : Int) by omega]
            rfl
          refine ⟨.ref wk, rfl, .inl ⟨rfl, _, SqL.of hwk⟩, .ref e, rfl, .ref sp, rfl, .int (0 + (k : Int)), rfl, sp, nvs st2, _, nv p1, rfl, rfl, SqL.of hx2, at_of (j := k) (by omega) (by rw [List.getElem?_map, hp1]; rfl), .ref sp, rfl, .int (0 + (k : Int)), rfl, _, _, rfl, rfl, .ref sp, rfl, sp, nvs st2, rfl, .inl (SqL.of hx2), _, _, rfl, rfl, (by rw [nvs_len]; omega), sp, nvs st2, _, nv p2, rfl, rfl, SqL.of hx2, at_of (j := (k + 1) % st2.length) e0 (by rw [List.getElem?_map, hp2]; rfl), e, M, rE G M, p1, p2, rfl, he.same (fun c u z => sx c u (sd c u z)), by omega, fun u w h => (mem_rE.mp h).2.2, m1, sc_edge sc hed m1 m2, fun Hy r rl sy hr' nr wo => ?_⟩
          have hwy : LA Hy wk wlk := sy wk _ hwk
          have tl := ti.len
          have wl := wo.len
          have hkM : k * M.length ≤ 100 * 60 := Nat.mul_le_mul (by omega) hMl
          refine ⟨wk, r, _, _, rfl, rfl, hwy, hr', (by rw [nvs_len, nvs_len]; exact line1000' (by omega)), wlk ++ rl, _, rfl, ti.step hk hp1 hp2 wo, ?_, fun c u z => ?_⟩
          · rw [LA, upd_same]
            show some (HO.lst (wlk.map nv ++ rl.map nv)) = some (.lst ((wlk ++ rl).map nv))
            rw [List.map_append]
          · rw [upd_ne (fwk c u z)]
            exact sy c u (sx c u z)
        · rintro σ Hx ⟨wlk, v7, rfl, ti, hwk, sx⟩
          rw [nvs_len, Int.toNat_natCast] at ti
          exact ⟨.ref wk, rfl, q Hx wk wlk (fun c u z => sx c u (sd c u (s1 c u z))) hwk (ti.done h0 hle hts)⟩
      -- if not stops
      refine ⟨.ref sp, rfl, !(nvs stops).isEmpty, .inl ⟨_, SqL.of hs, rfl⟩, ?_⟩
      by_cases h0 : stops = []
      · subst h0
        refine iteT ?_
        have htn : ts = [] := by
          cases ts with
          | nil => rfl
          | cons t r => exact absurd (hi t List.mem_cons_self) (by simp)
        obtain ⟨m0, r0, em⟩ : ∃ m0 r0, M = m0 :: r0 := by
          cases M with
          | nil => exact absurd rfl hMne
          | cons m r => exact ⟨m, r, rfl⟩
        have hbc : LA Hc b M := sm b _ (s1 b _ hb)
        refine ⟨.ref sp, rfl, .inl ⟨rfl, _, SqL.of hs⟩, .ref b, rfl, b, nvs M, 0, nv m0, rfl, rfl, SqL.of hbc, atI_nat (j := 0) (by rw [em]; rfl), sp, _, _, rfl, rfl, hs, (by show 0 < sizeLine; decide), ?_⟩
        refine rest _ [m0] upd_same Nat.one_pos (Nat.le_max_left _ _) (fun x hx => by rw [htn] at hx; exact absurd hx (by simp)) (fun x hx => ?_) fun c u z => ?_
        · rw [List.mem_singleton.mp hx, em]
          exact List.mem_cons_self
        · rw [upd_ne (fsp c u z)]
          exact sm c u z
      · have hne : (nvs stops).isEmpty = false := by
          cases stops with
          | nil => exact absurd rfl h0
          | cons x r => rfl
        rw [hne]
        refine iteF ?_
        exact rest Hc stops hs (List.length_pos_iff.mpr h0) (Nat.le_trans hl (Nat.le_max_right _ _)) hi hsM sm
end
end K56
set_option Elab.async false
set_option linter.all false
set_option maxRecDepth 100000
set_option maxHeartbeats 4000000
/-! K56Fi: common, needed, reason_for. -/
namespace K56
open PySem PySem.Spec PyProof.Rows L2
section
variable {P : Program} {w : World} {K : PySem.W.Frag} {mg : Str → Option Value} {base : Heap}
/-! ### common -/
abbrev sCommon : Stmt := topS 19
abbrev nCommon : List Str := ["part", "nodes", "marked", "node"]
theorem scCommon : FnScope nCommon ["part", "nodes"] (defScope sCommon) := ⟨rfl, rfl, rfl, by decide +kernel, rfl, by decide +kernel, by decide +kernel⟩
def spCommon : Sp := fun vs H Q _ => ∃ (a b : Addr) (M ns : List Nat), vs = [.ref a, .ref b] ∧ LA H a M ∧ LA H b ns ∧ M.length ≤ 1000 ∧ ns.length ≤ 1000 ∧ (∃ x, x ∈ ns ∧ x ∈ M) ∧ ∀ (H' : Hp) (x : Nat), Same H H' → x ∈ ns → x ∈ M → Q (nv x) H'
theorem ok_common {f : Addr} {fd : FuncData} (F : Fun K "common" "common" sCommon f fd) : FnOk P w K mg base CX0 1 f fd ["part", "nodes"] spCommon := by
  refine F.ok scCommon (fun vs H Q E h => ?_) (fun cdv A outer s H vs Q E hr h => ?_)
  · obtain ⟨a, b, M, ns, rfl, _⟩ := h
    rfl
  · obtain ⟨a, b, M, ns, rfl, ha, hb, la, lb, ⟨x0, hx1, hx2⟩, q⟩ := h
    have hu := hu_of hr
    refine ⟨_, pss_cons (ps_set (i := 2) scCommon.nd rfl (.inr rfl) (pe_dc (own := [("node", 3)]) (g := gName 3) (tt := tYes) rfl scCommon.nd (pi_list (pv 0)) (blkOk_by (N := nCommon) (sc := defScope sCommon) (by decide +kernel)) (fun _ _ _ _ _ => pg_name (i := 3) scCommon.nd rfl (.inl rfl)) (fun _ _ _ _ _ => pts_nil) (fun _ _ _ _ _ => pv 3) (fun _ _ _ _ _ => pe_bl)))
      (pss_one (ps_ret (pe_ix ix_list (pe_lc (own := [("node", 3)]) (g := gName 3) rfl scCommon.nd (pi_list (pv 1)) (blkOk_by (N := nCommon) (sc := defScope sCommon) (by decide +kernel)) (fun _ _ _ _ _ => pg_name (i := 3) scCommon.nd rfl (.inl rfl)) (fun _ _ _ _ _ => pts_one (pt_cmp (pc_din hu (pv 3) (pv 2)))) (fun _ _ _ _ _ => pv 3)) pe_int (fun _ _ => rfl)))), ?_⟩
    refine set_seq (b := a) ?ht ha (by omega) ?hi ?h
    (case ht => exact fun R h => ⟨_, rfl, h⟩)
    (case hi => exact (by decide : (3 : Nat) < 4))
    intro d H1 nd s1 hd
    have hb1 : LA H1 b ns := s1 b _ hb
    refine ⟨.ref b, rfl, b, rfl, ⟨_, SqL.of hb1⟩, fun l nl => ?_⟩
    refine lc_list (K := K) (a := b) (xs := nvs ns) (fun i H2 => Same H1 H2 ∧ LA H2 l ((ns.take i).filter fun x => decide (x ∈ M))) ⟨same_upd nl, upd_same⟩ (fun i H2 _ p => SqL.of (p.1 _ _ hb1)) (fun i x H2 hx p => ?_) (fun H2 p => ?_)
    · obtain ⟨n, hn, rfl⟩ := nvs_get hx
      obtain ⟨s2, hl⟩ := p
      obtain ⟨o, g, eo⟩ := (DS.same (H' := H2) hd (by
        obtain ⟨kvs, z, _⟩ := id hd
        rw [z, s2 _ _ z])).get n
      have et : ns.take (i + 1) = ns.take i ++ [n] := by rw [List.take_add_one, hn]; rfl
      refine ⟨rfl, _, rfl, .ref d, rfl, d, o, rfl, g, _, rfl, ?_⟩
      show if o.isSome = true then _ else _
      rw [eo]
      by_cases hm : n ∈ M
      · rw [decide_eq_true hm]
        refine iteT ⟨nv n, rfl, _, hl, ?_, fun c u z => ?_, ?_⟩
        · rw [nvs_len]
          have h1 := List.length_filter_le (fun x => decide (x ∈ M)) (ns.take i)
          rw [List.length_take] at h1
          exact line1000 (by omega)
        · rw [upd_ne (ne_of_none z nl)]
          exact s2 c u z
        · rw [LA, upd_same, nvs_snoc, et, List.filter_append]
          simp [hm]
      · rw [decide_eq_false hm]
        refine iteF ⟨s2, ?_⟩
        rw [et, List.filter_append]
        simp only [List.filter_cons, List.filter_nil, hm, decide_false, Bool.false_eq_true, if_false, List.append_nil]
        exact hl
    · obtain ⟨s2, hl⟩ := p
      rw [nvs_len, List.take_length] at hl
      cases e : ns.filter fun x => decide (x ∈ M) with
      | nil =>
        have : x0 ∈ ns.filter fun x => decide (x ∈ M) := List.mem_filter.mpr ⟨hx1, decide_eq_true hx2⟩
        rw [e] at this
        exact absurd this (by simp)
      | cons y r =>
        have hy : y ∈ ns.filter fun x => decide (x ∈ M) := by rw [e]; exact List.mem_cons_self
        obtain ⟨hy1, hy2⟩ := List.mem_filter.mp hy
        rw [e] at hl
        exact ⟨l, nvs (y :: r), 0, nv y, rfl, rfl, SqL.of hl, atI_nat (j := 0) rfl, q H2 y (s1.trans s2) hy1 (of_decide_eq_true hy2)⟩
/-! ### needed -/
abbrev sNeed : Stmt := topS 20
abbrev nNeed : List Str := ["part", "justice", "compassion", "targets", "first", "second", "nodes"]
theorem scNeed : FnScope nNeed ["part", "justice", "compassion"] (defScope sNeed) := ⟨rfl, rfl, rfl, by decide +kernel, rfl, by decide +kernel, by decide +kernel⟩
/-- the conditions' lists are short -/
def ShortJ (J : List (List Nat)) : Prop := J.length ≤ 40 ∧ ∀ j, j ∈ J → j.length ≤ 1000
def ShortC (C : List (List Nat × List Nat)) : Prop := C.length ≤ 40 ∧ ∀ c, c ∈ C → c.1.length ≤ 1000 ∧ c.2.length ≤ 1000
def spNeed : Sp := fun vs H Q _ => ∃ (a b c : Addr) (M : List Nat) (J : List (List Nat)) (C : List (List Nat × List Nat)), vs = [.ref a, .ref b, .ref c] ∧ LA H a M ∧ LL H b J ∧ LP H c C ∧ M.length ≤ 1000 ∧ ShortJ J ∧ ShortC C ∧
  (∀ j, j ∈ J → meetB M j = true) ∧ (∀ c, c ∈ C → meetB M c.1 = true → meetB M c.2 = true) ∧
  ∀ (H' : Hp) (p : Addr) (ts : List Nat), Same H H' → LA H' p ts → (∀ t, t ∈ ts → t ∈ M) → ts.length ≤ J.length + C.length → (∀ j, j ∈ J → ∃ x, x ∈ ts ∧ x ∈ j) → (∀ c, c ∈ C → meetB M c.1 = true → ∃ x, x ∈ ts ∧ x ∈ c.2) → Q (.ref p) H'
theorem meet_ex {M ns : List Nat} (h : meetB M ns = true) : ∃ x, x ∈ ns ∧ x ∈ M := let ⟨x, h1, h2⟩ := meetB_iff.mp h; ⟨x, h2, h1⟩
theorem ok_need {f fC fS : Addr} {fd fdC fdS : FuncData} (F : Fun K "needed" "needed" sNeed f fd) (DC : Df K mg "common" 19 ["part", "nodes"] fC fdC) (DS' : Df K mg "share" 2 ["nodes", "others"] fS fdS) (ma : mg "any" = none) : FnOk P w K mg base CX0 2 f fd ["part", "justice", "compassion"] spNeed := by
  have GC : FnOk P w K mg base CX0 1 fC fdC ["part", "nodes"] spCommon := ok_common DC.F
  have GS : FnOk P w K mg base CX0 1 fS fdS ["nodes", "others"] spShare := ok_share DS'.F ma
  refine F.ok scNeed (fun vs H Q E h => ?_) (fun cdv A outer s H vs Q E hr h => ?_)
  · obtain ⟨a, b, c, M, J, C, rfl, _⟩ := h
    rfl
  · obtain ⟨a, b, c, M, J, C, rfl, ha, ⟨js, hb⟩, ⟨cs, hc⟩, la, lj, lc, hJ, hC, q⟩ := h
    refine ⟨_, pss_cons (ps_setLc (i := 3) (own := [("nodes", 6)]) (g := gName 6) (tt := tYes) rfl scNeed.nd rfl rfl (sw_true rfl rfl rfl (by decide +kernel)) (pi_list (pv 1)) (blkOk_by (N := nNeed) (sc := defScope sNeed) (by decide +kernel)) (fun _ _ _ _ _ => pg_name (i := 6) scNeed.nd rfl (.inl rfl)) (fun _ _ _ _ _ => pts_nil) (fun _ _ _ _ _ => pe_call GC hr (by rfl) DC.g DC.F.kp DC.b .nil pass0 (pa_cons (pv 0) (pa_cons (pv 6) pa_nil))))
      (pss_cons (ps_for PassesOwn.never rfl (pi_list (pv 2)) (pg_tup rfl (pgs_cons (pg_name (i := 4) scNeed.nd rfl (.inl rfl)) (pgs_cons (pg_name (i := 5) scNeed.nd rfl (.inl rfl)) pgs_nil)))
        (pss_one (ps_if (pt_val (pe_call GS hr (by rfl) DS'.g DS'.F.kp DS'.b .nil pass0 (pa_cons (pv 0) (pa_cons (pv 4) pa_nil))))
          (pss_one (ps_expr (pe_bm PySem.F.plainAttrs_list PySem.F.slot_list_append PySem.F.type_list_append mt_append (pv 3) (pa_cons (pe_call GC hr (by rfl) DC.g DC.F.kp DC.b .nil pass0 (pa_cons (pv 0) (pa_cons (pv 5) pa_nil))) pa_nil)))) pss_nil)))
      (pss_one (ps_ret (pv 3)))), ?_⟩
    have hjl := hb.len
    have hcl := hc.len
    refine ⟨.ref b, rfl, b, rfl, ⟨_, SqL.of hb.lst⟩, fun l nl => ?_⟩
    have fl : ∀ c u, H c = some u → c ≠ l := fun c u z => ne_of_none z nl
    refine lc_list (K := K) (a := b) (xs := js.map fun p => V.ref p.1) (fun i H1 => ∃ ts, Same H H1 ∧ LA H1 l ts ∧ (∀ t, t ∈ ts → t ∈ M) ∧ ts.length ≤ i ∧ ∀ j, j ∈ J.take i → ∃ x, x ∈ ts ∧ x ∈ j) ⟨[], same_upd nl, upd_same, fun t ht => absurd ht (by simp), Nat.zero_le _, fun j hj => absurd hj (by simp)⟩ (fun i H1 _ ⟨_, s1, _⟩ => SqL.of (s1 _ _ hb.lst)) (fun i x H1 hx ⟨ts, s1, hl, htM, htl, hti⟩ => ?_) (fun H1 ⟨ts, s1, hl, htM, htl, hti⟩ => ?_)
    · have hil := (List.getElem?_eq_some_iff.mp hx).1
      rw [List.length_map] at hil
      obtain ⟨r, g, rfl, hg, hr', _⟩ := hb.item hx
      have hgJ := List.mem_of_getElem? hg
      refine ⟨rfl, yes ?_⟩
      refine ⟨.ref a, rfl, .ref r, rfl, a, r, M, g, rfl, s1 a _ ha, s1 r _ hr', by omega, lj.2 g hgJ, meet_ex (hJ g hgJ), fun H2 y s2 hy1 hy2 => ?_⟩
      refine ⟨_, s2 l _ hl, (by rw [nvs_len]; exact line1000 (by have := lj.1; omega)), ts ++ [y], fun c u z => ?_, by rw [LA, upd_same, nvs_snoc], fun t ht => ?_, by rw [List.length_append, List.length_singleton]; omega, fun j hj => ?_⟩
      · rw [upd_ne (fl c u z)]
        exact s2 c u (s1 c u z)
      · rcases List.mem_append.mp ht with z | z
        · exact htM t z
        · rw [List.mem_singleton.mp z]
          exact hy2
      · rw [List.take_add_one, hg] at hj
        rcases List.mem_append.mp hj with z | z
        · obtain ⟨x, h1, h2⟩ := hti j z
          exact ⟨x, List.mem_append_left _ h1, h2⟩
        · have ej : j = g := by simpa using z
          rw [ej]
          exact ⟨y, by simp, hy1⟩
    · rw [List.length_map, hjl] at htl
      rw [List.length_map, hjl, List.take_length] at hti
      -- for first, second in compassion
      refine ⟨.ref c, rfl, c, rfl, ⟨_, SqL.of (s1 c _ hc.lst)⟩, for_list (K := K) (a := c) (xs := cs.map fun p => V.ref p.1) (fun i σ H2 => ∃ ts v4 v5, σ = [some (.ref a), some (.ref b), some (.ref c), some (.ref l), v4, v5, none] ∧ Same H H2 ∧ LA H2 l ts ∧ (∀ t, t ∈ ts → t ∈ M) ∧ ts.length ≤ J.length + i ∧ (∀ j, j ∈ J → ∃ x, x ∈ ts ∧ x ∈ j) ∧ ∀ c, c ∈ C.take i → meetB M c.1 = true → ∃ x, x ∈ ts ∧ x ∈ c.2)
        ⟨ts, _, _, rfl, s1, hl, htM, by omega, hti, fun c hc => absurd hc (by simp)⟩ (fun i σ H2 _ ⟨_, _, _, _, s2, _⟩ => SqL.of (s2 c _ hc.lst)) ?_ ?_⟩
      · rintro i x σ H2 hx ⟨ts, v4, v5, rfl, s2, hl, htM, htl, hti, htc⟩
        have hil := (List.getElem?_eq_some_iff.mp hx).1
        rw [List.length_map] at hil
        obtain ⟨t, f1, f2, F1, F2, rfl, hC0, ht, hf1, hf2, _⟩ := hc.item hx
        have hCm := List.mem_of_getElem? hC0
        refine ⟨t, _, rfl, SqT.of (s2 t _ ht), rfl, _, _, rfl, _, _, rfl, rfl, ?_⟩
        refine ⟨.ref a, rfl, .ref f1, rfl, a, f1, M, F1, rfl, s2 a _ ha, s2 f1 _ hf1, by omega, (lc.2 _ hCm).1, fun H3 s3 => ⟨_, rfl, ?_⟩⟩
        have s23 : Same H H3 := s2.trans s3
        cases em : meetB M F1 with
        | false =>
          refine iteF ⟨ts, _, _, rfl, s23, s3 l _ hl, htM, by omega, hti, fun c0 hc0 hm => ?_⟩
          rw [List.take_add_one, hC0] at hc0
          rcases List.mem_append.mp hc0 with z | z
          · exact htc c0 z hm
          · have ec : c0 = (F1, F2) := by simpa using z
            rw [ec] at hm
            have hm : meetB M F1 = true := hm
            rw [em] at hm
            cases hm
        | true =>
          refine iteT ⟨.ref l, rfl, .inl ⟨rfl, _, SqL.of (s3 l _ hl)⟩, .ref a, rfl, .ref f2, rfl, a, f2, M, F2, rfl, s23 a _ ha, s23 f2 _ hf2, by omega, (lc.2 _ hCm).2, meet_ex (hC _ hCm em), fun H4 y s4 hy1 hy2 => ?_⟩
          refine ⟨l, _, _, rfl, rfl, s4 l _ (s3 l _ hl), (by rw [nvs_len]; exact line1000 (by have := lj.1; have := lc.1; omega)), ts ++ [y], _, _, rfl, fun c u z => ?_, by rw [LA, upd_same, nvs_snoc], fun t ht => ?_, by rw [List.length_append, List.length_singleton]; omega, fun j hj => ?_, fun c0 hc0 hm => ?_⟩
          · rw [upd_ne (fl c u z)]
            exact s4 c u (s23 c u z)
          · rcases List.mem_append.mp ht with z | z
            · exact htM t z
            · rw [List.mem_singleton.mp z]
              exact hy2
          · obtain ⟨x, h1, h2⟩ := hti j hj
            exact ⟨x, List.mem_append_left _ h1, h2⟩
          · rw [List.take_add_one, hC0] at hc0
            rcases List.mem_append.mp hc0 with z | z
            · obtain ⟨x, h1, h2⟩ := htc c0 z hm
              exact ⟨x, List.mem_append_left _ h1, h2⟩
            · have ec : c0 = (F1, F2) := by simpa using z
              rw [ec]
              exact ⟨y, by simp, hy1⟩
      · rintro σ H2 ⟨ts, v4, v5, rfl, s2, hl, htM, htl, hti, htc⟩
        rw [List.length_map, hcl] at htl
        rw [List.length_map, hcl, List.take_length] at htc
        exact ⟨.ref l, rfl, q H2 l ts s2 hl htM htl hti htc⟩
/-! ### reason_for -/
abbrev sReason : Stmt := topS 17
abbrev nReason : List Str := ["after", "part", "justice", "compassion", "number", "nodes", "first", "second"]
theorem scReason : FnScope nReason ["after", "part", "justice", "compassion"] (defScope sReason) := ⟨rfl, rfl, rfl, by decide +kernel, rfl, by decide +kernel, by decide +kernel⟩
def spReason : Sp := fun vs H Q _ => ∃ (a b c d : Addr) (G : List (List Nat)) (M : List Nat) (J : List (List Nat)) (C : List (List Nat × List Nat)), vs = [.ref a, .ref b, .ref c, .ref d] ∧ LL H a G ∧ LA H b M ∧ LL H c J ∧ LP H d C ∧ (∀ x, x ∈ M → x < G.length) ∧ M.length ≤ 1000 ∧ ShortJ J ∧ ShortC C ∧
  (∀ (H' : Hp) (t : Addr), Same H H' → leadB G M M = false → H' t = some (.tup [.str "once", .int 0]) → Q (.ref t) H') ∧
  (∀ (H' : Hp) (t : Addr) (k : Nat) (j : List Nat), Same H H' → J[k]? = some j → meetB M j = false → H' t = some (.tup [.str "justice", nv k]) → Q (.ref t) H') ∧
  (∀ (H' : Hp) (t : Addr) (k : Nat) (F S : List Nat), Same H H' → C[k]? = some (F, S) → meetB M F = true → meetB M S = false → H' t = some (.tup [.str "compassion", nv k]) → Q (.ref t) H') ∧
  (∀ H' : Hp, Same H H' → leadB G M M = true → (∀ j, j ∈ J → meetB M j = true) → (∀ c, c ∈ C → meetB M c.1 = true → meetB M c.2 = true) → Q .non H')
theorem ok_reason {f fI fS : Addr} {fd fdI fdS : FuncData} (F : Fun K "reason_for" "reason_for" sReason f fd) (DI' : Df K mg "has_inner_edge" 1 ["after", "nodes"] fI fdI) (DS' : Df K mg "share" 2 ["nodes", "others"] fS fdS) (ma : mg "any" = none) (me : mg "enumerate" = none) :
    FnOk P w K mg base CX0 2 f fd ["after", "part", "justice", "compassion"] spReason := by
  have GI : FnOk P w K mg base CX0 1 fI fdI ["after", "nodes"] spInner := ok_inner DI'.F
  have GS : FnOk P w K mg base CX0 1 fS fdS ["nodes", "others"] spShare := ok_share DS'.F ma
  refine F.ok scReason (fun vs H Q E h => ?_) (fun cdv A outer s H vs Q E hr h => ?_)
  · obtain ⟨a, b, c, d, G, M, J, C, rfl, _⟩ := h
    rfl
  · obtain ⟨a, b, c, d, G, M, J, C, rfl, ha, hb, ⟨js, hc⟩, ⟨cs, hd⟩, hlt, hMl, lj, lc, q1, q2, q3, q4⟩ := h
    refine ⟨_, pss_cons (ps_if (pt_not (pt_val (pe_call GI hr (by rfl) DI'.g DI'.F.kp DI'.b .nil pass0 (pa_cons (pv 0) (pa_cons (pv 1) pa_nil))))) (pss_one (ps_ret (pe_tup (pa_cons pe_str (pa_cons pe_int pa_nil))))) pss_nil)
      (pss_cons (ps_for PassesOwn.never rfl (pi_enum (by rfl) me (pa_cons (pv 2) pa_nil)) (pg_tup rfl (pgs_cons (pg_name (i := 4) scReason.nd rfl (.inl rfl)) (pgs_cons (pg_name (i := 5) scReason.nd rfl (.inl rfl)) pgs_nil)))
        (pss_one (ps_if (pt_not (pt_val (pe_call GS hr (by rfl) DS'.g DS'.F.kp DS'.b .nil pass0 (pa_cons (pv 1) (pa_cons (pv 5) pa_nil))))) (pss_one (ps_ret (pe_tup (pa_cons pe_str (pa_cons (pv 4) pa_nil))))) pss_nil)))
      (pss_cons (ps_for PassesOwn.never rfl (pi_enum (by rfl) me (pa_cons (pv 3) pa_nil)) (pg_tup rfl (pgs_cons (pg_name (i := 4) scReason.nd rfl (.inl rfl)) (pgs_cons (pg_tup rfl (pgs_cons (pg_name (i := 6) scReason.nd rfl (.inl rfl)) (pgs_cons (pg_name (i := 7) scReason.nd rfl (.inl rfl)) pgs_nil))) pgs_nil)))
        (pss_one (ps_if (PW.pt (pw_and (pt_val (pe_call GS hr (by rfl) DS'.g DS'.F.kp DS'.b .nil pass0 (pa_cons (pv 1) (pa_cons (pv 6) pa_nil)))) (pw_and1 (pt_not (pt_val (pe_call GS hr (by rfl) DS'.g DS'.F.kp DS'.b .nil pass0 (pa_cons (pv 1) (pa_cons (pv 7) pa_nil)))))))) (pss_one (ps_ret (pe_tup (pa_cons pe_str (pa_cons (pv 4) pa_nil))))) pss_nil)))
      (pss_one (ps_ret pe_non)))), ?_⟩
    have two : ∀ {xs : List V}, xs.length = 2 → xs.length ≤ sizeLine := fun h => by rw [h]; decide
    refine ⟨.ref a, rfl, .ref b, rfl, a, b, G, M, rfl, ha, hb, hlt, hMl, fun H1 s1 => ⟨_, rfl, ?_⟩⟩
    cases el : leadB G M M with
    | false => exact iteT ⟨(by show 2 ≤ sizeLine; decide), fun t nt => q1 _ t (s1.trans (same_upd nt)) el upd_same⟩
    | true =>
      refine iteF ?_
      refine ⟨.ref c, rfl, c, _, rfl, SqL.of (s1 c _ hc.lst), for_it walk_enum (fun i σ H2 => ∃ v4 v5, σ = [some (.ref a), some (.ref b), some (.ref c), some (.ref d), v4, v5, none, none] ∧ Same H H2 ∧ ∀ j, j ∈ J.take i → meetB M j = true) ⟨_, _, rfl, s1, fun j hj => absurd hj (by simp)⟩ (fun i σ H2 _ ⟨_, _, _, s2, _⟩ => SqL.of (s2 c _ hc.lst)) ?_ ?_⟩
      · rintro i x σ H2 H2' hi ⟨v4, v5, rfl, s2, hno⟩ ⟨T, x1, x2, rfl, nT, rfl, h1, h2⟩
        have e1 : V.int (i : Int) = x1 := Option.some.inj h1
        obtain ⟨r, g, e2, hg, hr', _⟩ := hc.item h2
        subst e1 e2
        have hgJ := List.mem_of_getElem? hg
        have sm : Same H (upd H2 T (.tup [.int (i : Int), .ref r])) := s2.trans (same_upd nT)
        refine ⟨T, _, rfl, SqT.of upd_same, rfl, _, _, rfl, _, _, rfl, rfl, ?_⟩
        refine ⟨.ref b, rfl, .ref r, rfl, b, r, M, g, rfl, sm b _ hb, sm r _ hr', hMl, lj.2 g hgJ, fun H3 s3 => ⟨_, rfl, ?_⟩⟩
        cases em : meetB M g with
        | false => exact iteT ⟨.int (i : Int), rfl, (by show 2 ≤ sizeLine; decide), fun t nt => q2 _ t i g ((sm.trans s3).trans (same_upd nt)) hg em upd_same⟩
        | true =>
          refine iteF ⟨_, _, rfl, sm.trans s3, fun j hj => ?_⟩
          rw [List.take_add_one, hg] at hj
          rcases List.mem_append.mp hj with z | z
          · exact hno j z
          · have ej : j = g := by simpa using z
            rw [ej]
            exact em
      · rintro σ H2 ⟨v4, v5, rfl, s2, hJ⟩
        rw [List.length_map, hc.len, List.take_length] at hJ
        refine ⟨.ref d, rfl, d, _, rfl, SqL.of (s2 d _ hd.lst), for_it walk_enum (fun i σ H3 => ∃ v4 v5 v6 v7, σ = [some (.ref a), some (.ref b), some (.ref c), some (.ref d), v4, v5, v6, v7] ∧ Same H H3 ∧ ∀ c, c ∈ C.take i → meetB M c.1 = true → meetB M c.2 = true) ⟨_, _, _, _, rfl, s2, fun j hj => absurd hj (by simp)⟩ (fun i σ H3 _ ⟨_, _, _, _, _, s3, _⟩ => SqL.of (s3 d _ hd.lst)) ?_ ?_⟩
        · rintro i x σ H3 H3' hi ⟨v4, v5, v6, v7, rfl, s3, hno⟩ ⟨T, x1, x2, rfl, nT, rfl, h1, h2⟩
          have e1 : V.int (i : Int) = x1 := Option.some.inj h1
          obtain ⟨t0, f1, f2, F1, F2, e2, hC0, ht0, hf1, hf2, _⟩ := hd.item h2
          subst e1 e2
          have hCm := List.mem_of_getElem? hC0
          have sm : Same H (upd H3 T (.tup [.int (i : Int), .ref t0])) := s3.trans (same_upd nT)
          refine ⟨T, _, rfl, SqT.of upd_same, rfl, _, _, rfl, _, _, rfl, ⟨t0, _, rfl, SqT.of (sm t0 _ ht0), rfl, _, _, rfl, _, _, rfl, rfl, rfl, ?_⟩⟩
          have skip : ∀ H4, Same H H4 → (meetB M F1 = true → meetB M F2 = true) → ∃ v4' v5' v6' v7', [some (V.ref a), some (.ref b), some (.ref c), some (.ref d), some (.int (i : Int)), v5, some (.ref f1), some (.ref f2)] = [some (.ref a), some (.ref b), some (.ref c), some (.ref d), v4', v5', v6', v7'] ∧ Same H H4 ∧ ∀ c, c ∈ C.take (i + 1) → meetB M c.1 = true → meetB M c.2 = true := fun H4 s4 hx => ⟨_, _, _, _, rfl, s4, fun c0 hc0 => by
            rw [List.take_add_one, hC0] at hc0
            rcases List.mem_append.mp hc0 with z | z
            · exact hno c0 z
            · have ec : c0 = (F1, F2) := by simpa using z
              rw [ec]
              exact hx⟩
          refine ⟨.ref b, rfl, .ref f1, rfl, b, f1, M, F1, rfl, sm b _ hb, sm f1 _ hf1, hMl, (lc.2 _ hCm).1, fun H4 s4 => ⟨_, rfl, ?_⟩⟩
          have s34 : Same H H4 := sm.trans s4
          cases em : meetB M F1 with
          | false => exact iteF (iteF (skip H4 s34 fun z => by rw [em] at z; cases z))
          | true =>
            refine iteT ⟨.ref b, rfl, .ref f2, rfl, b, f2, M, F2, rfl, s34 b _ hb, s34 f2 _ hf2, hMl, (lc.2 _ hCm).2, fun H5 s5 => ⟨_, rfl, ?_⟩⟩
            have s45 : Same H H5 := s34.trans s5
            cases em2 : meetB M F2 with
            | true => exact iteF (skip H5 s45 fun _ => em2)
            | false => exact iteT ⟨.int (i : Int), rfl, (by show 2 ≤ sizeLine; decide), fun t nt => q3 _ t i F1 F2 (s45.trans (same_upd nt)) hC0 em em2 upd_same⟩
        · rintro σ H3 ⟨v4, v5, v6, v7, rfl, s3, hC⟩
          rw [List.length_map, hd.len, List.take_length] at hC
          exact q4 H3 s3 el hJ hC
end
end K56
set_option Elab.async false
set_option linter.all false
set_option maxRecDepth 100000
set_option maxHeartbeats 4000000
/-! K56Fj: search_nodes. -/
namespace K56
open PySem PySem.Spec PyProof.Rows L2
/-- a block in the heap -/
structure Bk where
  ad : Addr
  why : Str
  num : Nat
  ns : List Nat
  la : Addr
  ia : Addr
/-- its reason holds -/
def Rsn (G J : List (List Nat)) (C : List (List Nat × List Nat)) (X : Hp) (GA : Addr → List Nat → Prop) (why : Str) (num : Nat) (ns : List Nat) (ia : Addr) : Prop :=
  (why = "once" ∧ num = 0 ∧ LA X ia [] ∧ leadB G ns ns = false) ∨ (why = "justice" ∧ LA X ia [] ∧ ∃ j, J[num]? = some j ∧ meetB ns j = false) ∨
    (why = "compassion" ∧ ∃ F S, C[num]? = some (F, S) ∧ meetB ns S = false ∧ GA ia (ns.filter fun v => decide (v ∉ F)))
structure BkOk (G J : List (List Nat)) (C : List (List Nat × List Nat)) (X : Hp) (GA : Addr → List Nat → Prop) (b : Bk) : Prop where
  tup : X b.ad = some (.tup [.str b.why, nv b.num, .ref b.la, .ref b.ia])
  la : LA X b.la b.ns
  asc : Asc b.ns
  ne : b.ns ≠ []
  rsn : Rsn G J C X GA b.why b.num b.ns b.ia
/-- the blocks at a are accepted for ns, nested in at most so many levels -/
def GoodAt (G J : List (List Nat)) (C : List (List Nat × List Nat)) (X : Hp) : Nat → Addr → List Nat → Prop
  | 0, _, _ => False
  | lev + 1, a, ns => ∃ bs : List Bk, X a = some (.lst (bs.map fun b => V.ref b.ad)) ∧ bs.length ≤ 1000 ∧ (bs.map (·.ns)).flatten.Nodup ∧ (∀ v, v ∈ (bs.map (·.ns)).flatten ↔ v ∈ ns) ∧
      (∀ (i j : Nat) (b c : Bk), bs[i]? = some b → bs[j]? = some c → j < i → leadB G b.ns c.ns = false) ∧ ∀ b, b ∈ bs → BkOk G J C X (GoodAt G J C X lev) b
theorem Rsn.mono {G J : List (List Nat)} {C : List (List Nat × List Nat)} {X Y : Hp} {GA GB : Addr → List Nat → Prop} (s : Same X Y) (g : ∀ a ns, GA a ns → GB a ns) {why : Str} {num : Nat} {ns : List Nat} {ia : Addr} (h : Rsn G J C X GA why num ns ia) : Rsn G J C Y GB why num ns ia := by
  rcases h with ⟨h1, h2, h3, h4⟩ | ⟨h1, h2, h3⟩ | ⟨h1, F, S, h2, h3, h4⟩
  · exact .inl ⟨h1, h2, s _ _ h3, h4⟩
  · exact .inr (.inl ⟨h1, s _ _ h2, h3⟩)
  · exact .inr (.inr ⟨h1, F, S, h2, h3, g _ _ h4⟩)
theorem BkOk.mono {G J : List (List Nat)} {C : List (List Nat × List Nat)} {X Y : Hp} {GA GB : Addr → List Nat → Prop} (s : Same X Y) (g : ∀ a ns, GA a ns → GB a ns) {b : Bk} (h : BkOk G J C X GA b) : BkOk G J C Y GB b :=
  ⟨s _ _ h.tup, s _ _ h.la, h.asc, h.ne, h.rsn.mono s g⟩
theorem GoodAt.mono {G J : List (List Nat)} {C : List (List Nat × List Nat)} {X Y : Hp} (s : Same X Y) : ∀ (lev : Nat) (a : Addr) (ns : List Nat), GoodAt G J C X lev a ns → GoodAt G J C Y lev a ns
  | 0, _, _, h => (show False from h).elim
  | lev + 1, a, ns, h => by
    obtain ⟨bs, h1, h2, h3, h4, h5, h6⟩ := h
    exact ⟨bs, s _ _ h1, h2, h3, h4, h5, fun b hb => (h6 b hb).mono s (GoodAt.mono s lev)⟩
/-- what is new since H -/
def nw (H H' : Hp) : Hp := fun c => if (H c).isNone then H' c else none
theorem nw_of {H H' : Hp} {c : Addr} {o : HO} (h : H c = none) (e : H' c = some o) : nw H H' c = some o := by
  unfold nw
  rw [h]
  exact e
theorem of_nw {H H' : Hp} {c : Addr} {o : HO} (e : nw H H' c = some o) : H c = none ∧ H' c = some o := by
  unfold nw at e
  cases h : H c with
  | none =>
    rw [h] at e
    exact ⟨rfl, e⟩
  | some u =>
    rw [h] at e
    cases e
/-- a fair strongly connected part of the nodes -/
structure FairPart (G J : List (List Nat)) (C : List (List Nat × List Nat)) (ns M : List Nat) : Prop where
  asc : Asc M
  sub : ∀ v, v ∈ M → v ∈ ns
  ne : M ≠ []
  sc : ∀ a, a ∈ M → ∀ b, b ∈ M → Rch (rE G M) a b
  edge : leadB G M M = true
  jus : ∀ j, j ∈ J → meetB M j = true
  com : ∀ c, c ∈ C → meetB M c.1 = true → meetB M c.2 = true
theorem FairPart.up {G J : List (List Nat)} {C : List (List Nat × List Nat)} {ns ms M : List Nat} (f : FairPart G J C ns M) (h : ∀ v, v ∈ ns → v ∈ ms) : FairPart G J C ms M :=
  ⟨f.asc, fun v hv => h v (f.sub v hv), f.ne, f.sc, f.edge, f.jus, f.com⟩
theorem sc_part {G : List (List Nat)} {ns p : List Nat} (h : ∀ a, a ∈ p → ∀ b, b ∈ p → Rch (inE (rE G ns) p) a b) : ∀ a, a ∈ p → ∀ b, b ∈ p → Rch (rE G p) a b := by
  have key : ∀ a b, Rch (inE (rE G ns) p) a b → a ∈ p → b ∈ p ∧ Rch (rE G p) a b := fun a b r => by
    induction r with
    | refl => exact fun ha => ⟨ha, .refl _⟩
    | step _ hc ih =>
      intro ha
      obtain ⟨h1, h2⟩ := ih ha
      obtain ⟨hc1, hc2⟩ := mem_inE.mp hc
      exact ⟨hc2, .step h2 (mem_rE.mpr ⟨h1, (mem_rE.mp hc1).2.1, hc2⟩)⟩
  exact fun a ha b hb => (key a b (h a ha b hb) ha).2
section
variable {P : Program} {w : World} {K : PySem.W.Frag} {mg : Str → Option Value} {base : Heap}
/-! ### search_nodes -/
abbrev sSrch : Stmt := topS 18
abbrev nSrch : List Str := ["after", "nodes", "justice", "compassion", "blocks", "part", "found", "inner", "marked", "result", "node"]
theorem scSrch : FnScope nSrch ["after", "nodes", "justice", "compassion"] (defScope sSrch) := ⟨rfl, rfl, rfl, by decide +kernel, rfl, by decide +kernel, by decide +kernel⟩
/-- so many levels may still be used -/
def spSrch : Nat → Sp
  | 0 => fun _ _ _ _ => False
  | lev + 1 => fun vs H Q _ => ∃ (a b c d : Addr) (G : List (List Nat)) (ns : List Nat) (J : List (List Nat)) (C : List (List Nat × List Nat)) (U : List Nat), vs = [.ref a, .ref b, .ref c, .ref d] ∧ LL H a G ∧ LA H b ns ∧ LL H c J ∧ LP H d C ∧ Asc ns ∧ (∀ x, x ∈ ns → x < G.length) ∧ GW G ∧ ShortJ J ∧ ShortC C ∧
      U.Nodup ∧ (∀ u, u ∈ U → ∃ F S, C[u]? = some (F, S) ∧ ∀ x, x ∈ ns → x ∉ F) ∧ U.length + (lev + 1) = C.length + 1 ∧
      (∀ (H' : Hp) (t l : Addr), Same H H' → H' t = some (.tup [.str "blocks", .ref l]) → GoodAt G J C (nw H H') (lev + 1) l ns → Q (.ref t) H') ∧
      (∀ (H' : Hp) (t l : Addr) (M : List Nat), Same H H' → H' t = some (.tup [.str "part", .ref l]) → LA H' l M → FairPart G J C ns M → Q (.ref t) H')
theorem strne1 : decide (V.str ("once" : Str) = V.str ("compassion" : Str)) = false := by decide +kernel
theorem strne2 : decide (V.str ("justice" : Str) = V.str ("compassion" : Str)) = false := by decide +kernel
theorem strne3 : decide (V.str ("blocks" : Str) = V.str ("part" : Str)) = false := by decide +kernel
theorem ok_srch0 {f : Addr} {fd : FuncData} {k : Nat} : FnOk P w K mg base CX0 k f fd ["after", "nodes", "justice", "compassion"] (spSrch 0) := ⟨fun _ _ _ _ h => h.elim, fun _ _ _ _ _ _ _ _ _ _ _ _ _ h => h.elim⟩
theorem ok_srch {f fC fR : Addr} {fd fdC fdR : FuncData} (D : Df K mg "search_nodes" 18 ["after", "nodes", "justice", "compassion"] f fd) (DC : Df K mg "components" 7 ["after", "members"] fC fdC) (DR : Df K mg "reason_for" 17 ["after", "part", "justice", "compassion"] fR fdR)
    (GC : FnOk P w K mg base CX0 2 fC fdC ["after", "members"] spComp) (GR : FnOk P w K mg base CX0 2 fR fdR ["after", "part", "justice", "compassion"] spReason) : ∀ lev : Nat, FnOk P w K mg base CX0 (lev + 2) f fd ["after", "nodes", "justice", "compassion"] (spSrch lev)
  | 0 => ok_srch0
  | lev + 1 => by
    have GS := ok_srch D DC DR GC GR lev
    refine D.F.ok scSrch (fun vs H Q E h => ?_) (fun cdv A outer s H vs Q E hr h => ?_)
    · obtain ⟨a, b, c, d, G, ns, J, C, U, rfl, _⟩ := h
      rfl
    · obtain ⟨a, b, c, d, G, ns, J, C, U, rfl, ha, hb, hc, hd, hasc, hlt, gw, lj, lc, hU, hUF, hUl, q1, q2⟩ := h
      have hu := hu_of hr
      have hr2 : Room 2 _ := hr.mono (by omega)
      refine ⟨_, pss_cons (ps_set (i := 4) scSrch.nd rfl (.inl rfl) (pe_lst pa_nil))
        (pss_cons (ps_for PassesOwn.never rfl (pi_list (pe_call GC hr2 (by rfl) DC.g DC.F.kp DC.b .nil pass0 (pa_cons (pv 0) (pa_cons (pv 1) pa_nil)))) (pg_name (i := 5) scSrch.nd rfl (.inl rfl))
          (Evl.pss_cut (ps_set (i := 6) scSrch.nd rfl (.inl rfl) (pe_call GR hr2 (by rfl) DR.g DR.F.kp DR.b .nil pass0 (pa_cons (pv 0) (pa_cons (pv 5) (pa_cons (pv 2) (pa_cons (pv 3) pa_nil))))))
          (pss_cons (ps_if (pt_cmp (pc_isN (pv 6))) (pss_one (ps_ret (pe_tup (pa_cons pe_str (pa_cons (pv 5) pa_nil))))) pss_nil)
          (pss_cons (ps_set (i := 7) scSrch.nd rfl (.inl rfl) (pe_lst pa_nil))
          (Evl.pss_cut (ps_if (pt_cmpR op_eq (pe_ix ix_tup (pv 6) pe_int (fun _ _ => rfl)) pe_str (nomark _))
            (pss_cons (ps_set (i := 8) scSrch.nd rfl (.inr rfl) (pe_dc (own := [("node", 10)]) (g := gName 10) (tt := tYes) rfl scSrch.nd (pi_list (pe_ix ix_tup (pe_ix ix_list (pv 3) (pe_ix ix_tup (pv 6) pe_int (fun _ _ => rfl)) (fun _ _ => rfl)) pe_int (fun _ _ => rfl))) (blkOk_by (N := nSrch) (sc := defScope sSrch) (by decide +kernel)) (fun _ _ _ _ _ => pg_name (i := 10) scSrch.nd rfl (.inl rfl)) (fun _ _ _ _ _ => pts_nil) (fun _ _ _ _ _ => pv 10) (fun _ _ _ _ _ => pe_bl)))
            (pss_cons (ps_set (i := 9) scSrch.nd rfl (.inl rfl) (pe_call GS hr (by rfl) D.g D.F.kp D.b .nil pass0 (pa_cons (pv 0) (pa_cons
              (pe_lc (own := [("node", 10)]) (g := gName 10) rfl scSrch.nd (pi_list (pv 5)) (blkOk_by (N := nSrch) (sc := defScope sSrch) (by decide +kernel)) (fun _ _ _ _ _ => pg_name (i := 10) scSrch.nd rfl (.inl rfl)) (fun _ _ _ _ _ => pts_one (pt_cmp (pc_dnotin hu (pv 10) (pv 8)))) (fun _ _ _ _ _ => pv 10))
              (pa_cons (pv 2) (pa_cons (pv 3) pa_nil))))))
            (pss_cons (ps_if (pt_cmpR op_eq (pe_ix ix_tup (pv 9) pe_int (fun _ _ => rfl)) pe_str (nomark _)) (pss_one (ps_ret (pv 9))) pss_nil)
            (pss_one (ps_set (i := 7) scSrch.nd rfl (.inl rfl) (pe_ix ix_tup (pv 9) pe_int (fun _ _ => rfl))))))) pss_nil)
          (pss_one (ps_expr (pe_bm PySem.F.plainAttrs_list PySem.F.slot_list_append PySem.F.type_list_append mt_append (pv 4) (pa_cons (pe_tup (pa_cons (pe_ix ix_tup (pv 6) pe_int (fun _ _ => rfl)) (pa_cons (pe_ix ix_tup (pv 6) pe_int (fun _ _ => rfl)) (pa_cons (pv 5) (pa_cons (pv 7) pa_nil))))) pa_nil)))))))))
        (pss_one (ps_ret (pe_tup (pa_cons pe_str (pa_cons (pv 4) pa_nil)))))), ?_⟩
      have hns : ns.length ≤ 60 := by
        have := nodup_lt hasc.nodup hlt
        have := gw.n60
        omega
      -- blocks = []
      refine ⟨Nat.zero_le _, fun bl nbl => ?_⟩
      have s0 : Same H (upd H bl (.lst [])) := same_upd nbl
      generalize hH0 : upd H bl (.lst []) = H0 at s0
      have bl0 : H0 bl = some (.lst []) := by rw [← hH0, upd_same]
      have fbl : ∀ c u, H c = some u → c ≠ bl := fun c u z => ne_of_none z nbl
      have H0n : ∀ c, H0 c = none → H c = none := fun c z => s0.free z
      -- components(after, nodes)
      refine ⟨.ref a, rfl, .ref b, rfl, a, b, G, ns, rfl, ha.same s0, s0 b _ hb, hlt, hasc.nodup, hns, gw, fun H1 cp Ps pps s1 ncp0 hP hnew cps => ?_⟩
      have bl1 : H1 bl = some (.lst []) := s1 bl _ bl0
      have ncp : cp ≠ bl := fun z => by rw [z, bl0] at ncp0; cases ncp0
      have hPl : pps.length = Ps.length := hP.len
      -- what the turns know of the heap
      have dom : ∀ {Hx : Hp} {xs : List V}, (∀ c u, H1 c = some u → c ≠ bl → Hx c = some u) → Hx bl = some (.lst xs) → ∀ c, Hx c = none → H0 c = none := fun {Hx xs} kp e c z => by
        by_cases h : c = bl
        · rw [h, e] at z
          cases z
        · cases e0 : H0 c with
          | none => rfl
          | some u =>
            have := kp c u (s1 c u e0) h
            rw [z] at this
            cases this
      have sameH : ∀ {Hx : Hp}, (∀ c u, H1 c = some u → c ≠ bl → Hx c = some u) → Same H Hx := fun kp c u z => kp c u (s1 c u (s0 c u z)) (fbl c u z)
      have nwS : ∀ {Hx Hy : Hp}, (∀ c u, Hx c = some u → c ≠ bl → Hy c = some u) → Same (nw H0 Hx) (nw H0 Hy) := fun kp c u z => by
        obtain ⟨z1, z2⟩ := of_nw z
        exact nw_of z1 (kp c u z2 fun e => by rw [e, bl0] at z1; cases z1)
      refine ⟨cp, rfl, ⟨_, SqL.of hP.lst⟩, for_list (K := K) (a := cp) (xs := pps.map fun p => V.ref p.1) (fun i σ Hc => ∃ (bs : List Bk) (v5 v6 v7 v8 v9 : Option V), σ = [some (.ref a), some (.ref b), some (.ref c), some (.ref d), some (.ref bl), v5, v6, v7, v8, v9, none] ∧ Hc bl = some (.lst (bs.map fun b => V.ref b.ad)) ∧ bs.map (·.ns) = Ps.take i ∧ (∀ b, b ∈ bs → BkOk G J C (nw H0 Hc) (GoodAt G J C (nw H0 Hc) lev) b) ∧ (∀ c u, H1 c = some u → c ≠ bl → Hc c = some u))
        ⟨[], _, _, _, _, _, rfl, bl1, by simp, fun b hb => absurd hb (by simp), fun c u z _ => z⟩ (fun i σ Hc hi ⟨bs, _, _, _, _, _, _, hbl, _, _, kp⟩ => SqL.of (kp _ _ hP.lst ncp)) ?_ ?_⟩
      · rintro i x σ Hc hx ⟨bs, v5, v6, v7, v8, v9, rfl, hbl, hbs, hok, kp⟩
        obtain ⟨r, p, rfl, hp, _, hpp⟩ := hP.item hx
        have hil := (List.getElem?_eq_some_iff.mp hx).1
        rw [List.length_map] at hil
        have hpm := List.mem_of_getElem? hp
        have hrm := List.mem_of_getElem? hpp
        have hr0 : H0 r = none := hnew _ hrm
        have nrbl : r ≠ bl := fun z => by rw [z, bl0] at hr0; cases hr0
        have hrc : LA Hc r p := kp r _ (hP.row _ hrm) nrbl
        have pasc := cps.asc p hpm
        have pns : ∀ v, v ∈ p → v ∈ ns := fun v hv => (cps.mem v).mp (List.mem_flatten.mpr ⟨p, hpm, hv⟩)
        have plt : ∀ v, v ∈ p → v < G.length := fun v hv => hlt v (pns v hv)
        have pl : p.length ≤ 60 := by
          have := nodup_sub pasc.nodup pns
          omega
        have hbl1 : bs.length ≤ 60 := by
          have h1 := congrArg List.length hbs
          rw [List.length_map, List.length_take] at h1
          have h2 : Ps.flatten.length ≤ ns.length := nodup_sub cps.nd fun v hv => (cps.mem v).mp hv
          have h3 : ∀ L : List (List Nat), (∀ q, q ∈ L → q ≠ []) → L.length ≤ L.flatten.length := by
            intro L
            induction L with
            | nil => intro _; exact Nat.le_refl _
            | cons q L ih =>
              intro h
              have h1 := ih fun q hq => h q (List.mem_cons_of_mem _ hq)
              have h2 := List.length_pos_iff.mpr (h q List.mem_cons_self)
              rw [List.flatten_cons, List.length_append, List.length_cons]
              omega
          have := h3 Ps cps.ne
          omega
        have sH := sameH kp
        -- found = reason_for(..)
        refine ⟨fun σ' H' => ∃ x6 : V, σ' = [some (.ref a), some (.ref b), some (.ref c), some (.ref d), some (.ref bl), some (.ref r), some x6, v7, v8, v9, none] ∧ Same Hc H' ∧
            ((x6 = .non ∧ leadB G p p = true ∧ (∀ j, j ∈ J → meetB p j = true) ∧ (∀ c, c ∈ C → meetB p c.1 = true → meetB p c.2 = true)) ∨
            ∃ (t6 : Addr) (why : Str) (num : Nat), x6 = .ref t6 ∧ H' t6 = some (.tup [.str why, nv num]) ∧ ((why = "once" ∧ num = 0 ∧ leadB G p p = false) ∨ (why = "justice" ∧ ∃ j, J[num]? = some j ∧ meetB p j = false) ∨ (why = "compassion" ∧ ∃ F S, C[num]? = some (F, S) ∧ meetB p F = true ∧ meetB p S = false))), ?_, ?_⟩
        · refine ⟨.ref a, rfl, .ref r, rfl, .ref c, rfl, .ref d, rfl, a, r, c, d, G, p, J, C, rfl, ha.same sH, hrc, hc.same sH, hd.same sH, plt, by omega, lj, lc, fun H2 t s2 h1 h2 => ?_, fun H2 t k j s2 h1 h2 h3 => ?_, fun H2 t k F S s2 h1 h2 h3 h4 => ?_, fun H2 s2 h1 h2 h3 => ?_⟩
          · exact ⟨_, rfl, s2, .inr ⟨t, _, 0, rfl, h2, .inl ⟨rfl, rfl, h1⟩⟩⟩
          · exact ⟨_, rfl, s2, .inr ⟨t, _, k, rfl, h3, .inr (.inl ⟨rfl, j, h1, h2⟩)⟩⟩
          · exact ⟨_, rfl, s2, .inr ⟨t, _, k, rfl, h4, .inr (.inr ⟨rfl, F, S, h1, h2, h3⟩)⟩⟩
          · exact ⟨_, rfl, s2, .inl ⟨rfl, h1, h2, h3⟩⟩
        · rintro σ' H2 ⟨x6, rfl, s2, hx6⟩
          rcases hx6 with ⟨rfl, g1, g2, g3⟩ | ⟨t6, why, num, rfl, h6, hwhy⟩
          · -- a fair part
            refine ⟨.non, rfl, _, rfl, iteT ⟨.ref r, rfl, (by show 2 ≤ sizeLine; decide), fun t nt => ?_⟩⟩
            have st : Same H2 (upd H2 t (.tup [.str "part", .ref r])) := same_upd nt
            exact q2 _ t r p ((sH.trans s2).trans st) upd_same (st r _ (s2 r _ hrc)) ⟨pasc, pns, cps.ne p hpm, sc_part (cps.sc p hpm), g1, g2, g3⟩
          · refine ⟨.ref t6, rfl, _, rfl, iteF ?_⟩
            -- inner = []
            refine ⟨Nat.zero_le _, fun l7 nl7 => ?_⟩
            have s3 : Same H2 (upd H2 l7 (.lst [])) := same_upd nl7
            generalize hH3 : upd H2 l7 (.lst []) = H3 at s3
            have e7 : H3 l7 = some (.lst []) := by rw [← hH3, upd_same]
            have s23 : Same Hc H3 := s2.trans s3
            have kp3 : ∀ c u, H1 c = some u → c ≠ bl → H3 c = some u := fun c u z h => s23 c u (kp c u z h)
            have hbl3 : H3 bl = some (.lst (bs.map fun b => V.ref b.ad)) := s23 bl _ hbl
            have h63 : H3 t6 = some (.tup [.str why, nv num]) := s3 t6 _ h6
            have l70 : H0 l7 = none := dom (fun c u z h => s2 c u (kp c u z h)) (s2 bl _ hbl) l7 nl7
            have e7n : LA (nw H0 H3) l7 [] := nw_of l70 e7
            refine ⟨fun σ' H' => ∃ (i7 : Addr) (v8 v9 : Option V), σ' = [some (.ref a), some (.ref b), some (.ref c), some (.ref d), some (.ref bl), some (.ref r), some (.ref t6), some (.ref i7), v8, v9, none] ∧ Same H3 H' ∧ Rsn G J C (nw H0 H') (GoodAt G J C (nw H0 H') lev) why num p i7, ?_, ?_⟩
            · -- if found[0] == "compassion"
              refine ⟨.ref t6, rfl, t6, _, 0, .str why, rfl, rfl, SqT.of h63, atI_nat (j := 0) rfl, rfl, _, rfl, ?_⟩
              show if decide (V.str why = V.str ("compassion" : Str)) = true then _ else _
              rcases hwhy with ⟨rfl, h1, h2⟩ | ⟨rfl, h1⟩ | ⟨rfl, F, S, h1, h2, h3⟩
              · rw [strne1]
                exact iteF ⟨l7, _, _, rfl, Same.refl _, .inl ⟨rfl, h1, e7n, h2⟩⟩
              · rw [strne2]
                exact iteF ⟨l7, _, _, rfl, Same.refl _, .inr (.inl ⟨rfl, e7n, h1⟩)⟩
              · rw [decide_eq_true rfl]
                refine iteT ?_
                have hCm := List.mem_of_getElem? h1
                obtain ⟨xs, t0, f1, f2, g1, g2, g3, g4, g5⟩ := hd.at h1
                have s03 : Same H H3 := sH.trans s23
                refine set_seq (b := f1) ?ht (s03 f1 _ g4) (by have z : F.length ≤ 1000 := (lc.2 _ hCm).1; omega) ?hi ?h
                (case ht => exact fun R h => ⟨.ref d, rfl, .ref t6, rfl, t6, _, 1, nv num, rfl, rfl, SqT.of h63, atI_nat (j := 1) rfl, d, xs, _, .ref t0, rfl, rfl, SqL.of (s03 d _ g1), g2, t0, _, 0, .ref f1, rfl, rfl, SqT.of (s03 t0 _ g3), atI_nat (j := 0) rfl, h⟩)
                (case hi => exact (by decide : (10 : Nat) < 11))
                intro d8 H4 nd8 s4 hd8
                have s34 : Same Hc H4 := s23.trans s4
                have hr4 : LA H4 r p := s34 r _ hrc
                -- result = search_nodes(after, [..], justice, compassion)
                refine ⟨.ref a, rfl, .ref r, rfl, r, rfl, ⟨_, SqL.of hr4⟩, fun l nl => ?_⟩
                refine lc_list (K := K) (a := r) (xs := nvs p) (fun j H5 => Same H4 H5 ∧ LA H5 l ((p.take j).filter fun v => decide (v ∉ F))) ⟨same_upd nl, upd_same⟩ (fun j H5 _ p => SqL.of (p.1 _ _ hr4)) (fun j y H5 hy pj => ?_) (fun H5 pj => ?_)
                · obtain ⟨n, hn, rfl⟩ := nvs_get hy
                  obtain ⟨s5, hl⟩ := pj
                  obtain ⟨o, g, eo⟩ := (DS.same (H' := H5) hd8 (by
                    obtain ⟨kvs, z, _⟩ := id hd8
                    rw [z, s5 _ _ z])).get n
                  have et : p.take (j + 1) = p.take j ++ [n] := by rw [List.take_add_one, hn]; rfl
                  refine ⟨rfl, _, rfl, .ref d8, rfl, d8, o, rfl, g, _, rfl, ?_⟩
                  show if (!o.isSome) = true then _ else _
                  rw [eo]
                  by_cases hm : n ∈ F
                  · rw [decide_eq_true hm]
                    refine iteF ⟨s5, ?_⟩
                    rw [et, List.filter_append]
                    simp only [List.filter_cons, List.filter_nil, hm, not_true, decide_false, Bool.false_eq_true, if_false, List.append_nil]
                    exact hl
                  · rw [decide_eq_false hm]
                    refine iteT ⟨nv n, rfl, _, hl, ?_, fun c u z => ?_, ?_⟩
                    · rw [nvs_len]
                      have h1 := List.length_filter_le (fun v => decide (v ∉ F)) (p.take j)
                      rw [List.length_take] at h1
                      exact line1000 (by omega)
                    · rw [upd_ne (ne_of_none z nl)]
                      exact s5 c u z
                    · rw [LA, upd_same, nvs_snoc, et, List.filter_append]
                      simp [hm]
                · obtain ⟨s5, hl⟩ := pj
                  rw [nvs_len, List.take_length] at hl
                  have s35 : Same H3 H5 := s4.trans s5
                  have s05 : Same H H5 := s03.trans s35
                  have hnU : num ∉ U := fun z => by
                    obtain ⟨F', S', e1, e2⟩ := hUF num z
                    rw [h1] at e1
                    cases e1
                    obtain ⟨x, hx1, hx2⟩ := meetB_iff.mp h2
                    exact e2 x (pns x hx1) hx2
                  have hUn : (num :: U).Nodup := List.nodup_cons.mpr ⟨hnU, hU⟩
                  have hUb : (num :: U).length ≤ C.length := nodup_lt hUn fun x hx => by
                    rcases List.mem_cons.mp hx with z | z
                    · rw [z]
                      exact (List.getElem?_eq_some_iff.mp h1).1
                    · obtain ⟨F', S', e1, _⟩ := hUF x z
                      exact (List.getElem?_eq_some_iff.mp e1).1
                  rw [List.length_cons] at hUb
                  obtain ⟨lev', rfl⟩ : ∃ lev', lev = lev' + 1 := ⟨lev - 1, by omega⟩
                  refine ⟨.ref c, rfl, .ref d, rfl, a, l, c, d, G, p.filter (fun v => decide (v ∉ F)), J, C, num :: U, rfl, ha.same s05, hl, hc.same s05, hd.same s05, List.Pairwise.filter _ pasc, fun v hv => plt v (List.mem_filter.mp hv).1, gw, lj, lc, hUn, fun u hu' => ?_, by rw [List.length_cons]; omega, fun H6 t9 l9 s6 h9 good => ?_, fun H6 t9 l9 M s6 h9 hM fair => ?_⟩
                  · rcases List.mem_cons.mp hu' with z | z
                    · rw [z]
                      exact ⟨F, S, h1, fun x hx => of_decide_eq_true (List.mem_filter.mp hx).2⟩
                    · obtain ⟨F', S', e1, e2⟩ := hUF u z
                      exact ⟨F', S', e1, fun x hx => e2 x (pns x (List.mem_filter.mp hx).1)⟩
                  · -- blocks: inner = result[1]
                    refine ⟨.ref t9, rfl, t9, _, 0, .str "blocks", rfl, rfl, SqT.of h9, atI_nat (j := 0) rfl, rfl, _, rfl, ?_⟩
                    show if decide (V.str ("blocks" : Str) = V.str ("part" : Str)) = true then _ else _
                    rw [strne3]
                    refine iteF ⟨.ref t9, rfl, t9, _, 1, .ref l9, rfl, rfl, SqT.of h9, atI_nat (j := 1) rfl, l9, _, _, rfl, s35.trans s6, .inr (.inr ⟨rfl, F, S, h1, h3, ?_⟩)⟩
                    refine GoodAt.mono (fun c u z => ?_) _ _ _ good
                    obtain ⟨z1, z2⟩ := of_nw z
                    exact nw_of (dom (fun c u z h => s35 c u (kp3 c u z h)) (s35 bl _ hbl3) c z1) z2
                  · -- a fair part within
                    refine ⟨.ref t9, rfl, t9, _, 0, .str "part", rfl, rfl, SqT.of h9, atI_nat (j := 0) rfl, rfl, _, rfl, ?_⟩
                    show if decide (V.str ("part" : Str) = V.str ("part" : Str)) = true then _ else _
                    rw [decide_eq_true rfl]
                    exact iteT ⟨.ref t9, rfl, q2 H6 t9 l9 M (s05.trans s6) h9 hM (fair.up fun v hv => pns v (List.mem_filter.mp hv).1)⟩
            · -- blocks.append((found[0], found[1], part, inner))
              rintro σ' H4 ⟨i7, v8', v9', rfl, s4, rsn⟩
              have h64 : H4 t6 = some (.tup [.str why, nv num]) := s4 t6 _ h63
              have hbl4 : H4 bl = some (.lst (bs.map fun b => V.ref b.ad)) := s4 bl _ hbl3
              have kp4 : ∀ c u, H1 c = some u → c ≠ bl → H4 c = some u := fun c u z h => s4 c u (kp3 c u z h)
              refine ⟨.ref bl, rfl, .inl ⟨rfl, _, SqL.of hbl4⟩, .ref t6, rfl, t6, _, 0, .str why, rfl, rfl, SqT.of h64, atI_nat (j := 0) rfl, .ref t6, rfl, t6, _, 1, nv num, rfl, rfl, SqT.of h64, atI_nat (j := 1) rfl, .ref r, rfl, .ref i7, rfl, (by show 4 ≤ sizeLine; decide), fun tp ntp => ?_⟩
              have s5 : Same H4 (upd H4 tp (.tup [.str why, nv num, .ref r, .ref i7])) := same_upd ntp
              have tp0 : H0 tp = none := dom kp4 hbl4 tp ntp
              have ntb : tp ≠ bl := fun z => by rw [z, bl0] at tp0; cases tp0
              generalize hH5 : upd H4 tp (.tup [.str why, nv num, .ref r, .ref i7]) = H5 at s5
              have etp : H5 tp = some (.tup [.str why, nv num, .ref r, .ref i7]) := by rw [← hH5, upd_same]
              refine ⟨bl, _, .ref tp, rfl, rfl, s5 bl _ hbl4, (by rw [List.length_map]; exact line1000 (by omega)), ?_⟩
              generalize hH6 : upd H5 bl (.lst (bs.map (fun b => V.ref b.ad) ++ [V.ref tp])) = H6
              have k6 : ∀ c u, H4 c = some u → c ≠ bl → H6 c = some u := fun c u z h => by
                rw [← hH6, upd_ne h]
                exact s5 c u z
              have sc6 : ∀ c u, Hc c = some u → c ≠ bl → H6 c = some u := fun c u z h => k6 c u (s4 c u (s23 c u z)) h
              refine ⟨bs ++ [⟨tp, why, num, p, r, i7⟩], _, _, _, _, _, rfl, by rw [← hH6, upd_same, List.map_append]; rfl, ?_, fun bk hbk => ?_, fun c u z h => k6 c u (kp4 c u z h) h⟩
              · rw [List.map_append, hbs, List.take_add_one, hp]
                rfl
              · rcases List.mem_append.mp hbk with z | z
                · exact (hok bk z).mono (nwS sc6) (GoodAt.mono (nwS sc6) lev)
                · rw [List.mem_singleton.mp z]
                  refine ⟨nw_of tp0 ?_, nw_of hr0 (sc6 r _ hrc nrbl), pasc, cps.ne p hpm, rsn.mono (nwS k6) (GoodAt.mono (nwS k6) lev)⟩
                  rw [← hH6, upd_ne ntb]
                  exact etp
      · rintro σ Hc ⟨bs, v5, v6, v7, v8, v9, rfl, hbl, hbs, hok, kp⟩
        rw [List.length_map, hPl, List.take_length] at hbs
        refine ⟨.ref bl, rfl, (by show 2 ≤ sizeLine; decide), fun t nt => ?_⟩
        have st : Same Hc (upd Hc t (.tup [.str "blocks", .ref bl])) := same_upd nt
        have snw : Same (nw H0 Hc) (nw H (upd Hc t (.tup [.str "blocks", .ref bl]))) := fun c u z => by
          obtain ⟨z1, z2⟩ := of_nw z
          exact nw_of (H0n c z1) (st c u z2)
        refine q1 _ t bl ((sameH kp).trans st) upd_same ⟨bs, nw_of nbl (st bl _ hbl), ?_, ?_, fun v => ?_, fun i j x y hi hj hij => ?_, fun bk hbk => (hok bk hbk).mono snw (GoodAt.mono snw lev)⟩
        · have h1 := congrArg List.length hbs
          rw [List.length_map] at h1
          have h2 : Ps.flatten.length ≤ ns.length := nodup_sub cps.nd fun v hv => (cps.mem v).mp hv
          have h3 : ∀ L : List (List Nat), (∀ q, q ∈ L → q ≠ []) → L.length ≤ L.flatten.length := by
            intro L
            induction L with
            | nil => intro _; exact Nat.le_refl _
            | cons q L ih =>
              intro h
              have h1 := ih fun q hq => h q (List.mem_cons_of_mem _ hq)
              have h2 := List.length_pos_iff.mpr (h q List.mem_cons_self)
              rw [List.flatten_cons, List.length_append, List.length_cons]
              omega
          have := h3 Ps cps.ne
          omega
        · rw [hbs]
          exact cps.nd
        · rw [hbs]
          exact cps.mem v
        · refine notB fun e => ?_
          obtain ⟨u, w', g1, g2, g3⟩ := leadB_iff.mp e
          have e1 : Ps[i]? = some x.ns := by rw [← hbs, List.getElem?_map, hi]; rfl
          have e2 : Ps[j]? = some y.ns := by rw [← hbs, List.getElem?_map, hj]; rfl
          have m1 : u ∈ ns := (cps.mem u).mp (List.mem_flatten.mpr ⟨_, List.mem_of_getElem? e1, g1⟩)
          have m2 : w' ∈ ns := (cps.mem w').mp (List.mem_flatten.mpr ⟨_, List.mem_of_getElem? e2, g3⟩)
          exact cps.back i j x.ns y.ns e1 e2 hij u g1 w' (mem_rE.mpr ⟨m1, g2, m2⟩) g3
end
end K56
set_option Elab.async false
set_option linter.all false
set_option maxRecDepth 100000
set_option maxHeartbeats 1000000
/-! K56Lam: min(xs, key=lambda x: ..) of a list of one item. -/
namespace K56
open PySem PySem.Spec PyProof.Rows L2 LamX NdefX
/-! ### a lambda called -/
section
variable {CX : CXT} {P : Program} {w : World} {K : PySem.W.Frag} {mg : Str → Option Value} {base : Heap} {N ps fr : List Str} {F : NF} {f : Addr} {A : Around} {outer : List Env} {s : Shared} {H : Hp} {E : XK} {us : List Value} {vs : List V} {ws : List (Option V)} {k : Nat} {Q : VK}
theorem lam_call {body : Expr} {pm ctv : Value} (S : NScope N ps fr F.scope) (ho : s.heap.get? f = some (PySem.W.kla_obj F.name F.qual F.params body F.scope F.cl pm F.c ctv))
    (hb : bindArgs (PySem.W.kla_fn F.name F.qual F.params body F.scope F.cl pm (.ref F.c) ctv) ⟨us, []⟩ = pure (ps.zip us)) (hr : Room (k + 1) A) (e0 : Env0 P w K mg base A outer s H) (hc : H F.c = some (CodeO F.c F.qual)) (C : CellsAt F.cl fr ws s.heap H) (r : Vals vs us) (hl : vs.length = ps.length)
    (hbody : Room k (A.deeper (envF F f s.heap.objs.size)) → ∃ t, PE (ncx CX P w K mg base N F f A outer s H E) body t ∧ t (startF N vs ws) H Q) : codeAny (model P w) A (.call (.ref f) ⟨us, []⟩) (CR CX outer P w H s Q E) s := by
  have lim : s.heap.NoLimit := e0.mod.nolimit.keeps fun b o e => (e0.bs b o e).1
  refine PySem.W.kla_callFunE hr.depth ho rfl S.co S.gen rfl (codeO_at e0.hok hc) ?_
  rw [hb]
  refine wpAny_pure (wpAny_newFunctionEnv S.nocell (fun ⟨n, _⟩ hy => S.par n (List.of_mem_zip hy).1) (fun h₁ hns hsb => ⟨lim.fresh _ hsb, ?_⟩) S.kind)
  show codeAny _ _ (.expr body (envF F f s.heap.objs.size)) _ _
  have kp : ∀ b o, s.heap.get? b = some o → h₁.get? b = some o := fun b o e => hsb.extBut b o (Nat.ne_of_lt (Heap.lt_size e)) (Heap.get?_push_of_some _ e)
  obtain ⟨t, ht, hq⟩ := hbody (hr.deeper _)
  have I : Inv (ncx CX P w K mg base N F f A outer s H E) [] (startF N vs ws) H { s with heap := h₁, toks := s.toks + (ps.zip us).length } := inv_startN S hr.hd e0 hl r C hns kp
  refine PySem.W.kla_codeExpr (wpAny_mono (ht.run [] _ (startF N vs ws) H Q I hq) (fun v s' hq => ?_) fun e s' hq => hq)
  obtain ⟨w', H', J, rv, q⟩ := hq
  exact ⟨w', H', J.os, J.bare, J.base, J.hok, rv, q⟩
end
/-! ### min of one item by a key -/
section
variable {prog : Program} {w : World} {A : Around} {E : Value → Shared → Prop} {s : Shared}
theorem min_one {l q : Addr} {v : Value} {Q : Value → Shared → Prop} {K2 : Shared → Prop} (hh : A.handled = none) (hl : s.heap.IsList l [v].toArray)
    (turn : ∀ (h : Heap) (tk : Nat), (∀ b o, s.heap.get? b = some o → h.get? b = some o) → wpAny (model prog w) A.in1 (call (.ref q) [v])
      (fun u s2 => (∃ k t, u = Value.int k t) ∧ (∀ b o, s.heap.objs.size ≤ b → h.get? b = some o → s2.heap.get? b = some o) ∧ (∃ v2, s2.heap.IsList l [v2].toArray) ∧ K2 s2) (fun _ _ => False) { s with heap := h, toks := tk })
    (hQ : ∀ (s2 : Shared) (h' : Heap) (tk' : Nat), K2 s2 → (∀ b o, b ≠ s.heap.objs.size → b ≠ s.heap.objs.size + 1 → s2.heap.get? b = some o → h'.get? b = some o) → Q v { s2 with heap := h', toks := tk' }) :
    wpAny (model prog w) A (call (.builtin "min") [.ref l] [(Str.ofString "key", .ref q)]) Q E s := by
  have hname : (toString "min" ++ toString ".loop" : String) = "min.loop" := by decide
  obtain ⟨ol, hol, _⟩ := id hl
  have hll : l < s.heap.objs.size := Heap.lt_size hol
  refine kmk_tree PySem.F.kind_min PySem.F.plain_min PySem.F.entry_min (kmk_min_key _ _) ?_
  show wpAny _ A.in1 (Builtin.Builtins.bindParams "min" ["key", "default"] 0 ⟨[], [(Str.ofString "key", .ref q)]⟩ >>= _) _ _ s
  refine wpAny_bind (wpAny_of_eq (show Builtin.Builtins.bindParams "min" ["key", "default"] 0 ⟨[], [(Str.ofString "key", .ref q)]⟩ = pure [some (.ref q), none] from rfl) ?_)
  refine wpAny_bind (wpAny_pure ?_)
  refine wpAny_bind (wpAny_pyIter_list hl ?_)
  refine wpAny_bind (wpAny_newList ?_ (Nat.zero_le _))
  rw [hname]
  have hS : (s.heap.push { cls := .type "list_iterator", data := .fields #[.ref l, .int 0 0] }).objs.size = s.heap.objs.size + 1 := size_push' ..
  have hlI : l ≠ s.heap.objs.size := Nat.ne_of_lt hll
  have hSI : s.heap.objs.size + 1 ≠ s.heap.objs.size := Nat.succ_ne_self _
  refine wpAny_pure ⟨plainId_quiet PySem.F.plain_min_loop _, ?_⟩
  generalize hh0 : (s.heap.push { cls := .type "list_iterator", data := .fields #[.ref l, .int 0 0] }).push (seqObj "list" #[] 0) = h0
  have kh0 : ∀ b o, s.heap.get? b = some o → h0.get? b = some o := fun b o e => by
    rw [← hh0]
    exact Heap.get?_push_of_some _ (Heap.get?_push_of_some _ e)
  have gI : h0.get? s.heap.objs.size = some { cls := .type "list_iterator", data := .fields #[.ref l, .int 0 0] } := by
    rw [← hh0]
    exact Heap.get?_push_of_some _ (Heap.get?_push_size _ rfl)
  have gS : h0.get? (s.heap.objs.size + 1) = some (seqObj "list" #[] 0) := by
    rw [← hh0, ← hS]
    exact Heap.get?_push_size _ rfl
  rw [hS]
  refine codeAny_builtin PySem.F.entry_min_loop ?_
  rw [Around.under_plainId PySem.F.plain_min_loop _]
  show wpAny _ A.in1 (seqItems? (.ref _) >>= _) _ _ { s with heap := h0 }
  refine wpAny_bind (wpAny_seqItems gS rfl ?_)
  show wpAny _ A.in1 (tryCatch (pyNext (.ref s.heap.objs.size)) _ >>= _) _ _ _
  have W := Walks.list (prog := prog) (w := w) (A := A.in1) hh s.heap.objs.size l hlI [v].toArray
  refine wpAny_bind (wpAny_tryCatch (W.item 0 _ _ _ Nat.one_pos ⟨⟨_, gI, rfl, rfl⟩, hl.at fun o e => kh0 l o e⟩ fun v1 h1 tk1 hP hst1 hk1 => ?_))
  have hv : v = v1 := by simpa using hP
  subst hv
  obtain ⟨oI1, hoI1, hoc, hod⟩ := id hst1.1
  have kh1 : ∀ b o, s.heap.get? b = some o → h1.get? b = some o := fun b o e => hk1 b o (by
    intro z
    rw [List.mem_singleton.mp z] at e
    exact Nat.lt_irrefl _ (Heap.lt_size e)) (kh0 b o e)
  have gS1 : h1.get? (s.heap.objs.size + 1) = some (seqObj "list" #[] 0) := hk1 _ _ (by simp) gS
  show wpAny _ A.in1 (tryCatch (holding [v] (call (.ref q) [v])) _ >>= _) _ _ _
  refine wpAny_bind (wpAny_tryCatch (wpAny_holding (wpAny_mono (turn h1 tk1 kh1) (fun x s2 he => ?_) fun _ _ hF => hF.elim)))
  · obtain ⟨⟨k, t, rfl⟩, kn, ⟨v2, hl2⟩, hK2⟩ := he
    have gS2 := kn _ _ (Nat.le_succ _) gS1
    have gI2 := kn _ _ (Nat.le_refl _) hoI1
    show wpAny _ A.in1 (updateSeq (s.heap.objs.size + 1) (fun _ => #[v, .int k t]) >>= _) _ _ _
    refine wpAny_bind ?_
    refine wpAny_updateSeq gS2 rfl ?_
    rw [hname]
    have sb1 := Heap.SameBut.update s2.heap (s.heap.objs.size + 1) (Obj.mapSeq fun _ => #[v, .int k t])
    obtain ⟨c2, hc2⟩ : ∃ c2, (s2.heap.update (s.heap.objs.size + 1) (Obj.mapSeq fun _ => #[v, .int k t])).get? (s.heap.objs.size + 1) = some (seqObj "list" #[v, .int k t] c2) := ⟨_, get?_update_seq gS2 fun _ => #[v, .int k t]⟩
    generalize s2.heap.update (s.heap.objs.size + 1) (Obj.mapSeq fun _ => #[v, .int k t]) = h3 at sb1 hc2 ⊢
    have gI3 : h3.get? s.heap.objs.size = some oI1 := (sb1.2 _ hSI.symm).trans gI2
    have hl3 : h3.IsList l [v2].toArray := hl2.at fun o e => (sb1.2 l (Nat.ne_of_lt (Nat.lt_succ_of_lt hll))).trans e
    refine wpAny_pure ⟨plainId_quiet PySem.F.plain_min_loop _, ?_⟩
    refine codeAny_builtin PySem.F.entry_min_loop ?_
    rw [Around.under_plainId PySem.F.plain_min_loop _]
    show wpAny _ A.in1 (seqItems? (.ref _) >>= _) _ _ { s2 with heap := h3 }
    refine wpAny_bind (wpAny_seqItems hc2 rfl ?_)
    have W2 := Walks.list (prog := prog) (w := w) (A := A.in1) hh s.heap.objs.size l hlI [v2].toArray
    show wpAny _ A.in1 (tryCatch (pyNext (.ref s.heap.objs.size)) _ >>= _) _ _ _
    refine wpAny_bind (wpAny_tryCatch (W2.done _ _ _ ⟨⟨oI1, gI3, hoc, hod⟩, hl3⟩ fun h4 tk4 hk4 => ?_))
    have gS4 := hk4 (s.heap.objs.size + 1) _ (by simp) hc2
    have sb4 := Heap.SameBut.update h4 (s.heap.objs.size + 1) (Obj.mapSeq fun _ => (#[] : Array Value))
    show wpAny _ A.in1 (updateSeq (s.heap.objs.size + 1) (fun _ => #[]) >>= _) _ _ _
    refine wpAny_bind ?_
    refine wpAny_updateSeq gS4 rfl (wpAny_bind (wpAny_letGo (wpAny_pure ?_)))
    exact hQ s2 _ tk4 hK2 fun b o n1 n2 e => (sb4.2 b n2).trans (hk4 b o (by simpa using n1) ((sb1.2 b n2).trans e))
end
/-! ### min(e, key=lambda x: body) -/
section
variable {X : Cx}
/-- the reading: e gives a list of one item x; the lambda's body gives an int at it -/
def tMinKey (K : PySem.W.Frag) (T : List (Addr × Str)) (N : List Str) (js : List Nat) (te tb : TE) : TE := fun σ H Q => te σ H fun y H1 => ∃ (l : Addr) (x : V), [y] = [V.ref l] ∧ SqL K H1 l [x] ∧ Tabs T H1 ∧
  ∀ H2, ExtN H1 H2 → Tabs T H2 → tb (startF N [x] (js.map (slotAt σ))) H2 (fun u H3 => H3 = H2 ∧ ∃ k, u = .int k) ∧ Q x H2
theorem pe_minkey {T : List (Addr × Str)} {c Pt : Addr} {N fr : List Str} {js : List Nat} {k : Nat} {p kpos lpos pos : Pos} {e body : Expr} {params : Arguments} {scope : Scope} {te tb : TE} {pn : Str}
    (hc0 : X.calm = true) (hg : Gl X "min") (hm : X.mg "min" = none) (he : PE X e te) (TB : TabB X.base X.mg c Pt) (hcode : X.env.code = .ref c) (hmT : (Pt, X.env.qual ++ "<lambda>") ∈ T) (hu : ∀ p ∈ T, p.1 = Pt → p.2 = X.env.qual ++ "<lambda>")
    (hdef : defaultsOf params X.env = ([], [])) (hfree : ∀ y ∈ scope.names, y.2 = .free → X.env.scope.names.lookup y.1 = some .cell ∨ X.env.scope.names.lookup y.1 = some .free) (hfr : ∀ y ∈ fr, (y, NameKind.free) ∈ scope.names) (hjs : js.map (fun j => X.N[j]?) = fr.map some)
    (S : NScope N [pn] fr scope) (hb : ∀ (q : Str) (cl : List (Str × Addr)) (pm cv ctv : Value) (u : Value), bindArgs (PySem.W.kla_fn "<lambda>" q params body scope cl pm cv ctv) ⟨[u], []⟩ = pure [(pn, u)]) (hr : Room (k + 2) X.A)
    (hbody : ∀ (A : Around) (outer : List Env) (s : Shared) (H : Hp) (E : XK) (f c' : Addr), Room k (A.deeper (envF ⟨"<lambda>", X.env.qual ++ "<lambda>", params, [], scope, cloFrom X.env.cells scope.names [], c'⟩ f s.heap.objs.size)) →
      PE (ncx CX0 X.prog X.w X.K X.mg X.base N ⟨"<lambda>", X.env.qual ++ "<lambda>", params, [], scope, cloFrom X.env.cells scope.names [], c'⟩ f A outer s H E) body tb)
    (hst : starEach [e] X.env = (false, eval e X.env) :: starEach [] X.env := by rfl) (he1 : backTo pos (starEach [e] X.env) = (false, eval e X.env) :: backTo pos (starEach [] X.env) := by rfl) (hpl : (backTo pos (starEach [e] X.env)).any (·.1) = false := by rfl)
    (hall : (backToKw pos (keywordEach [⟨some "key", .Lambda params body scope lpos, kpos⟩] X.env)).all (·.1.isSome) = true := by rfl) (hnone : (backToKw pos (keywordEach [⟨some "key", .Lambda params body scope lpos, kpos⟩] X.env)).any (·.1.isNone) = false := by rfl)
    (hkl : (backToKw pos (keywordEach [⟨some "key", .Lambda params body scope lpos, kpos⟩] X.env)).map (·.2) = [do let v ← eval (.Lambda params body scope lpos) X.env; standAt pos; pure v] := by rfl)
    (hks : (backToKw pos (keywordEach [⟨some "key", .Lambda params body scope lpos, kpos⟩] X.env)).filterMap (·.1) = [Str.ofString "key"] := by rfl) :
    PE X (.Call (.Name "min" p) [e] [⟨some "key", .Lambda params body scope lpos, kpos⟩] pos) (tMinKey X.K T N js te tb) := by
  refine ⟨fun pins s σ H Q I h => ?_⟩
  refine wpAny_Call_Name_kw (ld_blt I hg hm (by decide +kernel : bootBuiltins "min" = some (.builtin "min")) ?_ (by decide) (by decide))
  have hpa : PA X [e] (tCons te tNil) := pa_cons he pa_nil (hs := hst)
  refine PyProof.Rows.callWith_kw (thn (hpa.run pos pins s σ H (fun vs H1 => ∃ (l : Addr) (x : V), vs = [V.ref l] ∧ SqL X.K H1 l [x] ∧ Tabs T H1 ∧
    ∀ H2, ExtN H1 H2 → Tabs T H2 → tb (startF N [x] (js.map (slotAt σ))) H2 (fun u H3 => H3 = H2 ∧ ∃ k, u = .int k) ∧ Q x H2) I ?_) fun us s1 hq => ?_) he1 hpl hall hnone
  · exact h
  · obtain ⟨vs, H1, I1, r1, l, x, rfl, hl, hT, hrest⟩ := hq
    rw [hkl, hks]
    have hfree' : ∀ y ∈ scope.names, y.2 = .free → ∃ c, X.env.cells.lookup y.1 = some c := fun y hy e => (hfree y hy e).elim (fun z => I1.ok.has _ (.inl z)) fun z => I1.ok.has _ (.inr z)
    refine wpAny_bind (wpAny_bind (lam_make2 I1 TB hcode hmT hu hT hdef hfree' fun f c' pm ctv H2 s2 I2 eN T2 hf hfn hfrs hco => ?_))
    refine wpAny_bind (wpAny_standAt (wpAny_pure ?_))
    refine wpAny_bind (wpAny_holding (wpAny_pure (wpAny_pure ?_)))
    obtain ⟨hbody1, hQ⟩ := hrest H2 eN T2
    have hl2 : SqL X.K H2 l [x] := by
      rcases hl with (h | ⟨o, h⟩) | h
      · exact .inl (.inl (eN _ _ h (by intro ps z; cases z)))
      · exact .inl (.inr ⟨o, eN _ _ h (by intro ps z; cases z)⟩)
      · exact .inr h
    obtain rfl := Vals.ref1 r1
    have nofr : ∀ b, s2.heap.objs.size ≤ b → b ∉ frs X.stack := fun b hb z => by
      rcases List.mem_cons.mp (I2.stkSub _ z) with e | e
      · have h1 := I2.lt
        rw [← e] at h1
        exact Nat.lt_irrefl _ (Nat.lt_of_lt_of_le h1 hb)
      · exact I2.nofs hb e
    obtain ⟨its, rv, hls, _⟩ := I2.list hl2
    obtain ⟨v, rfl, rx⟩ := vals1 rv
    show wpAny _ _ (call (.builtin "min") [.ref l] [(Str.ofString "key", .ref f)]) _ _ _
    refine min_one (K2 := fun s3 => Inv X pins σ H2 s3) (I2.ok.hd hc0) hls.isList (fun h tk kh => ?_) fun s3 h' tk' I3 kp => ?_
    · have J : Inv X pins σ H2 { s2 with heap := h, toks := tk } := I2.kept kh
      have e0 : Env0 X.prog X.w X.K X.mg X.base X.A.in1 X.stack { s2 with heap := h, toks := tk } H2 := ⟨J.env0.frames, J.env0.mod, J.env0.bs, J.env0.bsz, J.env0.funs, J.env0.frf, J.env0.hok, J.env0.bare⟩
      have cp : Caps X (cloFrom X.env.cells scope.names []) fr js := Caps.made J.ok hfree hfr hjs
      have rc : codeAny (model X.prog X.w) X.A.in1 (.call (.ref f) ⟨[v], []⟩) (CR CX0 X.stack X.prog X.w H2 { s2 with heap := h, toks := tk } (fun u H3 => H3 = H2 ∧ ∃ k, u = .int k) E0) { s2 with heap := h, toks := tk } :=
        lam_call (F := ⟨"<lambda>", X.env.qual ++ "<lambda>", params, [], scope, cloFrom X.env.cells scope.names [], c'⟩) (ps := [pn]) (vs := [x]) (us := [v]) S (kh f _ hf) (hb _ _ _ _ _ v) hr.in1 e0 hco (cells_of J cp) (.cons rx .nil) rfl fun hr' => ⟨tb, hbody _ _ _ _ _ _ _ hr', hbody1⟩
      refine wpAny_call (codeAny_mono rc fun r s' hq => ?_)
      cases r with
      | error e => exact (show False from hq).elim
      | ok fl =>
        cases fl with
        | ret u =>
          have hq' : CE X.stack X.prog X.w H2 { s2 with heap := h, toks := tk } (fun u H3 => H3 = H2 ∧ ∃ k, u = .int k) u s' := hq
          obtain ⟨v', H', J', rv', rfl, k', rfl⟩ := J.after hq'
          obtain ⟨_, H'', _, _, un, _, _, _, _⟩ := hq'
          obtain ⟨t', ht'⟩ := rv'
          refine ⟨⟨k', t', ht'⟩, fun b o hb e => un.keep b o e (I2.hok.fresh hb) (nofr b hb) (by simp), ?_, J'⟩
          obtain ⟨its', rv2, hls2, _⟩ := J'.list hl2
          obtain ⟨v2, rfl, _⟩ := vals1 rv2
          exact ⟨v2, hls2.isList⟩
        | next => exact False.elim hq
        | brk => exact False.elim hq
        | cont => exact False.elim hq
    · have fI := I2.fpOk (Nat.le_refl _) (I2.hok.fresh (Nat.le_refl _))
      have fS := I2.fpOk (Nat.le_succ _) (I2.hok.fresh (Nat.le_succ s2.heap.objs.size))
      have ne2 : ∀ {b : Addr}, b ∉ [s2.heap.objs.size, s2.heap.objs.size + 1] → b ≠ s2.heap.objs.size ∧ b ≠ s2.heap.objs.size + 1 := fun hb => ⟨fun z => hb (by simp [z]), fun z => hb (by simp [z])⟩
      have trk : ∀ {b : Addr} {u : HO}, H2 b = some u → b ≠ s2.heap.objs.size ∧ b ≠ s2.heap.objs.size + 1 := fun e => ⟨ne_of_none e fI.1, ne_of_none e fS.1⟩
      refine ⟨x, H2, I3.step (g' := s3.gens) (d' := s3.drawn) (ch := [s2.heap.objs.size, s2.heap.objs.size + 1]) (fun b hb => ?_) (fun b o _ _ hc e _ => kp b o (ne2 hc).1 (ne2 hc).2 e) (fun b o _ _ hc e _ => ⟨o.slots, kp b o (ne2 hc).1 (ne2 hc).2 e⟩) (fun _ _ _ _ n => n) (fun b o hc e => ⟨o, kp b o (ne2 hc).1 (ne2 hc).2 e⟩)
        (fun _ _ e => e) (fun _ _ _ e => e) (fun b ps e => ⟨#[], by rw [e]; simp⟩) (fun m hm => ?_) (fun b u e => ?_) I3.bare, rx, hQ⟩
      · rcases List.mem_cons.mp hb with e | e
        · rw [e]
          exact ⟨fI.2.2.2.1, fI.2.1, fI.2.2.2.2.1, fI.2.2.2.2.2⟩
        · rw [List.mem_singleton.mp e]
          exact ⟨fS.2.2.2.1, fS.2.1, fS.2.2.2.2.1, fS.2.2.2.2.2⟩
      · obtain ⟨o, es, ep, ho, r⟩ := hm
        exact ⟨o, es, ep, kp _ o fI.2.1.symm fS.2.1.symm ho, r⟩
      · refine (I3.hok b u e).stay (fun c v hc q => ?_) (fun _ q => q) fun _ _ q => q
        rcases hc with z | z
        · rw [z] at q ⊢
          exact kp _ _ (trk e).1 (trk e).2 q
        · exact kp _ _ (trk z).1 (trk z).2 q
end
end K56
set_option Elab.async false
set_option linter.all false
set_option maxRecDepth 100000
set_option maxHeartbeats 4000000
/-! K56Fk: shortest_path. -/
namespace K56
open PySem PySem.Spec PyProof.Rows L2
theorem LAx {H H' : Hp} (e : LamX.ExtN H H') {a : Addr} {ns : List Nat} (h : LA H a ns) : LA H' a ns := e _ _ h fun ps z => by cases z
theorem LLx {H H' : Hp} (e : LamX.ExtN H H') {a : Addr} {G : List (List Nat)} (h : LL H a G) : LL H' a G := by
  obtain ⟨ps, h⟩ := h
  exact ⟨ps, e _ _ h.lst (fun ps z => by cases z), h.eq, fun p hp => LAx e (h.row p hp)⟩
theorem LPx {H H' : Hp} (e : LamX.ExtN H H') {a : Addr} {C : List (List Nat × List Nat)} (h : LP H a C) : LP H' a C := by
  obtain ⟨ps, h⟩ := h
  exact ⟨ps, e _ _ h.lst (fun ps z => by cases z), h.eq, fun p hp => ⟨e _ _ (h.pair p hp).1 (fun ps z => by cases z), LAx e (h.pair p hp).2.1, LAx e (h.pair p hp).2.2⟩⟩
theorem LLx_any {H H' : Hp} (e : LamX.ExtN H H') {a : Addr} {xs : List V} (h : H a = some (.lst xs)) : H' a = some (.lst xs) := e _ _ h fun ps z => by cases z
theorem extS {H H' : Hp} (s : Same H H') : LamX.ExtN H H' := .of s
section
variable {P : Program} {w : World} {K : PySem.W.Frag} {mg : Str → Option Value} {base : Heap}
abbrev qShort : Str := ("shortest_path" : Str) ++ (".<locals>." : Str) ++ ("<lambda>" : Str)
abbrev sShort : Stmt := topS 14
abbrev nShort : List Str := ["after", "starts", "goals", "steps", "reached", "path", "node"]
theorem scShort : FnScope nShort ["after", "starts", "goals"] (defScope sShort) := ⟨rfl, rfl, rfl, by decide +kernel, rfl, by decide +kernel, by decide +kernel⟩
def spShort (T : List (Addr × Str)) : Sp := fun vs H Q _ => ∃ (a b c : Addr) (G : List (List Nat)) (S : List Nat) (g : Nat), vs = [.ref a, .ref b, .ref c] ∧ LL H a G ∧ LA H b S ∧ LA H c [g] ∧ (∀ x, x ∈ S → x < G.length) ∧ GW G ∧ Rs G S g ∧ LamX.Tabs T H ∧
  ∀ (H' : Hp) (p : Addr) (r : List Nat), LamX.ExtN H H' → LA H' p r → r ≠ [] → r.length ≤ G.length → (∀ x, r[0]? = some x → x ∈ S) → Ch (gE G) r → r[r.length - 1]? = some g → Q (.ref p) H'
theorem ok_short {c Pt : Addr} {f fD fN : Addr} {fdD fdN : FuncData} {kV doc pm ct oc : Value} {an od : Option Addr} {osl : Array (Option Value)}
    (lk : K.lookup f = some ⟨oc, od, .func (PySem.W.fnOf "shortest_path" "shortest_path" (defArgs sShort) (defBody sShort) (defScope sShort) .none kV doc pm an (.ref c) ct), osl⟩) (hcd : PySem.W.codeIn K (.ref c) "shortest_path" = true)
    (TB : LamX.TabB base mg c Pt) (DD : Df K mg "distances" 13 ["after", "starts"] fD fdD) (DN : Df K mg "node_before" 15 ["after", "steps", "node"] fN fdN) (ml : mg "len" = none) (me : mg "enumerate" = none) (mm : mg "min" = none) :
    FnOk P w K mg base CX0 4 f (PySem.W.fnOf "shortest_path" "shortest_path" (defArgs sShort) (defBody sShort) (defScope sShort) .none kV doc pm an (.ref c) ct) ["after", "starts", "goals"] (spShort [(Pt, qShort)]) := by
  have GD : FnOk P w K mg base CX0 1 fD fdD ["after", "starts"] spDist := ok_dist DD.F ml
  have GN : FnOk P w K mg base CX0 1 fN fdN ["after", "steps", "node"] spNb := ok_nb DN.F me
  refine fn_of lk hcd scShort (fun vs H Q E h => ?_) (fun A outer s H vs Q E hr h => ?_)
  · obtain ⟨a, b, c, G, S, g, rfl, _⟩ := h
    rfl
  · obtain ⟨a, b, gl, G, S, g, rfl, ha, hb, hc, hlt, gw, hg, hT, q⟩ := h
    suffices z : ∃ t, PSs (cxOf CX0 P w K mg base nShort "shortest_path" (defScope sShort) f (.ref c) A outer s H E).nox (defBody sShort) t ∧ t { nx := fun _ H' => Q .non H', rt := Q } (start nShort [.ref a, .ref b, .ref gl]) H by
      obtain ⟨t, h1, h2⟩ := z
      exact ⟨t, h1.nox, h2⟩
    refine ⟨_, pss_cons (ps_set (i := 3) scShort.nd rfl (.inr rfl) (pe_call GD (hr.mono (by omega)) (by rfl) DD.g DD.F.kp DD.b .nil pass0 (pa_cons (pv 0) (pa_cons (pv 1) pa_nil))))
      (pss_cons (ps_setLc (i := 4) (own := [("node", 6)]) (g := gName 6) (tt := tB (tNotN (tOp (rIxL K) (tVar 3) (tVar 6)))) rfl scShort.nd rfl rfl (sw_true rfl rfl rfl (by decide +kernel)) (pi_list (pv 2)) (blkOk_by (N := nShort) (sc := defScope sShort) (by decide +kernel)) (fun _ _ _ _ _ => pg_name (i := 6) scShort.nd rfl (.inl rfl)) (fun _ _ _ _ _ => pts_one (pt_cmp (pc_notN (pe_ix ix_list (pv 3) (pv 6) (fun _ _ => rfl))))) (fun _ _ _ _ _ => pv 6))
      (pss_cons (ps_if (pt_not (pt_truth (pv 4) (by intro _; rfl))) (pss_one (ps_ret pe_non)) pss_nil)
      (pss_cons (ps_set (i := 5) scShort.nd rfl (.inl rfl) (pe_lst (pa_cons (pe_minkey (T := [(Pt, qShort)]) (N := ["node", "steps"]) (fr := ["steps"]) (js := [3]) (tb := tOp (rIxL K) (tVar 1) (tVar 0)) (k := 0) rfl (by rfl) mm (pv 4) TB rfl List.mem_cons_self (fun p hp _ => by rw [List.mem_singleton.mp hp]; rfl)
          rfl (NdefX.ndef_free (sc := defScope sShort) (fr := ["steps"]) (by decide +kernel)) (NdefX.ndef_fr (sc := defScope sShort) (fr := ["steps"]) (by decide +kernel)) rfl (NdefX.nscope_by (by decide +kernel)) (fun _ _ _ _ _ _ => rfl) (hr.mono (by omega)) (fun _ _ _ _ _ _ _ _ => pe_ix ix_list (pv 1) (pv 0) (fun _ _ => rfl))) pa_nil)))
      (pss_cons (ps_while PassesOwn.never (pt_cmpR op_gt (pe_ix ix_list (pv 3) (pe_ix ix_list (pv 5) (pe_un un_neg pe_int) (fun _ _ => rfl)) (fun _ _ => rfl)) pe_int (nomark _))
        (pss_one (ps_expr (pe_bm PySem.F.plainAttrs_list PySem.F.slot_list_append PySem.F.type_list_append mt_append (pv 5) (pa_cons (pe_call GN (hr.mono (by omega)) (by rfl) DN.g DN.F.kp DN.b .nil pass0 (pa_cons (pv 0) (pa_cons (pv 3) (pa_cons (pe_ix ix_list (pv 5) (pe_un un_neg pe_int) (fun _ _ => rfl)) pa_nil)))) pa_nil)))))
      (pss_one (ps_ret (pe_revL (pv 5)))))))), ?_⟩
    obtain ⟨ps, hap⟩ := id ha
    have hn := gw.n60
    refine ⟨.ref a, rfl, .ref b, rfl, a, b, G, S, rfl, ha, hb, hlt, gw, fun H1 st D s1 hD dok => ?_⟩
    have hDl := dok.len
    obtain ⟨d, hd⟩ := (dok.rs g).mpr hg
    have hgl : LA H1 gl [g] := s1 gl _ hc
    -- reached
    refine ⟨.ref gl, rfl, gl, rfl, ⟨_, SqL.of hgl⟩, fun l nl => ?_⟩
    refine lc_list (K := K) (a := gl) (xs := nvs [g]) (fun i H2 => Same H1 H2 ∧ LA H2 l ([g].take i)) ⟨same_upd nl, upd_same⟩ (fun i H2 _ p => SqL.of (p.1 _ _ hgl)) (fun i x H2 hx p => ?_) (fun H2 p => ?_)
    · obtain ⟨n, hn', rfl⟩ := nvs_get hx
      obtain ⟨s2, hl⟩ := p
      have hi0 : i = 0 := by
        have := (List.getElem?_eq_some_iff.mp hn').1
        simp at this
        exact this
      subst hi0
      have : g = n := Option.some.inj hn'
      subst this
      refine ⟨rfl, .ref st, rfl, nv g, rfl, st, dvs D, _, nv d, rfl, rfl, SqL.of (s2 st _ hD), dvs_at hd, _, rfl, ?_⟩
      show if (!decide (dv (some d) = V.non)) = true then _ else _
      rw [dv_non]
      refine iteT ⟨nv g, rfl, _, hl, ?_, fun c u z => ?_, ?_⟩
      · show 0 < sizeLine
        decide
      · rw [upd_ne (ne_of_none z nl)]
        exact s2 c u z
      · rw [LA, upd_same]
        rfl
    obtain ⟨s2, hl⟩ := p
    have hl : LA H2 l [g] := hl
    refine ⟨.ref l, rfl, !(nvs [g]).isEmpty, .inl ⟨_, SqL.of hl, rfl⟩, iteF ?_⟩
    -- path = [min(..)]
    have hT2 : LamX.Tabs [(Pt, qShort)] H2 := hT.ext fun b o e => s2 b o (s1 b o e)
    refine ⟨.ref l, rfl, l, nv g, rfl, SqL.of hl, hT2, fun H3 e3 _ => ⟨?_, ?_⟩⟩
    · exact ⟨.ref st, rfl, nv g, rfl, st, dvs D, _, nv d, rfl, rfl, SqL.of (LLx_any e3 (s2 st _ hD)), dvs_at hd, rfl, _, rfl⟩
    have e03 : LamX.ExtN H H3 := (extS fun b o e => s2 b o (s1 b o e)).trans e3
    have hD3 : H3 st = some (.lst (dvs D)) := LLx_any e3 (s2 st _ hD)
    refine ⟨(by show 1 ≤ sizeLine; decide), fun p np => ?_⟩
    have s4 : Same H3 (upd H3 p (.lst [nv g])) := same_upd np
    have fp : ∀ c u, H3 c = some u → c ≠ p := fun c u z => ne_of_none z np
    refine ⟨fun m σ Hc => ∃ r, σ = [some (.ref a), some (.ref b), some (.ref gl), some (.ref st), some (.ref l), some (.ref p), none] ∧ Back G D d r ∧ r[0]? = some g ∧ LA Hc p r ∧ (∀ c u, H3 c = some u → Hc c = some u) ∧ m = d + 1 - r.length,
      ⟨_, [g], rfl, ⟨fun i v h => ?_, fun i x y h1 h2 => by simp at h2⟩, rfl, upd_same, s4, rfl⟩, ?_⟩
    · cases i with
      | zero =>
        have : g = v := Option.some.inj h
        rw [← this]
        exact ⟨Nat.zero_le _, hd⟩
      | succ i => simp at h
    rintro m σ Hc ⟨r, rfl, bk, h0, hp, sc, rfl⟩
    have hrl := bk.len hDl
    have hr0 : 0 < r.length := (List.getElem?_eq_some_iff.mp h0).1
    obtain ⟨v, hv⟩ : ∃ v, r[r.length - 1]? = some v := ⟨_, List.getElem?_eq_getElem (by omega)⟩
    obtain ⟨hvd, hvD⟩ := bk.1 _ v hv
    have hDc : Hc st = some (.lst (dvs D)) := sc st _ hD3
    refine ⟨.ref st, rfl, .ref p, rfl, 1, rfl, p, nvs r, -1, nv v, rfl, rfl, SqL.of hp, last_at hv, st, dvs D, _, nv (d - (r.length - 1)), rfl, rfl, SqL.of hDc, dvs_at hvD, _, _, rfl, rfl, _, rfl, ?_⟩
    refine ite2 (fun ed => ?_) (fun ed => ?_)
    · have ed : 0 < d - (r.length - 1) := by
        have := of_decide_eq_true ed
        omega
      refine ⟨fun σ' H' => ∃ r', σ' = [some (.ref a), some (.ref b), some (.ref gl), some (.ref st), some (.ref l), some (.ref p), none] ∧ Back G D d r' ∧ r'[0]? = some g ∧ LA H' p r' ∧ (∀ c u, H3 c = some u → H' c = some u) ∧ d + 1 - r'.length < d + 1 - r.length,
        fun σ' H' ⟨r', h1, h2, h3, h4, h5, h6⟩ => ⟨_, h6, r', h1, h2, h3, h4, h5, rfl⟩, ?_⟩
      have hvD' : D[v]? = some (some ((d - (r.length - 1) - 1) + 1)) := by rw [hvD]; congr 2; omega
      have hac : LL Hc a G := (LLx e03 ha).same sc
      refine ⟨.ref p, rfl, .inl ⟨rfl, _, SqL.of hp⟩, .ref a, rfl, .ref st, rfl, .ref p, rfl, 1, rfl, p, nvs r, -1, nv v, rfl, rfl, SqL.of hp, last_at hv, a, st, G, D, v, _, rfl, hac, hDc, hDl, hvD', dok.pred v _ hvD', fun H5 u s5 hu1 hu2 => ?_⟩
      refine ⟨p, _, _, rfl, rfl, s5 p _ hp, (by rw [nvs_len]; exact line1000 (by omega)), r ++ [u], rfl, ⟨fun i x hx => ?_, fun i x y hx hy => ?_⟩, ?_, ?_, fun c u' z => ?_, ?_⟩
      · by_cases hi : i < r.length
        · rw [List.getElem?_append_left hi] at hx
          exact bk.1 i x hx
        · rw [List.getElem?_append_right (by omega)] at hx
          have hi2 : i - r.length = 0 := by
            have := (List.getElem?_eq_some_iff.mp hx).1
            simp at this
            omega
          rw [hi2] at hx
          have : u = x := Option.some.inj hx
          subst this
          exact ⟨by omega, by rw [hu1]; congr 2; omega⟩
      · by_cases hi : i + 1 < r.length
        · rw [List.getElem?_append_left (by omega)] at hx
          rw [List.getElem?_append_left hi] at hy
          exact bk.2 i x y hx hy
        · have hi1 : i + 1 = r.length := by
            have := (List.getElem?_eq_some_iff.mp hy).1
            rw [List.length_append, List.length_singleton] at this
            omega
          rw [List.getElem?_append_left (by omega), show i = r.length - 1 by omega, hv] at hx
          rw [List.getElem?_append_right (by omega), show i + 1 - r.length = 0 by omega] at hy
          have e1 : v = x := Option.some.inj hx
          have e2 : u = y := Option.some.inj hy
          rw [← e1, ← e2]
          exact hu2
      · rw [List.getElem?_append_left hr0]
        exact h0
      · rw [LA, upd_same, nvs_snoc]
      · rw [upd_ne (fp c u' z)]
        exact s5 c u' (sc c u' z)
      · rw [List.length_append, List.length_singleton]
        omega
    · have ed : d - (r.length - 1) = 0 := by
        have : ¬ (0 : Int) < ((d - (r.length - 1) : Nat) : Int) := fun z => ed (decide_eq_true z)
        omega
      have er : r.reverse.length = r.length := List.length_reverse
      refine ⟨.ref p, rfl, p, nvs r, rfl, SqL.of hp, fun pr npr => ?_⟩
      have s6 : Same Hc (upd Hc pr (.lst (nvs r).reverse)) := same_upd npr
      refine q _ pr r.reverse (e03.trans (extS fun c u z => s6 c u (sc c u z))) ?_ ?_ (by rw [er]; exact hrl) (fun x hx => ?_) (Ch.rev bk.2) ?_
      · rw [LA, upd_same, nvs_rev]
      · intro z
        rw [z] at er
        simp at er
        omega
      · obtain ⟨_, hx2⟩ := rev_at hx
        rw [Nat.sub_zero, hv] at hx2
        have : v = x := Option.some.inj hx2
        subst this
        exact dok.zero v (by rw [hvD, ed])
      · rw [er, List.getElem?_reverse (by omega), show r.length - 1 - (r.length - 1) = 0 by omega]
        exact h0
end
end K56
set_option Elab.async false
set_option linter.all false
set_option maxRecDepth 100000
set_option maxHeartbeats 1000000
/-! K56Math5: what a found cycle is. -/
namespace K56
structure Cyc (G J : List (List Nat)) (C : List (List Nat × List Nat)) (S path loop : List Nat) : Prop where
  ne : loop ≠ []
  ch : Ch (gE G) (path ++ loop)
  st : ∀ x, (path ++ loop)[0]? = some x → x ∈ S
  close : ∀ a b, loop[loop.length - 1]? = some a → loop[0]? = some b → b ∈ gE G a
  lt : ∀ x, x ∈ path ++ loop → x < G.length
  len : (path ++ loop).length ≤ G.length * (J.length + C.length + 2)
  jus : ∀ j, j ∈ J → ∃ x, x ∈ j ∧ x ∈ loop
  com : ∀ c, c ∈ C → (∃ x, x ∈ c.1 ∧ x ∈ loop) → ∃ x, x ∈ c.2 ∧ x ∈ loop
theorem cyc_of {G J : List (List Nat)} {C : List (List Nat × List Nat)} {S ns M ts loop r : List Nat} {g : Nat} (gw : GW G) (hS : ∀ x, x ∈ S → x < G.length) (fp : FairPart G J C ns M) (hlt : ∀ x, x ∈ ns → x < G.length) (tr : Trip (rE G M) M ts loop)
    (hts : ts.length ≤ J.length + C.length) (hj : ∀ j, j ∈ J → ∃ x, x ∈ ts ∧ x ∈ j) (hc : ∀ c, c ∈ C → meetB M c.1 = true → ∃ x, x ∈ ts ∧ x ∈ c.2) (hg : loop[0]? = some g)
    (hne : r ≠ []) (hrl : r.length ≤ G.length) (hst : ∀ x, r[0]? = some x → x ∈ S) (hch : Ch (gE G) r) (hlast : r[r.length - 1]? = some g) : Cyc G J C S r.dropLast loop := by
  have hl0 : 0 < loop.length := (List.getElem?_eq_some_iff.mp hg).1
  have hr0 : 0 < r.length := List.length_pos_iff.mpr hne
  have edl : r = r.dropLast ++ [g] := by
    have h1 := List.dropLast_concat_getLast hne
    have h2 : r.getLast hne = g := by
      have := List.getLast?_eq_getElem? (l := r)
      rw [hlast, List.getLast?_eq_some_getLast hne] at this
      exact Option.some.inj this
    rw [h2] at h1
    exact h1.symm
  have dll : r.dropLast.length = r.length - 1 := List.length_dropLast
  have dat : ∀ i, i < r.length - 1 → r.dropLast[i]? = r[i]? := fun i hi => by
    conv => rhs; rw [edl]
    rw [List.getElem?_append_left (by omega)]
  have chM : ∀ a b, b ∈ rE G M a → b ∈ gE G a := fun a b h => (mem_rE.mp h).2.1
  have hM : ∀ x, x ∈ M → x < G.length := fun x hx => hlt x (fp.sub x hx)
  have dch : Ch (gE G) r.dropLast := fun i a b ha hb => by
    have hi := (List.getElem?_eq_some_iff.mp hb).1
    rw [dat i (by omega)] at ha
    rw [dat (i + 1) (by omega)] at hb
    exact hch i a b ha hb
  refine ⟨tr.ne, dch.app (tr.ch.mono chM) fun a b ha hb => ?_, fun x hx => ?_, fun a b ha hb => chM a b (tr.close a b ha hb), fun x hx => ?_, ?_, fun j hjJ => ?_, fun c hcC h => ?_⟩
  · rw [hg] at hb
    cases hb
    have hi := (List.getElem?_eq_some_iff.mp ha).1
    rw [dat _ (by omega)] at ha
    refine hch _ a g ha ?_
    rw [show r.dropLast.length - 1 + 1 = r.length - 1 by omega]
    exact hlast
  · by_cases h1 : 0 < r.dropLast.length
    · rw [List.getElem?_append_left h1, dat 0 (by omega)] at hx
      exact hst x hx
    · rw [List.getElem?_append_right (by omega), show 0 - r.dropLast.length = 0 by omega, hg] at hx
      cases hx
      refine hst g ?_
      rw [show r.length - 1 = 0 by omega] at hlast
      exact hlast
  · rcases List.mem_append.mp hx with z | z
    · obtain ⟨i, hi, e⟩ := List.getElem_of_mem z
      have e1 : r.dropLast[i]? = some x := by rw [List.getElem?_eq_getElem hi, e]
      rw [dat i (by omega)] at e1
      cases i with
      | zero => exact hS x (hst x e1)
      | succ i =>
        obtain ⟨y, hy⟩ : ∃ y, r[i]? = some y := ⟨_, List.getElem?_eq_getElem (by omega)⟩
        exact gw.gE_lt (hch i y x hy e1)
    · exact hM x (tr.sub x z)
  · rw [List.length_append, dll]
    have h1 := tr.len
    have h2 : M.length ≤ G.length := nodup_lt fp.asc.nodup hM
    have h3 : (max 1 ts.length) * M.length ≤ (J.length + C.length + 1) * G.length := Nat.mul_le_mul (by omega) h2
    have h4 : G.length * (J.length + C.length + 2) = (J.length + C.length + 1) * G.length + G.length := by
      rw [show J.length + C.length + 2 = (J.length + C.length + 1) + 1 by omega, Nat.mul_add, Nat.mul_one, Nat.mul_comm]
    omega
  · obtain ⟨x, h1, h2⟩ := hj j hjJ
    exact ⟨x, h2, tr.has x h1⟩
  · obtain ⟨x, h1, h2⟩ := h
    obtain ⟨y, h3, h4⟩ := hc c hcC (meetB_iff.mpr ⟨x, tr.sub x h2, h1⟩)
    exact ⟨y, h4, tr.has y h3⟩
end K56
set_option Elab.async false
set_option linter.all false
set_option maxRecDepth 100000
set_option maxHeartbeats 4000000
/-! K56Fl: find_fair. -/
namespace K56
open PySem PySem.Spec PyProof.Rows L2
theorem strne4 : decide (V.str ("part" : Str) = V.str ("blocks" : Str)) = false := by decide +kernel
section
variable {P : Program} {w : World} {K : PySem.W.Frag} {mg : Str → Option Value} {base : Heap}
abbrev sFair : Stmt := topS 21
abbrev nFair : List Str := ["after", "starts", "justice", "compassion", "result", "loop", "path"]
theorem scFair : FnScope nFair ["after", "starts", "justice", "compassion"] (defScope sFair) := ⟨rfl, rfl, rfl, by decide +kernel, rfl, by decide +kernel, by decide +kernel⟩
def spFair (T : List (Addr × Str)) : Sp := fun vs H Q _ => ∃ (a b c d : Addr) (G : List (List Nat)) (S : List Nat) (J : List (List Nat)) (C : List (List Nat × List Nat)), vs = [.ref a, .ref b, .ref c, .ref d] ∧ LL H a G ∧ LA H b S ∧ LL H c J ∧ LP H d C ∧ (∀ x, x ∈ S → x < G.length) ∧ GW G ∧ ShortJ J ∧ ShortC C ∧ C.length ≤ 8 ∧ LamX.Tabs T H ∧
  (∀ (H' : Hp) (t l : Addr) (ns : List Nat), Same H H' → H' t = some (.tup [.str "blocks", .ref l]) → Asc ns → (∀ v, v ∈ ns ↔ Rs G S v) → (∀ v, v ∈ ns → v < G.length) → GoodAt G J C H' (C.length + 1) l ns → Q (.ref t) H') ∧
  (∀ (H' : Hp) (t p l : Addr) (path loop : List Nat), LamX.ExtN H H' → H' t = some (.tup [.str "cycle", .ref p, .ref l]) → LA H' p path → LA H' l loop → Cyc G J C S path loop → Q (.ref t) H')
theorem ok_fair {T : List (Addr × Str)} {f fR fS fT fN fP : Addr} {fd fdR fdS fdT fdN fdP : FuncData} (F : Fun K "find_fair" "find_fair" sFair f fd) (DR : Df K mg "reachable" 12 ["after", "starts"] fR fdR) (GR : FnOk P w K mg base CX0 2 fR fdR ["after", "starts"] spReach)
    (DS' : Df K mg "search_nodes" 18 ["after", "nodes", "justice", "compassion"] fS fdS) (GS : ∀ lev, FnOk P w K mg base CX0 (lev + 2) fS fdS ["after", "nodes", "justice", "compassion"] (spSrch lev))
    (DT : Df K mg "round_trip" 10 ["after", "members", "targets"] fT fdT) (GT : FnOk P w K mg base CX0 2 fT fdT ["after", "members", "targets"] spTrip) (DN : Df K mg "needed" 20 ["part", "justice", "compassion"] fN fdN) (GN : FnOk P w K mg base CX0 2 fN fdN ["part", "justice", "compassion"] spNeed)
    (DP : Df K mg "shortest_path" 14 ["after", "starts", "goals"] fP fdP) (GP : FnOk P w K mg base CX0 4 fP fdP ["after", "starts", "goals"] (spShort T)) : FnOk P w K mg base CX0 12 f fd ["after", "starts", "justice", "compassion"] (spFair T) := by
  refine F.ok scFair (fun vs H Q E h => ?_) (fun cdv A outer s H vs Q E hr h => ?_)
  · obtain ⟨a, b, c, d, G, S, J, C, rfl, _⟩ := h
    rfl
  · obtain ⟨a, b, c, d, G, S, J, C, rfl, ha, hb, hc, hd, hS, gw, lj, lc, hCl, hT, q1, q2⟩ := h
    have hn := gw.n60
    refine ⟨_, pss_cons (ps_set (i := 4) scFair.nd rfl (.inl rfl) (pe_call (GS (C.length + 1)) (hr.mono (by omega)) (by rfl) DS'.g DS'.F.kp DS'.b .nil pass0 (pa_cons (pv 0) (pa_cons (pe_call GR (hr.mono (by omega)) (by rfl) DR.g DR.F.kp DR.b .nil pass0 (pa_cons (pv 0) (pa_cons (pv 1) pa_nil))) (pa_cons (pv 2) (pa_cons (pv 3) pa_nil))))))
      (pss_cons (ps_if (pt_cmpR op_eq (pe_ix ix_tup (pv 4) pe_int (fun _ _ => rfl)) pe_str (nomark _)) (pss_one (ps_ret (pv 4))) pss_nil)
      (pss_cons (ps_set (i := 5) scFair.nd rfl (.inl rfl) (pe_call GT (hr.mono (by omega)) (by rfl) DT.g DT.F.kp DT.b .nil pass0 (pa_cons (pv 0) (pa_cons (pe_ix ix_tup (pv 4) pe_int (fun _ _ => rfl)) (pa_cons (pe_call GN (hr.mono (by omega)) (by rfl) DN.g DN.F.kp DN.b .nil pass0 (pa_cons (pe_ix ix_tup (pv 4) pe_int (fun _ _ => rfl)) (pa_cons (pv 2) (pa_cons (pv 3) pa_nil)))) pa_nil)))))
      (pss_cons (ps_set (i := 6) scFair.nd rfl (.inl rfl) (pe_call GP (hr.mono (by omega)) (by rfl) DP.g DP.F.kp DP.b .nil pass0 (pa_cons (pv 0) (pa_cons (pv 1) (pa_cons (pe_lst (pa_cons (pe_ix ix_list (pv 5) pe_int (fun _ _ => rfl)) pa_nil)) pa_nil)))))
      (pss_one (ps_ret (pe_tup (pa_cons pe_str (pa_cons (pe_slice sl_list (pv 6) po_none (po_some (pe_un un_neg pe_int))) (pa_cons (pv 5) pa_nil))))))))), ?_⟩
    refine ⟨.ref a, rfl, .ref a, rfl, .ref b, rfl, a, b, G, S, rfl, ha, hb, hS, gw, fun H1 rp ns s1 hr1 nasc nrs nlt => ?_⟩
    refine ⟨.ref c, rfl, .ref d, rfl, a, rp, c, d, G, ns, J, C, [], rfl, ha.same s1, hr1, hc.same s1, hd.same s1, nasc, nlt, gw, lj, lc, List.nodup_nil, fun u hu => absurd hu (by simp), (by rw [List.length_nil]; omega), fun H2 t l s2 ht good => ?_, fun H2 t l M s2 ht hM fair => ?_⟩
    · refine ⟨.ref t, rfl, t, _, 0, .str "blocks", rfl, rfl, SqT.of ht, atI_nat (j := 0) rfl, rfl, _, rfl, ?_⟩
      show if decide (V.str ("blocks" : Str) = V.str ("blocks" : Str)) = true then _ else _
      rw [decide_eq_true rfl]
      exact iteT ⟨.ref t, rfl, q1 H2 t l ns (s1.trans s2) ht nasc nrs nlt (good.mono (fun b o e => (of_nw e).2) _ _ _)⟩
    · refine ⟨.ref t, rfl, t, _, 0, .str "part", rfl, rfl, SqT.of ht, atI_nat (j := 0) rfl, rfl, _, rfl, ?_⟩
      show if decide (V.str ("part" : Str) = V.str ("blocks" : Str)) = true then _ else _
      rw [strne4]
      refine iteF ?_
      have s12 : Same H H2 := s1.trans s2
      have hMlt : ∀ x, x ∈ M → x < G.length := fun x hx => nlt x (fair.sub x hx)
      have hMl : M.length ≤ 60 := Nat.le_trans (nodup_lt fair.asc.nodup hMlt) hn
      refine ⟨.ref a, rfl, .ref t, rfl, t, _, 1, .ref l, rfl, rfl, SqT.of ht, atI_nat (j := 1) rfl, .ref t, rfl, t, _, 1, .ref l, rfl, rfl, SqT.of ht, atI_nat (j := 1) rfl, .ref c, rfl, .ref d, rfl, l, c, d, M, J, C, rfl, hM, hc.same s12, hd.same s12, by omega, lj, lc, fair.jus, fair.com, fun H3 tp ts s3 htp tsM tsl tsJ tsC => ?_⟩
      have s13 : Same H H3 := s12.trans s3
      have hed : ∃ x y, x ∈ M ∧ y ∈ M ∧ y ∈ rE G M x := by
        obtain ⟨v, x, h1, h2, h3⟩ := leadB_iff.mp fair.edge
        exact ⟨v, x, h1, h3, mem_rE.mpr ⟨h1, h2, h3⟩⟩
      refine ⟨a, l, tp, G, M, ts, rfl, ha.same s13, s3 l _ hM, htp, hMlt, fair.asc.nodup, hMl, gw, tsM, (by have := lj.1; have := lc.1; omega), fair.ne, fair.sc, hed, fun H4 lp loop s4 hlp tr => ?_⟩
      have s14 : Same H H4 := s13.trans s4
      obtain ⟨g, hg⟩ : ∃ g, loop[0]? = some g := ⟨_, List.getElem?_eq_getElem (List.length_pos_iff.mpr tr.ne)⟩
      have hgM := tr.sub g (List.mem_of_getElem? hg)
      refine ⟨.ref a, rfl, .ref b, rfl, .ref lp, rfl, lp, nvs loop, 0, nv g, rfl, rfl, SqL.of hlp, atI_nat (j := 0) (by rw [List.getElem?_map, hg]; rfl), (by show 1 ≤ sizeLine; decide), fun gp ngp => ?_⟩
      have s5 : Same H4 (upd H4 gp (.lst [nv g])) := same_upd ngp
      have s15 : Same H (upd H4 gp (.lst [nv g])) := s14.trans s5
      refine ⟨a, b, gp, G, S, g, rfl, ha.same s15, s15 b _ hb, upd_same, hS, gw, (nrs g).mp (fair.sub g hgM), hT.ext s15, fun H6 pp r e6 hpp rne rl rst rch rlast => ?_⟩
      have hlp6 : LA H6 lp loop := LAx e6 (s5 lp _ hlp)
      refine ⟨.ref pp, rfl, 1, rfl, -1, rfl, pp, nvs r, rfl, SqL.of hpp, fun xp nxp => ?_⟩
      have s7 : Same H6 (upd H6 xp (.lst (cutV (nvs r) none (some (-1))))) := same_upd nxp
      have ecut : cutV (nvs r) none (some (-1)) = nvs r.dropLast := by
        have e1 : HT.sIx (nvs r).length 0 none = 0 := rfl
        have e2 : HT.sIx (nvs r).length (nvs r).length (some (-1)) = r.length - 1 := by
          rw [nvs_len]
          show (if (-1 : Int) < 0 then ((-1 : Int) + (r.length : Int)).toNat else min (-1 : Int).toNat r.length) = _
          rw [if_pos (by decide)]
          omega
        unfold cutV
        rw [e1, e2, List.drop_zero, Nat.sub_zero, ← List.map_take, List.dropLast_eq_take]
      refine ⟨.ref lp, rfl, (by show 3 ≤ sizeLine; decide), fun tq ntq => ?_⟩
      have s8 : Same (upd H6 xp (.lst (cutV (nvs r) none (some (-1))))) (upd (upd H6 xp (.lst (cutV (nvs r) none (some (-1))))) tq (.tup [.str "cycle", .ref xp, .ref lp])) := same_upd ntq
      refine q2 _ tq xp lp r.dropLast loop ((extS s15).trans (e6.trans (extS (s7.trans s8)))) upd_same ?_ (s8 lp _ (s7 lp _ hlp6)) (cyc_of gw hS fair nlt tr tsl tsJ tsC hg rne rl rst rch rlast)
      exact s8 xp _ (by rw [upd_same, ecut])
end
end K56
set_option Elab.async false
set_option linter.all false
set_option maxRecDepth 100000
set_option maxHeartbeats 4000000
/-! K56La: what the law's own defs need: rules that lacked; cells, draws. -/
namespace K56
open PySem PySem.Spec PyProof.Rows L2
section
variable {X : Cx}
/-- % by a positive number: some number below it -/
theorem op_modA : OpR X (binaryOp .Mod) (fun x y H Q => ∃ (i : Int) (b : Nat), x = .int i ∧ y = .int (b : Int) ∧ 0 < b ∧ ∀ d : Nat, d < b → Q (.int (d : Int)) H) := fun pins s σ H x y v u Q I rx ry h => by
  obtain ⟨i, b, rfl, rfl, hb, q⟩ := h
  refine op_mod pins s σ H _ _ v u Q I rx ry ⟨i, (b : Int), rfl, rfl, by omega, ?_⟩
  have h1 : 0 ≤ i % (b : Int) := Int.emod_nonneg i (by omega)
  have h2 : i % (b : Int) < (b : Int) := Int.emod_lt_of_pos i (by omega)
  have := q (i % (b : Int)).toNat (by omega)
  rwa [Int.toNat_of_nonneg h1] at this
theorem ix_listK {K : PySem.W.Frag} (h : X.K = K) : IxR X (rIxL K) := h ▸ ix_list
theorem ix_tupK {K : PySem.W.Frag} (h : X.K = K) : IxR X (rIxT K) := h ▸ ix_tup
theorem call_intN : CallR X (.type "int") (fun xs H Q => ∃ i, xs = [.int i] ∧ Q (.int i) H) := fun pins s σ H xs us Q I r h => call_int1 pins s σ H xs us Q I r (.inl h)
end
section
variable {P : Program} {w : World} {K : PySem.W.Frag} {mg : Str → Option Value} {base : Heap}
/-! ### _law_cell -/
abbrev scell : Stmt := topS 23
abbrev ncell : List Str := ["_law_script", "_law_k"]
theorem sccell : FnScope ncell ["_law_script", "_law_k"] (defScope scell) := ⟨rfl, rfl, rfl, by decide +kernel, rfl, by decide +kernel, by decide +kernel⟩
def spcell (K : PySem.W.Frag) : Sp := fun vs H Q _ => ∃ (l : Addr) (zs : List Int) (k : Nat), vs = [.ref l, nv k] ∧ SqL K H l (zs.map V.int) ∧ ∀ z : Int, Q (.int z) H
theorem ok_cell {f : Addr} {fd : FuncData} (F : Fun K "_law_cell" "_law_cell" scell f fd) (ml : mg "len" = none) (mi : mg "int" = none) : FnOk P w K mg base CX0 1 f fd ["_law_script", "_law_k"] (spcell K) := by
  have SC := sccell
  refine F.ok SC (fun vs H Q E h => ?_) (fun cdv A outer s H vs Q E hr h => ?_)
  · obtain ⟨l, zs, k, rfl, _⟩ := h
    rfl
  · refine ⟨_,
    (pss_cons (ps_if (pt_cmpR op_lt (pv 1) (pe_callB call_len_seq (by rfl) ml PySem.boot_len (pa_cons (pv 0) pa_nil)) (nomark _))
      (pss_one (ps_ret (pe_callTy call_intN (by rfl) mi boot_int (pa_cons (pe_ix ix_list (pv 0) (pv 1) (fun _ _ => rfl)) pa_nil)))) pss_nil)
    (pss_one (ps_ret pe_int))), ?_⟩
    obtain ⟨l, zs, k, rfl, hl, q⟩ := h
    refine ⟨nv k, rfl, .ref l, rfl, l, _, rfl, .inl hl, _, _, rfl, rfl, _, rfl, ?_⟩
    refine ite2 (fun e => ?_) (fun e => ?_)
    · have e : k < zs.length := by
        have := of_decide_eq_true e
        rw [List.length_map] at this
        omega
      exact ⟨.ref l, rfl, nv k, rfl, l, _, _, .int zs[k], rfl, rfl, hl, atI_nat (by rw [List.getElem?_map, List.getElem?_eq_getElem e]; rfl), _, rfl, q _⟩
    · exact q 0
/-! ### _law_draws -/
abbrev sdraws : Stmt := topS 24
abbrev ndraws : List Str := ["_law_script", "_law_place", "_law_count_here", "_law_base", "_law_cell_here", "_law_out", "_law_rest", "_law_k", "_law_mixed", "_law_again"]
theorem scdraws : FnScope ndraws ["_law_script", "_law_place", "_law_count_here", "_law_base"] (defScope sdraws) := ⟨rfl, rfl, rfl, by decide +kernel, rfl, by decide +kernel, by decide +kernel⟩
def spdraws (K : PySem.W.Frag) : Sp := fun vs H Q _ => ∃ (l : Addr) (zs : List Int) (pl n b : Nat), vs = [.ref l, nv pl, nv n, nv b] ∧ SqL K H l (zs.map V.int) ∧ pl ≤ 100 ∧ n ≤ 10000 ∧ 0 < b ∧ b ≤ 10000 ∧
  ∀ (H' : Hp) (p : Addr) (ds : List Nat), Same H H' → LA H' p ds → ds.length = n → (∀ d, d ∈ ds → d < b) → Q (.ref p) H'
theorem ok_draws {f fC : Addr} {fd fdC : FuncData} (F : Fun K "_law_draws" "_law_draws" sdraws f fd) (D_cell : Df K mg "_law_cell" 23 ["_law_script", "_law_k"] fC fdC) (ml : mg "len" = none) (mi : mg "int" = none) (mr : mg "range" = none) :
    FnOk P w K mg base CX0 2 f fd ["_law_script", "_law_place", "_law_count_here", "_law_base"] (spdraws K) := by
  have SC := scdraws
  have G_cell : FnOk P w K mg base CX0 1 fC fdC ["_law_script", "_law_k"] (spcell K) := ok_cell D_cell.F ml mi
  refine F.ok SC (fun vs H Q E h => ?_) (fun cdv A outer s H vs Q E hr h => ?_)
  · obtain ⟨l, zs, pl, n, b, rfl, _⟩ := h
    rfl
  · refine ⟨_,
    (pss_cons (ps_set (i := 4) SC.nd rfl (.inl rfl) (pe_call G_cell (hr.mono (by omega)) (by rfl) D_cell.g D_cell.F.kp D_cell.b .nil pass0 (pa_cons (pv 0) (pa_cons (pv 1) pa_nil))))
    (pss_cons (ps_set (i := 5) SC.nd rfl (.inl rfl) (pe_lst pa_nil))
    (pss_cons (ps_if (pt_cmpR op_ge (pv 4) (pe_op op_pow pe_int pe_int) (nomark _))
      (pss_cons (ps_set (i := 6) SC.nd rfl (.inl rfl) (pe_op op_sub (pv 4) (pe_op op_pow pe_int pe_int)))
      (pss_cons (ps_for PassesOwn.never rfl (pi_range1 (by rfl) mr (pa_cons (pv 2) pa_nil)) (pg_name (i := 7) SC.nd rfl (.inl rfl))
        (pss_cons (ps_expr (pe_bm PySem.F.plainAttrs_list PySem.F.slot_list_append PySem.F.type_list_append mt_append (pv 5) (pa_cons (pe_op op_modA (pe_callTy call_intN (by rfl) mi boot_int (pa_cons (pv 6) pa_nil)) (pv 3)) pa_nil)))
        (pss_one (ps_set (i := 6) SC.nd rfl (.inl rfl) (pe_op op_fdiv (pv 6) (pv 3))))))
      (pss_one (ps_ret (pv 5))))) pss_nil)
    (pss_cons (ps_set (i := 8) SC.nd rfl (.inl rfl) (pe_op op_modA (pe_callTy call_intN (by rfl) mi boot_int (pa_cons (pe_op op_add (pe_op op_mul (pv 4) pe_int) (pe_op op_mul (pv 1) pe_int)) pa_nil)) pe_int))
    (pss_cons (ps_for PassesOwn.never rfl (pi_range1 (by rfl) mr (pa_cons (pv 2) pa_nil)) (pg_name (i := 7) SC.nd rfl (.inl rfl))
      (pss_cons (ps_set (i := 8) SC.nd rfl (.inl rfl) (pe_op op_modA (pe_callTy call_intN (by rfl) mi boot_int (pa_cons (pe_op op_add (pe_op op_add (pe_op op_mul (pv 8) pe_int) (pe_op op_mul (pv 7) pe_int)) pe_int) pa_nil)) pe_int))
      (pss_cons (ps_set (i := 9) SC.nd rfl (.inl rfl) (pe_op op_modA (pe_callTy call_intN (by rfl) mi boot_int (pa_cons (pe_op op_add (pe_op op_mul (pv 8) (pv 8)) (pe_op op_mul (pv 8) pe_int)) pa_nil)) pe_int))
      (pss_one (ps_expr (pe_bm PySem.F.plainAttrs_list PySem.F.slot_list_append PySem.F.type_list_append mt_append (pv 5) (pa_cons (pe_op op_modA (pe_callTy call_intN (by rfl) mi boot_int (pa_cons (pe_op op_fdiv (pv 9) pe_int) pa_nil)) (pv 3)) pa_nil)))))))
    (pss_one (ps_ret (pv 5)))))))), ?_⟩
    obtain ⟨l, zs, pl, n, b, rfl, hl, hp, hn, hb, hbm, q⟩ := h
    refine ⟨.ref l, rfl, nv pl, rfl, l, zs, pl, rfl, hl, fun z => ⟨Nat.zero_le _, fun o no => ?_⟩⟩
    have s1 : Same H (upd H o (.lst [])) := same_upd no
    have fo : ∀ c u, H c = some u → c ≠ o := fun c u e => ne_of_none e no
    have pow : CPow (10 : Int) 18 := ⟨by decide, by decide, by decide⟩
    have hb1 : (0 : Int) < (b : Int) := by omega
    refine ⟨.int z, rfl, 10, 18, rfl, rfl, pow, _, _, rfl, rfl, _, rfl, ?_⟩
    refine ite2 (fun _ => ?_) (fun _ => ?_)
    · refine ⟨.int z, rfl, 10, 18, rfl, rfl, pow, _, _, rfl, rfl, nv n, rfl, _, rfl, by omega, by omega, for_range (n := ((n : Nat) : Int).toNat) (fun k σ Hc => ∃ ds r v7, σ = [some (.ref l), some (nv pl), some (nv n), some (nv b), some (.int z), some (.ref o), some (.int r), v7, none, none] ∧ LA Hc o ds ∧ ds.length = k ∧ (∀ d, d ∈ ds → d < b) ∧ (∀ c u, H c = some u → Hc c = some u))
        ⟨[], _, _, rfl, upd_same, rfl, fun d hd => absurd hd (by simp), s1⟩ ?_ ?_⟩
      · rintro k σ Hc hk ⟨ds, r, v7, rfl, hd, dl, db, sc⟩
        refine ⟨.ref o, rfl, .inl ⟨rfl, _, SqL.of hd⟩, .int r, rfl, r, rfl, nv b, rfl, r, b, rfl, rfl, hb, fun d hdb => ⟨o, _, _, rfl, rfl, hd, (by rw [nvs_len]; exact line1000 (by omega)), .int r, rfl, nv b, rfl, r, (b : Int), rfl, rfl, ⟨hb1, by omega⟩, ds ++ [d], _, _, rfl, ?_, ?_, fun x hx => ?_, fun c u e => ?_⟩⟩
        · rw [LA, upd_same, nvs_snoc]
        · rw [List.length_append, List.length_singleton, dl]
        · rcases List.mem_append.mp hx with y | y
          · exact db x y
          · rw [List.mem_singleton.mp y]
            exact hdb
        · rw [upd_ne (fo c u e)]
          exact sc c u e
      · rintro σ Hc ⟨ds, r, v7, rfl, hd, dl, db, sc⟩
        exact ⟨.ref o, rfl, q Hc o ds sc hd (by omega) db⟩
    · have m1 : CMul z 48271 := .inr ⟨by decide, by decide⟩
      have m2 : CMul (pl : Int) 69621 := .inr ⟨by decide, by decide⟩
      refine ⟨.int z, rfl, z, 48271, rfl, rfl, m1, nv pl, rfl, (pl : Int), 69621, rfl, rfl, m2, _, _, rfl, rfl, _, rfl, _, 2147483647, rfl, rfl, (by decide), fun m0 hm0 => ⟨nv n, rfl, _, rfl, by omega, by omega, for_range (n := ((n : Nat) : Int).toNat) (fun k σ Hc => ∃ ds v7 v9, ∃ m : Nat, σ = [some (.ref l), some (nv pl), some (nv n), some (nv b), some (.int z), some (.ref o), none, v7, some (nv m), v9] ∧ LA Hc o ds ∧ ds.length = k ∧ (∀ d, d ∈ ds → d < b) ∧ (∀ c u, H c = some u → Hc c = some u))
        ⟨[], _, _, m0, rfl, upd_same, rfl, fun d hd => absurd hd (by simp), s1⟩ ?_ ?_⟩⟩
      · rintro k σ Hc hk ⟨ds, v7, v9, m, rfl, hd, dl, db, sc⟩
        have c1 : CMul (m : Int) 16807 := .inr ⟨by decide, by decide⟩
        have c2 : CMul (0 + (k : Int)) 48271 := .inr ⟨by decide, by decide⟩
        refine ⟨nv m, rfl, (m : Int), 16807, rfl, rfl, c1, .int (0 + (k : Int)), rfl, (0 + (k : Int)), 48271, rfl, rfl, c2, _, _, rfl, rfl, _, _, rfl, rfl, _, rfl, _, 2147483647, rfl, rfl, (by decide), fun m' hm' => ?_⟩
        have c3 : CMul (m' : Int) (m' : Int) := .inr ⟨by omega, by omega⟩
        have c4 : CMul (m' : Int) 69621 := .inr ⟨by decide, by decide⟩
        refine ⟨nv m', rfl, nv m', rfl, (m' : Int), (m' : Int), rfl, rfl, c3, nv m', rfl, (m' : Int), 69621, rfl, rfl, c4, _, _, rfl, rfl, _, rfl, _, 2147483629, rfl, rfl, (by decide), fun ag _ => ?_⟩
        refine ⟨.ref o, rfl, .inl ⟨rfl, _, SqL.of hd⟩, nv ag, rfl, (ag : Int), 16, rfl, rfl, ⟨by decide, by decide⟩, _, rfl, nv b, rfl, _, b, rfl, rfl, hb, fun d hdb => ⟨o, _, _, rfl, rfl, hd, (by rw [nvs_len]; exact line1000 (by omega)), ds ++ [d], _, _, m', rfl, ?_, ?_, fun x hx => ?_, fun c u e => ?_⟩⟩
        · rw [LA, upd_same, nvs_snoc]
        · rw [List.length_append, List.length_singleton, dl]
        · rcases List.mem_append.mp hx with y | y
          · exact db x y
          · rw [List.mem_singleton.mp y]
            exact hdb
        · rw [upd_ne (fo c u e)]
          exact sc c u e
      · rintro σ Hc ⟨ds, v7, v9, m, rfl, hd, dl, db, sc⟩
        exact ⟨.ref o, rfl, q Hc o ds sc hd (by omega) db⟩
end
end K56
set_option Elab.async false
set_option linter.all false
set_option maxRecDepth 100000
set_option maxHeartbeats 4000000
/-! K56Lb: the law's drawn graphs. -/
namespace K56
open PySem PySem.Spec PyProof.Rows L2
theorem sqS {K : PySem.W.Frag} {H H' : Hp} {a : Addr} {xs : List V} (h : SqL K H a xs) (s : Same H H') : SqL K H' a xs := by
  rcases h with (h | ⟨o, h⟩) | h
  · exact .inl (.inl (s _ _ h))
  · exact .inl (.inr ⟨o, s _ _ h⟩)
  · exact .inr h
theorem at_lt {ds : List Nat} {j : Nat} (h : j < ds.length) : ∃ x, atI (nvs ds) (j : Int) = some (nv x) ∧ ds[j]? = some x :=
  ⟨ds[j], atI_nat (by rw [List.getElem?_map, List.getElem?_eq_getElem h]; rfl), List.getElem?_eq_getElem h⟩
/-- some of the numbers below i stand at l, all else is as in H1 -/
def FilI (H1 H2 : Hp) (l : Addr) (i : Nat) : Prop := ∃ ns : List Nat, LA H2 l ns ∧ ns.length ≤ i ∧ (∀ x, x ∈ ns → x < i) ∧ Same H1 H2
theorem FilI.start {H1 : Hp} {l : Addr} (h : H1 l = none) : FilI H1 (upd H1 l (.lst [])) l 0 := ⟨[], upd_same, Nat.le_refl _, fun x hx => absurd hx (by simp), same_upd h⟩
theorem FilI.skip {H1 H2 : Hp} {l : Addr} {i : Nat} (h : FilI H1 H2 l i) : FilI H1 H2 l (i + 1) := let ⟨ns, a, b, c, d⟩ := h; ⟨ns, a, Nat.le_succ_of_le b, fun x hx => Nat.lt_succ_of_lt (c x hx), d⟩
theorem FilI.add {H1 H2 : Hp} {l : Addr} {i : Nat} (nl : H1 l = none) (h : FilI H1 H2 l i) (hi : i ≤ 1000) : ∃ acc, H2 l = some (.lst acc) ∧ acc.length < sizeLine ∧ FilI H1 (upd H2 l (.lst (acc ++ [nv i]))) l (i + 1) := by
  obtain ⟨ns, a, b, c, d⟩ := h
  refine ⟨_, a, by rw [nvs_len]; exact line1000 (by omega), ns ++ [i], by rw [LA, upd_same, nvs_snoc], by rw [List.length_append, List.length_singleton]; omega, fun x hx => ?_, fun c' u z => ?_⟩
  · rcases List.mem_append.mp hx with y | y
    · exact Nat.lt_succ_of_lt (c x y)
    · rw [List.mem_singleton.mp y]
      exact Nat.lt_succ_self i
  · rw [upd_ne (ne_of_none z nl)]
    exact d c' u z
/-- rows of small numbers -/
structure Rows0 (G : List (List Nat)) (n : Nat) : Prop where
  row : ∀ g, g ∈ G → g.length ≤ n
  lt : ∀ g, g ∈ G → ∀ x, x ∈ g → x < n
theorem Rows0.nil (n : Nat) : Rows0 [] n := ⟨fun g hg => absurd hg (by simp), fun g hg => absurd hg (by simp)⟩
theorem Rows0.snoc {G : List (List Nat)} {n : Nat} {g : List Nat} (h : Rows0 G n) (h1 : g.length ≤ n) (h2 : ∀ x, x ∈ g → x < n) : Rows0 (G ++ [g]) n := by
  refine ⟨fun k hk => ?_, fun k hk => ?_⟩
  all_goals rcases List.mem_append.mp hk with z | z
  · exact h.row k z
  · rw [List.mem_singleton.mp z]; exact h1
  · exact h.lt k z
  · rw [List.mem_singleton.mp z]; exact h2
/-- one more row, appended to the list at a -/
theorem row_add {H H2 : Hp} {a r : Addr} {G : List (List Nat)} {g : List Nat} {ps : List (Addr × List Nat)} (h : LLp H2 a G ps) (na : H a = none) (hr : LA H2 r g) (nr : r ≠ a) (hps : ∀ p, p ∈ ps → p.1 ≠ a) (s : Same H H2) :
    LLp (upd H2 a (.lst ((ps.map fun p => V.ref p.1) ++ [V.ref r]))) a (G ++ [g]) (ps ++ [(r, g)]) ∧ (∀ p, p ∈ ps ++ [(r, g)] → p.1 ≠ a) ∧ Same H (upd H2 a (.lst ((ps.map fun p => V.ref p.1) ++ [V.ref r]))) := by
  refine ⟨h.snoc upd_same (fun p hp => by rw [upd_ne (hps p hp)]) (by rw [LA, upd_ne nr]; exact hr), fun p hp => ?_, fun c u z => ?_⟩
  · rcases List.mem_append.mp hp with y | y
    · exact hps p y
    · rw [List.mem_singleton.mp y]
      exact nr
  · rw [upd_ne (ne_of_none z na)]
    exact s c u z
section
variable {P : Program} {w : World} {K : PySem.W.Frag} {mg : Str → Option Value} {base : Heap}
/-! ### _law_graph -/
abbrev sgraph : Stmt := topS 25
abbrev ngraph : List Str := ["_law_script", "_law_sizes", "_law_size", "_law_many", "_law_draws_here", "_law_after", "_law_v", "_law_w"]
theorem scgraph : FnScope ngraph ["_law_script", "_law_sizes"] (defScope sgraph) := ⟨rfl, rfl, rfl, by decide +kernel, rfl, by decide +kernel, by decide +kernel⟩
def spgraph (K : PySem.W.Frag) : Sp := fun vs H Q _ => ∃ (l b : Addr) (zs : List Int) (sz : List Nat), vs = [.ref l, .ref b] ∧ SqL K H l (zs.map V.int) ∧ LA H b sz ∧ 10 ≤ sz.length ∧ ∀ (H' : Hp) (p : Addr) (G : List (List Nat)), Same H H' → LL H' p G → GW G → Q (.ref p) H'
theorem ok_graph {f fD : Addr} {fd fdD : FuncData} (F : Fun K "_law_graph" "_law_graph" sgraph f fd) (D_draws : Df K mg "_law_draws" 24 ["_law_script", "_law_place", "_law_count_here", "_law_base"] fD fdD) (G_draws : FnOk P w K mg base CX0 2 fD fdD ["_law_script", "_law_place", "_law_count_here", "_law_base"] (spdraws K))
    (mi : mg "int" = none) (mr : mg "range" = none) : FnOk P w K mg base CX0 3 f fd ["_law_script", "_law_sizes"] (spgraph K) := by
  have SC := scgraph
  refine F.ok SC (fun vs H Q E h => ?_) (fun cdv A outer s H vs Q E hr h => ?_)
  · obtain ⟨l, b, zs, sz, rfl, _⟩ := h
    rfl
  · refine ⟨_,
    (pss_cons (ps_set (i := 2) SC.nd rfl (.inr rfl) (pe_op op_addN pe_int (pe_op op_modA (pe_callTy call_intN (by rfl) mi boot_int (pa_cons (pe_ix ix_list (pv 1) pe_int (fun _ _ => rfl)) pa_nil)) pe_int)))
    (Evl.pss_cut (ps_if (pt_cmpR op_eq (pe_op op_modA (pe_callTy call_intN (by rfl) mi boot_int (pa_cons (pe_ix ix_list (pv 1) pe_int (fun _ _ => rfl)) pa_nil)) pe_int) pe_int (nomark _))
      (pss_one (ps_set (i := 2) SC.nd rfl (.inr rfl) (pe_op op_addN pe_int (pe_op op_modA (pe_callTy call_intN (by rfl) mi boot_int (pa_cons (pe_ix ix_list (pv 1) pe_int (fun _ _ => rfl)) pa_nil)) pe_int)))) pss_nil)
    (Evl.pss_cut (ps_if (pt_cmpR op_eq (pe_op op_modA (pe_callTy call_intN (by rfl) mi boot_int (pa_cons (pe_ix ix_list (pv 1) pe_int (fun _ _ => rfl)) pa_nil)) pe_int) pe_int (nomark _))
      (pss_one (ps_set (i := 2) SC.nd rfl (.inr rfl) pe_int)) pss_nil)
    (pss_cons (ps_set (i := 3) SC.nd rfl (.inr rfl) (pe_ix ix_list (pe_lst (pa_cons pe_int (pa_cons pe_int (pa_cons pe_int (pa_cons pe_int (pa_cons pe_int (pa_cons pe_int pa_nil))))))) (pe_op op_modA (pe_callTy call_intN (by rfl) mi boot_int (pa_cons (pe_ix ix_list (pv 1) pe_int (fun _ _ => rfl)) pa_nil)) pe_int) (fun _ _ => rfl)))
    (Evl.pss_cut (ps_if (pt_cmpR op_gt (pv 2) pe_int (nomark _))
      (pss_one (ps_set (i := 3) SC.nd rfl (.inr rfl) (pe_op op_addN pe_int (pe_op op_fdivNN (pv 3) pe_int)))) pss_nil)
    (pss_cons (ps_set (i := 4) SC.nd rfl (.inr rfl) (pe_call G_draws (hr.mono (by omega)) (by rfl) D_draws.g D_draws.F.kp D_draws.b .nil pass0 (pa_cons (pv 0) (pa_cons pe_int (pa_cons (pe_op op_mulN (pv 2) (pv 2)) (pa_cons pe_int pa_nil))))))
    (pss_cons (ps_set (i := 5) SC.nd rfl (.inl rfl) (pe_lst pa_nil))
    (pss_cons (ps_for PassesOwn.never rfl (pi_range1 (by rfl) mr (pa_cons (pv 2) pa_nil)) (pg_name (i := 6) SC.nd rfl (.inr rfl))
      (pss_one (ps_expr (pe_bm PySem.F.plainAttrs_list PySem.F.slot_list_append PySem.F.type_list_append mt_append (pv 5) (pa_cons (pe_lc (own := [("_law_w", 7)]) (g := gName 7) rfl SC.nd (pi_range1 (by rfl) mr (pa_cons (pv 2) pa_nil)) (blkOk_by (N := ngraph) (sc := defScope sgraph) (by decide +kernel)) (fun _ _ _ _ _ => pg_name (i := 7) SC.nd rfl (.inl rfl)) (fun _ _ _ _ _ => pts_one (pt_cmpR op_lt (pe_ix (ix_listK (K := K) rfl) (pv 4) (pe_op op_addN (pe_op op_mulN (pv 6) (pv 2)) (pv 7)) (fun _ _ => rfl)) (pv 3) (nomark _))) (fun _ _ _ _ _ => (pv 7))) pa_nil)))))
    (pss_one (ps_ret (pv 5))))))))))), ?_⟩
    obtain ⟨l, b, zs, sz, rfl, hl, hb, hsz, q⟩ := h
    obtain ⟨n0, e0, _⟩ := at_lt (ds := sz) (j := 0) (by omega)
    obtain ⟨n1, e1, _⟩ := at_lt (ds := sz) (j := 1) (by omega)
    obtain ⟨n2, e2, _⟩ := at_lt (ds := sz) (j := 2) (by omega)
    have hbK : SqL K H b (nvs sz) := SqL.of hb
    refine ⟨.ref b, rfl, b, nvs sz, 1, nv n1, rfl, rfl, hbK, e1, _, rfl, (n1 : Int), 6, rfl, rfl, by decide, fun d1 hd1 => ⟨1, d1, rfl, rfl, ?_⟩⟩
    refine ⟨fun σ' H' => H = H' ∧ ∃ n : Nat, n ≤ 12 ∧ σ' = [some (.ref l), some (.ref b), some (nv n), none, none, none, none, none], ?_, ?_⟩
    · refine ⟨.ref b, rfl, b, nvs sz, 0, nv n0, rfl, rfl, hbK, e0, _, rfl, (n0 : Int), 8, rfl, rfl, by decide, fun d0 hd0 => ⟨rfl, _, rfl, ?_⟩⟩
      refine ite2 (fun _ => ?_) (fun _ => ⟨rfl, 1 + d1, by omega, rfl⟩)
      exact ⟨.ref b, rfl, b, nvs sz, 1, nv n1, rfl, rfl, hbK, e1, _, rfl, (n1 : Int), 6, rfl, rfl, by decide, fun d2 hd2 => ⟨7, d2, rfl, rfl, rfl, 7 + d2, by omega, rfl⟩⟩
    rintro _ _ ⟨rfl, n, hn, rfl⟩
    refine ⟨fun σ' H' => H = H' ∧ ∃ n : Nat, n ≤ 12 ∧ σ' = [some (.ref l), some (.ref b), some (nv n), none, none, none, none, none], ?_, ?_⟩
    · refine ⟨.ref b, rfl, b, nvs sz, 0, nv n0, rfl, rfl, hbK, e0, _, rfl, (n0 : Int), 24, rfl, rfl, by decide, fun d0 hd0 => ⟨rfl, _, rfl, ?_⟩⟩
      exact ite2 (fun _ => ⟨rfl, 0, by omega, rfl⟩) (fun _ => ⟨rfl, n, hn, rfl⟩)
    rintro _ _ ⟨rfl, n, hn, rfl⟩
    refine ⟨by show 6 ≤ sizeLine; decide, fun la nla => ?_⟩
    have sa : Same H (upd H la (.lst (nvs [1, 2, 2, 3, 4, 7]))) := same_upd nla
    have hbA := sa b _ hb
    refine ⟨.ref b, rfl, b, nvs sz, 2, nv n2, rfl, rfl, SqL.of hbA, e2, _, rfl, (n2 : Int), 6, rfl, rfl, by decide, fun dm hdm => ?_⟩
    obtain ⟨m, em, _⟩ := at_lt (ds := [1, 2, 2, 3, 4, 7]) (j := dm) hdm
    refine ⟨la, nvs [1, 2, 2, 3, 4, 7], dm, nv m, rfl, rfl, SqL.of upd_same, em, ?_⟩
    refine ⟨fun σ' H' => H' = upd H la (.lst (nvs [1, 2, 2, 3, 4, 7])) ∧ ∃ m : Nat, σ' = [some (.ref l), some (.ref b), some (nv n), some (nv m), none, none, none, none], ?_, ?_⟩
    · refine ⟨nv n, rfl, _, _, rfl, rfl, _, rfl, ?_⟩
      exact ite2 (fun _ => ⟨nv m, rfl, m, 4, rfl, rfl, ⟨by decide, by decide⟩, 1, m / 4, rfl, rfl, rfl, 1 + m / 4, rfl⟩) (fun _ => ⟨rfl, m, rfl⟩)
    rintro _ _ ⟨rfl, m, rfl⟩
    generalize upd H la (.lst (nvs [1, 2, 2, 3, 4, 7])) = HA at sa hbA ⊢
    have hnn : n * n ≤ 12 * 12 := Nat.mul_le_mul hn hn
    refine ⟨.ref l, rfl, nv n, rfl, nv n, rfl, n, n, rfl, rfl, by omega, l, zs, 1, n * n, 12, rfl, sqS hl sa, by decide, by omega, by decide, by decide, fun H1 dr ds s1 hdr dl _ => ?_⟩
    refine ⟨Nat.zero_le _, fun af naf => ?_⟩
    have s2 : Same H1 (upd H1 af (.lst [])) := same_upd naf
    have naH : H af = none := (sa.trans s1).free naf
    refine ⟨nv n, rfl, _, rfl, by omega, by omega, for_range (n := ((n : Nat) : Int).toNat) (fun k σ Hc => ∃ G ps v6, σ = [some (.ref l), some (.ref b), some (nv n), some (nv m), some (.ref dr), some (.ref af), v6, none] ∧ LLp Hc af G ps ∧ (∀ p, p ∈ ps → p.1 ≠ af) ∧ G.length = k ∧ Rows0 G n ∧ Same H1 Hc)
      ⟨[], [], _, rfl, LLp.nil upd_same, fun p hp => absurd hp (by simp), rfl, Rows0.nil n, s2⟩ ?_ ?_⟩
    · rintro k σ Hc hk ⟨G, ps, v6, rfl, hG, hps, hGl, r0, sc⟩
      rw [Int.zero_add]
      have hk : k < n := by omega
      refine ⟨.ref af, rfl, .inl ⟨rfl, _, SqL.of hG.lst⟩, nv n, rfl, _, rfl, by omega, by omega, fun lr nlr => ?_⟩
      have hdc : LA Hc dr ds := sc dr _ hdr
      refine lc_range (n := ((n : Nat) : Int).toNat) (fun i H2 => FilI Hc H2 lr i) (FilI.start nlr) (fun i H2 hi p => ?_) (fun H2 p => ?_)
      · rw [Int.zero_add]
        have hi : i < n := by omega
        have hj : k * n + i < ds.length := by
          have h1 : (k + 1) * n ≤ n * n := Nat.mul_le_mul_right n hk
          rw [Nat.succ_mul] at h1
          omega
        obtain ⟨x, ex, _⟩ := at_lt hj
        obtain ⟨_, _, _, _, sp⟩ := id p
        refine ⟨rfl, .ref dr, rfl, nv k, rfl, nv n, rfl, k, n, rfl, rfl, by omega, nv i, rfl, k * n, i, rfl, rfl, dr, nvs ds, _, nv x, rfl, rfl, SqL.of (sp dr _ hdc), ex, nv m, rfl, _, _, rfl, rfl, _, rfl, ?_⟩
        exact ite2 (fun _ => ⟨nv i, rfl, p.add nlr (by omega)⟩) (fun _ => p.skip)
      · obtain ⟨ns, hns, nl, nlt, sp⟩ := p
        rw [Int.toNat_natCast] at nl nlt
        have nra : lr ≠ af := (ne_of_none hG.lst nlr).symm
        obtain ⟨g1, g2, g3⟩ := row_add (hG.same sp) naf hns nra hps (sc.trans sp)
        refine ⟨af, _, _, rfl, rfl, (hG.same sp).lst, (by rw [List.length_map, hG.len]; exact line1000 (by omega)), G ++ [ns], _, _, rfl, g1, g2, (by rw [List.length_append, List.length_singleton, hGl]), r0.snoc nl nlt, g3⟩
    · rintro σ Hc ⟨G, ps, v6, rfl, hG, hps, hGl, r0, sc⟩
      rw [Int.toNat_natCast] at hGl
      exact ⟨.ref af, rfl, q Hc af G (fun c u z => sc c u (s1 c u (sa c u z))) ⟨ps, hG⟩ ⟨by omega, fun g hg => Nat.le_trans (r0.row g hg) (by omega), fun g hg x hx => by rw [hGl]; exact r0.lt g hg x hx⟩⟩
end
end K56
set_option Elab.async false
set_option linter.all false
set_option maxRecDepth 100000
set_option maxHeartbeats 4000000
/-! K56Lc: list(reversed(xs)); the law's drawn lists. -/
namespace K56
open PySem PySem.Spec PyProof.Rows L2
section
variable {prog : Program} {w : World} {A : Around} {E : Value → Shared → Prop} {s : Shared}
theorem list_init_rev {R : Result → Shared → Prop} {it l : Addr} {items : Array Value} (hh : A.handled = none) (hit : s.heap.IsRevIter it l ((items.size : Int) - 1)) (hl : s.heap.IsList l items) (hn : items.size ≤ sizeLine)
    (S : Addr) (hSi : S ≠ it) (hSl : S ≠ l) (hS : s.heap.get? S = some { cls := .type "list", data := .seq #[] })
    (hR : ∀ h' tk acc' c', (∀ b o, b ≠ S → b ≠ it → s.heap.get? b = some o → h'.get? b = some o) → h'.get? S = some { cls := .type "list", dict := none, data := .seq acc' c', slots := #[] } →
      ItemsOf (fun i v => items[items.size - 1 - i]? = some v) acc' items.size → R (.ok (.ret .none)) { s with heap := h', toks := tk }) :
    wpAny (model prog w) A.in1 (Builtin.«list.__init__» ⟨[.ref S, .ref it], []⟩)
      (fun fin s' => match fin with | .done f => R (.ok f) s' | .again c' => c'.quiet = true ∧ codeAny (model prog w) A c' R s') (fun e s' => R (.error e) s') s := by
  obtain ⟨ol, hol, _⟩ := id hl
  obtain ⟨oi, hoi, _⟩ := id hit
  have hli : l ≠ it := fun z => by
    obtain ⟨_, e1, c1, _⟩ := id hl
    obtain ⟨_, e2, c2, _⟩ := id hit
    rw [z, e2] at e1
    cases e1
    rw [c1] at c2
    exact absurd c2 (by decide)
  have W := (Walks.listRev (prog := prog) (w := w) (A := A.in1) hh it l hli items).toS
  have hSf : S ∉ [it, l] := by simp only [List.mem_cons, List.not_mem_nil, or_false, not_or]; exact ⟨hSi, hSl⟩
  show wpAny _ _ (do let old ← Builtin.List.listItems (.ref S); Builtin.List.listUpdate (.ref S) (fun _ => #[]); letGo old.toList.reverse; Builtin.List.listExtendWith (.ref S) (.ref it) .none) _ _ s
  unfold Builtin.List.listItems
  refine wpAny_bind (wpAny_bind (wpAny_seqItems hS rfl (wpAny_pure ?_)))
  refine wpAny_bind (m := updateSeq S fun _ => #[]) (wpAny_updateSeq hS rfl ?_)
  have hS2 := Heap.get?_update_self (Obj.mapSeq (fun _ => (#[] : Array Value))) hS rfl
  have oth : ∀ b o, b ≠ S → s.heap.get? b = some o → (s.heap.update S (Obj.mapSeq (fun _ => (#[] : Array Value)))).get? b = some o := fun b o hb e => (Heap.get?_update_other _ _ (Ne.symm hb)).trans e
  generalize s.heap.update S (Obj.mapSeq (fun _ => (#[] : Array Value))) = h2 at hS2 oth ⊢
  refine wpAny_bind (wpAny_letGo ?_)
  have hit2 : h2.IsRevIter it l ((items.size : Int) - 1) := hit.at fun o e => oth it o (Ne.symm hSi) e
  have hl2 : h2.IsList l items := hl.at fun o e => oth l o (Ne.symm hSl) e
  have hT : ({ s with heap := h2 } : Shared).TypeIs (.ref it) "list_reverseiterator" := Heap.IsRevIter.typeIs (s := { s with heap := h2 }) hit2
  have h1 : Builtin.List.listSameRef (.ref S) (.ref it) = false := by simp [Builtin.List.listSameRef, hSi]
  unfold Builtin.List.listExtendWith
  refine wpAny_bind (wpAny_typeOf hT ?_)
  rw [if_neg (show ¬ _ by rw [h1]; decide)]
  refine wpAny_bind (wpAny_pyIter_revIter (s := { s with heap := h2 }) hit2 (wpAny_bind (wpAny_holding ?_)))
  unfold Builtin.List.listLengthHint
  refine wpAny_bind (wpAny_specialOf hT RT.nolen_lri ?_)
  refine wpAny_bind (m := specialOf (Value.ref it) (Str.ofString "__length_hint__")) (wpAny_specialOf hT RT.hint_lri ?_)
  generalize hq : ("list_reverseiterator.__length_hint__" : String) = q0
  wp_delta
  rw [show splitId q0 = some ("list_reverseiterator", "__length_hint__") by subst hq; decide +kernel]
  subst hq
  refine wpAny_bind (wpAny_isInstance (b := true) hT (by rw [isSubtype_type]; kernel_rfl) (wpAny_pure ?_))
  rw [if_neg (show ¬ _ by decide)]
  have e0 : ((items.size : Nat) : Int) - 1 - ((0 : Nat) : Int) = (items.size : Int) - 1 := by omega
  refine wpAny_pure ⟨plainId_quiet F.plain_extend_loop _, codeAny_extend_loopS W hn S hSf .none items.size 0 _ _ _ rfl (Nat.zero_le _) ⟨Nat.zero_le _, by rw [e0]; exact hit2, hl2⟩ hS2 (ItemsOf.nil _) fun s' acc' c' hm hS' hacc => ?_⟩
  rw [Moved.eq_with hm]
  refine hR s'.heap s'.toks acc' c' (fun b o h3 h4 e => hm.heap b o (fun z => ?_) (oth b o h3 e)) hS' hacc
  rcases List.mem_cons.mp z with e' | z
  · exact h3 e'
  · exact h4 (List.mem_singleton.mp z)
theorem call_list_rev {it l : Addr} {items : Array Value} {Q : Value → Shared → Prop} (hh : A.handled = none) (hit : s.heap.IsRevIter it l ((items.size : Int) - 1)) (hl : s.heap.IsList l items) (hn : items.size ≤ sizeLine)
    (hQ : ∀ (h' : Heap) (tk : Nat) (acc : Array Value) (c : Nat), (∀ b o, b ≠ it → s.heap.get? b = some o → h'.get? b = some o) → h'.get? s.heap.objs.size = some { cls := .type "list", dict := none, data := .seq acc c, slots := #[] } →
      ItemsOf (fun i v => items[items.size - 1 - i]? = some v) acc items.size → Q (.ref s.heap.objs.size) { s with heap := h', toks := tk }) :
    wpAny (model prog w) A (call (.type "list") [.ref it]) Q E s := by
  refine callType_codes (Q₁ := fun v s1 => v = .ref s.heap.objs.size ∧ s1 = { s with heap := s.heap.push { cls := .type "list", data := .seq #[] } }) F.called_list (F.typeCall_list_1 _) F.entry_list_init (code_list_new _ ⟨rfl, rfl⟩) ?_
  rintro v s1 ⟨rfl, rfl⟩
  have hS : (s.heap.push { cls := .type "list", data := .seq #[] }).get? s.heap.objs.size = some { cls := .type "list", data := .seq #[] } := Heap.get?_push_size _ rfl
  obtain ⟨ol, hol, _⟩ := id hl
  obtain ⟨oi, hoi, _⟩ := id hit
  refine ⟨⟨_, hS, rfl⟩, F.args_list_init_2 _ _, list_init_rev (A := A.in1) (s := { s with heap := s.heap.push { cls := .type "list", data := .seq #[] } }) hh (hit.at fun o e => Heap.get?_push_of_some _ e) (hl.push _) hn _ (Nat.ne_of_gt (Heap.lt_size hoi)) (Nat.ne_of_gt (Heap.lt_size hol)) hS fun h' tk acc c hk hS' hacc => ?_⟩
  exact ⟨rfl, hQ h' tk acc c (fun b o hb e => hk b o (Nat.ne_of_lt (Heap.lt_size e)) hb (Heap.get?_push_of_some _ e)) hS' hacc⟩
end
section
variable {X : Cx}
/-- list(reversed(xs)), xs a list: a new list -/
def tLstRev (K : PySem.W.Frag) (te : TE) : TE := fun σ H Q => te σ H fun v H1 => ∃ (a : Addr) (xs : List V), v = .ref a ∧ SqL K H1 a xs ∧ ∀ q, H1 q = none → Q (.ref q) (upd H1 q (.lst xs.reverse))
theorem pe_lstRev {e : Expr} {te : TE} {p p2 pos pos2 : Pos} (hc : X.calm = true) (hg : Gl X "list") (hm : X.mg "list" = none) (hg2 : Gl X "reversed") (hm2 : X.mg "reversed" = none) (he : PE X e te)
    (hs : starEach [e] X.env = (false, eval e X.env) :: starEach [] X.env := by rfl) (hs2 : starEach [.Call (.Name "reversed" p2) [e] [] pos2] X.env = (false, eval (.Call (.Name "reversed" p2) [e] [] pos2) X.env) :: starEach [] X.env := by rfl) :
    PE X (.Call (.Name "list" p) [.Call (.Name "reversed" p2) [e] [] pos2] [] pos) (tLstRev X.K te) := by
  refine ⟨fun pins s σ H Q I h => ?_⟩
  refine Call_ (ld_blt I hg hm boot_list (PyProof.Rows.callWith_type1 (args_cons (Call_ (ld_blt I hg2 hm2 PyProof.Rows.boot_reversed (PyProof.Rows.callWith_type1 (args_cons (thn (he.run pins s σ H _ I h) fun u s1 ⟨v, H1, I1, r1, a, xs, ev, hq, q⟩ => args_nil ?_) hs) hs rfl))) hs2) hs2 rfl))
  subst ev
  obtain rfl : u = Value.ref a := r1
  obtain ⟨its, rv, pl, hz⟩ := I1.list hq
  have hl := pl.isList
  refine call_reversed_list hl (args_nil ?_)
  have I2 : Inv X pins σ H1 { s1 with heap := s1.heap.push (revObj a ((its.toArray.size : Int) - 1)) } := I1.kept (t' := s1.toks) fun b o e => Heap.get?_push_of_some _ e
  have fp := I1.fpOk (H' := H1) (b := s1.heap.objs.size) (Nat.le_refl _) (I1.hok.fresh (Nat.le_refl _))
  have hn : its.toArray.size ≤ sizeLine := by rw [List.size_toArray, ← rv.length]; exact hz
  refine call_list_rev (s := { s1 with heap := s1.heap.push (revObj a ((its.toArray.size : Int) - 1)) }) (I1.ok.hd hc) ⟨_, Heap.get?_push_size _ rfl, rfl, rfl⟩ (hl.push _) hn fun h' tk acc c hk hS hi => ?_
  have I3 : Inv X pins σ (upd H1 _ (.lst xs.reverse)) { s1 with heap := h', toks := tk } := I2.turnedNew (t' := tk) (ch := [s1.heap.objs.size]) (fun b o hb e => hk b o (fun z => hb (by rw [z]; exact List.mem_singleton_self _)) e) (fun b hb => by rw [List.mem_singleton.mp hb]; exact fp) (Nat.le_refl _)
    ⟨by rw [List.length_reverse]; exact hz, acc.toList, c, RT.vals_rev rv hi, by rw [Array.toArray_toList]; exact hS⟩
  exact ⟨.ref _, _, I3, rfl, q _ (I2.hok.fresh (Nat.le_refl _))⟩
end
end K56
set_option Elab.async false
set_option linter.all false
set_option maxRecDepth 100000
set_option maxHeartbeats 4000000
/-! K56Ld: turned, chosen, starts, lists, count. -/
namespace K56
open PySem PySem.Spec PyProof.Rows L2
theorem nvs_app (a b : List Nat) : nvs (a ++ b) = nvs a ++ nvs b := List.map_append
section
variable {P : Program} {w : World} {K : PySem.W.Frag} {mg : Str → Option Value} {base : Heap}
/-! ### _law_turned -/
abbrev sturned : Stmt := topS 28
abbrev nturned : List Str := ["_law_nodes", "_law_kind"]
theorem scturned : FnScope nturned ["_law_nodes", "_law_kind"] (defScope sturned) := ⟨rfl, rfl, rfl, by decide +kernel, rfl, by decide +kernel, by decide +kernel⟩
def spturned : Sp := fun vs H Q _ => ∃ (a : Addr) (ns : List Nat) (kd : Nat), vs = [.ref a, nv kd] ∧ LA H a ns ∧ ns.length ≤ 1000 ∧ ∀ (H' : Hp) (p : Addr) (ms : List Nat), Same H H' → H p = none → LA H' p ms → (∀ x, x ∈ ms → x ∈ ns) → ms.length ≤ 3 * ns.length → Q (.ref p) H'
theorem ok_turned {f : Addr} {fd : FuncData} (F : Fun K "_law_turned" "_law_turned" sturned f fd) (mi : mg "int" = none) (mli : mg "list" = none) (mrv : mg "reversed" = none) : FnOk P w K mg base CX0 1 f fd ["_law_nodes", "_law_kind"] spturned := by
  have SC := scturned
  refine F.ok SC (fun vs H Q E h => ?_) (fun cdv A outer s H vs Q E hr h => ?_)
  · obtain ⟨a, ns, kd, rfl, _⟩ := h
    rfl
  · refine ⟨_,
    (pss_cons (ps_if (pt_cmpR op_eq (pe_op op_modA (pe_callTy call_intN (by rfl) mi boot_int (pa_cons (pv 1) pa_nil)) pe_int) pe_int (nomark _))
      (pss_one (ps_ret (pe_lstRev rfl (by rfl) mli (by rfl) mrv (pv 0)))) pss_nil)
    (pss_cons (ps_if (pt_cmpR op_eq (pe_op op_modA (pe_callTy call_intN (by rfl) mi boot_int (pa_cons (pv 1) pa_nil)) pe_int) pe_int (nomark _))
      (pss_one (ps_ret (pe_op op_cat (pe_op op_cat (pe_slice sl_list (pv 0) (po_some pe_int) po_none) (pv 0)) (pe_slice sl_list (pv 0) po_none (po_some pe_int))))) pss_nil)
    (pss_one (ps_ret (pe_callTy call_list_of (by rfl) mli boot_list (pa_cons (pv 0) pa_nil)))))), ?_⟩
    obtain ⟨a, ns, kd, rfl, ha, hl, q⟩ := h
    refine ⟨nv kd, rfl, _, rfl, (kd : Int), 4, rfl, rfl, by decide, fun d _ => ⟨rfl, _, rfl, ite2 (fun _ => ?_) (fun _ => ⟨nv kd, rfl, _, rfl, (kd : Int), 4, rfl, rfl, by decide, fun d _ => ⟨rfl, _, rfl, ite2 (fun _ => ?_) (fun _ => ?_)⟩⟩)⟩⟩
    · refine ⟨.ref a, rfl, a, nvs ns, rfl, SqL.of ha, fun p np => ?_⟩
      refine q _ p ns.reverse (same_upd np) np (by rw [LA, upd_same, nvs_rev]) (fun x hx => List.mem_reverse.mp hx) (by rw [List.length_reverse]; omega)
    · -- xs[1:] + xs + xs[:1]
      refine ⟨.ref a, rfl, 1, rfl, a, nvs ns, rfl, SqL.of ha, fun p np => ?_⟩
      have e1 : cutV (nvs ns) (some 1) none = nvs (ns.drop (HT.sIx ns.length 0 (some 1))) := by
        unfold cutV
        rw [nvs_len]
        show ((nvs ns).drop _).take (ns.length - _) = _
        rw [← List.map_drop, List.take_of_length_le (by rw [nvs_len, List.length_drop]; exact Nat.le_refl _)]
      have s1 : Same H (upd H p (.lst (cutV (nvs ns) (some 1) none))) := same_upd np
      have l1 : (cutV (nvs ns) (some 1) none).length ≤ ns.length := by
        have := cutV_length (nvs ns) (some 1) none
        rwa [nvs_len] at this
      refine ⟨.ref a, rfl, p, a, _, nvs ns, rfl, rfl, upd_same, s1 a _ ha, (by rw [nvs_len]; exact line1000' (by omega)), fun p2 np2 => ?_⟩
      generalize upd H p (.lst (cutV (nvs ns) (some 1) none)) = H1 at s1 np2 ⊢
      have s2 : Same H1 (upd H1 p2 (.lst (cutV (nvs ns) (some 1) none ++ nvs ns))) := same_upd np2
      refine ⟨.ref a, rfl, 1, rfl, a, nvs ns, rfl, SqL.of (s2 a _ (s1 a _ ha)), fun p3 np3 => ?_⟩
      have e3 : cutV (nvs ns) none (some 1) = nvs (ns.take (HT.sIx ns.length ns.length (some 1))) := by
        unfold cutV
        rw [nvs_len]
        show ((nvs ns).drop 0).take (_ - 0) = _
        rw [List.drop_zero, Nat.sub_zero, ← List.map_take]
      have s3 := same_upd (o := .lst (cutV (nvs ns) none (some 1))) np3
      have l3 : (cutV (nvs ns) none (some 1)).length ≤ ns.length := by
        have := cutV_length (nvs ns) none (some 1)
        rwa [nvs_len] at this
      have n23 : p2 ≠ p3 := ne_of_none (show upd H1 p2 _ p2 = some _ from upd_same) np3
      refine ⟨p2, p3, _, _, rfl, rfl, s3 p2 _ upd_same, upd_same, (by rw [List.length_append, nvs_len]; exact line1000' (by omega)), fun p4 np4 => ?_⟩
      have s4 := same_upd (o := .lst ((cutV (nvs ns) (some 1) none ++ nvs ns) ++ cutV (nvs ns) none (some 1))) np4
      have sall : Same H _ := fun c u z => s4 c u (s3 c u (s2 c u (s1 c u z)))
      refine q _ p4 ((ns.drop (HT.sIx ns.length 0 (some 1)) ++ ns) ++ ns.take (HT.sIx ns.length ns.length (some 1))) sall ?_ ?_ (fun x hx => ?_) ?_
      · exact s1.free (s2.free (s3.free np4))
      · rw [LA, upd_same, e1, e3, nvs_app, nvs_app]
      · rcases List.mem_append.mp hx with y | y
        · rcases List.mem_append.mp y with y | y
          · exact List.mem_of_mem_drop y
          · exact y
        · exact List.mem_of_mem_take y
      · rw [List.length_append, List.length_append, List.length_drop, List.length_take]
        omega
    · refine ⟨.ref a, rfl, a, nvs ns, rfl, .inl (SqL.of ha), fun p np => ?_⟩
      exact q _ p ns (same_upd np) np upd_same (fun x hx => hx) (by omega)
/-! ### _law_chosen -/
abbrev schosen : Stmt := topS 27
abbrev nchosen : List Str := ["_law_script", "_law_place", "_law_size", "_law_share", "_law_draws_here", "_law_v"]
theorem scchosen : FnScope nchosen ["_law_script", "_law_place", "_law_size", "_law_share"] (defScope schosen) := ⟨rfl, rfl, rfl, by decide +kernel, rfl, by decide +kernel, by decide +kernel⟩
def spchosen (K : PySem.W.Frag) : Sp := fun vs H Q _ => ∃ (l : Addr) (zs : List Int) (pl n sh : Nat), vs = [.ref l, nv pl, nv n, nv sh] ∧ SqL K H l (zs.map V.int) ∧ pl ≤ 100 ∧ n ≤ 100 ∧ ∀ (H' : Hp) (p : Addr) (ns : List Nat), Same H H' → H p = none → LA H' p ns → (∀ x, x ∈ ns → x < n) → ns.length ≤ n → Q (.ref p) H'
theorem ok_chosen {f fD : Addr} {fd fdD : FuncData} (F : Fun K "_law_chosen" "_law_chosen" schosen f fd) (D_draws : Df K mg "_law_draws" 24 ["_law_script", "_law_place", "_law_count_here", "_law_base"] fD fdD) (G_draws : FnOk P w K mg base CX0 2 fD fdD ["_law_script", "_law_place", "_law_count_here", "_law_base"] (spdraws K))
    (mr : mg "range" = none) : FnOk P w K mg base CX0 3 f fd ["_law_script", "_law_place", "_law_size", "_law_share"] (spchosen K) := by
  have SC := scchosen
  refine F.ok SC (fun vs H Q E h => ?_) (fun cdv A outer s H vs Q E hr h => ?_)
  · obtain ⟨l, zs, pl, n, sh, rfl, _⟩ := h
    rfl
  · refine ⟨_,
    (pss_cons (ps_set (i := 4) SC.nd rfl (.inr rfl) (pe_call G_draws (hr.mono (by omega)) (by rfl) D_draws.g D_draws.F.kp D_draws.b .nil pass0 (pa_cons (pv 0) (pa_cons (pv 1) (pa_cons (pv 2) (pa_cons pe_int pa_nil))))))
    (pss_one (ps_ret (pe_lc (own := [("_law_v", 5)]) (g := gName 5) rfl SC.nd (pi_range1 (by rfl) mr (pa_cons (pv 2) pa_nil)) (blkOk_by (N := nchosen) (sc := defScope schosen) (by decide +kernel)) (fun _ _ _ _ _ => pg_name (i := 5) SC.nd rfl (.inl rfl)) (fun _ _ _ _ _ => pts_one (pt_cmpR op_lt (pe_ix (ix_listK (K := K) rfl) (pv 4) (pv 5) (fun _ _ => rfl)) (pv 3) (nomark _))) (fun _ _ _ _ _ => (pv 5)))))), ?_⟩
    obtain ⟨l, zs, pl, n, sh, rfl, hl, hp, hn, q⟩ := h
    refine ⟨.ref l, rfl, nv pl, rfl, nv n, rfl, l, zs, pl, n, 12, rfl, hl, hp, by omega, by decide, by decide, fun H1 dr ds s1 hdr dl _ => ?_⟩
    refine ⟨nv n, rfl, _, rfl, by omega, by omega, fun lr nlr => ?_⟩
    refine lc_range (n := ((n : Nat) : Int).toNat) (fun i H2 => FilI H1 H2 lr i) (FilI.start nlr) (fun i H2 hi p => ?_) (fun H2 p => ?_)
    · rw [Int.zero_add]
      have hi : i < n := by omega
      obtain ⟨x, ex, _⟩ := at_lt (ds := ds) (j := i) (by omega)
      obtain ⟨_, _, _, _, sp⟩ := id p
      refine ⟨rfl, .ref dr, rfl, nv i, rfl, dr, nvs ds, _, nv x, rfl, rfl, SqL.of (sp dr _ hdr), ex, nv sh, rfl, _, _, rfl, rfl, _, rfl, ?_⟩
      exact ite2 (fun _ => ⟨nv i, rfl, p.add nlr (by omega)⟩) (fun _ => p.skip)
    · obtain ⟨ns, hns, nl, nlt, sp⟩ := p
      rw [Int.toNat_natCast] at nl nlt
      exact q H2 lr ns (s1.trans sp) (s1.free nlr) hns nlt nl
/-! ### _law_starts -/
abbrev sstarts : Stmt := topS 29
abbrev nstarts : List Str := ["_law_script", "_law_place", "_law_size", "_law_roll", "_law_starts_here", "_law_one"]
theorem scstarts : FnScope nstarts ["_law_script", "_law_place", "_law_size", "_law_roll"] (defScope sstarts) := ⟨rfl, rfl, rfl, by decide +kernel, rfl, by decide +kernel, by decide +kernel⟩
def spstarts (K : PySem.W.Frag) : Sp := fun vs H Q _ => ∃ (l : Addr) (zs : List Int) (pl n ro : Nat), vs = [.ref l, nv pl, nv n, nv ro] ∧ SqL K H l (zs.map V.int) ∧ pl ≤ 100 ∧ n ≤ 100 ∧ ∀ (H' : Hp) (p : Addr) (ns : List Nat), Same H H' → LA H' p ns → (∀ x, x ∈ ns → x < n) → ns.length ≤ n + 1 → Q (.ref p) H'
theorem ok_starts {f fC : Addr} {fd fdC : FuncData} (F : Fun K "_law_starts" "_law_starts" sstarts f fd) (D_chosen : Df K mg "_law_chosen" 27 ["_law_script", "_law_place", "_law_size", "_law_share"] fC fdC) (G_chosen : FnOk P w K mg base CX0 3 fC fdC ["_law_script", "_law_place", "_law_size", "_law_share"] (spchosen K))
    (mi : mg "int" = none) : FnOk P w K mg base CX0 4 f fd ["_law_script", "_law_place", "_law_size", "_law_roll"] (spstarts K) := by
  have SC := scstarts
  refine F.ok SC (fun vs H Q E h => ?_) (fun cdv A outer s H vs Q E hr h => ?_)
  · obtain ⟨l, zs, pl, n, ro, rfl, _⟩ := h
    rfl
  · refine ⟨_,
    (pss_cons (ps_set (i := 4) SC.nd rfl (.inl rfl) (pe_call G_chosen (hr.mono (by omega)) (by rfl) D_chosen.g D_chosen.F.kp D_chosen.b .nil pass0 (pa_cons (pv 0) (pa_cons (pv 1) (pa_cons (pv 2) (pa_cons (pe_ix ix_list (pe_lst (pa_cons pe_int (pa_cons pe_int (pa_cons pe_int (pa_cons pe_int pa_nil))))) (pe_op op_modA (pe_callTy call_intN (by rfl) mi boot_int (pa_cons (pv 3) pa_nil)) pe_int) (fun _ _ => rfl)) pa_nil))))))
    (Evl.pss_cut (ps_if (PW.pt (pw_and (pt_cmpR op_gt (pv 2) pe_int (nomark _)) (pw_and1 (pt_cmpR op_gt (pe_op op_modA (pe_callTy call_intN (by rfl) mi boot_int (pa_cons (pe_op op_fdivNN (pv 3) pe_int) pa_nil)) pe_int) pe_int (nomark _)))))
      (pss_cons (ps_set (i := 5) SC.nd rfl (.inl rfl) (pe_op op_modA (pe_callTy call_intN (by rfl) mi boot_int (pa_cons (pe_op op_fdivNN (pv 3) pe_int) pa_nil)) (pv 2)))
      (pss_one (ps_if (pt_cmpR op_notIn_seq (pv 5) (pv 4) (by rfl))
        (pss_one (ps_expr (pe_bm PySem.F.plainAttrs_list PySem.F.slot_list_append PySem.F.type_list_append mt_append (pv 4) (pa_cons (pv 5) pa_nil)))) pss_nil))) pss_nil)
    (pss_one (ps_ret (pv 4))))), ?_⟩
    obtain ⟨l, zs, pl, n, ro, rfl, hl, hp, hn, q⟩ := h
    refine ⟨.ref l, rfl, nv pl, rfl, nv n, rfl, by show 4 ≤ sizeLine; decide, fun la nla => ⟨nv ro, rfl, _, rfl, (ro : Int), 4, rfl, rfl, by decide, fun d hd => ?_⟩⟩
    obtain ⟨m, em, _⟩ := at_lt (ds := [1, 2, 4, 12]) (j := d) hd
    have sa : Same H (upd H la (.lst (nvs [1, 2, 4, 12]))) := same_upd nla
    refine ⟨la, nvs [1, 2, 4, 12], d, nv m, rfl, rfl, SqL.of upd_same, em, l, zs, pl, n, m, rfl, sqS hl sa, hp, hn, fun H1 cp ns s1 ncp hcp nlt nl => ?_⟩
    have s01 : Same H H1 := fun c u z => s1 c u (sa c u z)
    have ncH : H cp = none := sa.free ncp
    refine ⟨fun σ' H' => ∃ (ns : List Nat) (v5 : Option V), σ' = [some (.ref l), some (nv pl), some (nv n), some (nv ro), some (.ref cp), v5] ∧ LA H' cp ns ∧ (∀ x, x ∈ ns → x < n) ∧ ns.length ≤ n + 1 ∧ Same H H', ?_, ?_⟩
    · have keep : ∀ v5 : Option V, ∃ (ns : List Nat) (v5' : Option V), [some (V.ref l), some (nv pl), some (nv n), some (nv ro), some (.ref cp), v5] = [some (.ref l), some (nv pl), some (nv n), some (nv ro), some (.ref cp), v5'] ∧ LA H1 cp ns ∧ (∀ x, x ∈ ns → x < n) ∧ ns.length ≤ n + 1 ∧ Same H H1 := fun v5 => ⟨ns, v5, rfl, hcp, nlt, by omega, s01⟩
      refine ⟨nv n, rfl, _, _, rfl, rfl, _, rfl, ite2 (fun e => ?_) (fun _ => iteF (keep _))⟩
      have e : 0 < n := by
        have := of_decide_eq_true e
        omega
      refine ⟨nv ro, rfl, ro, 4, rfl, rfl, ⟨by decide, by decide⟩, _, rfl, _, 6, rfl, rfl, by decide, fun d _ => ⟨_, _, rfl, rfl, _, rfl, ite2 (fun _ => ?_) (fun _ => keep _)⟩⟩
      refine ⟨nv ro, rfl, ro, 24, rfl, rfl, ⟨by decide, by decide⟩, _, rfl, nv n, rfl, _, n, rfl, rfl, e, fun one hone => ?_⟩
      refine ⟨nv one, rfl, .ref cp, rfl, cp, nvs ns, rfl, .inl (SqL.of hcp), rfl, flat_nvs ns, _, rfl, ite2 (fun _ => ?_) (fun _ => keep _)⟩
      refine ⟨.ref cp, rfl, .inl ⟨rfl, _, SqL.of hcp⟩, nv one, rfl, cp, _, _, rfl, rfl, hcp, (by rw [nvs_len]; exact line1000 (by omega)), ns ++ [one], _, rfl, by rw [LA, upd_same, nvs_snoc], fun x hx => ?_, by rw [List.length_append, List.length_singleton]; omega, fun c u z => ?_⟩
      · rcases List.mem_append.mp hx with y | y
        · exact nlt x y
        · rw [List.mem_singleton.mp y]
          exact hone
      · rw [upd_ne (ne_of_none z ncH)]
        exact s01 c u z
    · rintro _ H2 ⟨ns2, v5, rfl, h1, h2, h3, h4⟩
      exact ⟨.ref cp, rfl, q H2 cp ns2 h4 h1 h2 h3⟩
/-! ### _law_lists -/
abbrev slists : Stmt := topS 30
abbrev nlists : List Str := ["_law_script", "_law_place", "_law_size", "_law_count_here", "_law_share", "_law_draws_here", "_law_lists_here", "_law_k", "_law_v"]
theorem sclists : FnScope nlists ["_law_script", "_law_place", "_law_size", "_law_count_here", "_law_share"] (defScope slists) := ⟨rfl, rfl, rfl, by decide +kernel, rfl, by decide +kernel, by decide +kernel⟩
def splists (K : PySem.W.Frag) : Sp := fun vs H Q _ => ∃ (l : Addr) (zs : List Int) (pl n c sh : Nat), vs = [.ref l, nv pl, nv n, nv c, nv sh] ∧ SqL K H l (zs.map V.int) ∧ pl ≤ 100 ∧ n ≤ 100 ∧ c ≤ 10 ∧ ∀ (H' : Hp) (p : Addr) (G : List (List Nat)) (ps : List (Addr × List Nat)), Same H H' → LLp H' p G ps → G.length = c → Rows0 G n → Q (.ref p) H'
theorem ok_lists {f fD : Addr} {fd fdD : FuncData} (F : Fun K "_law_lists" "_law_lists" slists f fd) (D_draws : Df K mg "_law_draws" 24 ["_law_script", "_law_place", "_law_count_here", "_law_base"] fD fdD) (G_draws : FnOk P w K mg base CX0 2 fD fdD ["_law_script", "_law_place", "_law_count_here", "_law_base"] (spdraws K))
    (mr : mg "range" = none) : FnOk P w K mg base CX0 3 f fd ["_law_script", "_law_place", "_law_size", "_law_count_here", "_law_share"] (splists K) := by
  have SC := sclists
  refine F.ok SC (fun vs H Q E h => ?_) (fun cdv A outer s H vs Q E hr h => ?_)
  · obtain ⟨l, zs, pl, n, c, sh, rfl, _⟩ := h
    rfl
  · refine ⟨_,
    (pss_cons (ps_set (i := 5) SC.nd rfl (.inr rfl) (pe_call G_draws (hr.mono (by omega)) (by rfl) D_draws.g D_draws.F.kp D_draws.b .nil pass0 (pa_cons (pv 0) (pa_cons (pv 1) (pa_cons (pe_op op_mulN (pv 2) (pv 3)) (pa_cons pe_int pa_nil))))))
    (pss_cons (ps_set (i := 6) SC.nd rfl (.inl rfl) (pe_lst pa_nil))
    (pss_cons (ps_for PassesOwn.never rfl (pi_range1 (by rfl) mr (pa_cons (pv 3) pa_nil)) (pg_name (i := 7) SC.nd rfl (.inr rfl))
      (pss_one (ps_expr (pe_bm PySem.F.plainAttrs_list PySem.F.slot_list_append PySem.F.type_list_append mt_append (pv 6) (pa_cons (pe_lc (own := [("_law_v", 8)]) (g := gName 8) rfl SC.nd (pi_range1 (by rfl) mr (pa_cons (pv 2) pa_nil)) (blkOk_by (N := nlists) (sc := defScope slists) (by decide +kernel)) (fun _ _ _ _ _ => pg_name (i := 8) SC.nd rfl (.inl rfl)) (fun _ _ _ _ _ => pts_one (pt_cmpR op_lt (pe_ix (ix_listK (K := K) rfl) (pv 5) (pe_op op_addN (pe_op op_mulN (pv 7) (pv 2)) (pv 8)) (fun _ _ => rfl)) (pv 4) (nomark _))) (fun _ _ _ _ _ => (pv 8))) pa_nil)))))
    (pss_one (ps_ret (pv 6)))))), ?_⟩
    obtain ⟨l, zs, pl, n, c, sh, rfl, hl, hp, hn, hc, q⟩ := h
    have hnc : n * c ≤ 100 * 10 := Nat.mul_le_mul hn hc
    refine ⟨.ref l, rfl, nv pl, rfl, nv n, rfl, nv c, rfl, n, c, rfl, rfl, by omega, l, zs, pl, n * c, 12, rfl, hl, hp, by omega, by decide, by decide, fun H1 dr ds s1 hdr dl _ => ?_⟩
    refine ⟨Nat.zero_le _, fun af naf => ?_⟩
    have s2 : Same H1 (upd H1 af (.lst [])) := same_upd naf
    refine ⟨nv c, rfl, _, rfl, by omega, by omega, for_range (n := ((c : Nat) : Int).toNat) (fun k σ Hc => ∃ G ps v7, σ = [some (.ref l), some (nv pl), some (nv n), some (nv c), some (nv sh), some (.ref dr), some (.ref af), v7, none] ∧ LLp Hc af G ps ∧ (∀ p, p ∈ ps → p.1 ≠ af) ∧ G.length = k ∧ Rows0 G n ∧ Same H1 Hc)
      ⟨[], [], _, rfl, LLp.nil upd_same, fun p hp => absurd hp (by simp), rfl, Rows0.nil n, s2⟩ ?_ ?_⟩
    · rintro k σ Hc hk ⟨G, ps, v7, rfl, hG, hps, hGl, r0, sc⟩
      rw [Int.zero_add]
      have hk : k < c := by omega
      refine ⟨.ref af, rfl, .inl ⟨rfl, _, SqL.of hG.lst⟩, nv n, rfl, _, rfl, by omega, by omega, fun lr nlr => ?_⟩
      have hdc : LA Hc dr ds := sc dr _ hdr
      refine lc_range (n := ((n : Nat) : Int).toNat) (fun i H2 => FilI Hc H2 lr i) (FilI.start nlr) (fun i H2 hi p => ?_) (fun H2 p => ?_)
      · rw [Int.zero_add]
        have hi : i < n := by omega
        have hj : k * n + i < ds.length := by
          have h1 : (k + 1) * n ≤ c * n := Nat.mul_le_mul_right n hk
          rw [Nat.succ_mul] at h1
          rw [Nat.mul_comm c n] at h1
          omega
        obtain ⟨x, ex, _⟩ := at_lt hj
        obtain ⟨_, _, _, _, sp⟩ := id p
        have hk2 : k ≤ 10 := by omega
        refine ⟨rfl, .ref dr, rfl, nv k, rfl, nv n, rfl, k, n, rfl, rfl, by omega, nv i, rfl, k * n, i, rfl, rfl, dr, nvs ds, _, nv x, rfl, rfl, SqL.of (sp dr _ hdc), ex, nv sh, rfl, _, _, rfl, rfl, _, rfl, ?_⟩
        exact ite2 (fun _ => ⟨nv i, rfl, p.add nlr (by omega)⟩) (fun _ => p.skip)
      · obtain ⟨ns, hns, nl, nlt, sp⟩ := p
        rw [Int.toNat_natCast] at nl nlt
        have nra : lr ≠ af := (ne_of_none hG.lst nlr).symm
        obtain ⟨g1, g2, g3⟩ := row_add (hG.same sp) naf hns nra hps (sc.trans sp)
        refine ⟨af, _, _, rfl, rfl, (hG.same sp).lst, (by rw [List.length_map, hG.len]; exact line1000 (by omega)), G ++ [ns], _, _, rfl, g1, g2, (by rw [List.length_append, List.length_singleton, hGl]), r0.snoc nl nlt, g3⟩
    · rintro σ Hc ⟨G, ps, v7, rfl, hG, hps, hGl, r0, sc⟩
      rw [Int.toNat_natCast] at hGl
      exact ⟨.ref af, rfl, q Hc af G ps (fun c u z => sc c u (s1 c u z)) hG hGl r0⟩
/-! ### _law_count -/
abbrev scount : Stmt := topS 31
abbrev ncount : List Str := ["_law_roll"]
theorem sccount : FnScope ncount ["_law_roll"] (defScope scount) := ⟨rfl, rfl, rfl, by decide +kernel, rfl, by decide +kernel, by decide +kernel⟩
def spcount : Sp := fun vs H Q _ => ∃ ro : Nat, vs = [nv ro] ∧ ∀ c : Nat, c ≤ 6 → Q (nv c) H
theorem ok_count {f : Addr} {fd : FuncData} (F : Fun K "_law_count" "_law_count" scount f fd) (mi : mg "int" = none) : FnOk P w K mg base CX0 1 f fd ["_law_roll"] spcount := by
  have SC := sccount
  refine F.ok SC (fun vs H Q E h => ?_) (fun cdv A outer s H vs Q E hr h => ?_)
  · obtain ⟨ro, rfl, _⟩ := h
    rfl
  · refine ⟨_,
    (pss_cons (ps_if (pt_cmpR op_eq (pe_op op_modA (pe_callTy call_intN (by rfl) mi boot_int (pa_cons (pv 0) pa_nil)) pe_int) pe_int (nomark _))
      (pss_one (ps_ret (pe_op op_addN pe_int (pe_op op_modA (pe_callTy call_intN (by rfl) mi boot_int (pa_cons (pe_op op_fdivNN (pv 0) pe_int) pa_nil)) pe_int)))) pss_nil)
    (pss_one (ps_ret (pe_op op_modA (pe_callTy call_intN (by rfl) mi boot_int (pa_cons (pe_op op_fdivNN (pv 0) pe_int) pa_nil)) pe_int)))), ?_⟩
    obtain ⟨ro, rfl, q⟩ := h
    refine ⟨nv ro, rfl, _, rfl, (ro : Int), 8, rfl, rfl, by decide, fun d _ => ⟨rfl, _, rfl, ite2 (fun _ => ?_) (fun _ => ?_)⟩⟩
    · exact ⟨nv ro, rfl, ro, 8, rfl, rfl, ⟨by decide, by decide⟩, _, rfl, _, 3, rfl, rfl, by decide, fun d hd => ⟨4, d, rfl, rfl, q (4 + d) (by omega)⟩⟩
    · exact ⟨nv ro, rfl, ro, 8, rfl, rfl, ⟨by decide, by decide⟩, _, rfl, _, 4, rfl, rfl, by decide, fun d hd => q d (by omega)⟩
end
end K56
set_option Elab.async false
set_option linter.all false
set_option maxRecDepth 100000
set_option maxHeartbeats 4000000
/-! K56Le: the law's drawn conditions, copies, the long graph. -/
namespace K56
open PySem PySem.Spec PyProof.Rows L2
section
variable {X : Cx} {K : PySem.W.Frag}
theorem call_list_ofK (h : X.K = K) : CallR X (.type "list") (fun xs H Q => ∃ p ys, xs = [.ref p] ∧ (SqL K H p ys ∨ SqT K H p ys) ∧ ∀ l, H l = none → Q (.ref l) (upd H l (.lst ys))) := h ▸ call_list_of
theorem op_notIn_seqK (h : X.K = K) : OpR X (compareOp .NotIn) (rIn K true) := h ▸ op_notIn_seq
end
theorem Rows0.gE {G : List (List Nat)} {n : Nat} (h : Rows0 G n) (v : Nat) : (gE G v).length ≤ n := by
  unfold K56.gE
  rw [List.getD_eq_getElem?_getD]
  cases e : G[v]? with
  | none => exact Nat.zero_le _
  | some g => exact h.row g (List.mem_of_getElem? e)
/-- one more pair, appended to the list at a -/
theorem pair_add {H H2 : Hp} {a t q1 q2 : Addr} {C : List (List Nat × List Nat)} {m1 m2 : List Nat} {ps : List PP} (h : LPp H2 a C ps) (na : H a = none) (ht : H2 t = some (.tup [.ref q1, .ref q2])) (h1 : LA H2 q1 m1) (h2 : LA H2 q2 m2) (n0 : t ≠ a) (n1 : q1 ≠ a) (n2 : q2 ≠ a)
    (hps : ∀ p, p ∈ ps → p.1 ≠ a ∧ p.2.1.1 ≠ a ∧ p.2.2.1 ≠ a) (s : Same H H2) :
    LPp (upd H2 a (.lst ((ps.map fun p => V.ref p.1) ++ [V.ref t]))) a (C ++ [(m1, m2)]) (ps ++ [(t, (q1, m1), (q2, m2))]) ∧ (∀ p, p ∈ ps ++ [((t, (q1, m1), (q2, m2)) : PP)] → p.1 ≠ a ∧ p.2.1.1 ≠ a ∧ p.2.2.1 ≠ a) ∧ Same H (upd H2 a (.lst ((ps.map fun p => V.ref p.1) ++ [V.ref t]))) := by
  refine ⟨⟨by rw [upd_same, List.map_append]; rfl, by rw [List.map_append, h.eq]; rfl, fun p hp => ?_⟩, fun p hp => ?_, fun c u z => ?_⟩
  · rcases List.mem_append.mp hp with y | y
    · obtain ⟨z1, z2, z3⟩ := hps p y
      obtain ⟨e1, e2, e3⟩ := h.pair p y
      exact ⟨by rw [upd_ne z1]; exact e1, by rw [LA, upd_ne z2]; exact e2, by rw [LA, upd_ne z3]; exact e3⟩
    · rw [List.mem_singleton.mp y]
      exact ⟨by rw [upd_ne n0]; exact ht, by rw [LA, upd_ne n1]; exact h1, by rw [LA, upd_ne n2]; exact h2⟩
  · rcases List.mem_append.mp hp with y | y
    · exact hps p y
    · rw [List.mem_singleton.mp y]
      exact ⟨n0, n1, n2⟩
  · rw [upd_ne (ne_of_none z na)]
    exact s c u z
theorem LPp.nil {H : Hp} {a : Addr} (h : H a = some (.lst [])) : LPp H a [] [] := ⟨h, rfl, fun p hp => absurd hp (by simp)⟩
theorem perm_nats {ns : List Nat} {ms : List Int} (hp : ms.Perm (ns.map fun n : Nat => (n : Int))) : ∃ qs : List Nat, ms.map V.int = nvs qs ∧ qs.length = ns.length ∧ ∀ x, x ∈ qs → x ∈ ns := by
  refine ⟨ms.map Int.toNat, ?_, by rw [List.length_map, hp.length_eq, List.length_map], fun x hx => ?_⟩
  · show ms.map V.int = (ms.map Int.toNat).map nv
    rw [List.map_map]
    refine List.map_congr_left fun z hz => ?_
    obtain ⟨n, _, e⟩ := List.mem_map.mp (hp.mem_iff.mp hz)
    show V.int z = V.int ((z.toNat : Nat) : Int)
    rw [← e, Int.toNat_natCast]
  · obtain ⟨z, hz, e⟩ := List.mem_map.mp hx
    obtain ⟨n, hn, e2⟩ := List.mem_map.mp (hp.mem_iff.mp hz)
    rw [← e, ← e2, Int.toNat_natCast]
    exact hn
section
variable {P : Program} {w : World} {K : PySem.W.Frag} {mg : Str → Option Value} {base : Heap}
/-! ### _law_just -/
abbrev sjust : Stmt := topS 32
abbrev njust : List Str := ["_law_script", "_law_size", "_law_roll", "_law_kind", "_law_lists_here", "_law_nodes"]
theorem scjust : FnScope njust ["_law_script", "_law_size", "_law_roll", "_law_kind"] (defScope sjust) := ⟨rfl, rfl, rfl, by decide +kernel, rfl, by decide +kernel, by decide +kernel⟩
def spjust (K : PySem.W.Frag) : Sp := fun vs H Q _ => ∃ (l : Addr) (zs : List Int) (n ro kd : Nat), vs = [.ref l, nv n, nv ro, nv kd] ∧ SqL K H l (zs.map V.int) ∧ n ≤ 100 ∧ ∀ (H' : Hp) (p : Addr) (J : List (List Nat)), Same H H' → LL H' p J → J.length ≤ 6 → (∀ j, j ∈ J → j.length ≤ 300) → Q (.ref p) H'
theorem ok_just {f fL fC fT : Addr} {fd fdL fdC fdT : FuncData} (F : Fun K "_law_just" "_law_just" sjust f fd) (D_lists : Df K mg "_law_lists" 30 ["_law_script", "_law_place", "_law_size", "_law_count_here", "_law_share"] fL fdL) (G_lists : FnOk P w K mg base CX0 3 fL fdL ["_law_script", "_law_place", "_law_size", "_law_count_here", "_law_share"] (splists K))
    (D_count : Df K mg "_law_count" 31 ["_law_roll"] fC fdC) (G_count : FnOk P w K mg base CX0 1 fC fdC ["_law_roll"] spcount) (D_turned : Df K mg "_law_turned" 28 ["_law_nodes", "_law_kind"] fT fdT) (G_turned : FnOk P w K mg base CX0 1 fT fdT ["_law_nodes", "_law_kind"] spturned) (mi : mg "int" = none) :
    FnOk P w K mg base CX0 4 f fd ["_law_script", "_law_size", "_law_roll", "_law_kind"] (spjust K) := by
  have SC := scjust
  refine F.ok SC (fun vs H Q E h => ?_) (fun cdv A outer s H vs Q E hr h => ?_)
  · obtain ⟨l, zs, n, ro, kd, rfl, _⟩ := h
    rfl
  · refine ⟨_,
    (pss_cons (ps_set (i := 4) SC.nd rfl (.inl rfl) (pe_call G_lists (hr.mono (by omega)) (by rfl) D_lists.g D_lists.F.kp D_lists.b .nil pass0 (pa_cons (pv 0) (pa_cons pe_int (pa_cons (pv 1) (pa_cons (pe_call G_count (hr.mono (by omega)) (by rfl) D_count.g D_count.F.kp D_count.b .nil pass0 (pa_cons (pv 2) pa_nil)) (pa_cons (pe_ix ix_list (pe_lst (pa_cons pe_int (pa_cons pe_int (pa_cons pe_int (pa_cons pe_int pa_nil))))) (pe_op op_modA (pe_callTy call_intN (by rfl) mi boot_int (pa_cons (pe_op op_fdivNN (pv 2) pe_int) pa_nil)) pe_int) (fun _ _ => rfl)) pa_nil)))))))
    (pss_one (ps_ret (pe_lc (own := [("_law_nodes", 5)]) (g := gName 5) (tt := tYes) rfl SC.nd (pi_list (pv 4)) (blkOk_by (N := njust) (sc := defScope sjust) (by decide +kernel)) (fun _ _ _ _ _ => pg_name (i := 5) SC.nd rfl (.inl rfl)) (fun _ _ _ _ _ => pts_nil) (fun _ _ _ _ _ => (pe_call G_turned (hr.mono (by omega)) (by rfl) D_turned.g D_turned.F.kp D_turned.b .nil pass0 (pa_cons (pv 5) (pa_cons (pv 3) pa_nil)))))))), ?_⟩
    obtain ⟨l, zs, n, ro, kd, rfl, hl, hn, q⟩ := h
    refine ⟨.ref l, rfl, nv n, rfl, nv ro, rfl, ro, rfl, fun c hc => ⟨by show 4 ≤ sizeLine; decide, fun la nla => ⟨nv ro, rfl, ro, 32, rfl, rfl, ⟨by decide, by decide⟩, _, rfl, _, 4, rfl, rfl, by decide, fun d hd => ?_⟩⟩⟩
    obtain ⟨m, em, _⟩ := at_lt (ds := [2, 3, 6, 9]) (j := d) hd
    have sa : Same H (upd H la (.lst (nvs [2, 3, 6, 9]))) := same_upd nla
    refine ⟨la, nvs [2, 3, 6, 9], d, nv m, rfl, rfl, SqL.of upd_same, em, l, zs, 4, n, c, m, rfl, sqS hl sa, by decide, hn, by omega, fun H1 p G ps s1 hG hGl r0 => ?_⟩
    have s01 : Same H H1 := fun c u z => s1 c u (sa c u z)
    refine ⟨.ref p, rfl, p, rfl, ⟨_, SqL.of hG.lst⟩, fun lj nlj => ?_⟩
    refine lc_list (K := K) (a := p) (xs := ps.map fun p => V.ref p.1) (fun i H2 => ∃ Gj pj, LLp H2 lj Gj pj ∧ (∀ p, p ∈ pj → p.1 ≠ lj) ∧ Gj.length = i ∧ (∀ g, g ∈ Gj → g.length ≤ 300) ∧ Same H1 H2)
      ⟨[], [], LLp.nil upd_same, fun p hp => absurd hp (by simp), rfl, fun g hg => absurd hg (by simp), same_upd nlj⟩ (fun i H2 _ p => by obtain ⟨_, _, _, _, _, _, s⟩ := p; exact SqL.of (s _ _ hG.lst)) (fun i x H2 hx p => ?_) (fun H2 p => ?_)
    · obtain ⟨r, g, rfl, hg, hr', _⟩ := hG.item hx
      obtain ⟨Gj, pj, hJ, hpj, hJl, hJr, s2⟩ := p
      have hi := (List.getElem?_eq_some_iff.mp hg).1
      have gl : g.length ≤ 100 := Nat.le_trans (r0.row g (List.mem_of_getElem? hg)) hn
      refine ⟨rfl, yes ⟨.ref r, rfl, nv kd, rfl, r, g, kd, rfl, s2 r _ hr', by omega, fun H3 q3 ms s3 nq hq _ ml => ?_⟩⟩
      have nqj : q3 ≠ lj := (ne_of_none hJ.lst nq).symm
      obtain ⟨g1, g2, g3⟩ := row_add (hJ.same s3) nlj hq nqj hpj (s2.trans s3)
      refine ⟨_, (hJ.same s3).lst, (by rw [List.length_map, hJ.len]; exact line1000 (by omega)), Gj ++ [ms], _, g1, g2, (by rw [List.length_append, List.length_singleton, hJl]), fun g' hg' => ?_, g3⟩
      rcases List.mem_append.mp hg' with y | y
      · exact hJr g' y
      · rw [List.mem_singleton.mp y]
        omega
    · obtain ⟨Gj, pj, hJ, hpj, hJl, hJr, s2⟩ := p
      rw [List.length_map, hG.len] at hJl
      exact q H2 lj Gj (s01.trans s2) ⟨pj, hJ⟩ (by omega) hJr
/-! ### _law_copy -/
abbrev scopy : Stmt := topS 46
abbrev ncopy : List Str := ["_law_rows", "_law_row"]
theorem sccopy : FnScope ncopy ["_law_rows"] (defScope scopy) := ⟨rfl, rfl, rfl, by decide +kernel, rfl, by decide +kernel, by decide +kernel⟩
def spcopy : Sp := fun vs H Q _ => ∃ (a : Addr) (G : List (List Nat)), vs = [.ref a] ∧ LL H a G ∧ G.length ≤ 1000 ∧ (∀ g, g ∈ G → g.length ≤ 1000) ∧ ∀ (H' : Hp) (p : Addr), Same H H' → LL H' p G → Q (.ref p) H'
theorem ok_copy {f : Addr} {fd : FuncData} (F : Fun K "_law_copy" "_law_copy" scopy f fd) (mli : mg "list" = none) : FnOk P w K mg base CX0 1 f fd ["_law_rows"] spcopy := by
  have SC := sccopy
  refine F.ok SC (fun vs H Q E h => ?_) (fun cdv A outer s H vs Q E hr h => ?_)
  · obtain ⟨a, G, rfl, _⟩ := h
    rfl
  · refine ⟨_,
    (pss_one (ps_ret (pe_lc (own := [("_law_row", 1)]) (g := gName 1) (tt := tYes) rfl SC.nd (pi_list (pv 0)) (blkOk_by (N := ncopy) (sc := defScope scopy) (by decide +kernel)) (fun _ _ _ _ _ => pg_name (i := 1) SC.nd rfl (.inl rfl)) (fun _ _ _ _ _ => pts_nil) (fun _ _ _ _ _ => (pe_callTy (call_list_ofK (K := K) rfl) (by rfl) mli boot_list (pa_cons (pv 1) pa_nil)))))), ?_⟩
    obtain ⟨a, G, rfl, ⟨ps, hG⟩, hGl, hgl, q⟩ := h
    refine ⟨.ref a, rfl, a, rfl, ⟨_, SqL.of hG.lst⟩, fun lj nlj => ?_⟩
    refine lc_list (K := K) (a := a) (xs := ps.map fun p => V.ref p.1) (fun i H2 => ∃ pj, LLp H2 lj (G.take i) pj ∧ (∀ p, p ∈ pj → p.1 ≠ lj) ∧ Same H H2)
      ⟨[], LLp.nil upd_same, fun p hp => absurd hp (by simp), same_upd nlj⟩ (fun i H2 _ p => by obtain ⟨_, _, _, s⟩ := p; exact SqL.of (s _ _ hG.lst)) (fun i x H2 hx p => ?_) (fun H2 p => ?_)
    · obtain ⟨r, g, rfl, hg, hr', _⟩ := hG.item hx
      obtain ⟨pj, hJ, hpj, s2⟩ := p
      refine ⟨rfl, yes ⟨.ref r, rfl, r, nvs g, rfl, .inl (SqL.of (s2 r _ hr')), fun q3 nq => ?_⟩⟩
      have s3 : Same H2 (upd H2 q3 (.lst (nvs g))) := same_upd nq
      have nqj : q3 ≠ lj := (ne_of_none hJ.lst nq).symm
      obtain ⟨g1, g2, g3⟩ := row_add (hJ.same s3) nlj upd_same nqj hpj (s2.trans s3)
      refine ⟨_, (hJ.same s3).lst, (by rw [List.length_map, hJ.len, List.length_take]; exact line1000 (by omega)), _, ?_, g2, g3⟩
      rw [List.take_add_one, hg]
      exact g1
    · obtain ⟨pj, hJ, hpj, s2⟩ := p
      rw [List.length_map, hG.len, List.take_length] at hJ
      exact q H2 lj s2 ⟨pj, hJ⟩
/-! ### _law_copy_pairs -/
abbrev scopy_pairs : Stmt := topS 47
abbrev ncopy_pairs : List Str := ["_law_pairs_here", "_law_pair"]
theorem sccopy_pairs : FnScope ncopy_pairs ["_law_pairs_here"] (defScope scopy_pairs) := ⟨rfl, rfl, rfl, by decide +kernel, rfl, by decide +kernel, by decide +kernel⟩
def spcopy_pairs : Sp := fun vs H Q _ => ∃ (a : Addr) (C : List (List Nat × List Nat)), vs = [.ref a] ∧ LP H a C ∧ C.length ≤ 1000 ∧ ∀ (H' : Hp) (p : Addr), Same H H' → LP H' p C → Q (.ref p) H'
theorem ok_copy_pairs {f : Addr} {fd : FuncData} (F : Fun K "_law_copy_pairs" "_law_copy_pairs" scopy_pairs f fd) (mli : mg "list" = none) : FnOk P w K mg base CX0 1 f fd ["_law_pairs_here"] spcopy_pairs := by
  have SC := sccopy_pairs
  refine F.ok SC (fun vs H Q E h => ?_) (fun cdv A outer s H vs Q E hr h => ?_)
  · obtain ⟨a, C, rfl, _⟩ := h
    rfl
  · refine ⟨_,
    (pss_one (ps_ret (pe_lc (own := [("_law_pair", 1)]) (g := gName 1) (tt := tYes) rfl SC.nd (pi_list (pv 0)) (blkOk_by (N := ncopy_pairs) (sc := defScope scopy_pairs) (by decide +kernel)) (fun _ _ _ _ _ => pg_name (i := 1) SC.nd rfl (.inl rfl)) (fun _ _ _ _ _ => pts_nil) (fun _ _ _ _ _ => (pe_tup (pa_cons (pe_callTy (call_list_ofK (K := K) rfl) (by rfl) mli boot_list (pa_cons (pe_ix (ix_tupK (K := K) rfl) (pv 1) pe_int (fun _ _ => rfl)) pa_nil)) (pa_cons (pe_callTy (call_list_ofK (K := K) rfl) (by rfl) mli boot_list (pa_cons (pe_ix (ix_tupK (K := K) rfl) (pv 1) pe_int (fun _ _ => rfl)) pa_nil)) pa_nil))))))), ?_⟩
    obtain ⟨a, C, rfl, ⟨ps, hC⟩, hCl, q⟩ := h
    refine ⟨.ref a, rfl, a, rfl, ⟨_, SqL.of hC.lst⟩, fun lj nlj => ?_⟩
    refine lc_list (K := K) (a := a) (xs := ps.map fun p => V.ref p.1) (fun i H2 => ∃ pj, LPp H2 lj (C.take i) pj ∧ (∀ p, p ∈ pj → p.1 ≠ lj ∧ p.2.1.1 ≠ lj ∧ p.2.2.1 ≠ lj) ∧ Same H H2)
      ⟨[], LPp.nil upd_same, fun p hp => absurd hp (by simp), same_upd nlj⟩ (fun i H2 _ p => by obtain ⟨_, _, _, s⟩ := p; exact SqL.of (s _ _ hC.lst)) (fun i x H2 hx p => ?_) (fun H2 p => ?_)
    · obtain ⟨t, f1, f2, m1, m2, rfl, hc, ht, h1, h2, _⟩ := hC.item hx
      obtain ⟨pj, hJ, hpj, s2⟩ := p
      refine ⟨rfl, yes ⟨.ref t, rfl, t, _, 0, .ref f1, rfl, rfl, SqT.of (s2 t _ ht), atI_nat (j := 0) rfl, f1, nvs m1, rfl, .inl (SqL.of (s2 f1 _ h1)), fun q1 nq1 => ?_⟩⟩
      have s3 : Same H2 (upd H2 q1 (.lst (nvs m1))) := same_upd nq1
      refine ⟨.ref t, rfl, t, _, 1, .ref f2, rfl, rfl, SqT.of (s3 t _ (s2 t _ ht)), atI_nat (j := 1) rfl, f2, nvs m2, rfl, .inl (SqL.of (s3 f2 _ (s2 f2 _ h2))), fun q2 nq2 => ?_⟩
      have hq1 : upd H2 q1 (.lst (nvs m1)) q1 = some (.lst (nvs m1)) := upd_same
      generalize upd H2 q1 (.lst (nvs m1)) = H3 at s3 nq2 hq1 ⊢
      have s4 : Same H3 (upd H3 q2 (.lst (nvs m2))) := same_upd nq2
      have hq2 : upd H3 q2 (.lst (nvs m2)) q2 = some (.lst (nvs m2)) := upd_same
      generalize upd H3 q2 (.lst (nvs m2)) = H4 at s4 hq2 ⊢
      refine ⟨by show 2 ≤ sizeLine; decide, fun t2 nt2 => ?_⟩
      have s5 : Same H4 (upd H4 t2 (.tup [.ref q1, .ref q2])) := same_upd nt2
      have hlj2 := hJ.lst
      have n1 : q1 ≠ lj := (ne_of_none hlj2 nq1).symm
      have n2 : q2 ≠ lj := (ne_of_none (s3 _ _ hlj2) nq2).symm
      have n0 : t2 ≠ lj := (ne_of_none (s4 _ _ (s3 _ _ hlj2)) nt2).symm
      have s25 : Same H2 (upd H4 t2 (.tup [.ref q1, .ref q2])) := fun c u z => s5 c u (s4 c u (s3 c u z))
      obtain ⟨g1, g2, g3⟩ := pair_add (hJ.same s25) nlj upd_same (s5 q1 _ (s4 q1 _ hq1)) (s5 q2 _ hq2) n0 n1 n2 hpj (s2.trans s25)
      refine ⟨_, (hJ.same s25).lst, (by rw [List.length_map, hJ.len, List.length_take]; exact line1000 (by omega)), _, ?_, g2, g3⟩
      rw [List.take_add_one, hc]
      exact g1
    · obtain ⟨pj, hJ, hpj, s2⟩ := p
      rw [List.length_map, hC.len, List.take_length] at hJ
      exact q H2 lj s2 ⟨pj, hJ⟩
/-! ### _law_pairs -/
abbrev spairs : Stmt := topS 33
abbrev npairs : List Str := ["_law_script", "_law_size", "_law_roll", "_law_kind", "_law_count_here", "_law_firsts", "_law_seconds", "_law_k"]
theorem scpairs : FnScope npairs ["_law_script", "_law_size", "_law_roll", "_law_kind"] (defScope spairs) := ⟨rfl, rfl, rfl, by decide +kernel, rfl, by decide +kernel, by decide +kernel⟩
def sppairs (K : PySem.W.Frag) : Sp := fun vs H Q _ => ∃ (l : Addr) (zs : List Int) (n ro kd : Nat), vs = [.ref l, nv n, nv ro, nv kd] ∧ SqL K H l (zs.map V.int) ∧ n ≤ 100 ∧ ∀ (H' : Hp) (p : Addr) (C : List (List Nat × List Nat)), Same H H' → LP H' p C → C.length ≤ 6 → (∀ c, c ∈ C → c.1.length ≤ 300 ∧ c.2.length ≤ 300) → Q (.ref p) H'
theorem ok_pairs {f fL fC fT : Addr} {fd fdL fdC fdT : FuncData} (F : Fun K "_law_pairs" "_law_pairs" spairs f fd) (D_lists : Df K mg "_law_lists" 30 ["_law_script", "_law_place", "_law_size", "_law_count_here", "_law_share"] fL fdL) (G_lists : FnOk P w K mg base CX0 3 fL fdL ["_law_script", "_law_place", "_law_size", "_law_count_here", "_law_share"] (splists K))
    (D_count : Df K mg "_law_count" 31 ["_law_roll"] fC fdC) (G_count : FnOk P w K mg base CX0 1 fC fdC ["_law_roll"] spcount) (D_turned : Df K mg "_law_turned" 28 ["_law_nodes", "_law_kind"] fT fdT) (G_turned : FnOk P w K mg base CX0 1 fT fdT ["_law_nodes", "_law_kind"] spturned) (mi : mg "int" = none) (mr : mg "range" = none) :
    FnOk P w K mg base CX0 4 f fd ["_law_script", "_law_size", "_law_roll", "_law_kind"] (sppairs K) := by
  have SC := scpairs
  refine F.ok SC (fun vs H Q E h => ?_) (fun cdv A outer s H vs Q E hr h => ?_)
  · obtain ⟨l, zs, n, ro, kd, rfl, _⟩ := h
    rfl
  · refine ⟨_,
    (pss_cons (ps_set (i := 4) SC.nd rfl (.inl rfl) (pe_call G_count (hr.mono (by omega)) (by rfl) D_count.g D_count.F.kp D_count.b .nil pass0 (pa_cons (pv 2) pa_nil)))
    (pss_cons (ps_set (i := 5) SC.nd rfl (.inr rfl) (pe_call G_lists (hr.mono (by omega)) (by rfl) D_lists.g D_lists.F.kp D_lists.b .nil pass0 (pa_cons (pv 0) (pa_cons pe_int (pa_cons (pv 1) (pa_cons (pv 4) (pa_cons (pe_ix ix_list (pe_lst (pa_cons pe_int (pa_cons pe_int (pa_cons pe_int pa_nil)))) (pe_op op_modA (pe_callTy call_intN (by rfl) mi boot_int (pa_cons (pe_op op_fdivNN (pv 2) pe_int) pa_nil)) pe_int) (fun _ _ => rfl)) pa_nil)))))))
    (pss_cons (ps_set (i := 6) SC.nd rfl (.inr rfl) (pe_call G_lists (hr.mono (by omega)) (by rfl) D_lists.g D_lists.F.kp D_lists.b .nil pass0 (pa_cons (pv 0) (pa_cons pe_int (pa_cons (pv 1) (pa_cons (pv 4) (pa_cons (pe_ix ix_list (pe_lst (pa_cons pe_int (pa_cons pe_int (pa_cons pe_int pa_nil)))) (pe_op op_modA (pe_callTy call_intN (by rfl) mi boot_int (pa_cons (pe_op op_fdivNN (pv 2) pe_int) pa_nil)) pe_int) (fun _ _ => rfl)) pa_nil)))))))
    (pss_one (ps_ret (pe_lc (own := [("_law_k", 7)]) (g := gName 7) (tt := tYes) rfl SC.nd (pi_range1 (by rfl) mr (pa_cons (pv 4) pa_nil)) (blkOk_by (N := npairs) (sc := defScope spairs) (by decide +kernel)) (fun _ _ _ _ _ => pg_name (i := 7) SC.nd rfl (.inl rfl)) (fun _ _ _ _ _ => pts_nil) (fun _ _ _ _ _ => (pe_tup (pa_cons (pe_call G_turned (hr.mono (by omega)) (by rfl) D_turned.g D_turned.F.kp D_turned.b .nil pass0 (pa_cons (pe_ix (ix_listK (K := K) rfl) (pv 5) (pv 7) (fun _ _ => rfl)) (pa_cons (pv 3) pa_nil))) (pa_cons (pe_call G_turned (hr.mono (by omega)) (by rfl) D_turned.g D_turned.F.kp D_turned.b .nil pass0 (pa_cons (pe_ix (ix_listK (K := K) rfl) (pv 6) (pv 7) (fun _ _ => rfl)) (pa_cons (pe_op op_fdivNN (pv 3) pe_int) pa_nil))) pa_nil)))))))))), ?_⟩
    obtain ⟨l, zs, n, ro, kd, rfl, hl, hn, q⟩ := h
    refine ⟨nv ro, rfl, ro, rfl, fun c hc => ?_⟩
    refine ⟨.ref l, rfl, nv n, rfl, nv c, rfl, by show 3 ≤ sizeLine; decide, fun la nla => ⟨nv ro, rfl, ro, 32, rfl, rfl, ⟨by decide, by decide⟩, _, rfl, _, 3, rfl, rfl, by decide, fun d hd => ?_⟩⟩
    obtain ⟨m, em, _⟩ := at_lt (ds := [3, 6, 9]) (j := d) hd
    have sa : Same H (upd H la (.lst (nvs [3, 6, 9]))) := same_upd nla
    refine ⟨la, nvs [3, 6, 9], d, nv m, rfl, rfl, SqL.of upd_same, em, l, zs, 5, n, c, m, rfl, sqS hl sa, by decide, hn, by omega, fun H1 fp F1 fps s1 hF hFl r1 => ?_⟩
    have s01 : Same H H1 := fun c u z => s1 c u (sa c u z)
    refine ⟨.ref l, rfl, nv n, rfl, nv c, rfl, by show 3 ≤ sizeLine; decide, fun lb nlb => ⟨nv ro, rfl, ro, 96, rfl, rfl, ⟨by decide, by decide⟩, _, rfl, _, 3, rfl, rfl, by decide, fun d hd => ?_⟩⟩
    obtain ⟨m2, em2, _⟩ := at_lt (ds := [1, 2, 4]) (j := d) hd
    have sb : Same H1 (upd H1 lb (.lst (nvs [1, 2, 4]))) := same_upd nlb
    refine ⟨lb, nvs [1, 2, 4], d, nv m2, rfl, rfl, SqL.of upd_same, em2, l, zs, 6, n, c, m2, rfl, sqS (sqS hl s01) sb, by decide, hn, by omega, fun H2 sp F2 sps s2 hS hSl r2 => ?_⟩
    have s12 : Same H1 H2 := fun c u z => s2 c u (sb c u z)
    refine ⟨nv c, rfl, _, rfl, by omega, by omega, fun lj nlj => ?_⟩
    refine lc_range (n := ((c : Nat) : Int).toNat) (fun i H3 => ∃ C pj, LPp H3 lj C pj ∧ (∀ p, p ∈ pj → p.1 ≠ lj ∧ p.2.1.1 ≠ lj ∧ p.2.2.1 ≠ lj) ∧ C.length = i ∧ (∀ c, c ∈ C → c.1.length ≤ 300 ∧ c.2.length ≤ 300) ∧ Same H2 H3)
      ⟨[], [], LPp.nil upd_same, fun p hp => absurd hp (by simp), rfl, fun g hg => absurd hg (by simp), same_upd nlj⟩ (fun k H3 hk p => ?_) (fun H3 p => ?_)
    · rw [Int.zero_add]
      have hk : k < c := by omega
      obtain ⟨C, pj, hC, hpj, hCl, hCr, s3⟩ := p
      obtain ⟨xs1, ra, x1, x2, x3⟩ := LL.at (H := H3) ⟨fps, (hF.same s12).same s3⟩ (v := k) (by omega)
      obtain ⟨xs2, rb, y1, y2, y3⟩ := LL.at (H := H3) ⟨sps, hS.same s3⟩ (v := k) (by omega)
      have l1 := r1.gE k
      have l2 := r2.gE k
      refine ⟨rfl, yes ⟨.ref fp, rfl, nv k, rfl, fp, xs1, _, .ref ra, rfl, rfl, SqL.of x1, x2, nv kd, rfl, ra, gE F1 k, kd, rfl, x3, by omega, fun H4 q1 m1 s4 nq1 hq1 _ ml1 => ?_⟩⟩
      refine ⟨.ref sp, rfl, nv k, rfl, sp, xs2, _, .ref rb, rfl, rfl, SqL.of (s4 _ _ y1), y2, nv kd, rfl, kd, 4, rfl, rfl, ⟨by decide, by decide⟩, rb, gE F2 k, kd / 4, rfl, s4 _ _ y3, by omega, fun H5 q2 m2 s5 nq2 hq2 _ ml2 => ?_⟩
      refine ⟨by show 2 ≤ sizeLine; decide, fun t2 nt2 => ?_⟩
      have s6 : Same H5 (upd H5 t2 (.tup [.ref q1, .ref q2])) := same_upd nt2
      have hlj2 := hC.lst
      have n1 : q1 ≠ lj := (ne_of_none hlj2 nq1).symm
      have n2 : q2 ≠ lj := (ne_of_none (s4 _ _ hlj2) nq2).symm
      have n0 : t2 ≠ lj := (ne_of_none (s5 _ _ (s4 _ _ hlj2)) nt2).symm
      have s36 : Same H3 (upd H5 t2 (.tup [.ref q1, .ref q2])) := fun c u z => s6 c u (s5 c u (s4 c u z))
      obtain ⟨g1, g2, g3⟩ := pair_add (hC.same s36) nlj upd_same (s6 q1 _ (s5 q1 _ hq1)) (s6 q2 _ hq2) n0 n1 n2 hpj (s3.trans s36)
      refine ⟨_, (hC.same s36).lst, (by rw [List.length_map, hC.len]; exact line1000 (by omega)), _, _, g1, g2, (by rw [List.length_append, List.length_singleton, hCl]), fun c' hc' => ?_, g3⟩
      rcases List.mem_append.mp hc' with y | y
      · exact hCr c' y
      · rw [List.mem_singleton.mp y]
        exact ⟨by show m1.length ≤ 300; omega, by show m2.length ≤ 300; omega⟩
    · obtain ⟨C, pj, hC, hpj, hCl, hCr, s3⟩ := p
      rw [Int.toNat_natCast] at hCl
      exact q H3 lj C (s01.trans (s12.trans s3)) ⟨pj, hC⟩ (by omega) hCr
end
end K56
set_option Elab.async false
set_option linter.all false
set_option maxRecDepth 100000
set_option maxHeartbeats 4000000
/-! K56Lf: the law's long graph. -/
namespace K56
open PySem PySem.Spec PyProof.Rows L2
section
variable {P : Program} {w : World} {K : PySem.W.Frag} {mg : Str → Option Value} {base : Heap}
/-! ### _law_long_graph -/
abbrev slong_graph : Stmt := topS 26
abbrev nlong_graph : List Str := ["_law_script", "_law_sizes", "_law_size", "_law_step", "_law_draws_here", "_law_after", "_law_v", "_law_near"]
theorem sclong_graph : FnScope nlong_graph ["_law_script", "_law_sizes"] (defScope slong_graph) := ⟨rfl, rfl, rfl, by decide +kernel, rfl, by decide +kernel, by decide +kernel⟩
theorem ok_long_graph {f fD : Addr} {fd fdD : FuncData} (F : Fun K "_law_long_graph" "_law_long_graph" slong_graph f fd) (D_draws : Df K mg "_law_draws" 24 ["_law_script", "_law_place", "_law_count_here", "_law_base"] fD fdD) (G_draws : FnOk P w K mg base CX0 2 fD fdD ["_law_script", "_law_place", "_law_count_here", "_law_base"] (spdraws K))
    (mi : mg "int" = none) (mr : mg "range" = none) (ms : mg "sorted" = none) : FnOk P w K mg base CX0 3 f fd ["_law_script", "_law_sizes"] (spgraph K) := by
  have SC := sclong_graph
  refine F.ok SC (fun vs H Q E h => ?_) (fun cdv A outer s H vs Q E hr h => ?_)
  · obtain ⟨l, b, zs, sz, rfl, _⟩ := h
    rfl
  · refine ⟨_,
    (pss_cons (ps_set (i := 2) SC.nd rfl (.inl rfl) (pe_op op_addN pe_int (pe_op op_modA (pe_callTy call_intN (by rfl) mi boot_int (pa_cons (pe_ix ix_list (pv 1) pe_int (fun _ _ => rfl)) pa_nil)) pe_int)))
    (pss_cons (ps_set (i := 3) SC.nd rfl (.inl rfl) (pe_op op_sub pe_int (pe_op op_mul pe_int (pe_op op_modA (pe_callTy call_intN (by rfl) mi boot_int (pa_cons (pe_ix ix_list (pv 1) pe_int (fun _ _ => rfl)) pa_nil)) pe_int))))
    (pss_cons (ps_set (i := 4) SC.nd rfl (.inl rfl) (pe_call G_draws (hr.mono (by omega)) (by rfl) D_draws.g D_draws.F.kp D_draws.b .nil pass0 (pa_cons (pv 0) (pa_cons pe_int (pa_cons (pv 2) (pa_cons pe_int pa_nil))))))
    (pss_cons (ps_set (i := 5) SC.nd rfl (.inl rfl) (pe_lst pa_nil))
    (pss_cons (ps_for PassesOwn.never rfl (pi_range1 (by rfl) mr (pa_cons (pv 2) pa_nil)) (pg_name (i := 6) SC.nd rfl (.inl rfl))
      (pss_cons (ps_set (i := 7) SC.nd rfl (.inl rfl) (pe_lst pa_nil))
      (Evl.pss_cut (ps_if (PW.pt (pw_and (pt_cmpR op_lt (pe_op op_modA (pe_callTy call_intN (by rfl) mi boot_int (pa_cons (pe_ix ix_list (pv 4) (pv 6) (fun _ _ => rfl)) pa_nil)) pe_int) pe_int (nomark _)) (pw_and1 (pt_cmpR op_lt (pe_op op_fdivNN (pe_ix ix_list (pv 4) (pv 6) (fun _ _ => rfl)) pe_int) (pv 2) (nomark _)))))
        (pss_one (ps_expr (pe_bm PySem.F.plainAttrs_list PySem.F.slot_list_append PySem.F.type_list_append mt_append (pv 7) (pa_cons (pe_op op_fdivNN (pe_ix ix_list (pv 4) (pv 6) (fun _ _ => rfl)) pe_int) pa_nil)))) pss_nil)
      (Evl.pss_cut (ps_if (PW.pt (pw_and (pt_cmpR op_gt (pe_op op_modA (pe_callTy call_intN (by rfl) mi boot_int (pa_cons (pe_ix ix_list (pv 4) (pv 6) (fun _ _ => rfl)) pa_nil)) pe_int) pe_int (nomark _)) (pw_and (pt_chain op_le op_lt pe_int (pe_op op_add (pv 6) (pv 3)) (pv 2)) (pw_and1 (pt_cmpR op_notIn_seq (pe_op op_add (pv 6) (pv 3)) (pv 7) (by rfl))))))
        (pss_one (ps_expr (pe_bm PySem.F.plainAttrs_list PySem.F.slot_list_append PySem.F.type_list_append mt_append (pv 7) (pa_cons (pe_op op_add (pv 6) (pv 3)) pa_nil)))) pss_nil)
      (pss_one (ps_expr (pe_bm PySem.F.plainAttrs_list PySem.F.slot_list_append PySem.F.type_list_append mt_append (pv 5) (pa_cons (pe_callB cr_sorted (by rfl) ms (by decide +kernel) (pa_cons (pv 7) pa_nil)) pa_nil))))))))
    (pss_one (ps_ret (pv 5)))))))), ?_⟩
    obtain ⟨l, b, zs, sz, rfl, hl, hb, hsz, q⟩ := h
    obtain ⟨n1, e1, _⟩ := at_lt (ds := sz) (j := 1) (by omega)
    obtain ⟨n3, e3, _⟩ := at_lt (ds := sz) (j := 3) (by omega)
    have hbK : SqL K H b (nvs sz) := SqL.of hb
    refine ⟨.ref b, rfl, b, nvs sz, 1, nv n1, rfl, rfl, hbK, e1, _, rfl, (n1 : Int), 41, rfl, rfl, by decide, fun d1 hd1 => ⟨20, d1, rfl, rfl, ?_⟩⟩
    refine ⟨.ref b, rfl, b, nvs sz, 3, nv n3, rfl, rfl, hbK, e3, _, rfl, (n3 : Int), 2, rfl, rfl, by decide, fun d2 hd2 => ⟨2, (d2 : Int), rfl, rfl, .inl ⟨by decide, by decide⟩, 1, _, rfl, rfl, ?_⟩⟩
    obtain ⟨n, en⟩ : ∃ n, n = 20 + d1 := ⟨_, rfl⟩
    rw [← en]
    have hn : n ≤ 60 := by omega
    have hn0 : 20 ≤ n := by omega
    obtain ⟨st, est⟩ : ∃ st : Int, st = 1 - 2 * (d2 : Int) := ⟨_, rfl⟩
    refine ⟨.ref l, rfl, nv n, rfl, l, zs, 1, n, 240, rfl, hl, by decide, by omega, by decide, by decide, fun H1 dr ds s1 hdr dl _ => ?_⟩
    refine ⟨Nat.zero_le _, fun af naf => ?_⟩
    have s2 : Same H1 (upd H1 af (.lst [])) := same_upd naf
    refine ⟨nv n, rfl, _, rfl, by omega, by omega, for_range (n := ((n : Nat) : Int).toNat) (fun k σ Hc => ∃ G ps v6 v7, σ = [some (.ref l), some (.ref b), some (nv n), some (.int st), some (.ref dr), some (.ref af), v6, v7] ∧ LLp Hc af G ps ∧ (∀ p, p ∈ ps → p.1 ≠ af) ∧ G.length = k ∧ Rows0 G n ∧ Same H1 Hc)
      ⟨[], [], none, none, (by rw [est]; rfl), LLp.nil upd_same, fun p hp => absurd hp (by simp), rfl, Rows0.nil n, s2⟩ ?_ ?_⟩
    · rintro k σ Hc hk ⟨G, ps, v6, v7, rfl, hG, hps, hGl, r0, sc⟩
      rw [Int.zero_add]
      have hk : k < n := by omega
      refine ⟨Nat.zero_le _, fun nr nnr => ?_⟩
      have s3 : Same Hc (upd Hc nr (.lst [])) := same_upd nnr
      have fnr : ∀ c u, Hc c = some u → c ≠ nr := fun c u z => ne_of_none z nnr
      obtain ⟨x, ex, _⟩ := at_lt (ds := ds) (j := k) (by omega)
      -- what stands in near
      refine ⟨fun σ' H' => σ' = [some (.ref l), some (.ref b), some (nv n), some (.int st), some (.ref dr), some (.ref af), some (nv k), some (.ref nr)] ∧ ∃ ns, LA H' nr ns ∧ (∀ y, y ∈ ns → y < n) ∧ ns.length ≤ 1 ∧ (∀ c u, Hc c = some u → H' c = some u), ?_, ?_⟩
      · have hdx : SqL K (upd Hc nr (.lst [])) dr (nvs ds) := SqL.of (s3 dr _ (sc dr _ hdr))
        have keep : ∃ ns, LA (upd Hc nr (.lst [])) nr ns ∧ (∀ y, y ∈ ns → y < n) ∧ ns.length ≤ 1 ∧ (∀ c u, Hc c = some u → (upd Hc nr (.lst [])) c = some u) := ⟨[], upd_same, fun y hy => absurd hy (by simp), by decide, s3⟩
        refine ⟨.ref dr, rfl, nv k, rfl, dr, nvs ds, _, nv x, rfl, rfl, hdx, ex, _, rfl, (x : Int), 4, rfl, rfl, by decide, fun d _ => ⟨_, _, rfl, rfl, _, rfl, ite2 (fun _ => ?_) (fun _ => iteF ⟨rfl, keep⟩)⟩⟩
        refine ⟨.ref dr, rfl, nv k, rfl, dr, nvs ds, _, nv x, rfl, rfl, hdx, ex, x, 4, rfl, rfl, ⟨by decide, by decide⟩, nv n, rfl, _, _, rfl, rfl, _, rfl, ite2 (fun e => ?_) (fun _ => ⟨rfl, keep⟩)⟩
        have e : x / 4 < n := by
          have := of_decide_eq_true e
          omega
        refine ⟨.ref nr, rfl, .inl ⟨rfl, _, SqL.of upd_same⟩, .ref dr, rfl, nv k, rfl, dr, nvs ds, _, nv x, rfl, rfl, hdx, ex, x, 4, rfl, rfl, ⟨by decide, by decide⟩, nr, _, _, rfl, rfl, upd_same, (by show 0 < sizeLine; decide), rfl, [x / 4], upd_same, fun y hy => by rw [List.mem_singleton.mp hy]; exact e, Nat.le_refl 1, fun c u z => ?_⟩
        rw [upd_ne (fnr c u z)]
        exact s3 c u z
      rintro _ Hd ⟨rfl, ns, hns, nlt, nl, sd⟩
      have hdx : SqL K Hd dr (nvs ds) := SqL.of (sd dr _ (sc dr _ hdr))
      refine ⟨fun σ' H' => σ' = [some (.ref l), some (.ref b), some (nv n), some (.int st), some (.ref dr), some (.ref af), some (nv k), some (.ref nr)] ∧ ∃ ns, LA H' nr ns ∧ (∀ y, y ∈ ns → y < n) ∧ ns.length ≤ 2 ∧ (∀ c u, Hc c = some u → H' c = some u), ?_, ?_⟩
      · have keep : ∃ ns, LA Hd nr ns ∧ (∀ y, y ∈ ns → y < n) ∧ ns.length ≤ 2 ∧ (∀ c u, Hc c = some u → Hd c = some u) := ⟨ns, hns, nlt, by omega, sd⟩
        refine ⟨.ref dr, rfl, nv k, rfl, dr, nvs ds, _, nv x, rfl, rfl, hdx, ex, _, rfl, (x : Int), 4, rfl, rfl, by decide, fun d _ => ⟨_, _, rfl, rfl, _, rfl, ite2 (fun _ => ?_) (fun _ => iteF ⟨rfl, keep⟩)⟩⟩
        refine ⟨nv k, rfl, .int st, rfl, (k : Int), st, rfl, rfl, 0, (k : Int) + st, rfl, rfl, _, rfl, ite2 (fun e0 => ?_) (fun _ => ⟨false, rfl, iteF (iteF ⟨rfl, keep⟩)⟩)⟩
        have e0 : 0 ≤ (k : Int) + st := of_decide_eq_true e0
        obtain ⟨m, em⟩ : ∃ m : Nat, (k : Int) + st = (m : Int) := ⟨((k : Int) + st).toNat, by omega⟩
        refine ⟨nv n, rfl, (k : Int) + st, (n : Int), rfl, rfl, _, rfl, ite2 (fun e1 => ?_) (fun _ => iteF ⟨rfl, keep⟩)⟩
        have e1 : m < n := by
          have := of_decide_eq_true e1
          omega
        refine ⟨nv k, rfl, .int st, rfl, (k : Int), st, rfl, rfl, .ref nr, rfl, nr, nvs ns, rfl, .inl (SqL.of hns), rfl, flat_nvs ns, _, rfl, ite2 (fun _ => ?_) (fun _ => ⟨rfl, keep⟩)⟩
        refine ⟨.ref nr, rfl, .inl ⟨rfl, _, SqL.of hns⟩, nv k, rfl, .int st, rfl, (k : Int), st, rfl, rfl, nr, _, _, rfl, rfl, hns, (by rw [nvs_len]; exact line1000 (by omega)), rfl, ns ++ [m], ?_, fun y hy => ?_, by rw [List.length_append, List.length_singleton]; omega, fun c u z => ?_⟩
        · rw [LA, upd_same, ← nvs_snoc]
          show some (HO.lst (nvs ns ++ [V.int ((k : Int) + st)])) = _
          rw [em]
        · rcases List.mem_append.mp hy with z | z
          · exact nlt y z
          · rw [List.mem_singleton.mp z]
            exact e1
        · rw [upd_ne (fnr c u z)]
          exact sd c u z
      rintro _ He ⟨rfl, ns2, hns2, nlt2, nl2, se⟩
      have hGe : LLp He af G ps := hG.same se
      refine ⟨.ref af, rfl, .inl ⟨rfl, _, SqL.of hGe.lst⟩, .ref nr, rfl, nr, ns2.map fun n : Nat => (n : Int), rfl, SqL.of (by rw [← nvs_cast]; exact hns2), (by rw [List.length_map]; omega), fun ms' sp perm srt nsp => ?_⟩
      obtain ⟨qs, eq1, eq2, eq3⟩ := perm_nats perm
      rw [eq1]
      have s8 : Same He (upd He sp (.lst (nvs qs))) := same_upd nsp
      have nsa : sp ≠ af := (ne_of_none hGe.lst nsp).symm
      obtain ⟨g1, g2, g3⟩ := row_add (hGe.same s8) naf upd_same nsa hps (fun c u z => s8 c u (se c u (sc c u z)))
      exact ⟨af, _, _, rfl, rfl, (hGe.same s8).lst, (by rw [List.length_map, hG.len]; exact line1000 (by omega)), G ++ [qs], _, _, _, rfl, g1, g2, (by rw [List.length_append, List.length_singleton, hGl]), r0.snoc (by omega) (fun y hy => nlt2 y (eq3 y hy)), g3⟩
    · rintro σ Hc ⟨G, ps, v6, v7, rfl, hG, hps, hGl, r0, sc⟩
      rw [Int.toNat_natCast] at hGl
      exact ⟨.ref af, rfl, q Hc af G (fun c u z => sc c u (s1 c u z)) ⟨ps, hG⟩ ⟨by omega, fun g hg => Nat.le_trans (r0.row g hg) (by omega), fun g hg x hx => by rw [hGl]; exact r0.lt g hg x hx⟩⟩
end
end K56
set_option Elab.async false
set_option linter.all false
set_option maxRecDepth 100000
set_option maxHeartbeats 4000000
/-! K56Lg: the law's looks at an answer. -/
namespace K56
open PySem PySem.Spec PyProof.Rows L2
/-! ### lists of numbers as data -/
abbrev ndat (ns : List Nat) : PyData := .list ((ns.map fun n : Nat => (n : Int)).map PyData.int)
theorem dpAll_nat {K : PySem.W.Frag} {H : Hp} : ∀ ns : List Nat, DpAll K H (nvs ns) ((ns.map fun n : Nat => (n : Int)).map PyData.int)
  | [] => .nil
  | n :: ns => .cons (.int _) (dpAll_nat ns)
theorem dp_nat {K : PySem.W.Frag} {H : Hp} {a : Addr} {ns : List Nat} (h : LA H a ns) : Dp K H (.ref a) (ndat ns) := .lst (SqL.of h) (dpAll_nat ns)
theorem eqv_int (i j : Int) : PyData.eqv (.int i) (.int j) = (i == j) := by rw [PyData.eqv]
theorem eqvAll_self : ∀ zs : List Int, PyData.eqvAll (zs.map PyData.int) (zs.map PyData.int) = true
  | [] => by rw [List.map_nil, PyData.eqvAll]
  | z :: zs => by rw [List.map_cons, PyData.eqvAll, eqvAll_self zs, eqv_int]; simp
theorem eqv_self (ns : List Nat) : PyData.eqv (ndat ns) (ndat ns) = true := by
  rw [PyData.eqv]
  exact eqvAll_self _
theorem eqv_nil {ns : List Nat} (h : ns ≠ []) : PyData.eqv (ndat ns) (ndat []) = false := by
  cases ns with
  | nil => exact absurd rfl h
  | cons n ns => rw [PyData.eqv, List.map_cons, List.map_cons, List.map_nil, List.map_nil, PyData.eqvAll]
theorem notT {A B : Prop} (h : A) : if (!false) = true then A else B := iteT h
theorem notF {A B : Prop} (h : B) : if (!true) = true then A else B := iteF h
section
variable {P : Program} {w : World} {K : PySem.W.Frag} {mg : Str → Option Value} {base : Heap}
/-! ### _law_is_integer -/
abbrev sis_integer : Stmt := topS 34
abbrev nis_integer : List Str := ["_law_actual"]
theorem scis_integer : FnScope nis_integer ["_law_actual"] (defScope sis_integer) := ⟨rfl, rfl, rfl, by decide +kernel, rfl, by decide +kernel, by decide +kernel⟩
def spis_integer : Sp := fun vs H Q _ => ∃ n : Nat, vs = [nv n] ∧ Q (.bl true) H
theorem ok_is_integer {f : Addr} {fd : FuncData} (F : Fun K "_law_is_integer" "_law_is_integer" sis_integer f fd) (mis : mg "isinstance" = none) (m_int : mg "int" = none) (m_bool : mg "bool" = none) : FnOk P w K mg base CX0 1 f fd ["_law_actual"] spis_integer := by
  have SC := scis_integer
  refine F.ok SC (fun vs H Q E h => ?_) (fun cdv A outer s H vs Q E hr h => ?_)
  · obtain ⟨n, rfl, _⟩ := h
    rfl
  · refine ⟨_,
    (pss_one (ps_ret (pe_and (pe_callB call_isi (by rfl) mis boot_isinstance (pa_cons (pv 0) (pa_cons (pe_bltn (v := .ty "int") (by rfl) m_int (by decide +kernel) rfl) pa_nil))) (pe_one (pe_not (pe_callB call_isi (by rfl) mis boot_isinstance (pa_cons (pv 0) (pa_cons (pe_bltn (v := .ty "bool") (by rfl) m_bool (by decide +kernel) rfl) pa_nil)))))))), ?_⟩
    obtain ⟨n, rfl, q⟩ := h
    exact ⟨nv n, rfl, nv n, .ty "int", .type "int", .type "int", true, rfl, .ty _, .base (.int _), kit_ty (by decide +kernel), true, rfl, iteT ⟨nv n, rfl, nv n, .ty "bool", .type "int", .type "bool", false, rfl, .ty _, .base (.int _), kit_ty (by decide +kernel), false, rfl, q⟩⟩
/-! ### _law_is_nodes -/
abbrev sis_nodes : Stmt := topS 35
abbrev nis_nodes : List Str := ["_law_actual", "_law_size", "_law_node"]
theorem scis_nodes : FnScope nis_nodes ["_law_actual", "_law_size"] (defScope sis_nodes) := ⟨rfl, rfl, rfl, by decide +kernel, rfl, by decide +kernel, by decide +kernel⟩
def spis_nodes : Sp := fun vs H Q _ => ∃ (a : Addr) (ns : List Nat) (n : Nat), vs = [.ref a, nv n] ∧ LA H a ns ∧ (∀ x, x ∈ ns → x < n) ∧ Q (.bl true) H
theorem ok_is_nodes {f fI : Addr} {fd fdI : FuncData} (F : Fun K "_law_is_nodes" "_law_is_nodes" sis_nodes f fd) (D_is_integer : Df K mg "_law_is_integer" 34 ["_law_actual"] fI fdI) (G_is_integer : FnOk P w K mg base CX0 1 fI fdI ["_law_actual"] spis_integer)
    (mis : mg "isinstance" = none) (m_list : mg "list" = none) : FnOk P w K mg base CX0 2 f fd ["_law_actual", "_law_size"] spis_nodes := by
  have SC := scis_nodes
  refine F.ok SC (fun vs H Q E h => ?_) (fun cdv A outer s H vs Q E hr h => ?_)
  · obtain ⟨a, ns, n, rfl, _⟩ := h
    rfl
  · refine ⟨_,
    (pss_cons (ps_if (pt_not (pt_val (pe_callB call_isi (by rfl) mis boot_isinstance (pa_cons (pv 0) (pa_cons (pe_bltn (v := .ty "list") (by rfl) m_list (by decide +kernel) rfl) pa_nil)))))
      (pss_one (ps_ret pe_bl)) pss_nil)
    (pss_cons (ps_for PassesOwn.never rfl (pi_list (pv 0)) (pg_name (i := 2) SC.nd rfl (.inl rfl))
      (pss_one (ps_if (PW.pt (pw_or (pt_not (pt_val (pe_call G_is_integer (hr.mono (by omega)) (by rfl) D_is_integer.g D_is_integer.F.kp D_is_integer.b .nil pass0 (pa_cons (pv 2) pa_nil)))) (pw_or (pt_cmpR op_lt (pv 2) pe_int (nomark _)) (pw_or1 (pt_cmpR op_ge (pv 2) (pv 1) (nomark _))))))
        (pss_one (ps_ret pe_bl)) pss_nil)))
    (pss_one (ps_ret pe_bl)))), ?_⟩
    obtain ⟨a, ns, n, rfl, ha, hlt, q⟩ := h
    refine ⟨.ref a, rfl, .ref a, .ty "list", .type "list", .type "list", true, rfl, .ty _, .base (.lst ha), kit_ty (by decide +kernel), true, rfl, notF ?_⟩
    refine ⟨.ref a, rfl, a, rfl, ⟨_, SqL.of ha⟩, for_list (K := K) (a := a) (xs := nvs ns) (fun i σ Hc => H = Hc ∧ ∃ v2, σ = [some (.ref a), some (nv n), v2]) ⟨rfl, _, rfl⟩ (fun i σ Hc _ p => by rw [← p.1]; exact SqL.of ha) ?_ ?_⟩
    · rintro i x σ Hc hx ⟨rfl, v2, rfl⟩
      obtain ⟨y, hy, rfl⟩ := nvs_get hx
      have hyn := hlt y (List.mem_of_getElem? hy)
      refine ⟨nv y, rfl, y, rfl, true, rfl, notF ⟨nv y, rfl, _, _, rfl, rfl, _, rfl, ite2 (fun e => ?_) (fun _ => ⟨nv y, rfl, nv n, rfl, _, _, rfl, rfl, _, rfl, ite2 (fun e => ?_) (fun _ => ⟨rfl, _, rfl⟩)⟩)⟩⟩
      · have := of_decide_eq_true e
        omega
      · have := of_decide_eq_true e
        omega
    · rintro σ Hc ⟨rfl, v2, rfl⟩
      exact q
/-! ### _law_meets -/
abbrev smeets : Stmt := topS 38
abbrev nmeets : List Str := ["_law_one", "_law_other", "_law_node"]
theorem scmeets : FnScope nmeets ["_law_one", "_law_other"] (defScope smeets) := ⟨rfl, rfl, rfl, by decide +kernel, rfl, by decide +kernel, by decide +kernel⟩
def spLmeets : Sp := fun vs H Q _ => ∃ (a b : Addr) (ns ms : List Nat), vs = [.ref a, .ref b] ∧ LA H a ns ∧ LA H b ms ∧ Q (.bl (meetB ns ms)) H
theorem ok_Lmeets {f : Addr} {fd : FuncData} (F : Fun K "_law_meets" "_law_meets" smeets f fd) : FnOk P w K mg base CX0 1 f fd ["_law_one", "_law_other"] spLmeets := by
  have SC := scmeets
  refine F.ok SC (fun vs H Q E h => ?_) (fun cdv A outer s H vs Q E hr h => ?_)
  · obtain ⟨a, b, ns, ms, rfl, _⟩ := h
    rfl
  · refine ⟨_,
    (pss_cons (ps_for PassesOwn.never rfl (pi_list (pv 0)) (pg_name (i := 2) SC.nd rfl (.inl rfl))
      (pss_one (ps_if (pt_cmpR op_in_seq (pv 2) (pv 1) (by rfl))
        (pss_one (ps_ret pe_bl)) pss_nil)))
    (pss_one (ps_ret pe_bl))), ?_⟩
    obtain ⟨a, b, ns, ms, rfl, ha, hb, q⟩ := h
    refine ⟨.ref a, rfl, a, rfl, ⟨_, SqL.of ha⟩, for_list (K := K) (a := a) (xs := nvs ns) (fun i σ Hc => H = Hc ∧ (∃ v2, σ = [some (.ref a), some (.ref b), v2]) ∧ ∀ x, x ∈ ns.take i → x ∉ ms) ⟨rfl, ⟨_, rfl⟩, fun x hx => absurd hx (by simp)⟩ (fun i σ Hc _ p => by rw [← p.1]; exact SqL.of ha) ?_ ?_⟩
    · rintro i x σ Hc hx ⟨rfl, ⟨v2, rfl⟩, hno⟩
      obtain ⟨y, hy, rfl⟩ := nvs_get hx
      refine ⟨nv y, rfl, .ref b, rfl, b, nvs ms, rfl, .inl (SqL.of hb), rfl, flat_nvs ms, _, rfl, ?_⟩
      show if inV (nv y) (nvs ms) = true then _ else _
      rw [inV_nv]
      by_cases hm : y ∈ ms
      · rw [decide_eq_true hm]
        rw [show meetB ns ms = true from meetB_iff.mpr ⟨y, List.mem_of_getElem? hy, hm⟩] at q
        exact iteT q
      · rw [decide_eq_false hm]
        refine iteF ⟨rfl, ⟨_, rfl⟩, fun x hx => ?_⟩
        rcases mem_take_succ hy hx with z | z
        · exact hno x z
        · rw [z]
          exact hm
    · rintro σ Hc ⟨rfl, ⟨v2, rfl⟩, hno⟩
      rw [nvs_len, List.take_length] at hno
      have e : meetB ns ms = false := by
        cases e : meetB ns ms with
        | false => rfl
        | true =>
          obtain ⟨x, h1, h2⟩ := meetB_iff.mp e
          exact absurd h2 (hno x h1)
      rw [e] at q
      exact q
/-! ### _law_leads -/
abbrev sleads : Stmt := topS 39
abbrev nleads : List Str := ["_law_after", "_law_one", "_law_other", "_law_v"]
theorem scleads : FnScope nleads ["_law_after", "_law_one", "_law_other"] (defScope sleads) := ⟨rfl, rfl, rfl, by decide +kernel, rfl, by decide +kernel, by decide +kernel⟩
def spLleads : Sp := fun vs H Q _ => ∃ (a b c : Addr) (G : List (List Nat)) (ns ms : List Nat), vs = [.ref a, .ref b, .ref c] ∧ LL H a G ∧ LA H b ns ∧ LA H c ms ∧ (∀ x, x ∈ ns → x < G.length) ∧ Q (.bl (leadB G ns ms)) H
theorem ok_Lleads {f fM : Addr} {fd fdM : FuncData} (F : Fun K "_law_leads" "_law_leads" sleads f fd) (D_meets : Df K mg "_law_meets" 38 ["_law_one", "_law_other"] fM fdM) (G_meets : FnOk P w K mg base CX0 1 fM fdM ["_law_one", "_law_other"] spLmeets) : FnOk P w K mg base CX0 2 f fd ["_law_after", "_law_one", "_law_other"] spLleads := by
  have SC := scleads
  refine F.ok SC (fun vs H Q E h => ?_) (fun cdv A outer s H vs Q E hr h => ?_)
  · obtain ⟨a, b, c, G, ns, ms, rfl, _⟩ := h
    rfl
  · refine ⟨_,
    (pss_cons (ps_for PassesOwn.never rfl (pi_list (pv 1)) (pg_name (i := 3) SC.nd rfl (.inl rfl))
      (pss_one (ps_if (pt_val (pe_call G_meets (hr.mono (by omega)) (by rfl) D_meets.g D_meets.F.kp D_meets.b .nil pass0 (pa_cons (pe_ix ix_list (pv 0) (pv 3) (fun _ _ => rfl)) (pa_cons (pv 2) pa_nil))))
        (pss_one (ps_ret pe_bl)) pss_nil)))
    (pss_one (ps_ret pe_bl))), ?_⟩
    obtain ⟨a, b, c, G, ns, ms, rfl, ha, hb, hc, hlt, q⟩ := h
    refine ⟨.ref b, rfl, b, rfl, ⟨_, SqL.of hb⟩, for_list (K := K) (a := b) (xs := nvs ns) (fun i σ Hc => H = Hc ∧ (∃ v3, σ = [some (.ref a), some (.ref b), some (.ref c), v3]) ∧ ∀ x, x ∈ ns.take i → meetB (gE G x) ms = false) ⟨rfl, ⟨_, rfl⟩, fun x hx => absurd hx (by simp)⟩ (fun i σ Hc _ p => by rw [← p.1]; exact SqL.of hb) ?_ ?_⟩
    · rintro i x σ Hc hx ⟨rfl, ⟨v3, rfl⟩, hno⟩
      obtain ⟨y, hy, rfl⟩ := nvs_get hx
      obtain ⟨xs, r, e1, e2, e3⟩ := ha.at (hlt y (List.mem_of_getElem? hy))
      refine ⟨.ref a, rfl, nv y, rfl, a, xs, _, .ref r, rfl, rfl, SqL.of e1, e2, .ref c, rfl, r, c, gE G y, ms, rfl, e3, hc, _, rfl, ?_⟩
      cases em : meetB (gE G y) ms with
      | true =>
        rw [show leadB G ns ms = true from List.any_eq_true.mpr ⟨y, List.mem_of_getElem? hy, em⟩] at q
        exact iteT q
      | false =>
        refine iteF ⟨rfl, ⟨_, rfl⟩, fun x hx => ?_⟩
        rcases mem_take_succ hy hx with z | z
        · exact hno x z
        · rw [z]
          exact em
    · rintro σ Hc ⟨rfl, ⟨v3, rfl⟩, hno⟩
      rw [nvs_len, List.take_length] at hno
      have e : leadB G ns ms = false := by
        cases e : leadB G ns ms with
        | false => rfl
        | true =>
          obtain ⟨x, h1, h2⟩ := List.any_eq_true.mp e
          rw [hno x h1] at h2
          cases h2
      rw [e] at q
      exact q
/-! ### _law_fair -/
abbrev sfair : Stmt := topS 40
abbrev nfair : List Str := ["_law_loop", "_law_just_here", "_law_pairs_here", "_law_nodes", "_law_pair"]
theorem scfair : FnScope nfair ["_law_loop", "_law_just_here", "_law_pairs_here"] (defScope sfair) := ⟨rfl, rfl, rfl, by decide +kernel, rfl, by decide +kernel, by decide +kernel⟩
def spLfair : Sp := fun vs H Q _ => ∃ (l c d : Addr) (loop : List Nat) (J : List (List Nat)) (C : List (List Nat × List Nat)), vs = [.ref l, .ref c, .ref d] ∧ LA H l loop ∧ LL H c J ∧ LP H d C ∧ (∀ j, j ∈ J → meetB j loop = true) ∧ (∀ c, c ∈ C → meetB c.1 loop = true → meetB c.2 loop = true) ∧ Q (.bl true) H
theorem ok_Lfair {f fM : Addr} {fd fdM : FuncData} (F : Fun K "_law_fair" "_law_fair" sfair f fd) (D_meets : Df K mg "_law_meets" 38 ["_law_one", "_law_other"] fM fdM) (G_meets : FnOk P w K mg base CX0 1 fM fdM ["_law_one", "_law_other"] spLmeets) : FnOk P w K mg base CX0 2 f fd ["_law_loop", "_law_just_here", "_law_pairs_here"] spLfair := by
  have SC := scfair
  refine F.ok SC (fun vs H Q E h => ?_) (fun cdv A outer s H vs Q E hr h => ?_)
  · obtain ⟨l, c, d, loop, J, C, rfl, _⟩ := h
    rfl
  · refine ⟨_,
    (pss_cons (ps_for PassesOwn.never rfl (pi_list (pv 1)) (pg_name (i := 3) SC.nd rfl (.inl rfl))
      (pss_one (ps_if (pt_not (pt_val (pe_call G_meets (hr.mono (by omega)) (by rfl) D_meets.g D_meets.F.kp D_meets.b .nil pass0 (pa_cons (pv 3) (pa_cons (pv 0) pa_nil)))))
        (pss_one (ps_ret pe_bl)) pss_nil)))
    (pss_cons (ps_for PassesOwn.never rfl (pi_list (pv 2)) (pg_name (i := 4) SC.nd rfl (.inl rfl))
      (pss_one (ps_if (PW.pt (pw_and (pt_val (pe_call G_meets (hr.mono (by omega)) (by rfl) D_meets.g D_meets.F.kp D_meets.b .nil pass0 (pa_cons (pe_ix ix_tup (pv 4) pe_int (fun _ _ => rfl)) (pa_cons (pv 0) pa_nil)))) (pw_and1 (pt_not (pt_val (pe_call G_meets (hr.mono (by omega)) (by rfl) D_meets.g D_meets.F.kp D_meets.b .nil pass0 (pa_cons (pe_ix ix_tup (pv 4) pe_int (fun _ _ => rfl)) (pa_cons (pv 0) pa_nil))))))))
        (pss_one (ps_ret pe_bl)) pss_nil)))
    (pss_one (ps_ret pe_bl)))), ?_⟩
    obtain ⟨l, c, d, loop, J, C, rfl, hl, ⟨ps, hJ⟩, ⟨qs, hC⟩, hj, hc, q⟩ := h
    refine ⟨.ref c, rfl, c, rfl, ⟨_, SqL.of hJ.lst⟩, for_list (K := K) (a := c) (xs := ps.map fun p => V.ref p.1) (fun i σ Hc => H = Hc ∧ ∃ v3, σ = [some (.ref l), some (.ref c), some (.ref d), v3, none]) ⟨rfl, _, rfl⟩ (fun i σ Hc _ p => by rw [← p.1]; exact SqL.of hJ.lst) ?_ ?_⟩
    · rintro i x σ Hc hx ⟨rfl, v3, rfl⟩
      obtain ⟨r, g, rfl, hg, hr', _⟩ := hJ.item hx
      refine ⟨.ref r, rfl, .ref l, rfl, r, l, g, loop, rfl, hr', hl, true, by rw [hj g (List.mem_of_getElem? hg)], notF ⟨rfl, _, rfl⟩⟩
    · rintro σ Hc ⟨rfl, v3, rfl⟩
      refine ⟨.ref d, rfl, d, rfl, ⟨_, SqL.of hC.lst⟩, for_list (K := K) (a := d) (xs := qs.map fun p => V.ref p.1) (fun i σ Hc => H = Hc ∧ ∃ v4, σ = [some (.ref l), some (.ref c), some (.ref d), v3, v4]) ⟨rfl, _, rfl⟩ (fun i σ Hc _ p => by rw [← p.1]; exact SqL.of hC.lst) ?_ ?_⟩
      · rintro i x σ Hc hx ⟨rfl, v4, rfl⟩
        obtain ⟨t, f1, f2, m1, m2, rfl, hcc, ht, h1, h2, _⟩ := hC.item hx
        refine ⟨.ref t, rfl, t, _, 0, .ref f1, rfl, rfl, SqT.of ht, atI_nat (j := 0) rfl, .ref l, rfl, f1, l, m1, loop, rfl, h1, hl, _, rfl, ?_⟩
        cases em : meetB m1 loop with
        | false => exact iteF (iteF ⟨rfl, _, rfl⟩)
        | true =>
          refine iteT ⟨.ref t, rfl, t, _, 1, .ref f2, rfl, rfl, SqT.of ht, atI_nat (j := 1) rfl, .ref l, rfl, f2, l, m2, loop, rfl, h2, hl, true, by rw [hc (m1, m2) (List.mem_of_getElem? hcc) em], notF ⟨rfl, _, rfl⟩⟩
      · rintro σ Hc ⟨rfl, v4, rfl⟩
        exact q
/-! ### _law_is_walk -/
abbrev sis_walk : Stmt := topS 37
abbrev nis_walk : List Str := ["_law_after", "_law_walk", "_law_k"]
theorem scis_walk : FnScope nis_walk ["_law_after", "_law_walk"] (defScope sis_walk) := ⟨rfl, rfl, rfl, by decide +kernel, rfl, by decide +kernel, by decide +kernel⟩
def spis_walk : Sp := fun vs H Q _ => ∃ (a b : Addr) (G : List (List Nat)) (wl : List Nat), vs = [.ref a, .ref b] ∧ LL H a G ∧ LA H b wl ∧ Ch (gE G) wl ∧ (∀ x, x ∈ wl → x < G.length) ∧ wl.length ≤ 100000 ∧ Q (.bl true) H
theorem ok_is_walk {f : Addr} {fd : FuncData} (F : Fun K "_law_is_walk" "_law_is_walk" sis_walk f fd) (ml : mg "len" = none) (mr : mg "range" = none) : FnOk P w K mg base CX0 1 f fd ["_law_after", "_law_walk"] spis_walk := by
  have SC := scis_walk
  refine F.ok SC (fun vs H Q E h => ?_) (fun cdv A outer s H vs Q E hr h => ?_)
  · obtain ⟨a, b, G, wl, rfl, _⟩ := h
    rfl
  · refine ⟨_,
    (pss_cons (ps_for PassesOwn.never rfl (pi_range2 (by rfl) mr (pa_cons pe_int (pa_cons (pe_callB call_len_seq (by rfl) ml PySem.boot_len (pa_cons (pv 1) pa_nil)) pa_nil))) (pg_name (i := 2) SC.nd rfl (.inl rfl))
      (pss_one (ps_if (pt_cmpR op_notIn_seq (pe_ix ix_list (pv 1) (pv 2) (fun _ _ => rfl)) (pe_ix ix_list (pv 0) (pe_ix ix_list (pv 1) (pe_op op_subN (pv 2) pe_int) (fun _ _ => rfl)) (fun _ _ => rfl)) (by rfl))
        (pss_one (ps_ret pe_bl)) pss_nil)))
    (pss_one (ps_ret pe_bl))), ?_⟩
    obtain ⟨a, b, G, wl, rfl, ha, hb, ch, hlt, hwl, q⟩ := h
    refine ⟨.ref b, rfl, b, nvs wl, rfl, .inl (SqL.of hb), 1, _, rfl, ⟨by decide, by decide, by omega, by rw [nvs_len]; omega⟩, for_range (lo := 1) (n := ((((nvs wl).length : Nat) : Int) - 1).toNat) (fun i σ Hc => H = Hc ∧ ∃ v2, σ = [some (.ref a), some (.ref b), v2]) ⟨rfl, _, rfl⟩ ?_ ?_⟩
    · rintro i σ Hc hi ⟨rfl, v2, rfl⟩
      rw [nvs_len] at hi
      rw [show (1 : Int) + (i : Int) = ((1 + i : Nat) : Int) by omega]
      obtain ⟨y, ey, hy⟩ := at_lt (ds := wl) (j := 1 + i) (by omega)
      obtain ⟨x, ex, hx⟩ := at_lt (ds := wl) (j := 1 + i - 1) (by omega)
      obtain ⟨xs, r, e1, e2, e3⟩ := ha.at (hlt x (List.mem_of_getElem? hx))
      have hyx : y ∈ gE G x := ch (1 + i - 1) x y hx (by rw [show 1 + i - 1 + 1 = 1 + i by omega]; exact hy)
      refine ⟨.ref b, rfl, nv (1 + i), rfl, b, nvs wl, _, nv y, rfl, rfl, SqL.of hb, ey, .ref a, rfl, .ref b, rfl, nv (1 + i), rfl, 1 + i, 1, rfl, rfl, by omega, b, nvs wl, _, nv x, rfl, rfl, SqL.of hb, ex, a, xs, _, .ref r, rfl, rfl, SqL.of e1, e2, r, nvs (gE G x), rfl, .inl (SqL.of e3), rfl, flat_nvs _, _, rfl, ?_⟩
      show if (!inV (nv y) (nvs (gE G x))) = true then _ else _
      rw [inV_nv, decide_eq_true hyx]
      exact notF ⟨rfl, _, rfl⟩
    · rintro σ Hc ⟨rfl, v2, rfl⟩
      exact q
end
end K56
set_option Elab.async false
set_option linter.all false
set_option maxRecDepth 100000
set_option maxHeartbeats 4000000
/-! K56Lh: the law's own reach; cycles, blocks. -/
namespace K56
open PySem PySem.Spec PyProof.Rows L2
theorem ne_self (x : V) : ¬ (!decide (x = x)) = true := by
  rw [decide_eq_true rfl]
  decide
theorem rs_lt {G : List (List Nat)} {S : List Nat} (gw : GW G) (hS : ∀ x, x ∈ S → x < G.length) {v : Nat} (h : Rs G S v) : v < G.length := by
  obtain ⟨s, hs, r⟩ := h
  exact r.closed (P := fun v => v < G.length) (fun a b _ hb => gw.gE_lt hb) (hS s hs)
section
variable {P : Program} {w : World} {K : PySem.W.Frag} {mg : Str → Option Value} {base : Heap}
/-! ### _law_reach -/
abbrev sreach : Stmt := topS 36
abbrev nreach : List Str := ["_law_after", "_law_starts_here", "_law_found", "_law_node", "_law_k"]
theorem screach : FnScope nreach ["_law_after", "_law_starts_here"] (defScope sreach) := ⟨rfl, rfl, rfl, by decide +kernel, rfl, by decide +kernel, by decide +kernel⟩
def spLreach : Sp := fun vs H Q _ => ∃ (a b : Addr) (G : List (List Nat)) (S : List Nat), vs = [.ref a, .ref b] ∧ LL H a G ∧ LA H b S ∧ (∀ x, x ∈ S → x < G.length) ∧ GW G ∧ ∀ (H' : Hp) (p : Addr) (ns : List Nat), Same H H' → LA H' p ns → Asc ns → (∀ v, v ∈ ns ↔ Rs G S v) → Q (.ref p) H'
theorem ok_Lreach {f : Addr} {fd : FuncData} (F : Fun K "_law_reach" "_law_reach" sreach f fd) (ml : mg "len" = none) (mr : mg "range" = none) (ms : mg "sorted" = none) : FnOk P w K mg base CX0 1 f fd ["_law_after", "_law_starts_here"] spLreach := by
  have SC := screach
  refine F.ok SC (fun vs H Q E h => ?_) (fun cdv A outer s H vs Q E hr h => ?_)
  · obtain ⟨a, b, G, S, rfl, _⟩ := h
    rfl
  · refine ⟨_,
    (pss_cons (ps_set (i := 2) SC.nd rfl (.inl rfl) (pe_lst pa_nil))
    (pss_cons (ps_for PassesOwn.never rfl (pi_list (pv 1)) (pg_name (i := 3) SC.nd rfl (.inl rfl))
      (pss_one (ps_if (pt_cmpR op_notIn_seq (pv 3) (pv 2) (by rfl))
        (pss_one (ps_expr (pe_bm PySem.F.plainAttrs_list PySem.F.slot_list_append PySem.F.type_list_append mt_append (pv 2) (pa_cons (pv 3) pa_nil)))) pss_nil)))
    (pss_cons (ps_for PassesOwn.never rfl (pi_range1 (by rfl) mr (pa_cons (pe_callB call_len_seq (by rfl) ml PySem.boot_len (pa_cons (pv 0) pa_nil)) pa_nil)) (pg_name (i := 4) SC.nd rfl (.inl rfl))
      (pss_one (ps_if (pt_cmpR op_lt (pv 4) (pe_callB call_len_seq (by rfl) ml PySem.boot_len (pa_cons (pv 2) pa_nil)) (nomark _))
        (pss_one (ps_for PassesOwn.never rfl (pi_list (pe_ix ix_list (pv 0) (pe_ix ix_list (pv 2) (pv 4) (fun _ _ => rfl)) (fun _ _ => rfl))) (pg_name (i := 3) SC.nd rfl (.inl rfl))
          (pss_one (ps_if (pt_cmpR op_notIn_seq (pv 3) (pv 2) (by rfl))
            (pss_one (ps_expr (pe_bm PySem.F.plainAttrs_list PySem.F.slot_list_append PySem.F.type_list_append mt_append (pv 2) (pa_cons (pv 3) pa_nil)))) pss_nil)))) pss_nil)))
    (pss_one (ps_ret (pe_callB cr_sorted (by rfl) ms (by decide +kernel) (pa_cons (pv 2) pa_nil))))))), ?_⟩
    obtain ⟨a, b, G, S, rfl, ha, hb, hS, gw, q⟩ := h
    obtain ⟨ps, hap⟩ := id ha
    have hn := gw.n60
    refine ⟨Nat.zero_le _, fun fa nfa => ?_⟩
    have ffa : ∀ c u, H c = some u → c ≠ fa := fun c u z => ne_of_none z nfa
    have short : ∀ {fo : List Nat}, fo.Nodup → (∀ x, x ∈ fo → Rs G S x) → fo.length ≤ G.length := fun nd hr => nodup_lt nd fun x hx => rs_lt gw hS (hr x hx)
    have hu : ∀ {Hc : Hp} {xs : List V}, Same H Hc → Same H (upd Hc fa (.lst xs)) := fun s c u z => by rw [upd_ne (ffa c u z)]; exact s c u z
    refine ⟨.ref b, rfl, b, rfl, ⟨_, SqL.of (same_upd nfa b _ hb)⟩, for_list (K := K) (a := b) (xs := nvs S) (fun i σ Hc => ∃ fo v3, σ = [some (.ref a), some (.ref b), some (.ref fa), v3, none] ∧ LA Hc fa fo ∧ fo.Nodup ∧ (∀ x, x ∈ fo → Rs G S x) ∧ (∀ x, x ∈ S.take i → x ∈ fo) ∧ Same H Hc)
      ⟨[], _, rfl, upd_same, List.nodup_nil, fun x hx => absurd hx (by simp), fun x hx => absurd hx (by simp), same_upd nfa⟩ (fun i σ Hc _ p => by obtain ⟨_, _, _, _, _, _, _, s⟩ := p; exact SqL.of (s b _ hb)) ?_ ?_⟩
    · rintro i x σ Hc hx ⟨fo, v3, rfl, hf, nd, hrs, hi, sc⟩
      obtain ⟨n, hn', rfl⟩ := nvs_get hx
      have hnS := List.mem_of_getElem? hn'
      have hfl := short nd hrs
      refine ⟨nv n, rfl, .ref fa, rfl, fa, nvs fo, rfl, .inl (SqL.of hf), rfl, flat_nvs fo, _, rfl, ?_⟩
      show if (!inV (nv n) (nvs fo)) = true then _ else _
      rw [inV_nv]
      by_cases hm : n ∈ fo
      · rw [decide_eq_true hm]
        refine notF ⟨fo, _, rfl, hf, nd, hrs, fun x hx => ?_, sc⟩
        rcases mem_take_succ hn' hx with z | z
        · exact hi x z
        · rw [z]
          exact hm
      · rw [decide_eq_false hm]
        refine notT ⟨.ref fa, rfl, .inl ⟨rfl, _, SqL.of hf⟩, nv n, rfl, fa, _, _, rfl, rfl, hf, (by rw [nvs_len]; exact line1000 (by omega)), fo ++ [n], _, rfl, by rw [LA, upd_same, nvs_snoc], ?_, fun x hx => ?_, fun x hx => ?_, hu sc⟩
        · exact List.nodup_append.mpr ⟨nd, by simp, fun x hx y hy e => hm (by rw [List.mem_singleton.mp hy] at e; rw [← e]; exact hx)⟩
        · rcases List.mem_append.mp hx with z | z
          · exact hrs x z
          · rw [List.mem_singleton.mp z]
            exact ⟨n, hnS, .refl _⟩
        · rcases mem_take_succ hn' hx with z | z
          · exact List.mem_append_left _ (hi x z)
          · rw [z]
            simp
    · rintro σ Hc ⟨fo, v3, rfl, hf, nd, hrs, hi, sc⟩
      rw [nvs_len, List.take_length] at hi
      refine ⟨.ref a, rfl, a, _, rfl, .inl (SqL.of (sc a _ hap.lst)), _, rfl, by rw [List.length_map, hap.len]; omega, by rw [List.length_map, hap.len]; omega, for_range (n := ((((ps.map fun p => V.ref p.1).length : Nat) : Int)).toNat) (fun k σ Hc => ∃ fo v3 v4, σ = [some (.ref a), some (.ref b), some (.ref fa), v3, v4] ∧ LA Hc fa fo ∧ fo.Nodup ∧ (∀ x, x ∈ fo → Rs G S x) ∧ (∀ x, x ∈ S → x ∈ fo) ∧ (∀ i u, i < k → fo[i]? = some u → ∀ v, v ∈ gE G u → v ∈ fo) ∧ Same H Hc)
        ⟨fo, _, _, rfl, hf, nd, hrs, hi, fun i u h => absurd h (Nat.not_lt_zero _), sc⟩ ?_ ?_⟩
      · clear hi hrs nd hf fo v3
        rintro k σ Hc hk ⟨fo, v3, v4, rfl, hf, nd, hrs, hi, hcl, sc⟩
        rw [Int.zero_add]
        refine ⟨nv k, rfl, .ref fa, rfl, fa, nvs fo, rfl, .inl (SqL.of hf), _, _, rfl, rfl, _, rfl, ite2 (fun e => ?_) (fun e => ?_)⟩
        · have e : k < fo.length := by
            have := of_decide_eq_true e
            rw [nvs_len] at this
            omega
          obtain ⟨u, eu, hu'⟩ := at_lt e
          have huF := List.mem_of_getElem? hu'
          have hun := rs_lt gw hS (hrs u huF)
          obtain ⟨xs, r, e1, e2, e3⟩ := ha.at hun
          refine ⟨.ref a, rfl, .ref fa, rfl, nv k, rfl, fa, nvs fo, _, nv u, rfl, rfl, SqL.of hf, eu, a, xs, _, .ref r, rfl, rfl, SqL.of (sc _ _ e1), e2, r, rfl, ⟨_, SqL.of (sc _ _ e3)⟩, for_list (K := K) (a := r) (xs := nvs (gE G u)) (fun j σ Hd => ∃ fo' v3, σ = [some (.ref a), some (.ref b), some (.ref fa), v3, some (nv k)] ∧ LA Hd fa fo' ∧ fo'.Nodup ∧ (∀ x, x ∈ fo' → Rs G S x) ∧ (∃ more, fo' = fo ++ more) ∧ (∀ x, x ∈ (gE G u).take j → x ∈ fo') ∧ Same H Hd)
            ⟨fo, _, rfl, hf, nd, hrs, ⟨[], (List.append_nil _).symm⟩, fun x hx => absurd hx (by simp), sc⟩ (fun j σ Hd _ p => by obtain ⟨_, _, _, _, _, _, _, _, s⟩ := p; exact SqL.of (s _ _ e3)) ?_ ?_⟩
          · rintro j y σ Hd hy ⟨fo', v3, rfl, hf', nd', hrs', ⟨more, hmore⟩, hj, sd⟩
            obtain ⟨t, ht, rfl⟩ := nvs_get hy
            have htE := List.mem_of_getElem? ht
            have hfl := short nd' hrs'
            refine ⟨nv t, rfl, .ref fa, rfl, fa, nvs fo', rfl, .inl (SqL.of hf'), rfl, flat_nvs fo', _, rfl, ?_⟩
            show if (!inV (nv t) (nvs fo')) = true then _ else _
            rw [inV_nv]
            by_cases hm : t ∈ fo'
            · rw [decide_eq_true hm]
              refine notF ⟨fo', _, rfl, hf', nd', hrs', ⟨more, hmore⟩, fun x hx => ?_, sd⟩
              rcases mem_take_succ ht hx with z | z
              · exact hj x z
              · rw [z]
                exact hm
            · rw [decide_eq_false hm]
              refine notT ⟨.ref fa, rfl, .inl ⟨rfl, _, SqL.of hf'⟩, nv t, rfl, fa, _, _, rfl, rfl, hf', (by rw [nvs_len]; exact line1000 (by omega)), fo' ++ [t], _, rfl, by rw [LA, upd_same, nvs_snoc], ?_, fun x hx => ?_, ⟨more ++ [t], by rw [hmore, List.append_assoc]⟩, fun x hx => ?_, hu sd⟩
              · exact List.nodup_append.mpr ⟨nd', by simp, fun x hx y hy e => hm (by rw [List.mem_singleton.mp hy] at e; rw [← e]; exact hx)⟩
              · rcases List.mem_append.mp hx with z | z
                · exact hrs' x z
                · rw [List.mem_singleton.mp z]
                  obtain ⟨s0, hs0, rr⟩ := hrs u huF
                  exact ⟨s0, hs0, .step rr htE⟩
              · rcases mem_take_succ ht hx with z | z
                · exact List.mem_append_left _ (hj x z)
                · rw [z]
                  simp
          · rintro σ Hd ⟨fo', v3, rfl, hf', nd', hrs', ⟨more, hmore⟩, hj, sd⟩
            rw [nvs_len, List.take_length] at hj
            refine ⟨fo', _, _, rfl, hf', nd', hrs', fun x hx => by rw [hmore]; exact List.mem_append_left _ (hi x hx), fun i u' h1 h2 v hv => ?_, sd⟩
            by_cases hik : i = k
            · subst hik
              rw [hmore, List.getElem?_append_left e, hu'] at h2
              cases h2
              exact hj v hv
            · rw [hmore, List.getElem?_append_left (by omega)] at h2
              rw [hmore]
              exact List.mem_append_left _ (hcl i u' (by omega) h2 v hv)
        · have e : ¬ k < fo.length := fun z => e (decide_eq_true (by rw [nvs_len]; omega))
          refine ⟨fo, _, _, rfl, hf, nd, hrs, hi, fun i u h1 h2 v hv => ?_, sc⟩
          have := (List.getElem?_eq_some_iff.mp h2).1
          exact hcl i u (by omega) h2 v hv
      · rintro σ Hc ⟨fo, v3, v4, rfl, hf, nd, hrs, hi, hcl, sc⟩
        rw [Int.toNat_natCast, List.length_map, hap.len] at hcl
        have hfl := short nd hrs
        have clo : ∀ u, u ∈ fo → ∀ v, v ∈ gE G u → v ∈ fo := fun u hu' v hv => by
          obtain ⟨i, hi', ei⟩ := List.getElem_of_mem hu'
          exact hcl i u (by omega) (by rw [List.getElem?_eq_getElem hi', ei]) v hv
        refine ⟨.ref fa, rfl, fa, fo.map fun n : Nat => (n : Int), rfl, SqL.of (by rw [← nvs_cast]; exact hf), (by rw [List.length_map]; omega), fun ms' sp perm srt nsp => ?_⟩
        obtain ⟨qs, e1, e2, e3, e4⟩ := sorted_nodes perm srt nd
        rw [e1]
        refine q _ sp qs (fun c u z => same_upd nsp c u (sc c u z)) upd_same e2 fun v => (e3 v).trans ⟨hrs v, fun h => ?_⟩
        obtain ⟨s0, hs0, rr⟩ := h
        exact rr.closed (P := fun v => v ∈ fo) (fun x y hx hy => clo x hx y hy) (hi s0 hs0)
/-! ### _law_says_blocks -/
abbrev ssays_blocks : Stmt := topS 42
abbrev nsays_blocks : List Str := ["_law_actual"]
theorem scsays_blocks : FnScope nsays_blocks ["_law_actual"] (defScope ssays_blocks) := ⟨rfl, rfl, rfl, by decide +kernel, rfl, by decide +kernel, by decide +kernel⟩
def spsays : Sp := fun vs H Q _ => ∃ t : Addr, vs = [.ref t] ∧ ((∃ (l : Addr) (xs : List V), H t = some (.tup [.str "blocks", .ref l]) ∧ H l = some (.lst xs) ∧ Q (.bl true) H) ∨ (∃ p l : Addr, H t = some (.tup [.str "cycle", .ref p, .ref l]) ∧ Q (.bl false) H))
theorem ok_says {f : Addr} {fd : FuncData} (F : Fun K "_law_says_blocks" "_law_says_blocks" ssays_blocks f fd) (mis : mg "isinstance" = none) (ml : mg "len" = none) (m_tuple : mg "tuple" = none) (m_str : mg "str" = none) (m_list : mg "list" = none) : FnOk P w K mg base CX0 1 f fd ["_law_actual"] spsays := by
  have SC := scsays_blocks
  refine F.ok SC (fun vs H Q E h => ?_) (fun cdv A outer s H vs Q E hr h => ?_)
  · obtain ⟨t, rfl, _⟩ := h
    rfl
  · refine ⟨_,
    (pss_cons (ps_if (PW.pt (pw_or (pt_not (pt_val (pe_callB call_isi (by rfl) mis boot_isinstance (pa_cons (pv 0) (pa_cons (pe_bltn (v := .ty "tuple") (by rfl) m_tuple (by decide +kernel) rfl) pa_nil))))) (pw_or1 (pt_cmpR op_ne (pe_callB call_len_seq (by rfl) ml PySem.boot_len (pa_cons (pv 0) pa_nil)) pe_int (nomark _)))))
      (pss_one (ps_ret pe_bl)) pss_nil)
    (pss_one (ps_ret (pe_and (pe_callB call_isi (by rfl) mis boot_isinstance (pa_cons (pe_ix ix_tup (pv 0) pe_int (fun _ _ => rfl)) (pa_cons (pe_bltn (v := .ty "str") (by rfl) m_str (by decide +kernel) rfl) pa_nil))) (pe_and (pe_cmpR op_eq (pe_ix ix_tup (pv 0) pe_int (fun _ _ => rfl)) pe_str (nomark _)) (pe_one (pe_callB call_isi (by rfl) mis boot_isinstance (pa_cons (pe_ix ix_tup (pv 0) pe_int (fun _ _ => rfl)) (pa_cons (pe_bltn (v := .ty "list") (by rfl) m_list (by decide +kernel) rfl) pa_nil))))))))), ?_⟩
    obtain ⟨t, rfl, ⟨l, xs, ht, hl, q⟩ | ⟨p, l, ht, q⟩⟩ := h
    · refine ⟨.ref t, rfl, .ref t, .ty "tuple", .type "tuple", .type "tuple", true, rfl, .ty _, .base (.tup ht), kit_ty (by decide +kernel), true, rfl, notF ⟨.ref t, rfl, t, _, rfl, .inr (SqT.of ht), rfl, _, rfl, ite2 (fun e => absurd e (ne_self _)) (fun _ => ?_)⟩⟩
      refine ⟨.ref t, rfl, t, _, 0, .str "blocks", rfl, rfl, SqT.of ht, atI_nat (j := 0) rfl, .str "blocks", .ty "str", .type "str", .type "str", true, rfl, .ty _, .base (.str _), kit_ty (by decide +kernel), true, rfl, iteT ?_⟩
      refine ⟨.ref t, rfl, t, _, 0, .str "blocks", rfl, rfl, SqT.of ht, atI_nat (j := 0) rfl, rfl, true, by rw [decide_eq_true rfl], iteT ?_⟩
      exact ⟨.ref t, rfl, t, _, 1, .ref l, rfl, rfl, SqT.of ht, atI_nat (j := 1) rfl, .ref l, .ty "list", .type "list", .type "list", true, rfl, .ty _, .base (.lst hl), kit_ty (by decide +kernel), q⟩
    · refine ⟨.ref t, rfl, .ref t, .ty "tuple", .type "tuple", .type "tuple", true, rfl, .ty _, .base (.tup ht), kit_ty (by decide +kernel), true, rfl, notF ⟨.ref t, rfl, t, _, rfl, .inr (SqT.of ht), rfl, _, rfl, ite2 (fun _ => q) (fun e => absurd (show (!decide (V.int 3 = V.int 2)) = true by decide +kernel) e)⟩⟩
/-! ### _law_is_block -/
abbrev sis_block : Stmt := topS 43
abbrev nis_block : List Str := ["_law_block", "_law_node", "_law_k"]
theorem scis_block : FnScope nis_block ["_law_block"] (defScope sis_block) := ⟨rfl, rfl, rfl, by decide +kernel, rfl, by decide +kernel, by decide +kernel⟩
def spis_block : Sp := fun vs H Q _ => ∃ (t la ia : Addr) (why : Str) (num : Nat) (ns : List Nat) (xs : List V), vs = [.ref t] ∧ H t = some (.tup [.str why, nv num, .ref la, .ref ia]) ∧ LA H la ns ∧ H ia = some (.lst xs) ∧ Asc ns ∧ ns ≠ [] ∧ ns.length ≤ 1000 ∧ ∀ H', Same H H' → Q (.bl true) H'
theorem ok_is_block {f fI : Addr} {fd fdI : FuncData} (F : Fun K "_law_is_block" "_law_is_block" sis_block f fd) (D_is_integer : Df K mg "_law_is_integer" 34 ["_law_actual"] fI fdI) (G_is_integer : FnOk P w K mg base CX0 1 fI fdI ["_law_actual"] spis_integer)
    (mis : mg "isinstance" = none) (ml : mg "len" = none) (mr : mg "range" = none) (m_tuple : mg "tuple" = none) (m_str : mg "str" = none) (m_list : mg "list" = none) : FnOk P w K mg base CX0 2 f fd ["_law_block"] spis_block := by
  have SC := scis_block
  refine F.ok SC (fun vs H Q E h => ?_) (fun cdv A outer s H vs Q E hr h => ?_)
  · obtain ⟨t, la, ia, why, num, ns, xs, rfl, _⟩ := h
    rfl
  · refine ⟨_,
    (pss_cons (ps_if (PW.pt (pw_or (pt_not (pt_val (pe_callB call_isi (by rfl) mis boot_isinstance (pa_cons (pv 0) (pa_cons (pe_bltn (v := .ty "tuple") (by rfl) m_tuple (by decide +kernel) rfl) pa_nil))))) (pw_or1 (pt_cmpR op_ne (pe_callB call_len_seq (by rfl) ml PySem.boot_len (pa_cons (pv 0) pa_nil)) pe_int (nomark _)))))
      (pss_one (ps_ret pe_bl)) pss_nil)
    (pss_cons (ps_if (PW.pt (pw_or (pt_not (pt_val (pe_callB call_isi (by rfl) mis boot_isinstance (pa_cons (pe_ix ix_tup (pv 0) pe_int (fun _ _ => rfl)) (pa_cons (pe_bltn (v := .ty "str") (by rfl) m_str (by decide +kernel) rfl) pa_nil))))) (pw_or1 (pt_not (pt_val (pe_call G_is_integer (hr.mono (by omega)) (by rfl) D_is_integer.g D_is_integer.F.kp D_is_integer.b .nil pass0 (pa_cons (pe_ix ix_tup (pv 0) pe_int (fun _ _ => rfl)) pa_nil)))))))
      (pss_one (ps_ret pe_bl)) pss_nil)
    (pss_cons (ps_if (PW.pt (pw_or (pt_not (pt_val (pe_callB call_isi (by rfl) mis boot_isinstance (pa_cons (pe_ix ix_tup (pv 0) pe_int (fun _ _ => rfl)) (pa_cons (pe_bltn (v := .ty "list") (by rfl) m_list (by decide +kernel) rfl) pa_nil))))) (pw_or (pt_not (pt_val (pe_callB call_isi (by rfl) mis boot_isinstance (pa_cons (pe_ix ix_tup (pv 0) pe_int (fun _ _ => rfl)) (pa_cons (pe_bltn (v := .ty "list") (by rfl) m_list (by decide +kernel) rfl) pa_nil))))) (pw_or1 (pt_cmpR (op_eqD hr.units) (pe_ix ix_tup (pv 0) pe_int (fun _ _ => rfl)) (pe_lst pa_nil) (nomark _))))))
      (pss_one (ps_ret pe_bl)) pss_nil)
    (pss_cons (ps_for PassesOwn.never rfl (pi_list (pe_ix ix_tup (pv 0) pe_int (fun _ _ => rfl))) (pg_name (i := 1) SC.nd rfl (.inl rfl))
      (pss_one (ps_if (pt_not (pt_val (pe_call G_is_integer (hr.mono (by omega)) (by rfl) D_is_integer.g D_is_integer.F.kp D_is_integer.b .nil pass0 (pa_cons (pv 1) pa_nil))))
        (pss_one (ps_ret pe_bl)) pss_nil)))
    (pss_cons (ps_for PassesOwn.never rfl (pi_range2 (by rfl) mr (pa_cons pe_int (pa_cons (pe_callB call_len_seq (by rfl) ml PySem.boot_len (pa_cons (pe_ix ix_tup (pv 0) pe_int (fun _ _ => rfl)) pa_nil)) pa_nil))) (pg_name (i := 2) SC.nd rfl (.inl rfl))
      (pss_one (ps_if (pt_cmpR op_ge (pe_ix ix_list (pe_ix ix_tup (pv 0) pe_int (fun _ _ => rfl)) (pe_op op_subN (pv 2) pe_int) (fun _ _ => rfl)) (pe_ix ix_list (pe_ix ix_tup (pv 0) pe_int (fun _ _ => rfl)) (pv 2) (fun _ _ => rfl)) (nomark _))
        (pss_one (ps_ret pe_bl)) pss_nil)))
    (pss_one (ps_ret pe_bl))))))), ?_⟩
    obtain ⟨t, la, ia, why, num, ns, xs, rfl, ht, hla, hia, asc, hne, hl, q⟩ := h
    refine ⟨.ref t, rfl, .ref t, .ty "tuple", .type "tuple", .type "tuple", true, rfl, .ty _, .base (.tup ht), kit_ty (by decide +kernel), true, rfl, notF ⟨.ref t, rfl, t, _, rfl, .inr (SqT.of ht), rfl, _, rfl, ite2 (fun e => absurd e (ne_self _)) (fun _ => ?_)⟩⟩
    refine ⟨.ref t, rfl, t, _, 0, .str why, rfl, rfl, SqT.of ht, atI_nat (j := 0) rfl, .str why, .ty "str", .type "str", .type "str", true, rfl, .ty _, .base (.str _), kit_ty (by decide +kernel), true, rfl, notF ?_⟩
    refine ⟨.ref t, rfl, t, _, 1, nv num, rfl, rfl, SqT.of ht, atI_nat (j := 1) rfl, num, rfl, true, rfl, notF ?_⟩
    refine ⟨.ref t, rfl, t, _, 2, .ref la, rfl, rfl, SqT.of ht, atI_nat (j := 2) rfl, .ref la, .ty "list", .type "list", .type "list", true, rfl, .ty _, .base (.lst hla), kit_ty (by decide +kernel), true, rfl, notF ?_⟩
    refine ⟨.ref t, rfl, t, _, 3, .ref ia, rfl, rfl, SqT.of ht, atI_nat (j := 3) rfl, .ref ia, .ty "list", .type "list", .type "list", true, rfl, .ty _, .base (.lst hia), kit_ty (by decide +kernel), true, rfl, notF ?_⟩
    refine ⟨.ref t, rfl, t, _, 2, .ref la, rfl, rfl, SqT.of ht, atI_nat (j := 2) rfl, Nat.zero_le _, fun e0 ne0 => ?_⟩
    have s1 : Same H (upd H e0 (.lst [])) := same_upd ne0
    refine ⟨ndat ns, ndat [], dp_nat (s1 la _ hla), dp_nat upd_same, PySem.W.shaped_ints _, PySem.W.shaped_ints _, _, rfl, ?_⟩
    show if PyData.eqv (ndat ns) (ndat []) = true then _ else _
    rw [eqv_nil hne]
    refine iteF ?_
    generalize upd H e0 (.lst []) = H1 at s1 ⊢
    have ht1 := s1 t _ ht
    have hla1 : LA H1 la ns := s1 la _ hla
    refine ⟨.ref t, rfl, t, _, 2, .ref la, rfl, rfl, SqT.of ht1, atI_nat (j := 2) rfl, la, rfl, ⟨_, SqL.of hla1⟩, for_list (K := K) (a := la) (xs := nvs ns) (fun i σ Hc => H1 = Hc ∧ ∃ v1, σ = [some (.ref t), v1, none]) ⟨rfl, _, rfl⟩ (fun i σ Hc _ p => by rw [← p.1]; exact SqL.of hla1) ?_ ?_⟩
    · rintro i x σ Hc hx ⟨rfl, v1, rfl⟩
      obtain ⟨y, hy, rfl⟩ := nvs_get hx
      exact ⟨nv y, rfl, y, rfl, true, rfl, notF ⟨rfl, _, rfl⟩⟩
    · rintro σ Hc ⟨rfl, v1, rfl⟩
      refine ⟨.ref t, rfl, t, _, 2, .ref la, rfl, rfl, SqT.of ht1, atI_nat (j := 2) rfl, la, nvs ns, rfl, .inl (SqL.of hla1), 1, _, rfl, ⟨by decide, by decide, by omega, by rw [nvs_len]; omega⟩, for_range (lo := 1) (n := ((((nvs ns).length : Nat) : Int) - 1).toNat) (fun i σ Hc => H1 = Hc ∧ ∃ v2, σ = [some (.ref t), v1, v2]) ⟨rfl, _, rfl⟩ ?_ ?_⟩
      · rintro i σ Hc hi ⟨rfl, v2, rfl⟩
        rw [nvs_len] at hi
        rw [show (1 : Int) + (i : Int) = ((1 + i : Nat) : Int) by omega]
        obtain ⟨y, ey, hy⟩ := at_lt (ds := ns) (j := 1 + i) (by omega)
        obtain ⟨x, ex, hx⟩ := at_lt (ds := ns) (j := 1 + i - 1) (by omega)
        have hxy : x < y := by
          have h1 := List.pairwise_iff_getElem.mp asc (1 + i - 1) (1 + i) (by omega) (by omega) (by omega)
          rw [List.getElem?_eq_getElem (by omega)] at hx hy
          rw [← Option.some.inj hx, ← Option.some.inj hy]
          exact h1
        refine ⟨.ref t, rfl, t, _, 2, .ref la, rfl, rfl, SqT.of ht1, atI_nat (j := 2) rfl, nv (1 + i), rfl, 1 + i, 1, rfl, rfl, by omega, la, nvs ns, _, nv x, rfl, rfl, SqL.of hla1, ex, .ref t, rfl, t, _, 2, .ref la, rfl, rfl, SqT.of ht1, atI_nat (j := 2) rfl, nv (1 + i), rfl, la, nvs ns, _, nv y, rfl, rfl, SqL.of hla1, ey, _, _, rfl, rfl, _, rfl, ite2 (fun e => ?_) (fun _ => ⟨rfl, _, rfl⟩)⟩
        have := of_decide_eq_true e
        omega
      · rintro σ Hc ⟨rfl, v2, rfl⟩
        exact q _ s1
end
end K56
set_option Elab.async false
set_option linter.all false
set_option maxRecDepth 100000
set_option maxHeartbeats 4000000
/-! K56Li: the law's look at a cycle; at blocks. -/
namespace K56
open PySem PySem.Spec PyProof.Rows L2
theorem LL.lst {H : Hp} {a : Addr} {G : List (List Nat)} (h : LL H a G) : ∃ xs : List V, H a = some (.lst xs) ∧ xs.length = G.length := by
  obtain ⟨ps, h⟩ := h
  exact ⟨_, h.lst, by rw [List.length_map, h.len]⟩
theorem LP.lst {H : Hp} {a : Addr} {C : List (List Nat × List Nat)} (h : LP H a C) : ∃ xs : List V, H a = some (.lst xs) ∧ xs.length = C.length := by
  obtain ⟨ps, h⟩ := h
  exact ⟨_, h.lst, by rw [List.length_map, h.len]⟩
theorem meetB_comm (a b : List Nat) : meetB a b = meetB b a := by
  cases e : meetB b a with
  | true =>
    obtain ⟨x, h1, h2⟩ := meetB_iff.mp e
    exact meetB_iff.mpr ⟨x, h2, h1⟩
  | false =>
    cases e' : meetB a b with
    | false => rfl
    | true =>
      obtain ⟨x, h1, h2⟩ := meetB_iff.mp e'
      rw [meetB_iff.mpr ⟨x, h2, h1⟩] at e
      cases e
section
variable {P : Program} {w : World} {K : PySem.W.Frag} {mg : Str → Option Value} {base : Heap}
/-! ### _law_is_cycle -/
abbrev sis_cycle : Stmt := topS 41
abbrev nis_cycle : List Str := ["_law_after", "_law_starts_here", "_law_actual", "_law_just_here", "_law_pairs_here", "_law_loop", "_law_whole"]
theorem scis_cycle : FnScope nis_cycle ["_law_after", "_law_starts_here", "_law_actual", "_law_just_here", "_law_pairs_here"] (defScope sis_cycle) := ⟨rfl, rfl, rfl, by decide +kernel, rfl, by decide +kernel, by decide +kernel⟩
def spis_cycle : Sp := fun vs H Q _ => ∃ (a b t c d p l : Addr) (G : List (List Nat)) (S : List Nat) (J : List (List Nat)) (C : List (List Nat × List Nat)) (path loop : List Nat), vs = [.ref a, .ref b, .ref t, .ref c, .ref d] ∧ LL H a G ∧ LA H b S ∧ H t = some (.tup [.str "cycle", .ref p, .ref l]) ∧ LA H p path ∧ LA H l loop ∧ LL H c J ∧ LP H d C ∧
  Cyc G J C S path loop ∧ G.length ≤ 60 ∧ J.length ≤ 40 ∧ C.length ≤ 40 ∧ ∀ H', Same H H' → Q (.bl true) H'
theorem ok_is_cycle {f fN fW fF : Addr} {fd fdN fdW fdF : FuncData} (F : Fun K "_law_is_cycle" "_law_is_cycle" sis_cycle f fd) (D_is_nodes : Df K mg "_law_is_nodes" 35 ["_law_actual", "_law_size"] fN fdN) (G_is_nodes : FnOk P w K mg base CX0 2 fN fdN ["_law_actual", "_law_size"] spis_nodes)
    (D_is_walk : Df K mg "_law_is_walk" 37 ["_law_after", "_law_walk"] fW fdW) (G_is_walk : FnOk P w K mg base CX0 1 fW fdW ["_law_after", "_law_walk"] spis_walk) (D_fair : Df K mg "_law_fair" 40 ["_law_loop", "_law_just_here", "_law_pairs_here"] fF fdF) (G_fair : FnOk P w K mg base CX0 2 fF fdF ["_law_loop", "_law_just_here", "_law_pairs_here"] spLfair)
    (mis : mg "isinstance" = none) (ml : mg "len" = none) (m_tuple : mg "tuple" = none) (m_str : mg "str" = none) : FnOk P w K mg base CX0 3 f fd ["_law_after", "_law_starts_here", "_law_actual", "_law_just_here", "_law_pairs_here"] spis_cycle := by
  have SC := scis_cycle
  refine F.ok SC (fun vs H Q E h => ?_) (fun cdv A outer s H vs Q E hr h => ?_)
  · obtain ⟨a, b, t, c, d, p, l, G, S, J, C, path, loop, rfl, _⟩ := h
    rfl
  · refine ⟨_,
    (pss_cons (ps_if (PW.pt (pw_or (pt_not (pt_val (pe_callB call_isi (by rfl) mis boot_isinstance (pa_cons (pv 2) (pa_cons (pe_bltn (v := .ty "tuple") (by rfl) m_tuple (by decide +kernel) rfl) pa_nil))))) (pw_or1 (pt_cmpR op_ne (pe_callB call_len_seq (by rfl) ml PySem.boot_len (pa_cons (pv 2) pa_nil)) pe_int (nomark _)))))
      (pss_one (ps_ret pe_bl)) pss_nil)
    (pss_cons (ps_if (PW.pt (pw_or (pt_not (pt_val (pe_callB call_isi (by rfl) mis boot_isinstance (pa_cons (pe_ix ix_tup (pv 2) pe_int (fun _ _ => rfl)) (pa_cons (pe_bltn (v := .ty "str") (by rfl) m_str (by decide +kernel) rfl) pa_nil))))) (pw_or1 (pt_cmpR op_ne (pe_ix ix_tup (pv 2) pe_int (fun _ _ => rfl)) pe_str (nomark _)))))
      (pss_one (ps_ret pe_bl)) pss_nil)
    (pss_cons (ps_if (PW.pt (pw_or (pt_not (pt_val (pe_call G_is_nodes (hr.mono (by omega)) (by rfl) D_is_nodes.g D_is_nodes.F.kp D_is_nodes.b .nil pass0 (pa_cons (pe_ix ix_tup (pv 2) pe_int (fun _ _ => rfl)) (pa_cons (pe_callB call_len_seq (by rfl) ml PySem.boot_len (pa_cons (pv 0) pa_nil)) pa_nil))))) (pw_or1 (pt_not (pt_val (pe_call G_is_nodes (hr.mono (by omega)) (by rfl) D_is_nodes.g D_is_nodes.F.kp D_is_nodes.b .nil pass0 (pa_cons (pe_ix ix_tup (pv 2) pe_int (fun _ _ => rfl)) (pa_cons (pe_callB call_len_seq (by rfl) ml PySem.boot_len (pa_cons (pv 0) pa_nil)) pa_nil))))))))
      (pss_one (ps_ret pe_bl)) pss_nil)
    (pss_cons (ps_set (i := 5) SC.nd rfl (.inl rfl) (pe_ix ix_tup (pv 2) pe_int (fun _ _ => rfl)))
    (pss_cons (ps_set (i := 6) SC.nd rfl (.inl rfl) (pe_op op_cat (pe_ix ix_tup (pv 2) pe_int (fun _ _ => rfl)) (pv 5)))
    (pss_cons (ps_if (PW.pt (pw_or (pt_cmpR (op_eqD hr.units) (pv 5) (pe_lst pa_nil) (nomark _)) (pw_or (pt_cmpR op_notIn_seq (pe_ix ix_list (pv 6) pe_int (fun _ _ => rfl)) (pv 1) (by rfl)) (pw_or1 (pt_not (pt_val (pe_call G_is_walk (hr.mono (by omega)) (by rfl) D_is_walk.g D_is_walk.F.kp D_is_walk.b .nil pass0 (pa_cons (pv 0) (pa_cons (pv 6) pa_nil)))))))))
      (pss_one (ps_ret pe_bl)) pss_nil)
    (pss_cons (ps_if (pt_cmpR op_notIn_seq (pe_ix ix_list (pv 5) pe_int (fun _ _ => rfl)) (pe_ix ix_list (pv 0) (pe_ix ix_list (pv 5) (pe_op op_subN (pe_callB call_len_seq (by rfl) ml PySem.boot_len (pa_cons (pv 5) pa_nil)) pe_int) (fun _ _ => rfl)) (fun _ _ => rfl)) (by rfl))
      (pss_one (ps_ret pe_bl)) pss_nil)
    (pss_cons (ps_if (pt_cmpR op_gt (pe_callB call_len_seq (by rfl) ml PySem.boot_len (pa_cons (pv 6) pa_nil)) (pe_op op_mulN (pe_callB call_len_seq (by rfl) ml PySem.boot_len (pa_cons (pv 0) pa_nil)) (pe_op op_addN (pe_op op_addN (pe_callB call_len_seq (by rfl) ml PySem.boot_len (pa_cons (pv 3) pa_nil)) (pe_callB call_len_seq (by rfl) ml PySem.boot_len (pa_cons (pv 4) pa_nil))) pe_int)) (nomark _))
      (pss_one (ps_ret pe_bl)) pss_nil)
    (pss_one (ps_ret (pe_call G_fair (hr.mono (by omega)) (by rfl) D_fair.g D_fair.F.kp D_fair.b .nil pass0 (pa_cons (pv 5) (pa_cons (pv 3) (pa_cons (pv 4) pa_nil)))))))))))))), ?_⟩
    obtain ⟨a, b, t, c, d, p, l, G, S, J, C, path, loop, rfl, ha, hb, ht, hp, hl, hc, hd, cy, hG, hJ, hC, q⟩ := h
    obtain ⟨xa, ea, la⟩ := ha.lst
    obtain ⟨xc, ec, lc⟩ := hc.lst
    obtain ⟨xd, ed, ld⟩ := hd.lst
    have hwl := cy.len
    have hbig : G.length * (J.length + C.length + 2) ≤ 60 * 82 := Nat.mul_le_mul hG (by omega)
    have hpl : path.length + loop.length ≤ 100000 := by
      rw [List.length_append] at hwl
      omega
    refine ⟨.ref t, rfl, .ref t, .ty "tuple", .type "tuple", .type "tuple", true, rfl, .ty _, .base (.tup ht), kit_ty (by decide +kernel), true, rfl, notF ⟨.ref t, rfl, t, _, rfl, .inr (SqT.of ht), rfl, _, rfl, ite2 (fun e => absurd e (ne_self _)) (fun _ => ?_)⟩⟩
    refine ⟨.ref t, rfl, t, _, 0, .str "cycle", rfl, rfl, SqT.of ht, atI_nat (j := 0) rfl, .str "cycle", .ty "str", .type "str", .type "str", true, rfl, .ty _, .base (.str _), kit_ty (by decide +kernel), true, rfl, notF ?_⟩
    refine ⟨.ref t, rfl, t, _, 0, .str "cycle", rfl, rfl, SqT.of ht, atI_nat (j := 0) rfl, rfl, _, rfl, ite2 (fun e => absurd e (ne_self _)) (fun _ => ?_)⟩
    refine ⟨.ref t, rfl, t, _, 1, .ref p, rfl, rfl, SqT.of ht, atI_nat (j := 1) rfl, .ref a, rfl, a, xa, rfl, .inl (SqL.of ea), p, path, G.length, (by rw [la]; rfl), hp, fun x hx => cy.lt x (List.mem_append_left _ hx), true, rfl, notF ?_⟩
    refine ⟨.ref t, rfl, t, _, 2, .ref l, rfl, rfl, SqT.of ht, atI_nat (j := 2) rfl, .ref a, rfl, a, xa, rfl, .inl (SqL.of ea), l, loop, G.length, (by rw [la]; rfl), hl, fun x hx => cy.lt x (List.mem_append_right _ hx), true, rfl, notF ?_⟩
    refine ⟨.ref t, rfl, t, _, 2, .ref l, rfl, rfl, SqT.of ht, atI_nat (j := 2) rfl, ?_⟩
    refine ⟨.ref t, rfl, t, _, 1, .ref p, rfl, rfl, SqT.of ht, atI_nat (j := 1) rfl, .ref l, rfl, p, l, nvs path, nvs loop, rfl, rfl, hp, hl, (by rw [nvs_len, nvs_len]; exact line1000' hpl), fun wa nwa => ?_⟩
    have s1 : Same H (upd H wa (.lst (nvs path ++ nvs loop))) := same_upd nwa
    have hw1 : LA (upd H wa (.lst (nvs path ++ nvs loop))) wa (path ++ loop) := by rw [LA, upd_same, nvs_app]
    generalize upd H wa (.lst (nvs path ++ nvs loop)) = H1 at s1 hw1 ⊢
    refine ⟨.ref l, rfl, Nat.zero_le _, fun e0 ne0 => ?_⟩
    have s2 : Same H1 (upd H1 e0 (.lst [])) := same_upd ne0
    refine ⟨ndat loop, ndat [], dp_nat (s2 l _ (s1 l _ hl)), dp_nat upd_same, PySem.W.shaped_ints _, PySem.W.shaped_ints _, _, rfl, ?_⟩
    show if PyData.eqv (ndat loop) (ndat []) = true then _ else _
    rw [eqv_nil cy.ne]
    refine iteF ?_
    have hw2 : LA (upd H1 e0 (.lst [])) wa (path ++ loop) := s2 wa _ hw1
    have s12 : Same H (upd H1 e0 (.lst [])) := s1.trans s2
    generalize upd H1 e0 (.lst []) = H2 at s12 hw2 ⊢
    have hl0 : 0 < loop.length := List.length_pos_iff.mpr cy.ne
    obtain ⟨x0, ex0, hx0⟩ := at_lt (ds := path ++ loop) (j := 0) (by rw [List.length_append]; omega)
    have hx0S := cy.st x0 hx0
    have hb2 : LA H2 b S := s12 b _ hb
    have hl2 : LA H2 l loop := s12 l _ hl
    have ha2 : LL H2 a G := ha.same s12
    refine ⟨.ref wa, rfl, wa, nvs (path ++ loop), 0, nv x0, rfl, rfl, SqL.of hw2, ex0, .ref b, rfl, b, nvs S, rfl, .inl (SqL.of hb2), rfl, flat_nvs S, _, rfl, ?_⟩
    show if (!inV (nv x0) (nvs S)) = true then _ else _
    rw [inV_nv, decide_eq_true hx0S]
    refine notF ⟨.ref a, rfl, .ref wa, rfl, a, wa, G, path ++ loop, rfl, ha2, hw2, cy.ch, cy.lt, (by rw [List.length_append]; exact hpl), true, rfl, notF ?_⟩
    obtain ⟨g, eg, hg⟩ := at_lt (ds := loop) (j := 0) hl0
    obtain ⟨z, ez, hz⟩ := at_lt (ds := loop) (j := loop.length - 1) (by omega)
    have hzg := cy.close z g hz hg
    obtain ⟨xs, r, e1, e2, e3⟩ := ha2.at (cy.lt z (List.mem_append_right _ (List.mem_of_getElem? hz)))
    refine ⟨.ref l, rfl, l, nvs loop, 0, nv g, rfl, rfl, SqL.of hl2, eg, .ref a, rfl, .ref l, rfl, .ref l, rfl, l, nvs loop, rfl, .inl (SqL.of hl2), (nvs loop).length, 1, rfl, rfl, (by rw [nvs_len]; omega), l, nvs loop, _, nv z, rfl, rfl, SqL.of hl2, (by rw [nvs_len]; exact ez), a, xs, _, .ref r, rfl, rfl, SqL.of e1, e2, r, nvs (gE G z), rfl, .inl (SqL.of e3), rfl, flat_nvs _, _, rfl, ?_⟩
    show if (!inV (nv g) (nvs (gE G z))) = true then _ else _
    rw [inV_nv, decide_eq_true hzg]
    refine notF ?_
    refine ⟨.ref wa, rfl, wa, nvs (path ++ loop), rfl, .inl (SqL.of hw2), .ref a, rfl, a, xa, rfl, .inl (SqL.of (s12 a _ ea)), .ref c, rfl, c, xc, rfl, .inl (SqL.of (s12 c _ ec)), .ref d, rfl, d, xd, rfl, .inl (SqL.of (s12 d _ ed)), xc.length, xd.length, rfl, rfl, _, 2, rfl, rfl, xa.length, _, rfl, rfl, (by omega), _, _, rfl, rfl, _, rfl, ite2 (fun e => ?_) (fun _ => ?_)⟩
    · have := of_decide_eq_true e
      rw [nvs_len, la, lc, ld] at this
      omega
    · refine ⟨.ref l, rfl, .ref c, rfl, .ref d, rfl, l, c, d, loop, J, C, rfl, hl2, hc.same s12, hd.same s12, fun j hj => ?_, fun k hk h => ?_, q H2 s12⟩
      · exact meetB_iff.mpr (cy.jus j hj)
      · exact meetB_iff.mpr (cy.com k hk (meetB_iff.mp h))
/-! ### _law_good_blocks, _law_good_reason -/
/-! ### _law_good_blocks -/
abbrev sgood_blocks : Stmt := topS 44
abbrev ngood_blocks : List Str := ["_law_after", "_law_nodes", "_law_blocks", "_law_just_here", "_law_pairs_here", "_law_levels", "_law_listed", "_law_block", "_law_k", "_law_m"]
theorem scgood_blocks : FnScope ngood_blocks ["_law_after", "_law_nodes", "_law_blocks", "_law_just_here", "_law_pairs_here", "_law_levels"] (defScope sgood_blocks) := ⟨rfl, rfl, rfl, by decide +kernel, rfl, by decide +kernel, by decide +kernel⟩
/-! ### _law_good_reason -/
abbrev sgood_reason : Stmt := topS 45
abbrev ngood_reason : List Str := ["_law_after", "_law_block", "_law_just_here", "_law_pairs_here", "_law_levels", "_law_number", "_law_rest", "_law_v"]
theorem scgood_reason : FnScope ngood_reason ["_law_after", "_law_block", "_law_just_here", "_law_pairs_here", "_law_levels"] (defScope sgood_reason) := ⟨rfl, rfl, rfl, by decide +kernel, rfl, by decide +kernel, by decide +kernel⟩
abbrev gbN : List Str := ["_law_after", "_law_nodes", "_law_blocks", "_law_just_here", "_law_pairs_here", "_law_levels"]
abbrev grN : List Str := ["_law_after", "_law_block", "_law_just_here", "_law_pairs_here", "_law_levels"]
def spgb (lev : Nat) : Sp := fun vs H Q _ => ∃ (a n b c d : Addr) (G : List (List Nat)) (ns : List Nat) (J : List (List Nat)) (C : List (List Nat × List Nat)), vs = [.ref a, .ref n, .ref b, .ref c, .ref d, nv lev] ∧ LL H a G ∧ LA H n ns ∧ Asc ns ∧ LL H c J ∧ LP H d C ∧ (∀ x, x ∈ ns → x < G.length) ∧ ns.length ≤ 60 ∧
  GoodAt G J C H lev b ns ∧ ∀ H', Same H H' → Q (.bl true) H'
def spgr (lev : Nat) : Sp := fun vs H Q _ => ∃ (a c d : Addr) (G : List (List Nat)) (J : List (List Nat)) (C : List (List Nat × List Nat)) (k : Bk), vs = [.ref a, .ref k.ad, .ref c, .ref d, nv (lev + 1)] ∧ LL H a G ∧ LL H c J ∧ LP H d C ∧ (∀ x, x ∈ k.ns → x < G.length) ∧ k.ns.length ≤ 60 ∧
  BkOk G J C H (GoodAt G J C H lev) k ∧ ∀ H', Same H H' → Q (.bl true) H'
theorem ok_gb0 {f : Addr} {fd : FuncData} {k : Nat} : FnOk P w K mg base CX0 k f fd gbN (spgb 0) :=
  ⟨fun _ _ _ _ h => by obtain ⟨_, _, _, _, _, _, _, _, _, _, _, _, _, _, _, _, _, g, _⟩ := h; exact (show False from g).elim, fun _ _ _ _ _ _ _ _ _ _ _ _ _ h => by obtain ⟨_, _, _, _, _, _, _, _, _, _, _, _, _, _, _, _, _, g, _⟩ := h; exact (show False from g).elim⟩
theorem ok_gr {f fB fL fM : Addr} {fd fdB fdL fdM : FuncData} {lev k : Nat} (F : Fun K "_law_good_reason" "_law_good_reason" sgood_reason f fd) (D_good_blocks : Df K mg "_law_good_blocks" 44 gbN fB fdB) (G_good_blocks : FnOk P w K mg base CX0 (k + 3) fB fdB gbN (spgb lev))
    (D_leads : Df K mg "_law_leads" 39 ["_law_after", "_law_one", "_law_other"] fL fdL) (G_leads : FnOk P w K mg base CX0 2 fL fdL ["_law_after", "_law_one", "_law_other"] spLleads) (D_meets : Df K mg "_law_meets" 38 ["_law_one", "_law_other"] fM fdM) (G_meets : FnOk P w K mg base CX0 1 fM fdM ["_law_one", "_law_other"] spLmeets)
    (ml : mg "len" = none) : FnOk P w K mg base CX0 (k + 4) f fd grN (spgr lev) := by
  have SC := scgood_reason
  refine F.ok SC (fun vs H Q E h => ?_) (fun cdv A outer s H vs Q E hr h => ?_)
  · obtain ⟨a, c, d, G, J, C, kk, rfl, _⟩ := h
    rfl
  · refine ⟨_,
    (pss_cons (ps_set (i := 5) SC.nd rfl (.inr rfl) (pe_ix ix_tup (pv 1) pe_int (fun _ _ => rfl)))
    (pss_cons (ps_if (pt_cmpR op_eq (pe_ix ix_tup (pv 1) pe_int (fun _ _ => rfl)) pe_str (nomark _))
      (pss_one (ps_ret (pe_and (pe_cmpR op_eq (pv 5) pe_int (nomark _)) (pe_and (pe_cmpR (op_eqD hr.units) (pe_ix ix_tup (pv 1) pe_int (fun _ _ => rfl)) (pe_lst pa_nil) (nomark _)) (pe_one (pe_not (pe_call G_leads (hr.mono (by omega)) (by rfl) D_leads.g D_leads.F.kp D_leads.b .nil pass0 (pa_cons (pv 0) (pa_cons (pe_ix ix_tup (pv 1) pe_int (fun _ _ => rfl)) (pa_cons (pe_ix ix_tup (pv 1) pe_int (fun _ _ => rfl)) pa_nil)))))))))) pss_nil)
    (pss_cons (ps_if (pt_cmpR op_eq (pe_ix ix_tup (pv 1) pe_int (fun _ _ => rfl)) pe_str (nomark _))
      (pss_one (ps_ret (pe_and (pe_chain op_le op_lt pe_int (pv 5) (pe_callB call_len_seq (by rfl) ml PySem.boot_len (pa_cons (pv 2) pa_nil))) (pe_and (pe_cmpR (op_eqD hr.units) (pe_ix ix_tup (pv 1) pe_int (fun _ _ => rfl)) (pe_lst pa_nil) (nomark _)) (pe_one (pe_not (pe_call G_meets (hr.mono (by omega)) (by rfl) D_meets.g D_meets.F.kp D_meets.b .nil pass0 (pa_cons (pe_ix ix_list (pv 2) (pv 5) (fun _ _ => rfl)) (pa_cons (pe_ix ix_tup (pv 1) pe_int (fun _ _ => rfl)) pa_nil))))))))) pss_nil)
    (pss_cons (ps_if (PW.pt (pw_or (pt_cmpR op_ne (pe_ix ix_tup (pv 1) pe_int (fun _ _ => rfl)) pe_str (nomark _)) (pw_or (pt_cmpR op_lt (pv 5) pe_int (nomark _)) (pw_or1 (pt_cmpR op_ge (pv 5) (pe_callB call_len_seq (by rfl) ml PySem.boot_len (pa_cons (pv 3) pa_nil)) (nomark _))))))
      (pss_one (ps_ret pe_bl)) pss_nil)
    (pss_cons (ps_if (pt_val (pe_call G_meets (hr.mono (by omega)) (by rfl) D_meets.g D_meets.F.kp D_meets.b .nil pass0 (pa_cons (pe_ix ix_tup (pe_ix ix_list (pv 3) (pv 5) (fun _ _ => rfl)) pe_int (fun _ _ => rfl)) (pa_cons (pe_ix ix_tup (pv 1) pe_int (fun _ _ => rfl)) pa_nil))))
      (pss_one (ps_ret pe_bl)) pss_nil)
    (pss_cons (ps_setLc (i := 6) (own := [("_law_v", 7)]) (g := gName 7) rfl SC.nd rfl rfl (sw_true rfl rfl rfl (by decide +kernel)) (pi_list (pe_ix ix_tup (pv 1) pe_int (fun _ _ => rfl))) (blkOk_by (N := ngood_reason) (sc := defScope sgood_reason) (by decide +kernel)) (fun _ _ _ _ _ => pg_name (i := 7) SC.nd rfl (.inl rfl)) (fun _ _ _ _ _ => pts_one (pt_cmpR (op_notIn_seqK (K := K) rfl) (pv 7) (pe_ix (ix_tupK (K := K) rfl) (pe_ix (ix_listK (K := K) rfl) (pv 3) (pv 5) (fun _ _ => rfl)) pe_int (fun _ _ => rfl)) (by rfl))) (fun _ _ _ _ _ => (pv 7)))
    (pss_one (ps_ret (pe_call G_good_blocks (hr.mono (by omega)) (by rfl) D_good_blocks.g D_good_blocks.F.kp D_good_blocks.b .nil pass0 (pa_cons (pv 0) (pa_cons (pv 6) (pa_cons (pe_ix ix_tup (pv 1) pe_int (fun _ _ => rfl)) (pa_cons (pv 2) (pa_cons (pv 3) (pa_cons (pe_op op_subN (pv 4) pe_int) pa_nil))))))))))))))), ?_⟩
    obtain ⟨a, c, d, G, J, C, ⟨t, why, num, ns, la, ia⟩, rfl, ha, hc, hd, hlt, hl60, ⟨ht, hla, asc, hne, rs⟩, q⟩ := h
    have ht : H t = some (.tup [.str why, nv num, .ref la, .ref ia]) := ht
    have hla : LA H la ns := hla
    have hlt : ∀ x, x ∈ ns → x < G.length := hlt
    have htq : SqT K H t [.str why, nv num, .ref la, .ref ia] := SqT.of ht
    refine ⟨.ref t, rfl, t, _, 1, nv num, rfl, rfl, htq, atI_nat (j := 1) rfl, ?_⟩
    refine ⟨.ref t, rfl, t, _, 0, .str why, rfl, rfl, htq, atI_nat (j := 0) rfl, rfl, _, rfl, ?_⟩
    rcases rs with ⟨hw, hnum, hia, hled⟩ | ⟨hw, hia, j, hj, hm⟩ | ⟨hw, F1, S1, hcc, hm, hgood⟩
    · have hw : why = "once" := hw
      subst hw
      refine ite2 (fun _ => ?_) (fun e => absurd (decide_eq_true rfl) e)
      have hnum : num = 0 := hnum
      subst hnum
      refine ⟨nv 0, rfl, rfl, true, congrArg V.bl (decide_eq_true (show nv 0 = V.int 0 from rfl)), iteT ?_⟩
      refine ⟨.ref t, rfl, t, _, 3, .ref ia, rfl, rfl, htq, atI_nat (j := 3) rfl, Nat.zero_le _, fun e0 ne0 => ?_⟩
      have s2 : Same H (upd H e0 (.lst [])) := same_upd ne0
      have hia : LA H ia [] := hia
      refine ⟨ndat [], ndat [], dp_nat (s2 ia _ hia), dp_nat upd_same, PySem.W.shaped_ints _, PySem.W.shaped_ints _, true, by rw [eqv_self], iteT ?_⟩
      have ht2 := s2 t _ ht
      refine ⟨.ref a, rfl, .ref t, rfl, t, _, 2, .ref la, rfl, rfl, SqT.of ht2, atI_nat (j := 2) rfl, .ref t, rfl, t, _, 2, .ref la, rfl, rfl, SqT.of ht2, atI_nat (j := 2) rfl, a, la, la, G, ns, ns, rfl, ha.same s2, s2 la _ hla, s2 la _ hla, hlt, false, by rw [show leadB G ns ns = false from hled], q _ s2⟩
    · have hw : why = "justice" := hw
      subst hw
      refine ite2 (fun e => absurd e (by decide +kernel)) (fun _ => ?_)
      refine ⟨.ref t, rfl, t, _, 0, .str "justice", rfl, rfl, htq, atI_nat (j := 0) rfl, rfl, _, rfl, ?_⟩
      refine ite2 (fun _ => ?_) (fun e => absurd (decide_eq_true rfl) e)
      have hj : J[num]? = some j := hj
      have hnl := (List.getElem?_eq_some_iff.mp hj).1
      obtain ⟨xc, ec, lc⟩ := hc.lst
      refine ⟨nv num, rfl, 0, (num : Int), rfl, rfl, true, congrArg V.bl (decide_eq_true (show (0 : Int) ≤ (num : Int) by omega)), iteT ⟨.ref c, rfl, c, xc, rfl, .inl (SqL.of ec), (num : Int), _, rfl, rfl, true, congrArg V.bl (decide_eq_true (show (num : Int) < (xc.length : Int) by omega)), iteT ?_⟩⟩
      refine ⟨.ref t, rfl, t, _, 3, .ref ia, rfl, rfl, htq, atI_nat (j := 3) rfl, Nat.zero_le _, fun e0 ne0 => ?_⟩
      have s2 : Same H (upd H e0 (.lst [])) := same_upd ne0
      have hia : LA H ia [] := hia
      refine ⟨ndat [], ndat [], dp_nat (s2 ia _ hia), dp_nat upd_same, PySem.W.shaped_ints _, PySem.W.shaped_ints _, true, by rw [eqv_self], iteT ?_⟩
      have ht2 := s2 t _ ht
      obtain ⟨xs, r, e1, e2, e3⟩ := (hc.same s2).at hnl
      rw [gE_at hj] at e3
      refine ⟨.ref c, rfl, nv num, rfl, c, xs, _, .ref r, rfl, rfl, SqL.of e1, e2, .ref t, rfl, t, _, 2, .ref la, rfl, rfl, SqT.of ht2, atI_nat (j := 2) rfl, r, la, j, ns, rfl, e3, s2 la _ hla, false, by rw [meetB_comm, show meetB ns j = false from hm], q _ s2⟩
    · have hw : why = "compassion" := hw
      subst hw
      refine ite2 (fun e => absurd e (by decide +kernel)) (fun _ => ?_)
      refine ⟨.ref t, rfl, t, _, 0, .str "compassion", rfl, rfl, htq, atI_nat (j := 0) rfl, rfl, _, rfl, ?_⟩
      refine ite2 (fun e => absurd e (by decide +kernel)) (fun _ => ?_)
      have hcc : C[num]? = some (F1, S1) := hcc
      have hnl := (List.getElem?_eq_some_iff.mp hcc).1
      obtain ⟨xd, ed, ld⟩ := hd.lst
      refine ⟨.ref t, rfl, t, _, 0, .str "compassion", rfl, rfl, htq, atI_nat (j := 0) rfl, rfl, _, rfl, ite2 (fun e => absurd e (ne_self _)) (fun _ => ?_)⟩
      refine ⟨nv num, rfl, _, _, rfl, rfl, _, rfl, ite2 (fun e => ?_) (fun _ => ⟨nv num, rfl, .ref d, rfl, d, xd, rfl, .inl (SqL.of ed), _, _, rfl, rfl, _, rfl, ite2 (fun e => ?_) (fun _ => ?_)⟩)⟩
      · have := of_decide_eq_true e
        omega
      · have := of_decide_eq_true e
        omega
      obtain ⟨xs, t1, f1, f2, e1, e2, e3, e4, e5⟩ := hd.at hcc
      refine ⟨.ref d, rfl, nv num, rfl, d, xs, _, .ref t1, rfl, rfl, SqL.of e1, e2, t1, _, 1, .ref f2, rfl, rfl, SqT.of e3, atI_nat (j := 1) rfl, .ref t, rfl, t, _, 2, .ref la, rfl, rfl, htq, atI_nat (j := 2) rfl, f2, la, S1, ns, rfl, e5, hla, false, by rw [meetB_comm, show meetB ns S1 = false from hm], iteF ?_⟩
      -- rest
      refine ⟨.ref t, rfl, t, _, 2, .ref la, rfl, rfl, htq, atI_nat (j := 2) rfl, la, rfl, ⟨_, SqL.of hla⟩, fun lr nlr => ?_⟩
      refine lc_list (K := K) (a := la) (xs := nvs ns) (fun i H2 => Same H H2 ∧ LA H2 lr ((ns.take i).filter fun x => decide (x ∉ F1))) ⟨same_upd nlr, upd_same⟩ (fun i H2 _ p => SqL.of (p.1 _ _ hla)) (fun i x H2 hx p => ?_) (fun H2 p => ?_)
      · obtain ⟨y, hy, rfl⟩ := nvs_get hx
        obtain ⟨s2, hlr⟩ := p
        have et : ns.take (i + 1) = ns.take i ++ [y] := by rw [List.take_add_one, hy]; rfl
        refine ⟨rfl, nv y, rfl, .ref d, rfl, nv num, rfl, d, xs, _, .ref t1, rfl, rfl, SqL.of (s2 _ _ e1), e2, t1, _, 0, .ref f1, rfl, rfl, SqT.of (s2 _ _ e3), atI_nat (j := 0) rfl, f1, nvs F1, rfl, .inl (SqL.of (s2 _ _ e4)), rfl, flat_nvs F1, _, rfl, ?_⟩
        show if (!inV (nv y) (nvs F1)) = true then _ else _
        rw [inV_nv]
        by_cases hm2 : y ∈ F1
        · rw [decide_eq_true hm2]
          refine notF ⟨s2, ?_⟩
          rw [et, List.filter_append]
          simp only [List.filter_cons, List.filter_nil, hm2, not_true_eq_false, decide_false, Bool.false_eq_true, if_false, List.append_nil]
          exact hlr
        · rw [decide_eq_false hm2]
          refine notT ⟨nv y, rfl, _, hlr, ?_, fun c' u z => ?_, ?_⟩
          · rw [nvs_len]
            have h1 := List.length_filter_le (fun x => decide (x ∉ F1)) (ns.take i)
            rw [List.length_take] at h1
            have : ns.length ≤ 60 := hl60
            exact line1000 (by omega)
          · rw [upd_ne (ne_of_none z nlr)]
            exact s2 c' u z
          · rw [LA, upd_same, nvs_snoc, et, List.filter_append]
            simp [hm2]
      · obtain ⟨s2, hlr⟩ := p
        rw [nvs_len, List.take_length] at hlr
        have ht2 := s2 t _ ht
        have fl : (ns.filter fun x => decide (x ∉ F1)).length ≤ 60 := Nat.le_trans (List.length_filter_le _ _) hl60
        refine ⟨.ref a, rfl, .ref lr, rfl, .ref t, rfl, t, _, 3, .ref ia, rfl, rfl, SqT.of ht2, atI_nat (j := 3) rfl, .ref c, rfl, .ref d, rfl, nv (lev + 1), rfl, lev + 1, 1, rfl, rfl, by omega, a, lr, ia, c, d, G, ns.filter (fun x => decide (x ∉ F1)), J, C, rfl, ha.same s2, hlr, List.Pairwise.filter _ asc, hc.same s2, hd.same s2, fun x hx => hlt x (List.mem_filter.mp hx).1, fl, GoodAt.mono s2 _ _ _ hgood, fun H3 s3 => q H3 (s2.trans s3)⟩
end
end K56
set_option Elab.async false
set_option linter.all false
set_option maxRecDepth 100000
set_option maxHeartbeats 4000000
/-! K56Lj: the law's look at all blocks. -/
namespace K56
open PySem PySem.Spec PyProof.Rows L2
theorem good_lst {G J : List (List Nat)} {C : List (List Nat × List Nat)} {X : Hp} {lev : Nat} {a : Addr} {ns : List Nat} (h : GoodAt G J C X lev a ns) : ∃ xs : List V, X a = some (.lst xs) := by
  cases lev with
  | zero => exact (show False from h).elim
  | succ lev =>
    obtain ⟨bs, h1, _⟩ := h
    exact ⟨_, h1⟩
theorem rsn_lst {G J : List (List Nat)} {C : List (List Nat × List Nat)} {X : Hp} {lev : Nat} {why : Str} {num : Nat} {ns : List Nat} {ia : Addr} (h : Rsn G J C X (GoodAt G J C X lev) why num ns ia) : ∃ xs : List V, X ia = some (.lst xs) := by
  rcases h with ⟨_, _, h, _⟩ | ⟨_, h, _⟩ | ⟨_, _, _, _, _, h⟩
  · exact ⟨_, h⟩
  · exact ⟨_, h⟩
  · exact good_lst h
section
variable {P : Program} {w : World} {K : PySem.W.Frag} {mg : Str → Option Value} {base : Heap}
theorem ok_gb {fB fR fK fL fM : Addr} {fdB fdR fdK fdL fdM : FuncData} (D : Df K mg "_law_good_blocks" 44 gbN fB fdB) (D_good_reason : Df K mg "_law_good_reason" 45 grN fR fdR)
    (D_is_block : Df K mg "_law_is_block" 43 ["_law_block"] fK fdK) (G_is_block : FnOk P w K mg base CX0 2 fK fdK ["_law_block"] spis_block) (D_leads : Df K mg "_law_leads" 39 ["_law_after", "_law_one", "_law_other"] fL fdL) (G_leads : FnOk P w K mg base CX0 2 fL fdL ["_law_after", "_law_one", "_law_other"] spLleads)
    (D_meets : Df K mg "_law_meets" 38 ["_law_one", "_law_other"] fM fdM) (G_meets : FnOk P w K mg base CX0 1 fM fdM ["_law_one", "_law_other"] spLmeets) (mis : mg "isinstance" = none) (ml : mg "len" = none) (mr : mg "range" = none) (ms : mg "sorted" = none) (m_list : mg "list" = none) :
    ∀ lev : Nat, FnOk P w K mg base CX0 (2 * lev + 3) fB fdB gbN (spgb lev)
  | 0 => ok_gb0
  | lev + 1 => by
    have G_good_reason : FnOk P w K mg base CX0 (2 * lev + 4) fR fdR grN (spgr lev) := ok_gr D_good_reason.F D (ok_gb D D_good_reason D_is_block G_is_block D_leads G_leads D_meets G_meets mis ml mr ms m_list lev) D_leads G_leads D_meets G_meets ml
    have SC := scgood_blocks
    refine D.F.ok (k := 2 * lev + 4) SC (fun vs H Q E h => ?_) (fun cdv A outer s H vs Q E hr h => ?_)
    · obtain ⟨a, n, b, c, d, G, ns, J, C, rfl, _⟩ := h
      rfl
    · refine ⟨_,
    (pss_cons (ps_if (pt_not (pt_val (pe_callB call_isi (by rfl) mis boot_isinstance (pa_cons (pv 2) (pa_cons (pe_bltn (v := .ty "list") (by rfl) m_list (by decide +kernel) rfl) pa_nil)))))
      (pss_one (ps_ret pe_bl)) pss_nil)
    (pss_cons (ps_if (pt_cmpR op_eq (pv 5) pe_int (nomark _))
      (pss_one (ps_ret (pe_and (pe_cmpR (op_eqD hr.units) (pv 2) (pe_lst pa_nil) (nomark _)) (pe_one (pe_cmpR (op_eqD hr.units) (pv 1) (pe_lst pa_nil) (nomark _)))))) pss_nil)
    (pss_cons (ps_set (i := 6) SC.nd rfl (.inl rfl) (pe_lst pa_nil))
    (pss_cons (ps_for PassesOwn.never rfl (pi_list (pv 2)) (pg_name (i := 7) SC.nd rfl (.inl rfl))
      (pss_cons (ps_if (pt_not (pt_val (pe_call G_is_block (hr.mono (by omega)) (by rfl) D_is_block.g D_is_block.F.kp D_is_block.b .nil pass0 (pa_cons (pv 7) pa_nil))))
        (pss_one (ps_ret pe_bl)) pss_nil)
      (pss_one (ps_set (i := 6) SC.nd rfl (.inl rfl) (pe_op op_cat (pv 6) (pe_ix ix_tup (pv 7) pe_int (fun _ _ => rfl)))))))
    (pss_cons (ps_if (pt_cmpR (op_neD hr.units) (pe_callB cr_sorted (by rfl) ms (by decide +kernel) (pa_cons (pv 6) pa_nil)) (pv 1) (nomark _))
      (pss_one (ps_ret pe_bl)) pss_nil)
    (pss_cons (ps_for PassesOwn.never rfl (pi_range1 (by rfl) mr (pa_cons (pe_callB call_len_seq (by rfl) ml PySem.boot_len (pa_cons (pv 2) pa_nil)) pa_nil)) (pg_name (i := 8) SC.nd rfl (.inl rfl))
      (pss_cons (ps_for PassesOwn.never rfl (pi_range1 (by rfl) mr (pa_cons (pv 8) pa_nil)) (pg_name (i := 9) SC.nd rfl (.inl rfl))
        (pss_one (ps_if (pt_val (pe_call G_leads (hr.mono (by omega)) (by rfl) D_leads.g D_leads.F.kp D_leads.b .nil pass0 (pa_cons (pv 0) (pa_cons (pe_ix ix_tup (pe_ix ix_list (pv 2) (pv 8) (fun _ _ => rfl)) pe_int (fun _ _ => rfl)) (pa_cons (pe_ix ix_tup (pe_ix ix_list (pv 2) (pv 9) (fun _ _ => rfl)) pe_int (fun _ _ => rfl)) pa_nil)))))
          (pss_one (ps_ret pe_bl)) pss_nil)))
      (pss_one (ps_if (pt_not (pt_val (pe_call G_good_reason (hr.mono (by omega)) (by rfl) D_good_reason.g D_good_reason.F.kp D_good_reason.b .nil pass0 (pa_cons (pv 0) (pa_cons (pe_ix ix_list (pv 2) (pv 8) (fun _ _ => rfl)) (pa_cons (pv 3) (pa_cons (pv 4) (pa_cons (pv 5) pa_nil))))))))
        (pss_one (ps_ret pe_bl)) pss_nil))))
    (pss_one (ps_ret pe_bl)))))))), ?_⟩
      obtain ⟨a, n, b, c, d, G, ns, J, C, rfl, ha, hn, hasc, hc, hd, hlt, hl60, ⟨bs, hb, hbl, hnd, hmem, hpair, hok⟩, q⟩ := h
      have hsub : ∀ k, k ∈ bs → ∀ x, x ∈ k.ns → x ∈ ns := fun k hk x hx => (hmem x).mp (List.mem_flatten.mpr ⟨k.ns, List.mem_map.mpr ⟨k, hk, rfl⟩, hx⟩)
      have hfl : (bs.map (·.ns)).flatten.length ≤ 60 := Nat.le_trans (nodup_sub hnd fun x hx => (hmem x).mp hx) hl60
      have htk : ∀ i, ((bs.map (·.ns)).take i).flatten.length ≤ 60 := fun i => by
        have e : ((bs.map (·.ns)).take i).flatten ++ ((bs.map (·.ns)).drop i).flatten = (bs.map (·.ns)).flatten := by rw [← List.flatten_append, List.take_append_drop]
        have := congrArg List.length e
        rw [List.length_append] at this
        omega
      have hkl : ∀ k, k ∈ bs → k.ns.length ≤ 60 := fun k hk => Nat.le_trans (nodup_sub (hok k hk).asc.nodup (hsub k hk)) hl60
      have bat : ∀ {i : Nat} {k : Bk}, bs[i]? = some k → atI (bs.map fun k => V.ref k.ad) (i : Int) = some (.ref k.ad) := fun {i k} h => atI_nat (by rw [List.getElem?_map, h]; rfl)
      refine ⟨.ref b, rfl, .ref b, .ty "list", .type "list", .type "list", true, rfl, .ty _, .base (.lst hb), kit_ty (by decide +kernel), true, rfl, notF ?_⟩
      refine ⟨nv (lev + 1), rfl, rfl, _, rfl, ite2 (fun e => ?_) (fun _ => ?_)⟩
      · have := V.int.inj (of_decide_eq_true e)
        omega
      refine ⟨Nat.zero_le _, fun l0 nl0 => ?_⟩
      refine ⟨.ref b, rfl, b, rfl, ⟨_, SqL.of (same_upd nl0 b _ hb)⟩, for_list (K := K) (a := b) (xs := bs.map fun k => V.ref k.ad) (fun i σ Hc => ∃ lp v7, σ = [some (.ref a), some (.ref n), some (.ref b), some (.ref c), some (.ref d), some (nv (lev + 1)), some (.ref lp), v7, none, none] ∧ LA Hc lp ((bs.map (·.ns)).take i).flatten ∧ Same H Hc)
        ⟨l0, _, rfl, upd_same, same_upd nl0⟩ (fun i σ Hc _ p => by obtain ⟨_, _, _, _, s⟩ := p; exact SqL.of (s b _ hb)) ?_ ?_⟩
      · rintro i x σ Hc hx ⟨lp, v7, rfl, hlp, sc⟩
        obtain ⟨k, hk, rfl⟩ : ∃ k, bs[i]? = some k ∧ x = .ref k.ad := by
          rw [List.getElem?_map] at hx
          cases e : bs[i]? with
          | none =>
            rw [e] at hx
            cases hx
          | some k =>
            rw [e] at hx
            exact ⟨k, rfl, (Option.some.inj hx).symm⟩
        have hkm := List.mem_of_getElem? hk
        have ok := hok k hkm
        obtain ⟨xs, hia⟩ := rsn_lst ok.rsn
        have kl := hkl k hkm
        refine ⟨.ref k.ad, rfl, k.ad, k.la, k.ia, k.why, k.num, k.ns, xs, rfl, sc _ _ ok.tup, sc _ _ ok.la, sc _ _ hia, ok.asc, ok.ne, by omega, fun H3 s3 => ⟨true, rfl, notF ?_⟩⟩
        have tl := htk i
        refine ⟨.ref lp, rfl, .ref k.ad, rfl, k.ad, _, 2, .ref k.la, rfl, rfl, SqT.of (s3 _ _ (sc _ _ ok.tup)), atI_nat (j := 2) rfl, lp, k.la, _, _, rfl, rfl, s3 _ _ hlp, s3 _ _ (sc _ _ ok.la), (by rw [nvs_len, nvs_len]; exact line1000' (by omega)), fun l2 nl2 => ⟨l2, _, rfl, ?_, fun c' u z => same_upd nl2 c' u (s3 c' u (sc c' u z))⟩⟩
        rw [LA, upd_same, List.take_add_one, List.getElem?_map, hk]
        show some (HO.lst (nvs _ ++ nvs k.ns)) = some (.lst (nvs (((bs.map (·.ns)).take i ++ [k.ns]).flatten)))
        rw [List.flatten_append, nvs_app, List.flatten_cons, List.flatten_nil, List.append_nil]
      · rintro σ Hc ⟨lp, v7, rfl, hlp, sc⟩
        rw [List.length_map, show bs.length = (bs.map (·.ns)).length from (List.length_map ..).symm, List.take_length] at hlp
        refine ⟨.ref lp, rfl, lp, (bs.map (·.ns)).flatten.map fun n : Nat => (n : Int), rfl, SqL.of (by rw [← nvs_cast]; exact hlp), (by rw [List.length_map]; omega), fun ms' sp perm srt nsp => ?_⟩
        obtain ⟨qs, e1, e2, e3, e4⟩ := sorted_nodes perm srt hnd
        have eqs : qs = ns := asc_eq e2 hasc fun x => (e3 x).trans (hmem x)
        rw [e1, eqs]
        have s5 : Same Hc (upd Hc sp (.lst (nvs ns))) := same_upd nsp
        have hsp : LA (upd Hc sp (.lst (nvs ns))) sp ns := upd_same
        have s05 : Same H (upd Hc sp (.lst (nvs ns))) := sc.trans s5
        generalize upd Hc sp (.lst (nvs ns)) = H5 at s05 hsp ⊢
        refine ⟨.ref n, rfl, ndat ns, ndat ns, dp_nat hsp, dp_nat (s05 n _ hn), PySem.W.shaped_ints _, PySem.W.shaped_ints _, _, rfl, ?_⟩
        show if (!PyData.eqv (ndat ns) (ndat ns)) = true then _ else _
        rw [eqv_self]
        refine notF ?_
        refine ⟨.ref b, rfl, b, _, rfl, .inl (SqL.of (s05 b _ hb)), _, rfl, by rw [List.length_map]; omega, by rw [List.length_map]; omega, for_range (n := ((((bs.map fun k => V.ref k.ad).length : Nat) : Int)).toNat) (fun k σ Hc => ∃ v8 v9, σ = [some (.ref a), some (.ref n), some (.ref b), some (.ref c), some (.ref d), some (nv (lev + 1)), some (.ref lp), v7, v8, v9] ∧ Same H Hc)
          ⟨_, _, rfl, s05⟩ ?_ ?_⟩
        · rintro i σ Hd hi ⟨v8, v9, rfl, sd⟩
          rw [Int.zero_add]
          rw [Int.toNat_natCast, List.length_map] at hi
          obtain ⟨bi, hbi⟩ : ∃ bi, bs[i]? = some bi := ⟨_, List.getElem?_eq_getElem hi⟩
          have him := List.mem_of_getElem? hbi
          have oki := hok bi him
          have hbd : SqL K Hd b (bs.map fun k => V.ref k.ad) := SqL.of (sd b _ hb)
          refine ⟨nv i, rfl, _, rfl, by omega, by omega, for_range (n := ((i : Nat) : Int).toNat) (fun j σ He => Hd = He ∧ ∃ v9, σ = [some (.ref a), some (.ref n), some (.ref b), some (.ref c), some (.ref d), some (nv (lev + 1)), some (.ref lp), v7, some (nv i), v9]) ⟨rfl, _, rfl⟩ ?_ ?_⟩
          · rintro j σ He hj ⟨rfl, v9, rfl⟩
            rw [Int.zero_add]
            have hj : j < i := by omega
            obtain ⟨bj, hbj⟩ : ∃ bj, bs[j]? = some bj := ⟨_, List.getElem?_eq_getElem (by omega)⟩
            have okj := hok bj (List.mem_of_getElem? hbj)
            refine ⟨.ref a, rfl, .ref b, rfl, nv i, rfl, b, _, _, .ref bi.ad, rfl, rfl, hbd, bat hbi, bi.ad, _, 2, .ref bi.la, rfl, rfl, SqT.of (sd _ _ oki.tup), atI_nat (j := 2) rfl, .ref b, rfl, nv j, rfl, b, _, _, .ref bj.ad, rfl, rfl, hbd, bat hbj, bj.ad, _, 2, .ref bj.la, rfl, rfl, SqT.of (sd _ _ okj.tup), atI_nat (j := 2) rfl,
              a, bi.la, bj.la, G, bi.ns, bj.ns, rfl, ha.same sd, sd _ _ oki.la, sd _ _ okj.la, fun x hx => hlt x (hsub bi him x hx), false, by rw [hpair i j bi bj hbi hbj hj], iteF ⟨rfl, _, rfl⟩⟩
          · rintro σ He ⟨rfl, v9, rfl⟩
            refine ⟨.ref a, rfl, .ref b, rfl, nv i, rfl, b, _, _, .ref bi.ad, rfl, rfl, hbd, bat hbi, .ref c, rfl, .ref d, rfl, nv (lev + 1), rfl, a, c, d, G, J, C, bi, rfl, ha.same sd, hc.same sd, hd.same sd, fun x hx => hlt x (hsub bi him x hx), hkl bi him, oki.mono sd (GoodAt.mono sd lev), fun H7 s7 => ⟨true, rfl, notF ⟨_, _, rfl, sd.trans s7⟩⟩⟩
        · rintro σ Hd ⟨v8, v9, rfl, sd⟩
          exact q Hd sd
/-- over all levels that may come -/
def spgbA : Sp := fun vs H Q E => ∃ lev, lev ≤ 7 ∧ spgb lev vs H Q E
theorem ok_gbA {f : Addr} {fd : FuncData} (G : ∀ lev : Nat, FnOk P w K mg base CX0 (2 * lev + 3) f fd gbN (spgb lev)) : FnOk P w K mg base CX0 17 f fd gbN spgbA :=
  ⟨fun vs H Q E h => by
    obtain ⟨lev, hl, h⟩ := h
    exact (G lev).len vs H Q E h, fun A outer s H args us vs Q E hr e0 hb r h => by
    obtain ⟨lev, hl, h⟩ := h
    exact ((G lev).mono (by omega)).run A outer s H args us vs Q E hr e0 hb r h⟩
abbrev ffN : List Str := ["after", "starts", "justice", "compassion"]
theorem kb_fair {f : Addr} {fd : FuncData} (F : Fun K "find_fair" "find_fair" sFair f fd) : KBn K fd ffN 2 ["justice", "compassion"] (fun us ws => us ++ ws) (fun vs zs => vs ++ zs) := by
  obtain ⟨oc, od, kV, doc, pm, an, cdv, ct, osl, rfl, lk, hcd⟩ := F.ex
  refine ⟨fun s us ws _ h1 h2 => ?_, fun r1 r2 => r1.append r2⟩
  match us, ws, h1, h2 with
  | [u1, u2], [w1, w2], _, _ => exact BindsTo.of_eq rfl
end
end K56
set_option Elab.async false
set_option linter.all false
set_option maxRecDepth 100000
set_option maxHeartbeats 4000000
/-! K56Lk: the law. -/
namespace K56
open PySem PySem.Spec PyProof.Rows L2
section
variable {P : Program} {w : World} {K : PySem.W.Frag} {mg : Str → Option Value} {base : Heap}
/-! ### law -/
abbrev slaw : Stmt := topS 48
abbrev nlaw : List Str := ["_law_script", "_law_sizes", "_law_after", "_law_starts_here", "_law_just_here", "_law_pairs_here", "_law_actual", "_law_nodes"]
theorem sclaw : FnScope nlaw ["_law_script"] (defScope slaw) := ⟨rfl, rfl, rfl, by decide +kernel, rfl, by decide +kernel, by decide +kernel⟩
def splaw (T : List (Addr × Str)) (K : PySem.W.Frag) : Sp := fun vs H Q _ => ∃ (l : Addr) (zs : List Int), vs = [.ref l] ∧ SqL K H l (zs.map V.int) ∧ LamX.Tabs T H ∧ ∀ H', Q (.bl true) H'
theorem sqX {H H' : Hp} (e : LamX.ExtN H H') {a : Addr} {xs : List V} (h : SqL K H a xs) : SqL K H' a xs := by
  rcases h with (h | ⟨o, h⟩) | h
  · exact .inl (.inl (e _ _ h fun ps z => by cases z))
  · exact .inl (.inr ⟨o, e _ _ h fun ps z => by cases z⟩)
  · exact .inr h
theorem ok_law {T : List (Addr × Str)} {f f1 f2 f3 f4 f5 f6 f7 f8 f9 fa fb fc fe fg : Addr} {fd d1 d2 d3 d4 d5 d6 d7 d8 d9 da db dc de dg : FuncData} (F : Fun K "law" "law" slaw f fd)
    (D_draws : Df K mg "_law_draws" 24 ["_law_script", "_law_place", "_law_count_here", "_law_base"] f1 d1) (G_draws : FnOk P w K mg base CX0 2 f1 d1 ["_law_script", "_law_place", "_law_count_here", "_law_base"] (spdraws K))
    (D_graph : Df K mg "_law_graph" 25 ["_law_script", "_law_sizes"] f2 d2) (G_graph : FnOk P w K mg base CX0 3 f2 d2 ["_law_script", "_law_sizes"] (spgraph K))
    (D_long_graph : Df K mg "_law_long_graph" 26 ["_law_script", "_law_sizes"] f3 d3) (G_long_graph : FnOk P w K mg base CX0 3 f3 d3 ["_law_script", "_law_sizes"] (spgraph K))
    (D_turned : Df K mg "_law_turned" 28 ["_law_nodes", "_law_kind"] f4 d4) (G_turned : FnOk P w K mg base CX0 1 f4 d4 ["_law_nodes", "_law_kind"] spturned)
    (D_starts : Df K mg "_law_starts" 29 ["_law_script", "_law_place", "_law_size", "_law_roll"] f5 d5) (G_starts : FnOk P w K mg base CX0 4 f5 d5 ["_law_script", "_law_place", "_law_size", "_law_roll"] (spstarts K))
    (D_just : Df K mg "_law_just" 32 ["_law_script", "_law_size", "_law_roll", "_law_kind"] f6 d6) (G_just : FnOk P w K mg base CX0 4 f6 d6 ["_law_script", "_law_size", "_law_roll", "_law_kind"] (spjust K))
    (D_pairs : Df K mg "_law_pairs" 33 ["_law_script", "_law_size", "_law_roll", "_law_kind"] f7 d7) (G_pairs : FnOk P w K mg base CX0 4 f7 d7 ["_law_script", "_law_size", "_law_roll", "_law_kind"] (sppairs K))
    (F_fair : Fun K "find_fair" "find_fair" sFair f8 d8) (g_fair : mg "find_fair" = some (.ref f8)) (G_find_fair : FnOk P w K mg base CX0 12 f8 d8 ffN (spFair T))
    (D_copy : Df K mg "_law_copy" 46 ["_law_rows"] f9 d9) (G_copy : FnOk P w K mg base CX0 1 f9 d9 ["_law_rows"] spcopy) (D_copy_pairs : Df K mg "_law_copy_pairs" 47 ["_law_pairs_here"] fa da) (G_copy_pairs : FnOk P w K mg base CX0 1 fa da ["_law_pairs_here"] spcopy_pairs)
    (D_says_blocks : Df K mg "_law_says_blocks" 42 ["_law_actual"] fb db) (G_says_blocks : FnOk P w K mg base CX0 1 fb db ["_law_actual"] spsays) (D_reach : Df K mg "_law_reach" 36 ["_law_after", "_law_starts_here"] fc dc) (G_reach : FnOk P w K mg base CX0 1 fc dc ["_law_after", "_law_starts_here"] spLreach)
    (D_good_blocks : Df K mg "_law_good_blocks" 44 gbN fe de) (G_good_blocks : FnOk P w K mg base CX0 17 fe de gbN spgbA) (D_is_cycle : Df K mg "_law_is_cycle" 41 ["_law_after", "_law_starts_here", "_law_actual", "_law_just_here", "_law_pairs_here"] fg dg) (G_is_cycle : FnOk P w K mg base CX0 3 fg dg ["_law_after", "_law_starts_here", "_law_actual", "_law_just_here", "_law_pairs_here"] spis_cycle)
    (mi : mg "int" = none) (ml : mg "len" = none) (mli : mg "list" = none) : FnOk P w K mg base CX0 18 f fd ["_law_script"] (splaw T K) := by
  have SC := sclaw
  have KB := kb_fair F_fair
  refine F.ok SC (fun vs H Q E h => ?_) (fun cdv A outer s H vs Q E hr h => ?_)
  · obtain ⟨l, zs, rfl, _⟩ := h
    rfl
  · refine ⟨_,
    (pss_cons (ps_set (i := 1) SC.nd rfl (.inl rfl) (pe_call G_draws (hr.mono (by omega)) (by rfl) D_draws.g D_draws.F.kp D_draws.b .nil pass0 (pa_cons (pv 0) (pa_cons pe_int (pa_cons pe_int (pa_cons pe_int pa_nil))))))
    (pss_cons (ps_set (i := 2) SC.nd rfl (.inl rfl) (pe_call G_graph (hr.mono (by omega)) (by rfl) D_graph.g D_graph.F.kp D_graph.b .nil pass0 (pa_cons (pv 0) (pa_cons (pv 1) pa_nil))))
    (Evl.pss_cut (ps_if (pt_cmpR op_eq (pe_op op_modA (pe_callTy call_intN (by rfl) mi boot_int (pa_cons (pe_ix ix_list (pv 1) pe_int (fun _ _ => rfl)) pa_nil)) pe_int) pe_int (nomark _))
      (pss_one (ps_set (i := 2) SC.nd rfl (.inl rfl) (pe_call G_long_graph (hr.mono (by omega)) (by rfl) D_long_graph.g D_long_graph.F.kp D_long_graph.b .nil pass0 (pa_cons (pv 0) (pa_cons (pv 1) pa_nil))))) pss_nil)
    (pss_cons (ps_set (i := 3) SC.nd rfl (.inl rfl) (pe_call G_turned (hr.mono (by omega)) (by rfl) D_turned.g D_turned.F.kp D_turned.b .nil pass0 (pa_cons (pe_call G_starts (hr.mono (by omega)) (by rfl) D_starts.g D_starts.F.kp D_starts.b .nil pass0 (pa_cons (pv 0) (pa_cons pe_int (pa_cons (pe_callB call_len_seq (by rfl) ml PySem.boot_len (pa_cons (pv 2) pa_nil)) (pa_cons (pe_ix ix_list (pv 1) pe_int (fun _ _ => rfl)) pa_nil))))) (pa_cons (pe_ix ix_list (pv 1) pe_int (fun _ _ => rfl)) pa_nil))))
    (pss_cons (ps_set (i := 4) SC.nd rfl (.inl rfl) (pe_call G_just (hr.mono (by omega)) (by rfl) D_just.g D_just.F.kp D_just.b .nil pass0 (pa_cons (pv 0) (pa_cons (pe_callB call_len_seq (by rfl) ml PySem.boot_len (pa_cons (pv 2) pa_nil)) (pa_cons (pe_ix ix_list (pv 1) pe_int (fun _ _ => rfl)) (pa_cons (pe_ix ix_list (pv 1) pe_int (fun _ _ => rfl)) pa_nil))))))
    (pss_cons (ps_set (i := 5) SC.nd rfl (.inl rfl) (pe_call G_pairs (hr.mono (by omega)) (by rfl) D_pairs.g D_pairs.F.kp D_pairs.b .nil pass0 (pa_cons (pv 0) (pa_cons (pe_callB call_len_seq (by rfl) ml PySem.boot_len (pa_cons (pv 2) pa_nil)) (pa_cons (pe_ix ix_list (pv 1) pe_int (fun _ _ => rfl)) (pa_cons (pe_ix ix_list (pv 1) pe_int (fun _ _ => rfl)) pa_nil))))))
    (pss_cons (ps_set (i := 6) SC.nd rfl (.inl rfl) (pe_callN G_find_fair (hr.mono (by omega)) (by rfl) g_fair F_fair.kp KB pass0 (pa_cons (pe_call G_copy (hr.mono (by omega)) (by rfl) D_copy.g D_copy.F.kp D_copy.b .nil pass0 (pa_cons (pv 2) pa_nil)) (pa_cons (pe_callTy call_list_of (by rfl) mli boot_list (pa_cons (pv 3) pa_nil)) pa_nil)) (pk_cons (pe_call G_copy (hr.mono (by omega)) (by rfl) D_copy.g D_copy.F.kp D_copy.b .nil pass0 (pa_cons (pv 4) pa_nil)) (pk_cons (pe_call G_copy_pairs (hr.mono (by omega)) (by rfl) D_copy_pairs.g D_copy_pairs.F.kp D_copy_pairs.b .nil pass0 (pa_cons (pv 5) pa_nil)) pk_nil))))
    (pss_cons (ps_if (pt_val (pe_call G_says_blocks (hr.mono (by omega)) (by rfl) D_says_blocks.g D_says_blocks.F.kp D_says_blocks.b .nil pass0 (pa_cons (pv 6) pa_nil)))
      (pss_cons (ps_set (i := 7) SC.nd rfl (.inl rfl) (pe_call G_reach (hr.mono (by omega)) (by rfl) D_reach.g D_reach.F.kp D_reach.b .nil pass0 (pa_cons (pv 2) (pa_cons (pv 3) pa_nil))))
      (pss_one (ps_ret (pe_call G_good_blocks (hr.mono (by omega)) (by rfl) D_good_blocks.g D_good_blocks.F.kp D_good_blocks.b .nil pass0 (pa_cons (pv 2) (pa_cons (pv 7) (pa_cons (pe_ix ix_tup (pv 6) pe_int (fun _ _ => rfl)) (pa_cons (pv 4) (pa_cons (pv 5) (pa_cons (pe_op op_addN (pe_callB call_len_seq (by rfl) ml PySem.boot_len (pa_cons (pv 5) pa_nil)) pe_int) pa_nil)))))))))) pss_nil)
    (pss_one (ps_ret (pe_call G_is_cycle (hr.mono (by omega)) (by rfl) D_is_cycle.g D_is_cycle.F.kp D_is_cycle.b .nil pass0 (pa_cons (pv 2) (pa_cons (pv 3) (pa_cons (pv 6) (pa_cons (pv 4) (pa_cons (pv 5) pa_nil)))))))))))))))), ?_⟩
    obtain ⟨l, zs, rfl, hl, hT, q⟩ := h
    refine ⟨.ref l, rfl, l, zs, 0, 10, 840, rfl, hl, by decide, by decide, by decide, by decide, fun H1 szp sz s1 hsz szl _ => ?_⟩
    obtain ⟨n0, e0, _⟩ := at_lt (ds := sz) (j := 0) (by omega)
    obtain ⟨n4, e4, _⟩ := at_lt (ds := sz) (j := 4) (by omega)
    obtain ⟨n5, e5, _⟩ := at_lt (ds := sz) (j := 5) (by omega)
    obtain ⟨n6, e6, _⟩ := at_lt (ds := sz) (j := 6) (by omega)
    obtain ⟨n7, e7, _⟩ := at_lt (ds := sz) (j := 7) (by omega)
    obtain ⟨n8, e8, _⟩ := at_lt (ds := sz) (j := 8) (by omega)
    obtain ⟨n9, e9, _⟩ := at_lt (ds := sz) (j := 9) (by omega)
    refine ⟨.ref l, rfl, .ref szp, rfl, l, szp, zs, sz, rfl, sqS hl s1, hsz, by omega, fun H2 ap G s2 hG gw => ?_⟩
    refine ⟨fun σ' H' => ∃ ap G, σ' = [some (.ref l), some (.ref szp), some (.ref ap), none, none, none, none, none] ∧ LL H' ap G ∧ GW G ∧ Same H1 H', ?_, ?_⟩
    · refine ⟨.ref szp, rfl, szp, nvs sz, 0, nv n0, rfl, rfl, SqL.of (s2 szp _ hsz), e0, _, rfl, (n0 : Int), 8, rfl, rfl, by decide, fun d _ => ⟨rfl, _, rfl, ite2 (fun _ => ?_) (fun _ => ⟨ap, G, rfl, hG, gw, s2⟩)⟩⟩
      exact ⟨.ref l, rfl, .ref szp, rfl, l, szp, zs, sz, rfl, sqS (sqS hl s1) s2, s2 szp _ hsz, by omega, fun H3 ap3 G3 s3 hG3 gw3 => ⟨ap3, G3, rfl, hG3, gw3, fun c u z => s3 c u (s2 c u z)⟩⟩
    rintro _ H3 ⟨ap, G, rfl, hG, gw, s3⟩
    have hn := gw.n60
    obtain ⟨xa, ea, la⟩ := hG.lst
    have hl3 : SqL K H3 l (zs.map V.int) := sqS (sqS hl s1) s3
    have hz3 : LA H3 szp sz := s3 szp _ hsz
    have s03 : Same H H3 := fun c u z => s3 c u (s1 c u z)
    -- starts
    refine ⟨.ref l, rfl, .ref ap, rfl, ap, xa, rfl, .inl (SqL.of ea), .ref szp, rfl, szp, nvs sz, 4, nv n4, rfl, rfl, SqL.of hz3, e4, l, zs, 2, G.length, n4, (by rw [la]; rfl), hl3, by decide, by omega, fun H4 stp st s4 hst stlt stl => ?_⟩
    refine ⟨.ref szp, rfl, szp, nvs sz, 5, nv n5, rfl, rfl, SqL.of (s4 szp _ hz3), e5, stp, st, n5, rfl, hst, by omega, fun H5 sp S s5 _ hS Ssub Sl => ?_⟩
    have s35 : Same H3 H5 := s4.trans s5
    have hSlt : ∀ x, x ∈ S → x < G.length := fun x hx => stlt x (Ssub x hx)
    -- just
    refine ⟨.ref l, rfl, .ref ap, rfl, ap, xa, rfl, .inl (SqL.of (s35 ap _ ea)), .ref szp, rfl, szp, nvs sz, 6, nv n6, rfl, rfl, SqL.of (s35 szp _ hz3), e6, .ref szp, rfl, szp, nvs sz, 7, nv n7, rfl, rfl, SqL.of (s35 szp _ hz3), e7, l, zs, G.length, n6, n7, (by rw [la]; rfl), sqS hl3 s35, by omega, fun H6 jp J s6 hJ Jl Jr => ?_⟩
    have s36 : Same H3 H6 := s35.trans s6
    -- pairs
    refine ⟨.ref l, rfl, .ref ap, rfl, ap, xa, rfl, .inl (SqL.of (s36 ap _ ea)), .ref szp, rfl, szp, nvs sz, 8, nv n8, rfl, rfl, SqL.of (s36 szp _ hz3), e8, .ref szp, rfl, szp, nvs sz, 9, nv n9, rfl, rfl, SqL.of (s36 szp _ hz3), e9, l, zs, G.length, n8, n9, (by rw [la]; rfl), sqS hl3 s36, by omega, fun H7 pp C s7 hC Cl Cr => ?_⟩
    have s37 : Same H3 H7 := s36.trans s7
    have hG7 : LL H7 ap G := hG.same s37
    have hS7 : LA H7 sp S := s7 sp _ (s6 sp _ hS)
    have hJ7 : LL H7 jp J := hJ.same s7
    -- find_fair
    refine ⟨.ref ap, rfl, ap, G, rfl, hG7, by omega, fun g hg => Nat.le_trans (gw.row g hg) (by decide), fun H8 a2 s8 ha2 => ?_⟩
    refine ⟨.ref sp, rfl, sp, nvs S, rfl, .inl (SqL.of (s8 sp _ hS7)), fun b2 nb2 => ?_⟩
    have s9 : Same H8 (upd H8 b2 (.lst (nvs S))) := same_upd nb2
    have hb2 : LA (upd H8 b2 (.lst (nvs S))) b2 S := upd_same
    generalize upd H8 b2 (.lst (nvs S)) = H9 at s9 hb2 ⊢
    have s79 : Same H7 H9 := s8.trans s9
    refine ⟨.ref jp, rfl, jp, J, rfl, hJ7.same s79, by omega, fun g hg => Nat.le_trans (Jr g hg) (by decide), fun Ha c2 sa hc2 => ?_⟩
    have s7a : Same H7 Ha := s79.trans sa
    refine ⟨.ref pp, rfl, pp, C, rfl, hC.same s7a, by omega, fun Hb d2 sb hd2 => ⟨rfl, rfl, ?_⟩⟩
    have s7b : Same H7 Hb := s7a.trans sb
    have shJ : ShortJ J := ⟨by omega, fun j hj => Nat.le_trans (Jr j hj) (by decide)⟩
    have shC : ShortC C := ⟨by omega, fun c hc => ⟨Nat.le_trans (Cr c hc).1 (by decide), Nat.le_trans (Cr c hc).2 (by decide)⟩⟩
    refine ⟨a2, b2, c2, d2, G, S, J, C, rfl, ((ha2.same s9).same sa).same sb, sb b2 _ (sa b2 _ hb2), hc2.same sb, hd2, hSlt, gw, shJ, shC, by omega, hT.ext fun b o e => s7b b o (s37 b o (s03 b o e)), fun Hc t x ns sc ht nasc nrs nlt good => ?_, fun Hc t p x path loop ec ht hp hx cy => ?_⟩
    · -- blocks
      have s7c : Same H7 Hc := s7b.trans sc
      obtain ⟨ys, hys⟩ := good_lst good
      refine ⟨.ref t, rfl, t, rfl, .inl ⟨x, ys, ht, hys, true, rfl, iteT ?_⟩⟩
      refine ⟨.ref ap, rfl, .ref sp, rfl, ap, sp, G, S, rfl, hG7.same s7c, s7c sp _ hS7, hSlt, gw, fun Hd np ns2 sd hnp asc2 mem2 => ?_⟩
      have en : ns2 = ns := asc_eq asc2 nasc fun v => (mem2 v).trans (nrs v).symm
      subst en
      have s7d : Same H7 Hd := s7c.trans sd
      obtain ⟨xp, ep, lp⟩ := (hC.same s7d).lst
      have nl60 : ns2.length ≤ 60 := Nat.le_trans (nodup_lt nasc.nodup nlt) hn
      refine ⟨.ref ap, rfl, .ref np, rfl, .ref t, rfl, t, _, 1, .ref x, rfl, rfl, SqT.of (sd t _ ht), atI_nat (j := 1) rfl, .ref jp, rfl, .ref pp, rfl, .ref pp, rfl, pp, xp, rfl, .inl (SqL.of ep), xp.length, 1, rfl, rfl, C.length + 1, by omega, ap, np, x, jp, pp, G, ns2, J, C, (by rw [lp]; rfl), hG7.same s7d, hnp, nasc, hJ7.same s7d, hC.same s7d, nlt, nl60, good.mono sd _ _ _, fun He _ => q He⟩
    · -- a cycle
      have e7c : LamX.ExtN H7 Hc := (extS s7b).trans ec
      refine ⟨.ref t, rfl, t, rfl, .inr ⟨p, x, ht, false, rfl, iteF ?_⟩⟩
      exact ⟨.ref ap, rfl, .ref sp, rfl, .ref t, rfl, .ref jp, rfl, .ref pp, rfl, ap, sp, t, jp, pp, p, x, G, S, J, C, path, loop, rfl, LLx e7c hG7, LAx e7c hS7, ht, hp, hx, LLx e7c hJ7, LPx e7c hC, cy, hn, by omega, by omega, fun He _ => q He⟩
end
end K56
set_option Elab.async false
set_option linter.all false
set_option maxRecDepth 100000
/-! K56End: what the top has left; the last theorem. -/
namespace K56
open PySem PySem.Spec PyProof.Rows L2 LamX
set_option maxHeartbeats 4000000 in
theorem all_mk {l : PySem.W.OpenLaw} {w : World} {K : PySem.W.Frag} {h : Heap} {mg : Str → Option Value} {fa c Pt : Addr} (X : K.In h) (G : h.Ns mainGlobals mg) (hfa : mg "law" = some (.ref fa)) (hP : h.get? Pt = some { cls := .none, data := .fields #[] }) (nP : K.lookup Pt = none) (hcp : PySem.W.codeHdIn K c Pt = true)
    {f1 : Addr} {od1 an1 : Option Addr} {sl1 : Array (Option Value)} {oc1 kV1 dc1 pm1 cd1 ct1 : Value} (a1 : PySem.W.nsIn K mainGlobals "has_inner_edge" = some (some (.ref f1))) (l1 : K.lookup f1 = some ⟨oc1, od1, .func (PySem.W.fnOf "has_inner_edge" "has_inner_edge" (defArgs (topS 1)) (defBody (topS 1)) (defScope (topS 1)) .none kV1 dc1 pm1 an1 cd1 ct1), sl1⟩) (c1 : PySem.W.codeIn K cd1 "has_inner_edge" = true) (k1 : PySem.W.keepIn K (.ref f1) = true)
    {f2 : Addr} {od2 an2 : Option Addr} {sl2 : Array (Option Value)} {oc2 kV2 dc2 pm2 cd2 ct2 : Value} (a2 : PySem.W.nsIn K mainGlobals "share" = some (some (.ref f2))) (l2 : K.lookup f2 = some ⟨oc2, od2, .func (PySem.W.fnOf "share" "share" (defArgs (topS 2)) (defBody (topS 2)) (defScope (topS 2)) .none kV2 dc2 pm2 an2 cd2 ct2), sl2⟩) (c2 : PySem.W.codeIn K cd2 "share" = true) (k2 : PySem.W.keepIn K (.ref f2) = true)
    {f4 : Addr} {od4 an4 : Option Addr} {sl4 : Array (Option Value)} {oc4 kV4 dc4 pm4 cd4 ct4 : Value} (a4 : PySem.W.nsIn K mainGlobals "restricted" = some (some (.ref f4))) (l4 : K.lookup f4 = some ⟨oc4, od4, .func (PySem.W.fnOf "restricted" "restricted" (defArgs (topS 4)) (defBody (topS 4)) (defScope (topS 4)) .none kV4 dc4 pm4 an4 cd4 ct4), sl4⟩) (c4 : PySem.W.codeIn K cd4 "restricted" = true) (k4 : PySem.W.keepIn K (.ref f4) = true)
    {f5 : Addr} {od5 an5 : Option Addr} {sl5 : Array (Option Value)} {oc5 kV5 dc5 pm5 cd5 ct5 : Value} (a5 : PySem.W.nsIn K mainGlobals "turned" = some (some (.ref f5))) (l5 : K.lookup f5 = some ⟨oc5, od5, .func (PySem.W.fnOf "turned" "turned" (defArgs (topS 5)) (defBody (topS 5)) (defScope (topS 5)) .none kV5 dc5 pm5 an5 cd5 ct5), sl5⟩) (c5 : PySem.W.codeIn K cd5 "turned" = true) (k5 : PySem.W.keepIn K (.ref f5) = true)
    {f6 : Addr} {od6 an6 : Option Addr} {sl6 : Array (Option Value)} {oc6 kV6 dc6 pm6 cd6 ct6 : Value} (a6 : PySem.W.nsIn K mainGlobals "finish_from" = some (some (.ref f6))) (l6 : K.lookup f6 = some ⟨oc6, od6, .func (PySem.W.fnOf "finish_from" "finish_from" (defArgs (topS 6)) (defBody (topS 6)) (defScope (topS 6)) .none kV6 dc6 pm6 an6 cd6 ct6), sl6⟩) (c6 : PySem.W.codeIn K cd6 "finish_from" = true) (k6 : PySem.W.keepIn K (.ref f6) = true)
    {f7 : Addr} {od7 an7 : Option Addr} {sl7 : Array (Option Value)} {oc7 kV7 dc7 pm7 cd7 ct7 : Value} (a7 : PySem.W.nsIn K mainGlobals "components" = some (some (.ref f7))) (l7 : K.lookup f7 = some ⟨oc7, od7, .func (PySem.W.fnOf "components" "components" (defArgs (topS 7)) (defBody (topS 7)) (defScope (topS 7)) .none kV7 dc7 pm7 an7 cd7 ct7), sl7⟩) (c7 : PySem.W.codeIn K cd7 "components" = true) (k7 : PySem.W.keepIn K (.ref f7) = true)
    {f9 : Addr} {od9 an9 : Option Addr} {sl9 : Array (Option Value)} {oc9 kV9 dc9 pm9 cd9 ct9 : Value} (a9 : PySem.W.nsIn K mainGlobals "way" = some (some (.ref f9))) (l9 : K.lookup f9 = some ⟨oc9, od9, .func (PySem.W.fnOf "way" "way" (defArgs (topS 9)) (defBody (topS 9)) (defScope (topS 9)) .none kV9 dc9 pm9 an9 cd9 ct9), sl9⟩) (c9 : PySem.W.codeIn K cd9 "way" = true) (k9 : PySem.W.keepIn K (.ref f9) = true)
    {f10 : Addr} {od10 an10 : Option Addr} {sl10 : Array (Option Value)} {oc10 kV10 dc10 pm10 cd10 ct10 : Value} (a10 : PySem.W.nsIn K mainGlobals "round_trip" = some (some (.ref f10))) (l10 : K.lookup f10 = some ⟨oc10, od10, .func (PySem.W.fnOf "round_trip" "round_trip" (defArgs (topS 10)) (defBody (topS 10)) (defScope (topS 10)) .none kV10 dc10 pm10 an10 cd10 ct10), sl10⟩) (c10 : PySem.W.codeIn K cd10 "round_trip" = true) (k10 : PySem.W.keepIn K (.ref f10) = true)
    {f12 : Addr} {od12 an12 : Option Addr} {sl12 : Array (Option Value)} {oc12 kV12 dc12 pm12 cd12 ct12 : Value} (a12 : PySem.W.nsIn K mainGlobals "reachable" = some (some (.ref f12))) (l12 : K.lookup f12 = some ⟨oc12, od12, .func (PySem.W.fnOf "reachable" "reachable" (defArgs (topS 12)) (defBody (topS 12)) (defScope (topS 12)) .none kV12 dc12 pm12 an12 cd12 ct12), sl12⟩) (c12 : PySem.W.codeIn K cd12 "reachable" = true) (k12 : PySem.W.keepIn K (.ref f12) = true)
    {f13 : Addr} {od13 an13 : Option Addr} {sl13 : Array (Option Value)} {oc13 kV13 dc13 pm13 cd13 ct13 : Value} (a13 : PySem.W.nsIn K mainGlobals "distances" = some (some (.ref f13))) (l13 : K.lookup f13 = some ⟨oc13, od13, .func (PySem.W.fnOf "distances" "distances" (defArgs (topS 13)) (defBody (topS 13)) (defScope (topS 13)) .none kV13 dc13 pm13 an13 cd13 ct13), sl13⟩) (c13 : PySem.W.codeIn K cd13 "distances" = true) (k13 : PySem.W.keepIn K (.ref f13) = true)
    {f14 : Addr} {od14 an14 : Option Addr} {sl14 : Array (Option Value)} {oc14 kV14 dc14 pm14 ct14 : Value} (a14 : PySem.W.nsIn K mainGlobals "shortest_path" = some (some (.ref f14))) (l14 : K.lookup f14 = some ⟨oc14, od14, .func (PySem.W.fnOf "shortest_path" "shortest_path" (defArgs (topS 14)) (defBody (topS 14)) (defScope (topS 14)) .none kV14 dc14 pm14 an14 (.ref c) ct14), sl14⟩) (c14 : PySem.W.codeIn K (.ref c) "shortest_path" = true) (k14 : PySem.W.keepIn K (.ref f14) = true)
    {f15 : Addr} {od15 an15 : Option Addr} {sl15 : Array (Option Value)} {oc15 kV15 dc15 pm15 cd15 ct15 : Value} (a15 : PySem.W.nsIn K mainGlobals "node_before" = some (some (.ref f15))) (l15 : K.lookup f15 = some ⟨oc15, od15, .func (PySem.W.fnOf "node_before" "node_before" (defArgs (topS 15)) (defBody (topS 15)) (defScope (topS 15)) .none kV15 dc15 pm15 an15 cd15 ct15), sl15⟩) (c15 : PySem.W.codeIn K cd15 "node_before" = true) (k15 : PySem.W.keepIn K (.ref f15) = true)
    {f17 : Addr} {od17 an17 : Option Addr} {sl17 : Array (Option Value)} {oc17 kV17 dc17 pm17 cd17 ct17 : Value} (a17 : PySem.W.nsIn K mainGlobals "reason_for" = some (some (.ref f17))) (l17 : K.lookup f17 = some ⟨oc17, od17, .func (PySem.W.fnOf "reason_for" "reason_for" (defArgs (topS 17)) (defBody (topS 17)) (defScope (topS 17)) .none kV17 dc17 pm17 an17 cd17 ct17), sl17⟩) (c17 : PySem.W.codeIn K cd17 "reason_for" = true) (k17 : PySem.W.keepIn K (.ref f17) = true)
    {f18 : Addr} {od18 an18 : Option Addr} {sl18 : Array (Option Value)} {oc18 kV18 dc18 pm18 cd18 ct18 : Value} (a18 : PySem.W.nsIn K mainGlobals "search_nodes" = some (some (.ref f18))) (l18 : K.lookup f18 = some ⟨oc18, od18, .func (PySem.W.fnOf "search_nodes" "search_nodes" (defArgs (topS 18)) (defBody (topS 18)) (defScope (topS 18)) .none kV18 dc18 pm18 an18 cd18 ct18), sl18⟩) (c18 : PySem.W.codeIn K cd18 "search_nodes" = true) (k18 : PySem.W.keepIn K (.ref f18) = true)
    {f19 : Addr} {od19 an19 : Option Addr} {sl19 : Array (Option Value)} {oc19 kV19 dc19 pm19 cd19 ct19 : Value} (a19 : PySem.W.nsIn K mainGlobals "common" = some (some (.ref f19))) (l19 : K.lookup f19 = some ⟨oc19, od19, .func (PySem.W.fnOf "common" "common" (defArgs (topS 19)) (defBody (topS 19)) (defScope (topS 19)) .none kV19 dc19 pm19 an19 cd19 ct19), sl19⟩) (c19 : PySem.W.codeIn K cd19 "common" = true) (k19 : PySem.W.keepIn K (.ref f19) = true)
    {f20 : Addr} {od20 an20 : Option Addr} {sl20 : Array (Option Value)} {oc20 kV20 dc20 pm20 cd20 ct20 : Value} (a20 : PySem.W.nsIn K mainGlobals "needed" = some (some (.ref f20))) (l20 : K.lookup f20 = some ⟨oc20, od20, .func (PySem.W.fnOf "needed" "needed" (defArgs (topS 20)) (defBody (topS 20)) (defScope (topS 20)) .none kV20 dc20 pm20 an20 cd20 ct20), sl20⟩) (c20 : PySem.W.codeIn K cd20 "needed" = true) (k20 : PySem.W.keepIn K (.ref f20) = true)
    {f21 : Addr} {od21 an21 : Option Addr} {sl21 : Array (Option Value)} {oc21 kV21 dc21 pm21 cd21 ct21 : Value} (a21 : PySem.W.nsIn K mainGlobals "find_fair" = some (some (.ref f21))) (l21 : K.lookup f21 = some ⟨oc21, od21, .func (PySem.W.fnOf "find_fair" "find_fair" (defArgs (topS 21)) (defBody (topS 21)) (defScope (topS 21)) .none kV21 dc21 pm21 an21 cd21 ct21), sl21⟩) (c21 : PySem.W.codeIn K cd21 "find_fair" = true) (k21 : PySem.W.keepIn K (.ref f21) = true)
    {f23 : Addr} {od23 an23 : Option Addr} {sl23 : Array (Option Value)} {oc23 kV23 dc23 pm23 cd23 ct23 : Value} (a23 : PySem.W.nsIn K mainGlobals "_law_cell" = some (some (.ref f23))) (l23 : K.lookup f23 = some ⟨oc23, od23, .func (PySem.W.fnOf "_law_cell" "_law_cell" (defArgs (topS 23)) (defBody (topS 23)) (defScope (topS 23)) .none kV23 dc23 pm23 an23 cd23 ct23), sl23⟩) (c23 : PySem.W.codeIn K cd23 "_law_cell" = true) (k23 : PySem.W.keepIn K (.ref f23) = true)
    {f24 : Addr} {od24 an24 : Option Addr} {sl24 : Array (Option Value)} {oc24 kV24 dc24 pm24 cd24 ct24 : Value} (a24 : PySem.W.nsIn K mainGlobals "_law_draws" = some (some (.ref f24))) (l24 : K.lookup f24 = some ⟨oc24, od24, .func (PySem.W.fnOf "_law_draws" "_law_draws" (defArgs (topS 24)) (defBody (topS 24)) (defScope (topS 24)) .none kV24 dc24 pm24 an24 cd24 ct24), sl24⟩) (c24 : PySem.W.codeIn K cd24 "_law_draws" = true) (k24 : PySem.W.keepIn K (.ref f24) = true)
    {f25 : Addr} {od25 an25 : Option Addr} {sl25 : Array (Option Value)} {oc25 kV25 dc25 pm25 cd25 ct25 : Value} (a25 : PySem.W.nsIn K mainGlobals "_law_graph" = some (some (.ref f25))) (l25 : K.lookup f25 = some ⟨oc25, od25, .func (PySem.W.fnOf "_law_graph" "_law_graph" (defArgs (topS 25)) (defBody (topS 25)) (defScope (topS 25)) .none kV25 dc25 pm25 an25 cd25 ct25), sl25⟩) (c25 : PySem.W.codeIn K cd25 "_law_graph" = true) (k25 : PySem.W.keepIn K (.ref f25) = true)
    {f26 : Addr} {od26 an26 : Option Addr} {sl26 : Array (Option Value)} {oc26 kV26 dc26 pm26 cd26 ct26 : Value} (a26 : PySem.W.nsIn K mainGlobals "_law_long_graph" = some (some (.ref f26))) (l26 : K.lookup f26 = some ⟨oc26, od26, .func (PySem.W.fnOf "_law_long_graph" "_law_long_graph" (defArgs (topS 26)) (defBody (topS 26)) (defScope (topS 26)) .none kV26 dc26 pm26 an26 cd26 ct26), sl26⟩) (c26 : PySem.W.codeIn K cd26 "_law_long_graph" = true) (k26 : PySem.W.keepIn K (.ref f26) = true)
    {f27 : Addr} {od27 an27 : Option Addr} {sl27 : Array (Option Value)} {oc27 kV27 dc27 pm27 cd27 ct27 : Value} (a27 : PySem.W.nsIn K mainGlobals "_law_chosen" = some (some (.ref f27))) (l27 : K.lookup f27 = some ⟨oc27, od27, .func (PySem.W.fnOf "_law_chosen" "_law_chosen" (defArgs (topS 27)) (defBody (topS 27)) (defScope (topS 27)) .none kV27 dc27 pm27 an27 cd27 ct27), sl27⟩) (c27 : PySem.W.codeIn K cd27 "_law_chosen" = true) (k27 : PySem.W.keepIn K (.ref f27) = true)
    {f28 : Addr} {od28 an28 : Option Addr} {sl28 : Array (Option Value)} {oc28 kV28 dc28 pm28 cd28 ct28 : Value} (a28 : PySem.W.nsIn K mainGlobals "_law_turned" = some (some (.ref f28))) (l28 : K.lookup f28 = some ⟨oc28, od28, .func (PySem.W.fnOf "_law_turned" "_law_turned" (defArgs (topS 28)) (defBody (topS 28)) (defScope (topS 28)) .none kV28 dc28 pm28 an28 cd28 ct28), sl28⟩) (c28 : PySem.W.codeIn K cd28 "_law_turned" = true) (k28 : PySem.W.keepIn K (.ref f28) = true)
    {f29 : Addr} {od29 an29 : Option Addr} {sl29 : Array (Option Value)} {oc29 kV29 dc29 pm29 cd29 ct29 : Value} (a29 : PySem.W.nsIn K mainGlobals "_law_starts" = some (some (.ref f29))) (l29 : K.lookup f29 = some ⟨oc29, od29, .func (PySem.W.fnOf "_law_starts" "_law_starts" (defArgs (topS 29)) (defBody (topS 29)) (defScope (topS 29)) .none kV29 dc29 pm29 an29 cd29 ct29), sl29⟩) (c29 : PySem.W.codeIn K cd29 "_law_starts" = true) (k29 : PySem.W.keepIn K (.ref f29) = true)
    {f30 : Addr} {od30 an30 : Option Addr} {sl30 : Array (Option Value)} {oc30 kV30 dc30 pm30 cd30 ct30 : Value} (a30 : PySem.W.nsIn K mainGlobals "_law_lists" = some (some (.ref f30))) (l30 : K.lookup f30 = some ⟨oc30, od30, .func (PySem.W.fnOf "_law_lists" "_law_lists" (defArgs (topS 30)) (defBody (topS 30)) (defScope (topS 30)) .none kV30 dc30 pm30 an30 cd30 ct30), sl30⟩) (c30 : PySem.W.codeIn K cd30 "_law_lists" = true) (k30 : PySem.W.keepIn K (.ref f30) = true)
    {f31 : Addr} {od31 an31 : Option Addr} {sl31 : Array (Option Value)} {oc31 kV31 dc31 pm31 cd31 ct31 : Value} (a31 : PySem.W.nsIn K mainGlobals "_law_count" = some (some (.ref f31))) (l31 : K.lookup f31 = some ⟨oc31, od31, .func (PySem.W.fnOf "_law_count" "_law_count" (defArgs (topS 31)) (defBody (topS 31)) (defScope (topS 31)) .none kV31 dc31 pm31 an31 cd31 ct31), sl31⟩) (c31 : PySem.W.codeIn K cd31 "_law_count" = true) (k31 : PySem.W.keepIn K (.ref f31) = true)
    {f32 : Addr} {od32 an32 : Option Addr} {sl32 : Array (Option Value)} {oc32 kV32 dc32 pm32 cd32 ct32 : Value} (a32 : PySem.W.nsIn K mainGlobals "_law_just" = some (some (.ref f32))) (l32 : K.lookup f32 = some ⟨oc32, od32, .func (PySem.W.fnOf "_law_just" "_law_just" (defArgs (topS 32)) (defBody (topS 32)) (defScope (topS 32)) .none kV32 dc32 pm32 an32 cd32 ct32), sl32⟩) (c32 : PySem.W.codeIn K cd32 "_law_just" = true) (k32 : PySem.W.keepIn K (.ref f32) = true)
    {f33 : Addr} {od33 an33 : Option Addr} {sl33 : Array (Option Value)} {oc33 kV33 dc33 pm33 cd33 ct33 : Value} (a33 : PySem.W.nsIn K mainGlobals "_law_pairs" = some (some (.ref f33))) (l33 : K.lookup f33 = some ⟨oc33, od33, .func (PySem.W.fnOf "_law_pairs" "_law_pairs" (defArgs (topS 33)) (defBody (topS 33)) (defScope (topS 33)) .none kV33 dc33 pm33 an33 cd33 ct33), sl33⟩) (c33 : PySem.W.codeIn K cd33 "_law_pairs" = true) (k33 : PySem.W.keepIn K (.ref f33) = true)
    {f34 : Addr} {od34 an34 : Option Addr} {sl34 : Array (Option Value)} {oc34 kV34 dc34 pm34 cd34 ct34 : Value} (a34 : PySem.W.nsIn K mainGlobals "_law_is_integer" = some (some (.ref f34))) (l34 : K.lookup f34 = some ⟨oc34, od34, .func (PySem.W.fnOf "_law_is_integer" "_law_is_integer" (defArgs (topS 34)) (defBody (topS 34)) (defScope (topS 34)) .none kV34 dc34 pm34 an34 cd34 ct34), sl34⟩) (c34 : PySem.W.codeIn K cd34 "_law_is_integer" = true) (k34 : PySem.W.keepIn K (.ref f34) = true)
    {f35 : Addr} {od35 an35 : Option Addr} {sl35 : Array (Option Value)} {oc35 kV35 dc35 pm35 cd35 ct35 : Value} (a35 : PySem.W.nsIn K mainGlobals "_law_is_nodes" = some (some (.ref f35))) (l35 : K.lookup f35 = some ⟨oc35, od35, .func (PySem.W.fnOf "_law_is_nodes" "_law_is_nodes" (defArgs (topS 35)) (defBody (topS 35)) (defScope (topS 35)) .none kV35 dc35 pm35 an35 cd35 ct35), sl35⟩) (c35 : PySem.W.codeIn K cd35 "_law_is_nodes" = true) (k35 : PySem.W.keepIn K (.ref f35) = true)
    {f36 : Addr} {od36 an36 : Option Addr} {sl36 : Array (Option Value)} {oc36 kV36 dc36 pm36 cd36 ct36 : Value} (a36 : PySem.W.nsIn K mainGlobals "_law_reach" = some (some (.ref f36))) (l36 : K.lookup f36 = some ⟨oc36, od36, .func (PySem.W.fnOf "_law_reach" "_law_reach" (defArgs (topS 36)) (defBody (topS 36)) (defScope (topS 36)) .none kV36 dc36 pm36 an36 cd36 ct36), sl36⟩) (c36 : PySem.W.codeIn K cd36 "_law_reach" = true) (k36 : PySem.W.keepIn K (.ref f36) = true)
    {f37 : Addr} {od37 an37 : Option Addr} {sl37 : Array (Option Value)} {oc37 kV37 dc37 pm37 cd37 ct37 : Value} (a37 : PySem.W.nsIn K mainGlobals "_law_is_walk" = some (some (.ref f37))) (l37 : K.lookup f37 = some ⟨oc37, od37, .func (PySem.W.fnOf "_law_is_walk" "_law_is_walk" (defArgs (topS 37)) (defBody (topS 37)) (defScope (topS 37)) .none kV37 dc37 pm37 an37 cd37 ct37), sl37⟩) (c37 : PySem.W.codeIn K cd37 "_law_is_walk" = true) (k37 : PySem.W.keepIn K (.ref f37) = true)
    {f38 : Addr} {od38 an38 : Option Addr} {sl38 : Array (Option Value)} {oc38 kV38 dc38 pm38 cd38 ct38 : Value} (a38 : PySem.W.nsIn K mainGlobals "_law_meets" = some (some (.ref f38))) (l38 : K.lookup f38 = some ⟨oc38, od38, .func (PySem.W.fnOf "_law_meets" "_law_meets" (defArgs (topS 38)) (defBody (topS 38)) (defScope (topS 38)) .none kV38 dc38 pm38 an38 cd38 ct38), sl38⟩) (c38 : PySem.W.codeIn K cd38 "_law_meets" = true) (k38 : PySem.W.keepIn K (.ref f38) = true)
    {f39 : Addr} {od39 an39 : Option Addr} {sl39 : Array (Option Value)} {oc39 kV39 dc39 pm39 cd39 ct39 : Value} (a39 : PySem.W.nsIn K mainGlobals "_law_leads" = some (some (.ref f39))) (l39 : K.lookup f39 = some ⟨oc39, od39, .func (PySem.W.fnOf "_law_leads" "_law_leads" (defArgs (topS 39)) (defBody (topS 39)) (defScope (topS 39)) .none kV39 dc39 pm39 an39 cd39 ct39), sl39⟩) (c39 : PySem.W.codeIn K cd39 "_law_leads" = true) (k39 : PySem.W.keepIn K (.ref f39) = true)
    {f40 : Addr} {od40 an40 : Option Addr} {sl40 : Array (Option Value)} {oc40 kV40 dc40 pm40 cd40 ct40 : Value} (a40 : PySem.W.nsIn K mainGlobals "_law_fair" = some (some (.ref f40))) (l40 : K.lookup f40 = some ⟨oc40, od40, .func (PySem.W.fnOf "_law_fair" "_law_fair" (defArgs (topS 40)) (defBody (topS 40)) (defScope (topS 40)) .none kV40 dc40 pm40 an40 cd40 ct40), sl40⟩) (c40 : PySem.W.codeIn K cd40 "_law_fair" = true) (k40 : PySem.W.keepIn K (.ref f40) = true)
    {f41 : Addr} {od41 an41 : Option Addr} {sl41 : Array (Option Value)} {oc41 kV41 dc41 pm41 cd41 ct41 : Value} (a41 : PySem.W.nsIn K mainGlobals "_law_is_cycle" = some (some (.ref f41))) (l41 : K.lookup f41 = some ⟨oc41, od41, .func (PySem.W.fnOf "_law_is_cycle" "_law_is_cycle" (defArgs (topS 41)) (defBody (topS 41)) (defScope (topS 41)) .none kV41 dc41 pm41 an41 cd41 ct41), sl41⟩) (c41 : PySem.W.codeIn K cd41 "_law_is_cycle" = true) (k41 : PySem.W.keepIn K (.ref f41) = true)
    {f42 : Addr} {od42 an42 : Option Addr} {sl42 : Array (Option Value)} {oc42 kV42 dc42 pm42 cd42 ct42 : Value} (a42 : PySem.W.nsIn K mainGlobals "_law_says_blocks" = some (some (.ref f42))) (l42 : K.lookup f42 = some ⟨oc42, od42, .func (PySem.W.fnOf "_law_says_blocks" "_law_says_blocks" (defArgs (topS 42)) (defBody (topS 42)) (defScope (topS 42)) .none kV42 dc42 pm42 an42 cd42 ct42), sl42⟩) (c42 : PySem.W.codeIn K cd42 "_law_says_blocks" = true) (k42 : PySem.W.keepIn K (.ref f42) = true)
    {f43 : Addr} {od43 an43 : Option Addr} {sl43 : Array (Option Value)} {oc43 kV43 dc43 pm43 cd43 ct43 : Value} (a43 : PySem.W.nsIn K mainGlobals "_law_is_block" = some (some (.ref f43))) (l43 : K.lookup f43 = some ⟨oc43, od43, .func (PySem.W.fnOf "_law_is_block" "_law_is_block" (defArgs (topS 43)) (defBody (topS 43)) (defScope (topS 43)) .none kV43 dc43 pm43 an43 cd43 ct43), sl43⟩) (c43 : PySem.W.codeIn K cd43 "_law_is_block" = true) (k43 : PySem.W.keepIn K (.ref f43) = true)
    {f44 : Addr} {od44 an44 : Option Addr} {sl44 : Array (Option Value)} {oc44 kV44 dc44 pm44 cd44 ct44 : Value} (a44 : PySem.W.nsIn K mainGlobals "_law_good_blocks" = some (some (.ref f44))) (l44 : K.lookup f44 = some ⟨oc44, od44, .func (PySem.W.fnOf "_law_good_blocks" "_law_good_blocks" (defArgs (topS 44)) (defBody (topS 44)) (defScope (topS 44)) .none kV44 dc44 pm44 an44 cd44 ct44), sl44⟩) (c44 : PySem.W.codeIn K cd44 "_law_good_blocks" = true) (k44 : PySem.W.keepIn K (.ref f44) = true)
    {f45 : Addr} {od45 an45 : Option Addr} {sl45 : Array (Option Value)} {oc45 kV45 dc45 pm45 cd45 ct45 : Value} (a45 : PySem.W.nsIn K mainGlobals "_law_good_reason" = some (some (.ref f45))) (l45 : K.lookup f45 = some ⟨oc45, od45, .func (PySem.W.fnOf "_law_good_reason" "_law_good_reason" (defArgs (topS 45)) (defBody (topS 45)) (defScope (topS 45)) .none kV45 dc45 pm45 an45 cd45 ct45), sl45⟩) (c45 : PySem.W.codeIn K cd45 "_law_good_reason" = true) (k45 : PySem.W.keepIn K (.ref f45) = true)
    {f46 : Addr} {od46 an46 : Option Addr} {sl46 : Array (Option Value)} {oc46 kV46 dc46 pm46 cd46 ct46 : Value} (a46 : PySem.W.nsIn K mainGlobals "_law_copy" = some (some (.ref f46))) (l46 : K.lookup f46 = some ⟨oc46, od46, .func (PySem.W.fnOf "_law_copy" "_law_copy" (defArgs (topS 46)) (defBody (topS 46)) (defScope (topS 46)) .none kV46 dc46 pm46 an46 cd46 ct46), sl46⟩) (c46 : PySem.W.codeIn K cd46 "_law_copy" = true) (k46 : PySem.W.keepIn K (.ref f46) = true)
    {f47 : Addr} {od47 an47 : Option Addr} {sl47 : Array (Option Value)} {oc47 kV47 dc47 pm47 cd47 ct47 : Value} (a47 : PySem.W.nsIn K mainGlobals "_law_copy_pairs" = some (some (.ref f47))) (l47 : K.lookup f47 = some ⟨oc47, od47, .func (PySem.W.fnOf "_law_copy_pairs" "_law_copy_pairs" (defArgs (topS 47)) (defBody (topS 47)) (defScope (topS 47)) .none kV47 dc47 pm47 an47 cd47 ct47), sl47⟩) (c47 : PySem.W.codeIn K cd47 "_law_copy_pairs" = true) (k47 : PySem.W.keepIn K (.ref f47) = true)
    {f48 : Addr} {od48 an48 : Option Addr} {sl48 : Array (Option Value)} {oc48 kV48 dc48 pm48 cd48 ct48 : Value} (a48 : PySem.W.nsIn K mainGlobals "law" = some (some (.ref f48))) (l48 : K.lookup f48 = some ⟨oc48, od48, .func (PySem.W.fnOf "law" "law" (defArgs (topS 48)) (defBody (topS 48)) (defScope (topS 48)) .none kV48 dc48 pm48 an48 cd48 ct48), sl48⟩) (c48 : PySem.W.codeIn K cd48 "law" = true) (k48 : PySem.W.keepIn K (.ref f48) = true)
    (z_len : PySem.W.nsIn K mainGlobals "len" = some none)
    (z_any : PySem.W.nsIn K mainGlobals "any" = some none)
    (z_sorted : PySem.W.nsIn K mainGlobals "sorted" = some none)
    (z_enumerate : PySem.W.nsIn K mainGlobals "enumerate" = some none)
    (z_range : PySem.W.nsIn K mainGlobals "range" = some none)
    (z_min : PySem.W.nsIn K mainGlobals "min" = some none)
    (z_int : PySem.W.nsIn K mainGlobals "int" = some none)
    (z_list : PySem.W.nsIn K mainGlobals "list" = some none)
    (z_reversed : PySem.W.nsIn K mainGlobals "reversed" = some none)
    (z_isinstance : PySem.W.nsIn K mainGlobals "isinstance" = some none)
    (z_bool : PySem.W.nsIn K mainGlobals "bool" = some none)
    (z_tuple : PySem.W.nsIn K mainGlobals "tuple" = some none)
    (z_str : PySem.W.nsIn K mainGlobals "str" = some none)
    : LawAtS l w K CX0 18 63 "_law_script" mg fa h := by
  have e := hfa.symm.trans (PySem.W.mg_of X G a48)
  cases e
  have F1 := fun_mk (st := topS 1) l1 c1 k1
  have D1 : Df K mg "has_inner_edge" 1 ["after", "nodes"] f1 _ := ⟨F1, F1.binds fun _ _ _ _ _ _ us hl => match us, hl with | [_, _], _ => rfl, PySem.W.mg_of X G a1⟩
  have F2 := fun_mk (st := topS 2) l2 c2 k2
  have D2 : Df K mg "share" 2 ["nodes", "others"] f2 _ := ⟨F2, F2.binds fun _ _ _ _ _ _ us hl => match us, hl with | [_, _], _ => rfl, PySem.W.mg_of X G a2⟩
  have F4 := fun_mk (st := topS 4) l4 c4 k4
  have D4 : Df K mg "restricted" 4 ["after", "members"] f4 _ := ⟨F4, F4.binds fun _ _ _ _ _ _ us hl => match us, hl with | [_, _], _ => rfl, PySem.W.mg_of X G a4⟩
  have F5 := fun_mk (st := topS 5) l5 c5 k5
  have D5 : Df K mg "turned" 5 ["edges"] f5 _ := ⟨F5, F5.binds fun _ _ _ _ _ _ us hl => match us, hl with | [_], _ => rfl, PySem.W.mg_of X G a5⟩
  have F6 := fun_mk (st := topS 6) l6 c6 k6
  have D6 : Df K mg "finish_from" 6 ["edges", "start", "seen", "order"] f6 _ := ⟨F6, F6.binds fun _ _ _ _ _ _ us hl => match us, hl with | [_, _, _, _], _ => rfl, PySem.W.mg_of X G a6⟩
  have F7 := fun_mk (st := topS 7) l7 c7 k7
  have D7 : Df K mg "components" 7 ["after", "members"] f7 _ := ⟨F7, F7.binds fun _ _ _ _ _ _ us hl => match us, hl with | [_, _], _ => rfl, PySem.W.mg_of X G a7⟩
  have F9 := fun_mk (st := topS 9) l9 c9 k9
  have D9 : Df K mg "way" 9 ["edges", "start", "goal"] f9 _ := ⟨F9, F9.binds fun _ _ _ _ _ _ us hl => match us, hl with | [_, _, _], _ => rfl, PySem.W.mg_of X G a9⟩
  have F10 := fun_mk (st := topS 10) l10 c10 k10
  have D10 : Df K mg "round_trip" 10 ["after", "members", "targets"] f10 _ := ⟨F10, F10.binds fun _ _ _ _ _ _ us hl => match us, hl with | [_, _, _], _ => rfl, PySem.W.mg_of X G a10⟩
  have F12 := fun_mk (st := topS 12) l12 c12 k12
  have D12 : Df K mg "reachable" 12 ["after", "starts"] f12 _ := ⟨F12, F12.binds fun _ _ _ _ _ _ us hl => match us, hl with | [_, _], _ => rfl, PySem.W.mg_of X G a12⟩
  have F13 := fun_mk (st := topS 13) l13 c13 k13
  have D13 : Df K mg "distances" 13 ["after", "starts"] f13 _ := ⟨F13, F13.binds fun _ _ _ _ _ _ us hl => match us, hl with | [_, _], _ => rfl, PySem.W.mg_of X G a13⟩
  have F14 := fun_mk (st := topS 14) l14 c14 k14
  have D14 : Df K mg "shortest_path" 14 ["after", "starts", "goals"] f14 _ := ⟨F14, F14.binds fun _ _ _ _ _ _ us hl => match us, hl with | [_, _, _], _ => rfl, PySem.W.mg_of X G a14⟩
  have F15 := fun_mk (st := topS 15) l15 c15 k15
  have D15 : Df K mg "node_before" 15 ["after", "steps", "node"] f15 _ := ⟨F15, F15.binds fun _ _ _ _ _ _ us hl => match us, hl with | [_, _, _], _ => rfl, PySem.W.mg_of X G a15⟩
  have F17 := fun_mk (st := topS 17) l17 c17 k17
  have D17 : Df K mg "reason_for" 17 ["after", "part", "justice", "compassion"] f17 _ := ⟨F17, F17.binds fun _ _ _ _ _ _ us hl => match us, hl with | [_, _, _, _], _ => rfl, PySem.W.mg_of X G a17⟩
  have F18 := fun_mk (st := topS 18) l18 c18 k18
  have D18 : Df K mg "search_nodes" 18 ["after", "nodes", "justice", "compassion"] f18 _ := ⟨F18, F18.binds fun _ _ _ _ _ _ us hl => match us, hl with | [_, _, _, _], _ => rfl, PySem.W.mg_of X G a18⟩
  have F19 := fun_mk (st := topS 19) l19 c19 k19
  have D19 : Df K mg "common" 19 ["part", "nodes"] f19 _ := ⟨F19, F19.binds fun _ _ _ _ _ _ us hl => match us, hl with | [_, _], _ => rfl, PySem.W.mg_of X G a19⟩
  have F20 := fun_mk (st := topS 20) l20 c20 k20
  have D20 : Df K mg "needed" 20 ["part", "justice", "compassion"] f20 _ := ⟨F20, F20.binds fun _ _ _ _ _ _ us hl => match us, hl with | [_, _, _], _ => rfl, PySem.W.mg_of X G a20⟩
  have F21 := fun_mk (st := topS 21) l21 c21 k21
  have F23 := fun_mk (st := topS 23) l23 c23 k23
  have D23 : Df K mg "_law_cell" 23 ["_law_script", "_law_k"] f23 _ := ⟨F23, F23.binds fun _ _ _ _ _ _ us hl => match us, hl with | [_, _], _ => rfl, PySem.W.mg_of X G a23⟩
  have F24 := fun_mk (st := topS 24) l24 c24 k24
  have D24 : Df K mg "_law_draws" 24 ["_law_script", "_law_place", "_law_count_here", "_law_base"] f24 _ := ⟨F24, F24.binds fun _ _ _ _ _ _ us hl => match us, hl with | [_, _, _, _], _ => rfl, PySem.W.mg_of X G a24⟩
  have F25 := fun_mk (st := topS 25) l25 c25 k25
  have D25 : Df K mg "_law_graph" 25 ["_law_script", "_law_sizes"] f25 _ := ⟨F25, F25.binds fun _ _ _ _ _ _ us hl => match us, hl with | [_, _], _ => rfl, PySem.W.mg_of X G a25⟩
  have F26 := fun_mk (st := topS 26) l26 c26 k26
  have D26 : Df K mg "_law_long_graph" 26 ["_law_script", "_law_sizes"] f26 _ := ⟨F26, F26.binds fun _ _ _ _ _ _ us hl => match us, hl with | [_, _], _ => rfl, PySem.W.mg_of X G a26⟩
  have F27 := fun_mk (st := topS 27) l27 c27 k27
  have D27 : Df K mg "_law_chosen" 27 ["_law_script", "_law_place", "_law_size", "_law_share"] f27 _ := ⟨F27, F27.binds fun _ _ _ _ _ _ us hl => match us, hl with | [_, _, _, _], _ => rfl, PySem.W.mg_of X G a27⟩
  have F28 := fun_mk (st := topS 28) l28 c28 k28
  have D28 : Df K mg "_law_turned" 28 ["_law_nodes", "_law_kind"] f28 _ := ⟨F28, F28.binds fun _ _ _ _ _ _ us hl => match us, hl with | [_, _], _ => rfl, PySem.W.mg_of X G a28⟩
  have F29 := fun_mk (st := topS 29) l29 c29 k29
  have D29 : Df K mg "_law_starts" 29 ["_law_script", "_law_place", "_law_size", "_law_roll"] f29 _ := ⟨F29, F29.binds fun _ _ _ _ _ _ us hl => match us, hl with | [_, _, _, _], _ => rfl, PySem.W.mg_of X G a29⟩
  have F30 := fun_mk (st := topS 30) l30 c30 k30
  have D30 : Df K mg "_law_lists" 30 ["_law_script", "_law_place", "_law_size", "_law_count_here", "_law_share"] f30 _ := ⟨F30, F30.binds fun _ _ _ _ _ _ us hl => match us, hl with | [_, _, _, _, _], _ => rfl, PySem.W.mg_of X G a30⟩
  have F31 := fun_mk (st := topS 31) l31 c31 k31
  have D31 : Df K mg "_law_count" 31 ["_law_roll"] f31 _ := ⟨F31, F31.binds fun _ _ _ _ _ _ us hl => match us, hl with | [_], _ => rfl, PySem.W.mg_of X G a31⟩
  have F32 := fun_mk (st := topS 32) l32 c32 k32
  have D32 : Df K mg "_law_just" 32 ["_law_script", "_law_size", "_law_roll", "_law_kind"] f32 _ := ⟨F32, F32.binds fun _ _ _ _ _ _ us hl => match us, hl with | [_, _, _, _], _ => rfl, PySem.W.mg_of X G a32⟩
  have F33 := fun_mk (st := topS 33) l33 c33 k33
  have D33 : Df K mg "_law_pairs" 33 ["_law_script", "_law_size", "_law_roll", "_law_kind"] f33 _ := ⟨F33, F33.binds fun _ _ _ _ _ _ us hl => match us, hl with | [_, _, _, _], _ => rfl, PySem.W.mg_of X G a33⟩
  have F34 := fun_mk (st := topS 34) l34 c34 k34
  have D34 : Df K mg "_law_is_integer" 34 ["_law_actual"] f34 _ := ⟨F34, F34.binds fun _ _ _ _ _ _ us hl => match us, hl with | [_], _ => rfl, PySem.W.mg_of X G a34⟩
  have F35 := fun_mk (st := topS 35) l35 c35 k35
  have D35 : Df K mg "_law_is_nodes" 35 ["_law_actual", "_law_size"] f35 _ := ⟨F35, F35.binds fun _ _ _ _ _ _ us hl => match us, hl with | [_, _], _ => rfl, PySem.W.mg_of X G a35⟩
  have F36 := fun_mk (st := topS 36) l36 c36 k36
  have D36 : Df K mg "_law_reach" 36 ["_law_after", "_law_starts_here"] f36 _ := ⟨F36, F36.binds fun _ _ _ _ _ _ us hl => match us, hl with | [_, _], _ => rfl, PySem.W.mg_of X G a36⟩
  have F37 := fun_mk (st := topS 37) l37 c37 k37
  have D37 : Df K mg "_law_is_walk" 37 ["_law_after", "_law_walk"] f37 _ := ⟨F37, F37.binds fun _ _ _ _ _ _ us hl => match us, hl with | [_, _], _ => rfl, PySem.W.mg_of X G a37⟩
  have F38 := fun_mk (st := topS 38) l38 c38 k38
  have D38 : Df K mg "_law_meets" 38 ["_law_one", "_law_other"] f38 _ := ⟨F38, F38.binds fun _ _ _ _ _ _ us hl => match us, hl with | [_, _], _ => rfl, PySem.W.mg_of X G a38⟩
  have F39 := fun_mk (st := topS 39) l39 c39 k39
  have D39 : Df K mg "_law_leads" 39 ["_law_after", "_law_one", "_law_other"] f39 _ := ⟨F39, F39.binds fun _ _ _ _ _ _ us hl => match us, hl with | [_, _, _], _ => rfl, PySem.W.mg_of X G a39⟩
  have F40 := fun_mk (st := topS 40) l40 c40 k40
  have D40 : Df K mg "_law_fair" 40 ["_law_loop", "_law_just_here", "_law_pairs_here"] f40 _ := ⟨F40, F40.binds fun _ _ _ _ _ _ us hl => match us, hl with | [_, _, _], _ => rfl, PySem.W.mg_of X G a40⟩
  have F41 := fun_mk (st := topS 41) l41 c41 k41
  have D41 : Df K mg "_law_is_cycle" 41 ["_law_after", "_law_starts_here", "_law_actual", "_law_just_here", "_law_pairs_here"] f41 _ := ⟨F41, F41.binds fun _ _ _ _ _ _ us hl => match us, hl with | [_, _, _, _, _], _ => rfl, PySem.W.mg_of X G a41⟩
  have F42 := fun_mk (st := topS 42) l42 c42 k42
  have D42 : Df K mg "_law_says_blocks" 42 ["_law_actual"] f42 _ := ⟨F42, F42.binds fun _ _ _ _ _ _ us hl => match us, hl with | [_], _ => rfl, PySem.W.mg_of X G a42⟩
  have F43 := fun_mk (st := topS 43) l43 c43 k43
  have D43 : Df K mg "_law_is_block" 43 ["_law_block"] f43 _ := ⟨F43, F43.binds fun _ _ _ _ _ _ us hl => match us, hl with | [_], _ => rfl, PySem.W.mg_of X G a43⟩
  have F44 := fun_mk (st := topS 44) l44 c44 k44
  have D44 : Df K mg "_law_good_blocks" 44 ["_law_after", "_law_nodes", "_law_blocks", "_law_just_here", "_law_pairs_here", "_law_levels"] f44 _ := ⟨F44, F44.binds fun _ _ _ _ _ _ us hl => match us, hl with | [_, _, _, _, _, _], _ => rfl, PySem.W.mg_of X G a44⟩
  have F45 := fun_mk (st := topS 45) l45 c45 k45
  have D45 : Df K mg "_law_good_reason" 45 ["_law_after", "_law_block", "_law_just_here", "_law_pairs_here", "_law_levels"] f45 _ := ⟨F45, F45.binds fun _ _ _ _ _ _ us hl => match us, hl with | [_, _, _, _, _], _ => rfl, PySem.W.mg_of X G a45⟩
  have F46 := fun_mk (st := topS 46) l46 c46 k46
  have D46 : Df K mg "_law_copy" 46 ["_law_rows"] f46 _ := ⟨F46, F46.binds fun _ _ _ _ _ _ us hl => match us, hl with | [_], _ => rfl, PySem.W.mg_of X G a46⟩
  have F47 := fun_mk (st := topS 47) l47 c47 k47
  have D47 : Df K mg "_law_copy_pairs" 47 ["_law_pairs_here"] f47 _ := ⟨F47, F47.binds fun _ _ _ _ _ _ us hl => match us, hl with | [_], _ => rfl, PySem.W.mg_of X G a47⟩
  have F48 := fun_mk (st := topS 48) l48 c48 k48
  have m_len := PySem.W.mg_none_of X G z_len
  have m_any := PySem.W.mg_none_of X G z_any
  have m_sorted := PySem.W.mg_none_of X G z_sorted
  have m_enumerate := PySem.W.mg_none_of X G z_enumerate
  have m_range := PySem.W.mg_none_of X G z_range
  have m_min := PySem.W.mg_none_of X G z_min
  have m_int := PySem.W.mg_none_of X G z_int
  have m_list := PySem.W.mg_none_of X G z_list
  have m_reversed := PySem.W.mg_none_of X G z_reversed
  have m_isinstance := PySem.W.mg_none_of X G z_isinstance
  have m_bool := PySem.W.mg_none_of X G z_bool
  have m_tuple := PySem.W.mg_none_of X G z_tuple
  have m_str := PySem.W.mg_none_of X G z_str
  refine ⟨PySem.W.fnOf "law" "law" (defArgs (topS 48)) (defBody (topS 48)) (defScope (topS 48)) .none kV48 dc48 pm48 an48 cd48 ct48, [(c, Pt)], splaw [(Pt, qShort)] K, fun p hp => by rw [List.mem_singleton.mp hp]; exact hP, fun p hp => by rw [List.mem_singleton.mp hp]; exact nP, fun p hp => by rw [List.mem_singleton.mp hp]; exact PySem.W.codeHd_of_K X hcp, fun s v => .of_eq rfl, fun H a ns _ _ hH hS => ⟨a, ns, rfl, hS, fun p hp => ?_, fun _ => rfl⟩, fun base _ _ TB => ?_⟩
  · rw [List.mem_singleton.mp hp]
    exact TabS.nil (hH (c, Pt) List.mem_cons_self)
  have B := TB (c, Pt) List.mem_cons_self
  have GC : FnOk l.prog w K mg base CX0 2 f7 _ ["after", "members"] spComp := ok_comp D7.F D4 D6 D5 m_len m_sorted
  have GR : FnOk l.prog w K mg base CX0 2 f17 _ ["after", "part", "justice", "compassion"] spReason := ok_reason D17.F D1 D2 m_any m_enumerate
  have GS := fun lev => ok_srch D18 D7 D17 GC GR lev
  have GP := ok_short (P := l.prog) (w := w) l14 c14 B D13 D15 m_len m_enumerate m_min
  have GF := ok_fair F21 D12 (ok_reach D12.F D13 m_len m_enumerate) D18 GS D10 (ok_trip D10.F D4 D9 m_len m_range) D20 (ok_need D20.F D19 D2 m_any) D14 GP
  have G24 := ok_draws (P := l.prog) (w := w) (mg := mg) (base := base) D24.F D23 m_len m_int m_range
  have G28 := ok_turned (P := l.prog) (w := w) (mg := mg) (base := base) D28.F m_int m_list m_reversed
  have G27 := ok_chosen D27.F D24 G24 m_range
  have G30 := ok_lists D30.F D24 G24 m_range
  have G31 := ok_count (P := l.prog) (w := w) (mg := mg) (base := base) D31.F m_int
  have G34 := ok_is_integer (P := l.prog) (w := w) (mg := mg) (base := base) D34.F m_isinstance m_int m_bool
  have G35 := ok_is_nodes D35.F D34 G34 m_isinstance m_list
  have G37 := ok_is_walk (P := l.prog) (w := w) (mg := mg) (base := base) D37.F m_len m_range
  have G38 := ok_Lmeets (P := l.prog) (w := w) (mg := mg) (base := base) D38.F
  have G39 := ok_Lleads D39.F D38 G38
  have G40 := ok_Lfair D40.F D38 G38
  have G43 := ok_is_block D43.F D34 G34 m_isinstance m_len m_range m_tuple m_str m_list
  have G44 := ok_gb D44 D45 D43 G43 D39 G39 D38 G38 m_isinstance m_len m_range m_sorted m_list
  exact ok_law F48 D24 G24 D25 (ok_graph D25.F D24 G24 m_int m_range) D26 (ok_long_graph D26.F D24 G24 m_int m_range m_sorted) D28 G28 D29 (ok_starts D29.F D27 G27 m_int) D32 (ok_just D32.F D30 G30 D31 G31 D28 G28 m_int) D33 (ok_pairs D33.F D30 G30 D31 G31 D28 G28 m_int m_range)
    F21 (PySem.W.mg_of X G a21) GF D46 (ok_copy D46.F m_list) D47 (ok_copy_pairs D47.F m_list) D42 (ok_says D42.F m_isinstance m_len m_tuple m_str m_list) D36 (ok_Lreach D36.F m_len m_range m_sorted) D44 (ok_gbA G44) D41 (ok_is_cycle D41.F D35 G35 D37 G37 D40 G40 m_isinstance m_len m_tuple m_str) m_int m_len m_list
end K56
set_option Elab.async false
open PySem PySem.W PyProof.Rows
set_option maxRecDepth 100000
set_option maxHeartbeats 0 in
theorem PySem.Challenge.cw_lassoproof_k56_whole_answer_judged_holds : PySem.Challenge.rw_lassoproof_k56_whole_answer_judged.Holds := by
  w_on; o_law; k_head; (case hw => w_witness2)
  k_fill
  refine LamX.walk_ofTs (l := PySem.Challenge.rw_lassoproof_k56_whole_answer_judged) (n := 63) (k := 18) (x := "_law_script") (CX := fun _ => L2.CX0) rfl (by decide) rfl ⟨rfl, by decide, by decide⟩ (fun w h Y => PySem.W.km_in_of Y) ?F (fun _ _ _ _ _ z => z)
  case F =>
    intro w mg fa h Y KX G hmg
    refine' K56.all_mk (Pt := 74) KX G hmg ?hP ?nP ?hcp ?a1 ?l1 ?c1 ?k1 ?a2 ?l2 ?c2 ?k2 ?a4 ?l4 ?c4 ?k4 ?a5 ?l5 ?c5 ?k5 ?a6 ?l6 ?c6 ?k6 ?a7 ?l7 ?c7 ?k7 ?a9 ?l9 ?c9 ?k9 ?a10 ?l10 ?c10 ?k10 ?a12 ?l12 ?c12 ?k12 ?a13 ?l13 ?c13 ?k13 ?a14 ?l14 ?c14 ?k14 ?a15 ?l15 ?c15 ?k15 ?a17 ?l17 ?c17 ?k17 ?a18 ?l18 ?c18 ?k18 ?a19 ?l19 ?c19 ?k19 ?a20 ?l20 ?c20 ?k20 ?a21 ?l21 ?c21 ?k21 ?a23 ?l23 ?c23 ?k23 ?a24 ?l24 ?c24 ?k24 ?a25 ?l25 ?c25 ?k25 ?a26 ?l26 ?c26 ?k26 ?a27 ?l27 ?c27 ?k27 ?a28 ?l28 ?c28 ?k28 ?a29 ?l29 ?c29 ?k29 ?a30 ?l30 ?c30 ?k30 ?a31 ?l31 ?c31 ?k31 ?a32 ?l32 ?c32 ?k32 ?a33 ?l33 ?c33 ?k33 ?a34 ?l34 ?c34 ?k34 ?a35 ?l35 ?c35 ?k35 ?a36 ?l36 ?c36 ?k36 ?a37 ?l37 ?c37 ?k37 ?a38 ?l38 ?c38 ?k38 ?a39 ?l39 ?c39 ?k39 ?a40 ?l40 ?c40 ?k40 ?a41 ?l41 ?c41 ?k41 ?a42 ?l42 ?c42 ?k42 ?a43 ?l43 ?c43 ?k43 ?a44 ?l44 ?c44 ?k44 ?a45 ?l45 ?c45 ?k45 ?a46 ?l46 ?c46 ?k46 ?a47 ?l47 ?c47 ?k47 ?a48 ?l48 ?c48 ?k48 ?z_len ?z_any ?z_sorted ?z_enumerate ?z_range ?z_min ?z_int ?z_list ?z_reversed ?z_isinstance ?z_bool ?z_tuple ?z_str
    (case hP => exact PySem.W.km_tabs_of Y 74 (by decide))
    (case nP => kernel_rfl)
    (case a1 => k_is)
    (case l1 => k_is)
    (case c1 => k_is)
    (case k1 => k_is)
    (case a2 => k_is)
    (case l2 => k_is)
    (case c2 => k_is)
    (case k2 => k_is)
    (case a4 => k_is)
    (case l4 => k_is)
    (case c4 => k_is)
    (case k4 => k_is)
    (case a5 => k_is)
    (case l5 => k_is)
    (case c5 => k_is)
    (case k5 => k_is)
    (case a6 => k_is)
    (case l6 => k_is)
    (case c6 => k_is)
    (case k6 => k_is)
    (case a7 => k_is)
    (case l7 => k_is)
    (case c7 => k_is)
    (case k7 => k_is)
    (case a9 => k_is)
    (case l9 => k_is)
    (case c9 => k_is)
    (case k9 => k_is)
    (case a10 => k_is)
    (case l10 => k_is)
    (case c10 => k_is)
    (case k10 => k_is)
    (case a12 => k_is)
    (case l12 => k_is)
    (case c12 => k_is)
    (case k12 => k_is)
    (case a13 => k_is)
    (case l13 => k_is)
    (case c13 => k_is)
    (case k13 => k_is)
    (case a14 => k_is)
    (case l14 => k_is)
    (case c14 => k_is)
    (case k14 => k_is)
    (case a15 => k_is)
    (case l15 => k_is)
    (case c15 => k_is)
    (case k15 => k_is)
    (case a17 => k_is)
    (case l17 => k_is)
    (case c17 => k_is)
    (case k17 => k_is)
    (case a18 => k_is)
    (case l18 => k_is)
    (case c18 => k_is)
    (case k18 => k_is)
    (case a19 => k_is)
    (case l19 => k_is)
    (case c19 => k_is)
    (case k19 => k_is)
    (case a20 => k_is)
    (case l20 => k_is)
    (case c20 => k_is)
    (case k20 => k_is)
    (case a21 => k_is)
    (case l21 => k_is)
    (case c21 => k_is)
    (case k21 => k_is)
    (case a23 => k_is)
    (case l23 => k_is)
    (case c23 => k_is)
    (case k23 => k_is)
    (case a24 => k_is)
    (case l24 => k_is)
    (case c24 => k_is)
    (case k24 => k_is)
    (case a25 => k_is)
    (case l25 => k_is)
    (case c25 => k_is)
    (case k25 => k_is)
    (case a26 => k_is)
    (case l26 => k_is)
    (case c26 => k_is)
    (case k26 => k_is)
    (case a27 => k_is)
    (case l27 => k_is)
    (case c27 => k_is)
    (case k27 => k_is)
    (case a28 => k_is)
    (case l28 => k_is)
    (case c28 => k_is)
    (case k28 => k_is)
    (case a29 => k_is)
    (case l29 => k_is)
    (case c29 => k_is)
    (case k29 => k_is)
    (case a30 => k_is)
    (case l30 => k_is)
    (case c30 => k_is)
    (case k30 => k_is)
    (case a31 => k_is)
    (case l31 => k_is)
    (case c31 => k_is)
    (case k31 => k_is)
    (case a32 => k_is)
    (case l32 => k_is)
    (case c32 => k_is)
    (case k32 => k_is)
    (case a33 => k_is)
    (case l33 => k_is)
    (case c33 => k_is)
    (case k33 => k_is)
    (case a34 => k_is)
    (case l34 => k_is)
    (case c34 => k_is)
    (case k34 => k_is)
    (case a35 => k_is)
    (case l35 => k_is)
    (case c35 => k_is)
    (case k35 => k_is)
    (case a36 => k_is)
    (case l36 => k_is)
    (case c36 => k_is)
    (case k36 => k_is)
    (case a37 => k_is)
    (case l37 => k_is)
    (case c37 => k_is)
    (case k37 => k_is)
    (case a38 => k_is)
    (case l38 => k_is)
    (case c38 => k_is)
    (case k38 => k_is)
    (case a39 => k_is)
    (case l39 => k_is)
    (case c39 => k_is)
    (case k39 => k_is)
    (case a40 => k_is)
    (case l40 => k_is)
    (case c40 => k_is)
    (case k40 => k_is)
    (case a41 => k_is)
    (case l41 => k_is)
    (case c41 => k_is)
    (case k41 => k_is)
    (case a42 => k_is)
    (case l42 => k_is)
    (case c42 => k_is)
    (case k42 => k_is)
    (case a43 => k_is)
    (case l43 => k_is)
    (case c43 => k_is)
    (case k43 => k_is)
    (case a44 => k_is)
    (case l44 => k_is)
    (case c44 => k_is)
    (case k44 => k_is)
    (case a45 => k_is)
    (case l45 => k_is)
    (case c45 => k_is)
    (case k45 => k_is)
    (case a46 => k_is)
    (case l46 => k_is)
    (case c46 => k_is)
    (case k46 => k_is)
    (case a47 => k_is)
    (case l47 => k_is)
    (case c47 => k_is)
    (case k47 => k_is)
    (case a48 => k_is)
    (case l48 => k_is)
    (case c48 => k_is)
    (case k48 => k_is)
    (case z_len => k_is)
    (case z_any => k_is)
    (case z_sorted => k_is)
    (case z_enumerate => k_is)
    (case z_range => k_is)
    (case z_min => k_is)
    (case z_int => k_is)
    (case z_list => k_is)
    (case z_reversed => k_is)
    (case z_isinstance => k_is)
    (case z_bool => k_is)
    (case z_tuple => k_is)
    (case z_str => k_is)
    (case hcp => kernel_rfl)
