import PyProof.Rows.All
import Wide.All
import OpenK.AllK
import Wide.FinOn
import HandS.ForMost
import HandS.IsInst
import HandS.Conv
import PySem.Challenge.RW_bridgecrews_k43_whole_lightest
set_option Elab.async false
set_option linter.all false
set_option maxRecDepth 100000
set_option maxHeartbeats 16000000
/-! LgMath: the mirror of light_signs and lightest_signs in plain Lean, and what holds of it. No program here. -/
namespace Lg

abbrev Sg := List (Nat × Nat)
abbrev Came := List (Nat × Option Nat)
def keys (c : Came) : List Nat := c.map (·.1)
def look (c : Came) (g : Nat) : Option (Option Nat) := (c.find? fun p => decide (p.1 = g)).map (·.2)
def outc (s : Sg) (q : Nat) : Nat := s.countP fun p => decide (p.1 = q)
def within (P : Sg) (xs : List Nat) : Nat := P.countP fun p => decide (p.1 ∈ xs) && decide (p.2 ∈ xs)
def ind (a b : Nat) : Nat := if a = b then 1 else 0
def Bnd (s : Sg) (n : Nat) : Prop := ∀ p ∈ s, p.1 < n ∧ p.2 < n

/-- one run through the signs, for the quarter x -/
def swp (s : Sg) (x : Nat) (c : Came) : Nat → Came
  | 0 => c
  | i + 1 => match s[i]? with
    | some (a, b) => if a = x ∧ b ∉ keys (swp s x c i) then swp s x c i ++ [(b, some i)] else swp s x c i
    | none => swp s x c i
def ledGo (s : Sg) : Nat → Nat → Came → Came
  | 0, _, c => c
  | f + 1, k, c => match (keys c)[k]? with
    | none => c
    | some x => ledGo s f (k + 1) (swp s x c s.length)
def ledTo (s : Sg) (n q : Nat) : Came := ledGo s n 0 [(q, none)]
def turnGo (s : Sg) (c : Came) : Nat → Sg → Nat → Sg
  | 0, m, _ => m
  | f + 1, m, g => match look c g with
    | some (some b) => match s[b]? with
      | some (p, y) => turnGo s c f (m.set b (y, p)) p
      | none => m
    | _ => m
def turned (s : Sg) (c : Came) (g : Nat) : Sg := turnGo s c c.length s g
def srt (n : Nat) (ks : List Nat) : List Nat := (List.range n).filter fun x => decide (x ∈ ks)
def roomy (n lim q : Nat) (s : Sg) : List Nat := (keys (ledTo s n q)).filter fun k => decide (outc s k < lim)
def lightQ (n lim q : Nat) : Nat → Sg → Sg ⊕ List Nat
  | 0, s => .inl s
  | f + 1, s => if lim < outc s q then
      match roomy n lim q s with
      | [] => .inr (srt n (keys (ledTo s n q)))
      | g :: _ => lightQ n lim q f (turned s (ledTo s n q) g)
    else .inl s
def lightTo (n lim : Nat) (s : Sg) : Nat → Sg ⊕ List Nat
  | 0 => .inl s
  | i + 1 => match lightTo n lim s i with
    | .inl t => lightQ n lim i (s.length + 1) t
    | .inr x => .inr x
def light (n lim : Nat) (s : Sg) : Sg ⊕ List Nat := lightTo n lim s n
def lightestGo (n : Nat) (s : Sg) : Nat → Nat → List Nat → Nat × Sg × List Nat
  | 0, c, qs => (c, s, qs)
  | f + 1, c, qs => match light n c s with
    | .inl t => (c, t, qs)
    | .inr x => lightestGo n s f (c + 1) x
def lightest (n : Nat) (s : Sg) : Nat × Sg × List Nat := lightestGo n s (s.length + 1) 0 []

/-! ### lists -/
theorem keys_app (c d : Came) : keys (c ++ d) = keys c ++ keys d := List.map_append
theorem keys_at {c : Came} {j k : Nat} {o : Option Nat} (h : c[j]? = some (k, o)) : (keys c)[j]? = some k := by
  unfold keys; rw [List.getElem?_map, h]; rfl
theorem at_keys {c : Came} {j k : Nat} (h : (keys c)[j]? = some k) : ∃ o, c[j]? = some (k, o) := by
  unfold keys at h
  rw [List.getElem?_map] at h
  cases e : c[j]? with
  | none =>
    rw [e] at h
    cases h
  | some p =>
    rw [e] at h
    have e1 : p.1 = k := Option.some.inj h
    exact ⟨p.2, by rw [← e1]⟩
theorem keys_length (c : Came) : (keys c).length = c.length := List.length_map _
theorem nodup_ix {α : Type} {l : List α} (nd : l.Nodup) {i j : Nat} {x : α} (a : l[i]? = some x) (b : l[j]? = some x) : i = j := by
  rcases List.getElem?_eq_some_iff.mp a with ⟨hi, ei⟩
  rcases List.getElem?_eq_some_iff.mp b with ⟨hj, ej⟩
  refine (List.getElem_inj (h₀ := hi) (h₁ := hj) nd).mp ?_
  rw [ei, ej]
theorem nodup_snoc {l : List Nat} {k : Nat} (h : l.Nodup) (hk : k ∉ l) : (l ++ [k]).Nodup := by
  rw [List.nodup_append]
  refine ⟨h, by simp, fun a ha b hb => ?_⟩
  have e : b = k := by simpa using hb
  subst e
  exact fun z => hk (z ▸ ha)
theorem look_at {c : Came} (nd : (keys c).Nodup) : ∀ {j k : Nat} {o : Option Nat}, c[j]? = some (k, o) → look c k = some o := by
  induction c with
  | nil => intro j k o h; simp at h
  | cons p r ih =>
    intro j k o h
    have nd' : (p.1 :: keys r).Nodup := nd
    obtain ⟨n1, n2⟩ := List.nodup_cons.mp nd'
    cases j with
    | zero =>
      have e : p = (k, o) := Option.some.inj h
      subst e
      simp [look]
    | succ j =>
      have h' : r[j]? = some (k, o) := by simpa using h
      have hm : k ∈ keys r := List.mem_of_getElem? (keys_at h')
      have hne : ¬ p.1 = k := fun z => n1 (z ▸ hm)
      have := ih n2 h'
      unfold look at this ⊢
      rw [List.find?_cons, decide_eq_false hne]
      exact this
theorem ind_self (a : Nat) : ind a a = 1 := if_pos rfl
theorem ind_ne {a b : Nat} (h : a ≠ b) : ind a b = 0 := if_neg h
theorem ind_le (a b : Nat) : ind a b ≤ 1 := by unfold ind; split <;> omega

theorem outc_cons (a b : Nat) (r : Sg) (v : Nat) : outc ((a, b) :: r) v = ind v a + outc r v := by
  unfold outc ind
  rw [List.countP_cons]
  by_cases h : a = v
  · rw [if_pos (by simpa using h), if_pos h.symm]; omega
  · rw [if_neg (by simpa using h), if_neg (fun z => h z.symm)]; omega
theorem outc_nil (v : Nat) : outc [] v = 0 := rfl
theorem outc_set : ∀ {m : Sg} {b a y a' y' : Nat} (v : Nat), m[b]? = some (a, y) → outc (m.set b (a', y')) v + ind v a = outc m v + ind v a'
  | [], b, a, y, a', y', v, h => by simp at h
  | p :: r, 0, a, y, a', y', v, h => by
    have e : p = (a, y) := Option.some.inj h
    subst e
    rw [List.set_cons_zero, outc_cons, outc_cons]; omega
  | (p, p2) :: r, b + 1, a, y, a', y', v, h => by
    have ih := outc_set (m := r) (b := b) (a := a) (y := y) (a' := a') (y' := y') v (by simpa using h)
    rw [List.set_cons_succ, outc_cons, outc_cons]; omega
theorem outc_le (s : Sg) (v : Nat) : outc s v ≤ s.length := List.countP_le_length
theorem within_le (s : Sg) (xs : List Nat) : within s xs ≤ s.length := List.countP_le_length

/-! ### bridges turned -/
def Shape : Sg → Sg → Prop
  | [], [] => True
  | p :: r, q :: t => (q = p ∨ q = (p.2, p.1)) ∧ Shape r t
  | _, _ => False
theorem Shape.refl : ∀ s : Sg, Shape s s
  | [] => trivial
  | p :: r => ⟨.inl rfl, Shape.refl r⟩
theorem Shape.trans : ∀ {a b c : Sg}, Shape a b → Shape b c → Shape a c
  | [], [], [], _, _ => trivial
  | p :: r, q :: t, u :: v, h, k => ⟨by
      rcases h.1 with h1 | h1 <;> rcases k.1 with k1 | k1 <;> subst h1 <;> subst k1 <;> simp, Shape.trans h.2 k.2⟩
  | [], [], _ :: _, _, k => k.elim
  | [], _ :: _, _, h, _ => h.elim
  | _ :: _, [], _, h, _ => h.elim
  | _ :: _, _ :: _, [], _, k => k.elim
theorem Shape.len : ∀ {a b : Sg}, Shape a b → b.length = a.length
  | [], [], _ => rfl
  | p :: r, q :: t, h => by rw [List.length_cons, List.length_cons, Shape.len h.2]
  | [], _ :: _, h => h.elim
  | _ :: _, [], h => h.elim
theorem Shape.at : ∀ {a b : Sg} {i : Nat} {p : Nat × Nat}, Shape a b → b[i]? = some p → a[i]? = some p ∨ a[i]? = some (p.2, p.1)
  | [], [], i, p, _, h => by simp at h
  | x :: r, y :: t, 0, p, h, e => by
    have e1 : y = p := Option.some.inj e
    subst e1
    rcases h.1 with h1 | h1
    · left; rw [h1]; rfl
    · right; rw [h1]; rfl
  | x :: r, y :: t, i + 1, p, h, e => by
    have := Shape.at (i := i) (p := p) h.2 (by simpa using e)
    simpa using this
  | [], _ :: _, _, _, h, _ => h.elim
  | _ :: _, [], _, _, h, _ => h.elim
theorem Shape.set : ∀ {a b : Sg} {i : Nat} {p q : Nat × Nat}, Shape a b → a[i]? = some p → (q = p ∨ q = (p.2, p.1)) → Shape a (b.set i q)
  | [], [], i, p, q, _, h, _ => by simp at h
  | x :: r, y :: t, 0, p, q, h, e, hq => by
    have e1 : x = p := Option.some.inj e
    subst e1
    exact ⟨hq, h.2⟩
  | x :: r, y :: t, i + 1, p, q, h, e, hq => ⟨h.1, Shape.set (i := i) h.2 (by simpa using e) hq⟩
  | [], _ :: _, _, _, _, h, _, _ => h.elim
  | _ :: _, [], _, _, _, h, _, _ => h.elim
theorem Shape.bnd {a b : Sg} {n : Nat} (h : Shape a b) (k : Bnd a n) : Bnd b n := fun p hp => by
  obtain ⟨i, hi⟩ := List.mem_iff_getElem?.mp hp
  rcases h.at hi with e | e
  · exact k p (List.mem_of_getElem? e)
  · have := k _ (List.mem_of_getElem? e); exact ⟨this.2, this.1⟩
theorem Shape.within : ∀ {a b : Sg} (xs : List Nat), Shape a b → within b xs = within a xs
  | [], [], _, _ => rfl
  | x :: r, y :: t, xs, h => by
    have ih := Shape.within xs h.2
    unfold Lg.within at ih ⊢
    rw [List.countP_cons, List.countP_cons, ih]
    rcases h.1 with e | e
    · rw [e]
    · rw [e, Bool.and_comm]
  | [], _ :: _, _, h => h.elim
  | _ :: _, [], _, h => h.elim

/-! ### led_to -/
structure CameOk (s : Sg) (n q : Nat) (c : Came) : Prop where
  nd : (keys c).Nodup
  lt : ∀ k ∈ keys c, k < n
  head : c[0]? = some (q, none)
  par : ∀ (j k : Nat) (o : Option Nat), c[j + 1]? = some (k, o) → ∃ b p i, o = some b ∧ s[b]? = some (p, k) ∧ i < j + 1 ∧ (keys c)[i]? = some p
theorem CameOk.len {s : Sg} {n q : Nat} {c : Came} (h : CameOk s n q c) : c.length ≤ n := by
  have := h.nd.length_le_of_subset (l₂ := List.range n) (fun k hk => List.mem_range.mpr (h.lt k hk))
  rw [keys_length, List.length_range] at this
  exact this
theorem CameOk.pos {s : Sg} {n q : Nat} {c : Came} (h : CameOk s n q c) : 0 < c.length := (List.getElem?_eq_some_iff.mp h.head).1
theorem CameOk.mem {s : Sg} {n q : Nat} {c : Came} (h : CameOk s n q c) : q ∈ keys c := List.mem_of_getElem? (keys_at h.head)
theorem CameOk.one {s : Sg} {n q : Nat} (hq : q < n) : CameOk s n q [(q, none)] where
  nd := by simp [keys]
  lt := fun k hk => by
    have e : k = q := by simpa [keys] using hk
    rw [e]; exact hq
  head := rfl
  par := fun j k o h => by simp at h
theorem CameOk.snoc {s : Sg} {n q : Nat} {c : Came} {b x y : Nat} (h : CameOk s n q c) (hb : s[b]? = some (x, y)) (hx : x ∈ keys c) (hy : y ∉ keys c) (hn : y < n) : CameOk s n q (c ++ [(y, some b)]) where
  nd := by rw [keys_app]; exact nodup_snoc h.nd hy
  lt := fun k hk => by
    rw [keys_app] at hk
    rcases List.mem_append.mp hk with z | z
    · exact h.lt k z
    · have e : k = y := by simpa [keys] using z
      rw [e]; exact hn
  head := by rw [List.getElem?_append_left h.pos]; exact h.head
  par := fun j k o e => by
    by_cases hj : j + 1 < c.length
    · rw [List.getElem?_append_left hj] at e
      obtain ⟨b', p, i, e1, e2, e3, e4⟩ := h.par j k o e
      refine ⟨b', p, i, e1, e2, e3, ?_⟩
      rw [keys_app, List.getElem?_append_left (List.getElem?_eq_some_iff.mp e4).1]
      exact e4
    · rw [List.getElem?_append_right (by omega)] at e
      have hjl : j + 1 - c.length = 0 := by
        have := (List.getElem?_eq_some_iff.mp e).1
        simp at this; omega
      rw [hjl] at e
      have e1 : ((y, some b) : Nat × Option Nat) = (k, o) := Option.some.inj e
      cases e1
      rcases List.mem_iff_getElem?.mp hx with ⟨i, hi⟩
      have hlt := (List.getElem?_eq_some_iff.mp hi).1
      refine ⟨b, x, i, rfl, hb, by rw [keys_length] at hlt; omega, ?_⟩
      rw [keys_app, List.getElem?_append_left hlt]
      exact hi

theorem swp_succ {s : Sg} {x : Nat} {c : Came} {i a b : Nat} (h : s[i]? = some (a, b)) :
    swp s x c (i + 1) = if a = x ∧ b ∉ keys (swp s x c i) then swp s x c i ++ [(b, some i)] else swp s x c i := by
  show (match s[i]? with
    | some (a, b) => if a = x ∧ b ∉ keys (swp s x c i) then swp s x c i ++ [(b, some i)] else swp s x c i
    | none => swp s x c i) = _
  rw [h]
structure Swp (s : Sg) (n q x : Nat) (c d : Came) (i : Nat) : Prop where
  ok : CameOk s n q d
  pre : c <+: d
  cl : ∀ b y, b < i → s[b]? = some (x, y) → y ∈ keys d
theorem keys_pre {c d : Came} (h : c <+: d) : keys c <+: keys d := by
  obtain ⟨t, rfl⟩ := h
  exact ⟨keys t, (keys_app c t).symm⟩
theorem pre_at {α : Type} {l m : List α} (h : l <+: m) {j : Nat} {x : α} (e : l[j]? = some x) : m[j]? = some x := by
  obtain ⟨t, rfl⟩ := h
  rw [List.getElem?_append_left (List.getElem?_eq_some_iff.mp e).1]; exact e
theorem pre_mem {c d : Came} (h : c <+: d) {x : Nat} (hx : x ∈ keys c) : x ∈ keys d := (keys_pre h).subset hx
theorem swp_ok {s : Sg} {n q x : Nat} {c : Came} (h : CameOk s n q c) (hB : Bnd s n) (hx : x ∈ keys c) : ∀ i, i ≤ s.length → Swp s n q x c (swp s x c i) i
  | 0, _ => ⟨h, List.prefix_refl _, fun b y z => absurd z (Nat.not_lt_zero _)⟩
  | i + 1, hi => by
    obtain ⟨ok, pre, cl⟩ := swp_ok h hB hx i (by omega)
    obtain ⟨a, b, e⟩ : ∃ a b, s[i]? = some (a, b) := ⟨_, _, List.getElem?_eq_getElem (by omega)⟩
    rw [swp_succ e]
    by_cases hc : a = x ∧ b ∉ keys (swp s x c i)
    · rw [if_pos hc]
      obtain ⟨rfl, hb⟩ := hc
      refine ⟨ok.snoc e (pre_mem pre hx) hb (hB _ (List.mem_of_getElem? e)).2, pre.trans (List.prefix_append _ _), fun b' y hlt e' => ?_⟩
      rw [keys_app]
      by_cases hbi : b' = i
      · subst hbi
        rw [e] at e'
        cases e'
        exact List.mem_append_right _ (by simp [keys])
      · exact List.mem_append_left _ (cl b' y (by omega) e')
    · rw [if_neg hc]
      refine ⟨ok, pre, fun b' y hlt e' => ?_⟩
      by_cases hbi : b' = i
      · subst hbi
        rw [e] at e'
        cases e'
        exact Classical.byContradiction fun z => hc ⟨rfl, z⟩
      · exact cl b' y (by omega) e'

/-- the first k of the line are done -/
def Done (s : Sg) (c : Came) (k : Nat) : Prop := ∀ (j x : Nat), j < k → (keys c)[j]? = some x → ∀ (b y : Nat), s[b]? = some (x, y) → y ∈ keys c
theorem Done.step {s : Sg} {n q x k : Nat} {c : Came} (h : CameOk s n q c) (hB : Bnd s n) (hd : Done s c k) (hk : (keys c)[k]? = some x) :
    CameOk s n q (swp s x c s.length) ∧ c <+: swp s x c s.length ∧ Done s (swp s x c s.length) (k + 1) := by
  obtain ⟨ok, pre, cl⟩ := swp_ok h hB (List.mem_of_getElem? hk) s.length (Nat.le_refl _)
  refine ⟨ok, pre, fun j y hj ej b z eb => ?_⟩
  by_cases e : j = k
  · subst e
    have := pre_at (keys_pre pre) hk
    rw [this] at ej
    cases ej
    exact cl b z (List.getElem?_eq_some_iff.mp eb).1 eb
  · have hjl : j < (keys c).length := by
      have := (List.getElem?_eq_some_iff.mp hk).1
      omega
    have e2 : (keys c)[j]? = some (keys c)[j] := List.getElem?_eq_getElem hjl
    have := pre_at (keys_pre pre) e2
    rw [this] at ej
    have ej' : (keys c)[j]? = some y := e2.trans ej
    exact pre_mem pre (hd j y (by omega) ej' b z eb)
theorem ledGo_end {s : Sg} {c : Came} {k : Nat} (h : c.length ≤ k) : ∀ f, ledGo s f k c = c
  | 0 => rfl
  | f + 1 => by
    show (match (keys c)[k]? with
      | none => c
      | some x => ledGo s f (k + 1) (swp s x c s.length)) = c
    rw [List.getElem?_eq_none (by rw [keys_length]; exact h)]
theorem ledGo_step {s : Sg} {c : Came} {k x f : Nat} (h : (keys c)[k]? = some x) : ledGo s (f + 1) k c = ledGo s f (k + 1) (swp s x c s.length) := by
  show (match (keys c)[k]? with
    | none => c
    | some x => ledGo s f (k + 1) (swp s x c s.length)) = _
  rw [h]
theorem ledGo_ok {s : Sg} {n q : Nat} (hB : Bnd s n) : ∀ (f k : Nat) (c : Came), CameOk s n q c → Done s c k → n ≤ f + k →
    CameOk s n q (ledGo s f k c) ∧ Done s (ledGo s f k c) (ledGo s f k c).length
  | 0, k, c, h, hd, hf => by
    have := h.len
    exact ⟨h, fun j x hj => hd j x (by show j < k; have : j < c.length := hj; omega)⟩
  | f + 1, k, c, h, hd, hf => by
    by_cases hk : k < c.length
    · have e : (keys c)[k]? = some ((keys c)[k]'(by rw [keys_length]; exact hk)) := List.getElem?_eq_getElem _
      rw [ledGo_step e]
      obtain ⟨ok, pre, hd'⟩ := Done.step h hB hd e
      exact ledGo_ok hB f (k + 1) _ ok hd' (by omega)
    · rw [ledGo_end (by omega)]
      exact ⟨h, fun j x hj => hd j x (by omega)⟩
theorem ledTo_ok {s : Sg} {n q : Nat} (hB : Bnd s n) (hq : q < n) : CameOk s n q (ledTo s n q) ∧ ∀ x ∈ keys (ledTo s n q), ∀ y, (x, y) ∈ s → y ∈ keys (ledTo s n q) := by
  obtain ⟨h, hd⟩ := ledGo_ok hB n 0 [(q, none)] (CameOk.one hq) (fun j x hj => absurd hj (Nat.not_lt_zero _)) (by omega)
  refine ⟨h, fun x hx y hy => ?_⟩
  rcases List.mem_iff_getElem?.mp hx with ⟨j, hj⟩
  obtain ⟨b, hb⟩ := List.mem_iff_getElem?.mp hy
  have hl := (List.getElem?_eq_some_iff.mp hj).1
  rw [keys_length] at hl
  exact hd j x hl hj b y hb

/-! ### turned_way -/
structure TurnInv (s : Sg) (c : Came) (g0 : Nat) (m : Sg) (g j : Nat) : Prop where
  at_ : (keys c)[j]? = some g
  shape : Shape s m
  same : ∀ i k b, i ≤ j → c[i]? = some (k, some b) → m[b]? = s[b]?
  cnt : ∀ v, outc m v + ind v g = outc s v + ind v g0
theorem TurnInv.start {s : Sg} {c : Came} {g j : Nat} (h : (keys c)[j]? = some g) : TurnInv s c g s g j :=
  ⟨h, Shape.refl s, fun _ _ _ _ _ => rfl, fun _ => rfl⟩
/-- at a quarter that was come to by a bridge -/
theorem TurnInv.step {s : Sg} {n q g0 g j b : Nat} {c : Came} {m : Sg} (h : CameOk s n q c) (t : TurnInv s c g0 m g j) (e : look c g = some (some b)) :
    ∃ p i, s[b]? = some (p, g) ∧ i < j ∧ TurnInv s c g0 (m.set b (g, p)) p i := by
  obtain ⟨o, eo⟩ := at_keys t.at_
  have e1 := look_at h.nd eo
  rw [e] at e1
  have e1 : o = some b := (Option.some.inj e1).symm
  subst e1
  cases j with
  | zero => rw [h.head] at eo; cases eo
  | succ j =>
    obtain ⟨b', p, i, e2, e3, e4, e5⟩ := h.par j g _ eo
    have e2 : b' = b := (Option.some.inj e2).symm
    subst e2
    refine ⟨p, i, e3, e4, e5, t.shape.set e3 (.inr rfl), fun i' k b2 hi ek => ?_, fun v => ?_⟩
    · have hne : b' ≠ b2 := fun z => by
        subst z
        cases i' with
        | zero => rw [h.head] at ek; cases ek
        | succ i' =>
          obtain ⟨b3, p3, i3, f2, f3, f4, f5⟩ := h.par i' k _ ek
          have f2 : b3 = b' := (Option.some.inj f2).symm
          subst f2
          rw [e3] at f3
          cases f3
          have := nodup_ix h.nd (keys_at ek) (keys_at eo)
          omega
      rw [List.getElem?_set_ne hne]
      exact t.same i' k b2 (by omega) ek
    · have em : m[b']? = some (p, g) := by rw [t.same (j + 1) g b' (Nat.le_refl _) eo]; exact e3
      have := outc_set (a' := g) (y' := p) v em
      have := t.cnt v
      omega
theorem TurnInv.stop {s : Sg} {n q g0 g j : Nat} {c : Came} {m : Sg} (h : CameOk s n q c) (t : TurnInv s c g0 m g j) (e : ∀ b, look c g ≠ some (some b)) : g = q ∧ look c g = some none := by
  obtain ⟨o, eo⟩ := at_keys t.at_
  have e1 := look_at h.nd eo
  cases j with
  | zero =>
    rw [h.head] at eo
    cases eo
    exact ⟨rfl, e1⟩
  | succ j =>
    obtain ⟨b', p, i, e2, _⟩ := h.par j g _ eo
    subst e2
    exact absurd e1 (e b')
theorem turnGo_step {s : Sg} {c : Came} {f : Nat} {m : Sg} {g b p y : Nat} (e : look c g = some (some b)) (e2 : s[b]? = some (p, y)) : turnGo s c (f + 1) m g = turnGo s c f (m.set b (y, p)) p := by
  show (match look c g with
    | some (some b) => match s[b]? with
      | some (p, y) => turnGo s c f (m.set b (y, p)) p
      | none => m
    | _ => m) = _
  rw [e]
  show (match s[b]? with
      | some (p, y) => turnGo s c f (m.set b (y, p)) p
      | none => m) = _
  rw [e2]
theorem turnGo_stop {s : Sg} {c : Came} {f : Nat} {m : Sg} {g : Nat} (e : look c g = some none) : turnGo s c f m g = m := by
  cases f with
  | zero => rfl
  | succ f =>
    show (match look c g with
      | some (some b) => match s[b]? with
        | some (p, y) => turnGo s c f (m.set b (y, p)) p
        | none => m
      | _ => m) = _
    rw [e]
theorem turnGo_ok {s : Sg} {n q g0 : Nat} {c : Came} (h : CameOk s n q c) : ∀ (f j : Nat) (m : Sg) (g : Nat), TurnInv s c g0 m g j → j < f →
    Shape s (turnGo s c f m g) ∧ ∀ v, outc (turnGo s c f m g) v + ind v q = outc s v + ind v g0
  | 0, j, m, g, t, hf => absurd hf (Nat.not_lt_zero _)
  | f + 1, j, m, g, t, hf => by
    by_cases hb : ∃ b, look c g = some (some b)
    · obtain ⟨b, e⟩ := hb
      obtain ⟨p, i, e2, hi, t'⟩ := t.step h e
      rw [turnGo_step e e2]
      exact turnGo_ok h f i _ p t' (by omega)
    · obtain ⟨rfl, e⟩ := t.stop h fun b z => hb ⟨b, z⟩
      rw [turnGo_stop e]
      exact ⟨t.shape, t.cnt⟩
theorem turned_ok {s : Sg} {n q g : Nat} {c : Came} (h : CameOk s n q c) (hg : g ∈ keys c) : Shape s (turned s c g) ∧ ∀ v, outc (turned s c g) v + ind v q = outc s v + ind v g := by
  obtain ⟨j, hj⟩ := List.mem_iff_getElem?.mp hg
  have hl := (List.getElem?_eq_some_iff.mp hj).1
  rw [keys_length] at hl
  exact turnGo_ok h c.length j s g (TurnInv.start hj) hl

/-! ### crowded -/
theorem srt_mem {n : Nat} {ks : List Nat} (h : ∀ k ∈ ks, k < n) {x : Nat} : x ∈ srt n ks ↔ x ∈ ks := by
  unfold srt
  rw [List.mem_filter, List.mem_range, decide_eq_true_iff]
  exact ⟨fun z => z.2, fun z => ⟨h x z, z⟩⟩
theorem srt_up (n : Nat) (ks : List Nat) : (srt n ks).Pairwise (· < ·) := List.Pairwise.filter _ List.pairwise_lt_range
theorem srt_lt {n : Nat} {ks : List Nat} {x : Nat} (h : x ∈ srt n ks) : x < n := List.mem_range.mp (List.mem_filter.mp h).1
theorem srt_perm {n : Nat} {ks : List Nat} (nd : ks.Nodup) (h : ∀ k ∈ ks, k < n) : (srt n ks).Perm ks :=
  (List.perm_ext_iff_of_nodup ((srt_up n ks).imp (fun z => Nat.ne_of_lt z)) nd).mpr fun _ => srt_mem h
theorem first_sum (s : Sg) (lim : Nat) : ∀ (ks : List Nat), ks.Nodup → (∀ k ∈ ks, lim ≤ outc s k) → lim * ks.length ≤ s.countP fun p => decide (p.1 ∈ ks)
  | [], _, _ => by simp
  | k :: r, nd, h => by
    rcases List.nodup_cons.mp nd with ⟨n1, n2⟩
    have ih := first_sum s lim r n2 fun x hx => h x (List.mem_cons_of_mem _ hx)
    have hk := h k (List.mem_cons_self ..)
    have e : (s.countP fun p => decide (p.1 ∈ k :: r)) = outc s k + s.countP fun p => decide (p.1 ∈ r) := by
      clear ih hk h
      unfold outc
      induction s with
      | nil => rfl
      | cons p t ih =>
        rw [List.countP_cons, List.countP_cons, List.countP_cons, ih]
        by_cases h1 : p.1 = k
        · have h2 : p.1 ∉ r := fun z => n1 (h1 ▸ z)
          rw [if_pos (by simp [h1]), if_pos (by simp [h1]), if_neg (by simpa using h2)]
          omega
        · by_cases h2 : p.1 ∈ r
          · rw [if_pos (by simp [h2]), if_neg (by simpa using h1), if_pos (by simpa using h2)]
            omega
          · rw [if_neg (by simp [h1, h2]), if_neg (by simpa using h1), if_neg (by simpa using h2)]
            omega
    rw [e, List.length_cons, Nat.mul_succ]
    omega
theorem first_sum_more {s : Sg} {lim q : Nat} {ks : List Nat} (nd : ks.Nodup) (h : ∀ k ∈ ks, lim ≤ outc s k) (hq : q ∈ ks) (hm : lim < outc s q) : lim * ks.length < s.countP fun p => decide (p.1 ∈ ks) := by
  obtain ⟨l1, l2, rfl⟩ := List.append_of_mem hq
  have pm : (l1 ++ q :: l2).Perm (q :: (l1 ++ l2)) := List.perm_middle
  have nd' : (q :: (l1 ++ l2)).Nodup := pm.nodup_iff.mp nd
  obtain ⟨n1, n2⟩ := List.nodup_cons.mp nd'
  have a := first_sum s lim (l1 ++ l2) n2 fun k hk => h k (pm.mem_iff.mpr (List.mem_cons_of_mem _ hk))
  have e : (s.countP fun p => decide (p.1 ∈ l1 ++ q :: l2)) = outc s q + s.countP fun p => decide (p.1 ∈ l1 ++ l2) := by
    have e0 : (s.countP fun p => decide (p.1 ∈ l1 ++ q :: l2)) = s.countP fun p => decide (p.1 ∈ q :: (l1 ++ l2)) := by
      refine List.countP_congr fun p _ => ?_
      rw [decide_eq_true_iff, decide_eq_true_iff]
      exact pm.mem_iff
    rw [e0]
    clear e0 a hm h
    unfold outc
    induction s with
    | nil => rfl
    | cons p t ih =>
      rw [List.countP_cons, List.countP_cons, List.countP_cons, ih]
      by_cases h1 : p.1 = q
      · have h2 : p.1 ∉ l1 ++ l2 := fun z => n1 (h1 ▸ z)
        rw [if_pos (by simp [h1]), if_pos (by simp [h1]), if_neg (by simpa using h2)]
        omega
      · by_cases h2 : p.1 ∈ l1 ++ l2
        · rw [if_pos (by simpa [h1] using h2), if_neg (by simpa using h1), if_pos (by simpa using h2)]
          omega
        · rw [if_neg (by simpa [h1] using h2), if_neg (by simpa using h1), if_neg (by simpa using h2)]
          omega
  rw [e, pm.length_eq, List.length_cons, Nat.mul_succ]
  omega
theorem crowded_within {s : Sg} {n q lim : Nat} (hB : Bnd s n) (hq : q < n) (hm : lim < outc s q) (hr : roomy n lim q s = []) :
    lim * (srt n (keys (ledTo s n q))).length < within s (srt n (keys (ledTo s n q))) := by
  obtain ⟨ok, cl⟩ := ledTo_ok hB hq
  have hfull : ∀ k ∈ keys (ledTo s n q), lim ≤ outc s k := fun k hk => by
    have := List.filter_eq_nil_iff.mp hr k hk
    rw [decide_eq_true_iff] at this
    omega
  have h1 := first_sum_more ok.nd hfull ok.mem hm
  have h2 : within s (srt n (keys (ledTo s n q))) = s.countP fun p => decide (p.1 ∈ keys (ledTo s n q)) := by
    unfold within
    refine List.countP_congr fun p hp => ?_
    rw [Bool.and_eq_true, decide_eq_true_iff, decide_eq_true_iff, decide_eq_true_iff, srt_mem ok.lt, srt_mem ok.lt]
    exact ⟨fun z => z.1, fun z => ⟨z, cl p.1 z p.2 hp⟩⟩
  rw [h2, (srt_perm ok.nd ok.lt).length_eq]
  exact h1

/-! ### light_signs -/
/-- the inner while: signs by which q, too, has no more than its limit -/
structure LitTo (n lim : Nat) (P s : Sg) (i : Nat) : Prop where
  shape : Shape P s
  low : ∀ q, q < i → outc s q ≤ lim
structure Crowd (n lim : Nat) (P : Sg) (xs : List Nat) : Prop where
  up : xs.Pairwise (· < ·)
  lt : ∀ x ∈ xs, x < n
  more : lim * xs.length < within P xs
theorem roomy_head {n lim q g : Nat} {s : Sg} {r : List Nat} (h : roomy n lim q s = g :: r) : g ∈ keys (ledTo s n q) ∧ outc s g < lim := by
  have : g ∈ roomy n lim q s := by rw [h]; exact List.mem_cons_self ..
  obtain ⟨h1, h2⟩ := List.mem_filter.mp this
  exact ⟨h1, decide_eq_true_iff.mp h2⟩
/-- one turn of the inner while -/
theorem LitTo.turn {n lim q g : Nat} {P s : Sg} {r : List Nat} (hB : Bnd P n) (hq : q < n) (h : LitTo n lim P s q) (hm : lim < outc s q) (hr : roomy n lim q s = g :: r) :
    LitTo n lim P (turned s (ledTo s n q) g) q ∧ outc (turned s (ledTo s n q) g) q + 1 = outc s q := by
  obtain ⟨ok, _⟩ := ledTo_ok (h.shape.bnd hB) hq
  obtain ⟨hg, hlow⟩ := roomy_head hr
  obtain ⟨sh, cnt⟩ := turned_ok ok hg
  have hne : q ≠ g := fun z => by subst z; omega
  refine ⟨⟨h.shape.trans sh, fun v hv => ?_⟩, ?_⟩
  · have a := cnt v
    have b := h.low v hv
    have hvq : v ≠ q := Nat.ne_of_lt hv
    rw [ind_ne hvq] at a
    by_cases e : v = g
    · subst e; rw [ind_self] at a; omega
    · rw [ind_ne e] at a; omega
  · have a := cnt q
    rw [ind_self, ind_ne hne] at a
    omega
theorem lightQ_more {n lim q f g : Nat} {s : Sg} {r : List Nat} (hm : lim < outc s q) (hr : roomy n lim q s = g :: r) : lightQ n lim q (f + 1) s = lightQ n lim q f (turned s (ledTo s n q) g) := by
  show (if lim < outc s q then
      match roomy n lim q s with
      | [] => Sum.inr (srt n (keys (ledTo s n q)))
      | g :: _ => lightQ n lim q f (turned s (ledTo s n q) g)
    else Sum.inl s) = _
  rw [if_pos hm, hr]
theorem lightQ_crowd {n lim q f : Nat} {s : Sg} (hm : lim < outc s q) (hr : roomy n lim q s = []) : lightQ n lim q (f + 1) s = .inr (srt n (keys (ledTo s n q))) := by
  show (if lim < outc s q then
      match roomy n lim q s with
      | [] => Sum.inr (srt n (keys (ledTo s n q)))
      | g :: _ => lightQ n lim q f (turned s (ledTo s n q) g)
    else Sum.inl s) = _
  rw [if_pos hm, hr]
theorem lightQ_end {n lim q f : Nat} {s : Sg} (hm : ¬ lim < outc s q) : lightQ n lim q f s = .inl s := by
  cases f with
  | zero => rfl
  | succ f =>
    show (if lim < outc s q then
      match roomy n lim q s with
      | [] => Sum.inr (srt n (keys (ledTo s n q)))
      | g :: _ => lightQ n lim q f (turned s (ledTo s n q) g)
    else Sum.inl s) = _
    rw [if_neg hm]
theorem lightQ_ok {n lim q : Nat} {P : Sg} (hB : Bnd P n) (hq : q < n) : ∀ (f : Nat) (s : Sg), LitTo n lim P s q → outc s q < f →
    (∀ t, lightQ n lim q f s = .inl t → LitTo n lim P t (q + 1)) ∧ ∀ xs, lightQ n lim q f s = .inr xs → Crowd n lim P xs
  | 0, s, _, hf => absurd hf (Nat.not_lt_zero _)
  | f + 1, s, h, hf => by
    by_cases hm : lim < outc s q
    · cases hr : roomy n lim q s with
      | nil =>
        rw [lightQ_crowd hm hr]
        refine ⟨fun t e => (by cases e), fun xs e => ?_⟩
        cases e
        have := crowded_within (h.shape.bnd hB) hq hm hr
        exact ⟨srt_up _ _, fun x hx => srt_lt hx, by rw [← h.shape.within]; exact this⟩
      | cons g r =>
        rw [lightQ_more hm hr]
        obtain ⟨h1, h2⟩ := h.turn hB hq hm hr
        exact lightQ_ok hB hq f _ h1 (by omega)
    · rw [lightQ_end hm]
      refine ⟨fun t e => ?_, fun xs e => (by cases e)⟩
      cases e
      exact ⟨h.shape, fun v hv => by
        by_cases e : v = q
        · subst e; omega
        · exact h.low v (by omega)⟩
theorem lightTo_succ {n lim i : Nat} {s t : Sg} (h : lightTo n lim s i = .inl t) : lightTo n lim s (i + 1) = lightQ n lim i (s.length + 1) t := by
  show (match lightTo n lim s i with
    | .inl t => lightQ n lim i (s.length + 1) t
    | .inr x => .inr x) = _
  rw [h]
theorem lightTo_inr {n lim : Nat} {s : Sg} {i : Nat} {xs : List Nat} (h : lightTo n lim s i = .inr xs) : ∀ j, i ≤ j → lightTo n lim s j = .inr xs
  | 0, hj => by
    have e : i = 0 := by omega
    subst e; exact h
  | j + 1, hj => by
    by_cases e : i = j + 1
    · rw [← e]; exact h
    · have ih := lightTo_inr h j (by omega)
      show (match lightTo n lim s j with
        | .inl t => lightQ n lim j (s.length + 1) t
        | .inr x => .inr x) = _
      rw [ih]
theorem lightTo_ok {n lim : Nat} {P : Sg} (hB : Bnd P n) : ∀ i, i ≤ n → (∀ t, lightTo n lim P i = .inl t → LitTo n lim P t i) ∧ ∀ xs, lightTo n lim P i = .inr xs → Crowd n lim P xs
  | 0, _ => ⟨fun t e => by
      have e : (Sum.inl P : Sg ⊕ List Nat) = .inl t := e
      cases e
      exact ⟨Shape.refl P, fun q hq => absurd hq (Nat.not_lt_zero _)⟩, fun xs e => by
      have e : (Sum.inl P : Sg ⊕ List Nat) = .inr xs := e
      cases e⟩
  | i + 1, hi => by
    obtain ⟨h1, h2⟩ := lightTo_ok hB i (by omega)
    cases e : lightTo n lim P i with
    | inl t =>
      rw [lightTo_succ e]
      have ht := h1 t e
      refine lightQ_ok hB (by omega) _ t ht ?_
      have := outc_le t i
      rw [ht.shape.len] at this
      omega
    | inr xs =>
      rw [lightTo_inr e (i + 1) (by omega)]
      refine ⟨fun t e' => (by cases e'), fun ys e' => ?_⟩
      cases e'
      exact h2 xs e
theorem light_inl {n lim : Nat} {P t : Sg} (hB : Bnd P n) (h : light n lim P = .inl t) : LitTo n lim P t n := (lightTo_ok hB n (Nat.le_refl _)).1 t h
theorem light_inr {n lim : Nat} {P : Sg} {xs : List Nat} (hB : Bnd P n) (h : light n lim P = .inr xs) : Crowd n lim P xs := (lightTo_ok hB n (Nat.le_refl _)).2 xs h

/-! ### lightest_signs -/
theorem Crowd.few {n lim : Nat} {P : Sg} {xs : List Nat} (h : Crowd n lim P xs) : lim < P.length := by
  have h1 := h.more
  have h2 := within_le P xs
  cases xs with
  | nil =>
    have e : within P [] = 0 := by
      unfold within
      rw [List.countP_eq_zero]
      intro p _
      simp
    omega
  | cons x r =>
    rw [List.length_cons, Nat.mul_succ] at h1
    have := Nat.zero_le (lim * r.length)
    omega
/-- what stands ahead of the count c: nothing, or quarters that are crowded at one less -/
def Ahead (n : Nat) (P : Sg) (c : Nat) (qs : List Nat) : Prop := (c = 0 ∧ qs = []) ∨ ∃ d, c = d + 1 ∧ Crowd n d P qs
structure Least (n : Nat) (P : Sg) (r : Nat × Sg × List Nat) : Prop where
  lit : LitTo n r.1 P r.2.1 n
  ahead : Ahead n P r.1 r.2.2
theorem lightestGo_ok {n : Nat} {P : Sg} (hB : Bnd P n) : ∀ (f c : Nat) (qs : List Nat), Ahead n P c qs → P.length < c + f → c ≤ P.length → Least n P (lightestGo n P f c qs)
  | 0, c, qs, h, hf, hc => by omega
  | f + 1, c, qs, h, hf, hc => by
    cases e : light n c P with
    | inl t =>
      have e2 : lightestGo n P (f + 1) c qs = (c, t, qs) := by
        show (match light n c P with
          | .inl t => (c, t, qs)
          | .inr x => lightestGo n P f (c + 1) x) = _
        rw [e]
      rw [e2]
      exact ⟨light_inl hB e, h⟩
    | inr xs =>
      have e2 : lightestGo n P (f + 1) c qs = lightestGo n P f (c + 1) xs := by
        show (match light n c P with
          | .inl t => (c, t, qs)
          | .inr x => lightestGo n P f (c + 1) x) = _
        rw [e]
      rw [e2]
      have cr := light_inr hB e
      have := cr.few
      exact lightestGo_ok hB f (c + 1) xs (.inr ⟨c, rfl, cr⟩) (by omega) (by omega)
theorem lightestGo_inl {n f c : Nat} {P t : Sg} {qs : List Nat} (e : light n c P = .inl t) : lightestGo n P (f + 1) c qs = (c, t, qs) := by
  show (match light n c P with
    | .inl t => (c, t, qs)
    | .inr x => lightestGo n P f (c + 1) x) = _
  rw [e]
theorem lightestGo_inr {n f c : Nat} {P : Sg} {qs xs : List Nat} (e : light n c P = .inr xs) : lightestGo n P (f + 1) c qs = lightestGo n P f (c + 1) xs := by
  show (match light n c P with
    | .inl t => (c, t, qs)
    | .inr x => lightestGo n P f (c + 1) x) = _
  rw [e]
theorem lightest_ok {n : Nat} {P : Sg} (hB : Bnd P n) : Least n P (lightest n P) := lightestGo_ok hB (P.length + 1) 0 [] (.inl ⟨rfl, rfl⟩) (by omega) (Nat.zero_le _)
theorem Least.few {n : Nat} {P : Sg} {r : Nat × Sg × List Nat} (h : Least n P r) : r.1 ≤ P.length := by
  rcases h.ahead with ⟨e, _⟩ | ⟨d, e, cr⟩
  · rw [e]; exact Nat.zero_le _
  · have := cr.few; omega
/-- with a bridge there is a crowded list, and more bridges within it -/
theorem Least.more {n : Nat} {P : Sg} {r : Nat × Sg × List Nat} (hB : Bnd P n) (h : Least n P r) (hP : P ≠ []) : ∃ d, r.1 = d + 1 ∧ Crowd n d P r.2.2 := by
  rcases h.ahead with ⟨e, _⟩ | q
  · exfalso
    obtain ⟨p, t, hs⟩ : ∃ p t, r.2.1 = p :: t := by
      have hl := h.lit.shape.len
      cases hr : r.2.1 with
      | nil =>
        rw [hr] at hl
        exact absurd (List.length_eq_zero_iff.mp hl.symm) hP
      | cons p t => exact ⟨p, t, rfl⟩
    have hb := h.lit.shape.bnd hB p (by rw [hs]; exact List.mem_cons_self ..)
    have := h.lit.low p.1 hb.1
    rw [hs, e, show p = (p.1, p.2) from rfl, outc_cons, ind_self] at this
    omega
  · exact q
theorem lightest_nil (n : Nat) : lightest n [] = (0, [], []) := by
  have hB : Bnd [] n := fun p hp => by cases hp
  have h := lightest_ok hB
  have h1 := h.few
  have h2 := h.lit.shape.len
  rcases h.ahead with ⟨e1, e2⟩ | ⟨d, e, cr⟩
  · have e3 : (lightest n []).2.1 = [] := List.length_eq_zero_iff.mp h2
    calc lightest n [] = ((lightest n []).1, (lightest n []).2.1, (lightest n []).2.2) := rfl
      _ = (0, [], []) := by rw [e1, e2, e3]
  · have : (lightest n []).1 ≤ 0 := h1
    omega
end Lg

/-! LgBase: the text by places; how a town and signs lie in the heap; small rules. -/
namespace Lg
open PySem L2

/-! ### the text by places -/
def top (i : Nat) : Stmt := PySem.Challenge.pw_bridgecrews_k43_whole_lightest.main.body.getD i (.Pass ⟨0, 0, 0, 0⟩)
abbrev sAsk : Stmt := top 7
abbrev sLed : Stmt := top 8
abbrev sTurn : Stmt := top 9
abbrev sCount : Stmt := top 10
abbrev sLight : Stmt := top 11
abbrev sLeast : Stmt := top 12
abbrev sAskT : Stmt := top 16
abbrev sInit : Stmt := inClass (top 17) 0
abbrev sNums : Stmt := top 19
abbrev sTown : Stmt := top 20
abbrev sWhole : Stmt := top 21
abbrev sRises : Stmt := top 22
abbrev sSigns : Stmt := top 23
abbrev sOut : Stmt := top 24
abbrev sWithin : Stmt := top 25
abbrev sLaw : Stmt := top 26
theorem scAsk : FnScope ["town", "limits", "limit"] ["town", "limits"] (defScope sAsk) := ⟨rfl, rfl, rfl, by decide +kernel, rfl, by decide +kernel, by decide +kernel⟩
theorem scLed : FnScope ["signs", "quarter", "came", "line", "at", "bridge", "sign"] ["signs", "quarter"] (defScope sLed) := ⟨rfl, rfl, rfl, by decide +kernel, rfl, by decide +kernel, by decide +kernel⟩
theorem scTurn : FnScope ["signs", "came", "goal", "made", "bridge", "one", "other"] ["signs", "came", "goal"] (defScope sTurn) := ⟨rfl, rfl, rfl, by decide +kernel, rfl, by decide +kernel, by decide +kernel⟩
theorem scCount : FnScope ["town", "signs", "counts", "one", "other"] ["town", "signs"] (defScope sCount) := ⟨rfl, rfl, rfl, by decide +kernel, rfl, by decide +kernel, by decide +kernel⟩
theorem scLight : FnScope ["town", "limits", "signs", "quarter", "counts", "came", "roomy", "one", "other"] ["town", "limits"] (defScope sLight) := ⟨rfl, rfl, rfl, by decide +kernel, rfl, by decide +kernel, by decide +kernel⟩
theorem scLeast : FnScope ["town", "count", "quarters", "told"] ["town"] (defScope sLeast) := ⟨rfl, rfl, rfl, by decide +kernel, rfl, by decide +kernel, by decide +kernel⟩
theorem scAskT : FnScope ["quarters", "pairs", "one", "other"] ["quarters", "pairs"] (defScope sAskT) := ⟨rfl, rfl, rfl, by decide +kernel, rfl, by decide +kernel, by decide +kernel⟩
theorem scInit : FnScope ["self", "quarters", "bridges"] ["self", "quarters", "bridges"] (defScope sInit) := ⟨rfl, rfl, rfl, by decide +kernel, rfl, by decide +kernel, by decide +kernel⟩
theorem scNums : FnScope ["script", "many", "found", "step", "k"] ["script", "many"] (defScope sNums) := ⟨rfl, rfl, rfl, by decide +kernel, rfl, by decide +kernel, by decide +kernel⟩
theorem scTown : FnScope ["numbers", "most", "quarters", "many", "pairs", "k", "number", "one"] ["numbers", "most"] (defScope sTown) := ⟨rfl, rfl, rfl, by decide +kernel, rfl, by decide +kernel, by decide +kernel⟩
theorem scWhole : FnScope ["found"] ["found"] (defScope sWhole) := ⟨rfl, rfl, rfl, by decide +kernel, rfl, by decide +kernel, by decide +kernel⟩
theorem scRises : FnScope ["found", "most", "last", "number"] ["found", "most"] (defScope sRises) := ⟨rfl, rfl, rfl, by decide +kernel, rfl, by decide +kernel, by decide +kernel⟩
theorem scSigns : FnScope ["pairs", "found", "bridge", "sign"] ["pairs", "found"] (defScope sSigns) := ⟨rfl, rfl, rfl, by decide +kernel, rfl, by decide +kernel, by decide +kernel⟩
theorem scOut : FnScope ["signs", "quarter", "sign"] ["signs", "quarter"] (defScope sOut) := ⟨rfl, rfl, rfl, by decide +kernel, rfl, by decide +kernel, by decide +kernel⟩
theorem scWithin : FnScope ["pairs", "some", "pair"] ["pairs", "some"] (defScope sWithin) := ⟨rfl, rfl, rfl, by decide +kernel, rfl, by decide +kernel, by decide +kernel⟩
theorem scLaw : FnScope ["script", "numbers", "quarters", "pairs", "town", "found", "quarter", "kept"] ["script"] (defScope sLaw) := ⟨rfl, rfl, rfl, by decide +kernel, rfl, by decide +kernel, by decide +kernel⟩

/-! ### a town's attributes -/
theorem qb_ : ¬ (("quarters" : Str) = "bridges") := by decide +kernel
def flds (n : Nat) (l : Addr) : List (Str × V) := putF "bridges" (.ref l) (putF "quarters" (.int (n : Int)) [])
theorem flds_q (n : Nat) (l : Addr) : (flds n l).lookup ("quarters" : Str) = some (.int (n : Int)) := by
  unfold flds
  rw [lookup_putF, if_neg qb_, lookup_putF, if_pos rfl]
theorem flds_b (n : Nat) (l : Addr) : (flds n l).lookup ("bridges" : Str) = some (.ref l) := by
  unfold flds
  rw [lookup_putF, if_pos rfl]

/-- what the walk asks of the class and of the module's names as the top has left them -/
structure Txt (K : PySem.W.Frag) (mg : Str → Option Value) (C : Addr) : Prop where
  cl : Cls K C
  nQ : NoAttr K C "quarters"
  nB : NoAttr K C "bridges"
  mgC : mg "Town" = some (.ref C)
  lim : ∃ t : Tok, mg "MOST_LIMIT" = some (.int 1000000000000000000000000000000000000000000000000000000000000 t)
  mq : ∃ t : Tok, mg "MOST_QUARTERS" = some (.int 24 t)
  mb : ∃ t : Tok, mg "MOST_BRIDGES" = some (.int 60 t)
  len : mg "len" = none
  range : mg "range" = none
  enumerate : mg "enumerate" = none
  sorted : mg "sorted" = none
  list : mg "list" = none
  min : mg "min" = none
  max : mg "max" = none
  int : mg "int" = none
  isi : mg "isinstance" = none
  tuple : mg "tuple" = none
  bool : mg "bool" = none

/-! ### lists of pairs -/
structure Prs (H : Hp) (vs : List V) (s : Sg) : Prop where
  len : vs.length = s.length
  at_ : ∀ (i : Nat) (p : Nat × Nat), s[i]? = some p → ∃ r, vs[i]? = some (.ref r) ∧ H r = some (.tup [.int (p.1 : Int), .int (p.2 : Int)])
theorem Prs.nil (H : Hp) : Prs H [] [] := ⟨rfl, fun i p h => by simp at h⟩
theorem Prs.tups {H H' : Hp} {vs : List V} {s : Sg} (h : Prs H vs s) (k : ∀ r xs, H r = some (.tup xs) → H' r = some (.tup xs)) : Prs H' vs s :=
  ⟨h.len, fun i p e => let ⟨r, e1, e2⟩ := h.at_ i p e; ⟨r, e1, k _ _ e2⟩⟩
theorem Prs.same {H H' : Hp} {vs : List V} {s : Sg} (h : Prs H vs s) (k : Same H H') : Prs H' vs s := h.tups fun r xs e => k _ _ e
theorem Prs.put {H : Hp} {vs : List V} {s : Sg} {a : Addr} {o : HO} (h : Prs H vs s) (k : ∀ xs, H a ≠ some (.tup xs)) : Prs (upd H a o) vs s :=
  h.tups fun r xs e => by
    have hne : r ≠ a := fun z => by subst z; exact k xs e
    rw [upd_ne hne]; exact e
theorem Prs.snoc {H : Hp} {vs : List V} {s : Sg} {r : Addr} {p : Nat × Nat} (h : Prs H vs s) (e : H r = some (.tup [.int (p.1 : Int), .int (p.2 : Int)])) : Prs H (vs ++ [.ref r]) (s ++ [p]) where
  len := by rw [List.length_append, List.length_append, h.len]; rfl
  at_ := fun i q ei => by
    by_cases hi : i < s.length
    · rw [List.getElem?_append_left hi] at ei
      obtain ⟨r', e1, e2⟩ := h.at_ i q ei
      exact ⟨r', by rw [List.getElem?_append_left (by rw [h.len]; exact hi)]; exact e1, e2⟩
    · rw [List.getElem?_append_right (by omega)] at ei
      have hi0 : i - s.length = 0 := by
        have := (List.getElem?_eq_some_iff.mp ei).1
        simp at this; omega
      rw [hi0] at ei
      have ep : p = q := Option.some.inj ei
      subst ep
      exact ⟨r, by rw [List.getElem?_append_right (by rw [h.len]; omega), h.len, hi0]; rfl, e⟩
theorem Prs.set {H : Hp} {vs : List V} {s : Sg} {r b : Nat} {p : Nat × Nat} (h : Prs H vs s) (hb : b < s.length) (e : H r = some (.tup [.int (p.1 : Int), .int (p.2 : Int)])) : Prs H (vs.set b (.ref r)) (s.set b p) where
  len := by rw [List.length_set, List.length_set, h.len]
  at_ := fun i q ei => by
    by_cases hi : b = i
    · subst hi
      rw [List.getElem?_set_self hb] at ei
      have ep : p = q := Option.some.inj ei
      subst ep
      exact ⟨r, List.getElem?_set_self (by rw [h.len]; exact hb), e⟩
    · rw [List.getElem?_set_ne hi] at ei
      obtain ⟨r', e1, e2⟩ := h.at_ i q ei
      exact ⟨r', by rw [List.getElem?_set_ne hi]; exact e1, e2⟩
/-- the item at a place, from the list's side -/
theorem Prs.get {H : Hp} {vs : List V} {s : Sg} {i : Nat} {x : V} (h : Prs H vs s) (e : vs[i]? = some x) : ∃ a b r, s[i]? = some (a, b) ∧ x = .ref r ∧ H r = some (.tup [.int (a : Int), .int (b : Int)]) := by
  have hi : i < s.length := by rw [← h.len]; exact (List.getElem?_eq_some_iff.mp e).1
  obtain ⟨r, e1, e2⟩ := h.at_ i s[i] (List.getElem?_eq_getElem hi)
  rw [e] at e1
  exact ⟨_, _, r, List.getElem?_eq_getElem hi, Option.some.inj e1, e2⟩
/-- a list of signs at a -/
def SgAt (H : Hp) (a : Addr) (s : Sg) : Prop := ∃ vs, H a = some (.lst vs) ∧ Prs H vs s
theorem SgAt.same {H H' : Hp} {a : Addr} {s : Sg} (h : SgAt H a s) (k : Same H H') : SgAt H' a s := let ⟨vs, e, p⟩ := h; ⟨vs, k _ _ e, p.same k⟩
/-- a town at t of n quarters, its bridges at l -/
def TownAt (C : Addr) (H : Hp) (t l : Addr) (n : Nat) (P : Sg) : Prop := (∃ dx, H t = some (.ins C dx (flds n l))) ∧ SgAt H l P
theorem TownAt.same {C : Addr} {H H' : Hp} {t l : Addr} {n : Nat} {P : Sg} (h : TownAt C H t l n P) (k : Same H H') : TownAt C H' t l n P := let ⟨⟨dx, e⟩, p⟩ := h; ⟨⟨dx, k _ _ e⟩, p.same k⟩
/-- a list of ints, as natural numbers -/
def natsV (ks : List Nat) : List V := ks.map fun (k : Nat) => V.int (k : Int)
theorem natsV_len (ks : List Nat) : (natsV ks).length = ks.length := List.length_map _
theorem natsV_at {ks : List Nat} {i k : Nat} (h : ks[i]? = some k) : (natsV ks)[i]? = some (.int (k : Int)) := by
  unfold natsV; rw [List.getElem?_map, h]; rfl
theorem natsV_get {ks : List Nat} {i : Nat} {x : V} (h : (natsV ks)[i]? = some x) : ∃ k, ks[i]? = some k ∧ x = .int (k : Int) := by
  unfold natsV at h
  rw [List.getElem?_map] at h
  cases e : ks[i]? with
  | none =>
    rw [e] at h
    cases h
  | some k => rw [e] at h; exact ⟨k, rfl, (Option.some.inj h).symm⟩
theorem natsV_app (a b : List Nat) : natsV (a ++ b) = natsV a ++ natsV b := List.map_append
theorem natsV_ints (ks : List Nat) : natsV ks = (ks.map fun (k : Nat) => (k : Int)).map V.int := by
  unfold natsV; rw [List.map_map]; rfl

/-! ### heaps -/
theorem same_upd {H : Hp} {p : Addr} {o : HO} (h : H p = none) : Same H (upd H p o) := fun b x e => by
  rw [upd_ne (ne_of_none e h)]
  exact e
/-- an own object is stored anew -/
theorem same_own {H H' : Hp} {p : Addr} {o : HO} (k : Same H H') (h : H p = none) : Same H (upd H' p o) := fun b x e => by
  rw [upd_ne (ne_of_none e h)]
  exact k _ _ e
theorem lt_line {n : Nat} (h : n ≤ 1000) : n ≤ sizeLine := Nat.le_of_lt (small1000 h)

/-! ### xs[i], by values -/
section
variable {X : Cx}
def rGetL (K : PySem.W.Frag) : V → V → Hp → VK → Prop := fun x y H Q => ∃ (p : Addr) (xs : List V) (k : Nat) (v : V), x = .ref p ∧ y = .int (k : Int) ∧ SqL K H p xs ∧ xs[k]? = some v ∧ Q v H
theorem get_list : PGet X (rGetL X.K) := by
  intro pins s σ H o i ov iv Q I ro ri h
  obtain ⟨p, xs, k, z, rfl, rfl, hq, he, q⟩ := h
  cases ro
  obtain ⟨t, rfl⟩ := ri
  rcases I.list hq with ⟨its, hv, hpl, _⟩
  rcases hv.get he with ⟨u, eu, ru⟩
  have hk : k < xs.length := (List.getElem?_eq_some_iff.mp he).1
  have hn := line63
  rcases I.list hq with ⟨_, _, _, hline⟩
  exact wpAny_getItem_list hpl.isList (by omega) (by omega) (by simpa using eu) ⟨z, H, I, ru, q⟩
end
theorem ixN_nat {n k : Nat} (h : k < n) : ixN n (k : Int) = some k := by
  unfold ixN
  rw [if_pos (by omega), if_pos (by omega), Int.toNat_natCast]
end Lg

/-! counts_out -/
namespace Lg
open PySem L2

theorem replicate_flat (n : Nat) (v : V) : (List.replicate n [v]).flatten = List.replicate n v := by
  induction n with
  | zero => rfl
  | succ n ih => rw [List.replicate_succ, List.flatten_cons, ih, List.replicate_succ]; rfl
/-- how many lead out of each quarter -/
def cnts (n : Nat) (s : Sg) : List V := natsV ((List.range n).map (outc s))
theorem cnts_len (n : Nat) (s : Sg) : (cnts n s).length = n := by unfold cnts; rw [natsV_len, List.length_map, List.length_range]
theorem cnts_at {n q : Nat} (s : Sg) (h : q < n) : (cnts n s)[q]? = some (.int (outc s q : Int)) := by
  refine natsV_at ?_
  rw [List.getElem?_map, List.getElem?_range h]
  rfl
theorem cnts_nil (n : Nat) : List.replicate n (V.int 0) = cnts n [] := by
  unfold cnts natsV
  rw [List.map_map]
  refine List.ext_getElem (by simp) fun j hj hj' => ?_
  simp [outc]
theorem outc_snoc (s : Sg) (a b v : Nat) : outc (s ++ [(a, b)]) v = outc s v + ind v a := by
  unfold outc
  rw [List.countP_append, ← show outc [(a, b)] v = List.countP (fun p => decide (p.1 = v)) [(a, b)] from rfl, outc_cons, outc_nil, Nat.add_zero]
theorem take_succ {α : Type} {s : List α} {i : Nat} {p : α} (h : s[i]? = some p) : s.take (i + 1) = s.take i ++ [p] := by
  rw [List.take_add_one, h]; rfl
theorem cnts_set {n a b : Nat} {s : Sg} (h : a < n) : (cnts n s).set a (.int ((outc s a : Int) + 1)) = cnts n (s ++ [(a, b)]) := by
  refine List.ext_getElem? fun i => ?_
  by_cases hi : i < n
  · rw [cnts_at _ hi, outc_snoc]
    by_cases e : a = i
    · subst e
      rw [List.getElem?_set_self (by rw [cnts_len]; exact h), ind_self]
      congr 2
    · rw [List.getElem?_set_ne e, cnts_at _ hi, ind_ne (fun z => e z.symm)]
      rfl
  · rw [List.getElem?_eq_none (by rw [List.length_set, cnts_len]; omega), List.getElem?_eq_none (by rw [cnts_len]; omega)]

section
variable {P : Program} {w : World} {K : PySem.W.Frag} {mg : Str → Option Value} {base : Heap}
def spCount (C : Addr) : Sp := fun vs H Q _ => ∃ (t l a : Addr) (n : Nat) (B s : Sg), vs = [.ref t, .ref a] ∧ TownAt C H t l n B ∧ n ≤ 24 ∧ SgAt H a s ∧ Bnd s n ∧
  ∀ H' p, Same H H' → H p = none → H' p = some (.lst (cnts n s)) → Q (.ref p) H'
theorem ok_count {f C : Addr} {fd : FuncData} {k : Nat} (F : Fun K "counts_out" "counts_out" sCount f fd) (T : Txt K mg C) : FnOk P w K mg base CX0 (k + 1) f fd ["town", "signs"] (spCount C) := by
  refine F.ok scCount (fun vs H Q E h => ?_) (fun cdv A outer s0 H vs Q E hr h => ?_)
  · obtain ⟨t, l, a, n, B, s, rfl, _⟩ := h
    rfl
  · obtain ⟨t, l, a, n, B, s, rfl, ⟨⟨dx, ht⟩, _⟩, hn, ⟨us, ha, pr⟩, hB, q⟩ := h
    refine ⟨_, pss_cons (ps_set (i := 2) scCount.nd rfl (.inl rfl) (pe_op op_rep (pe_lst (pa_cons pe_int pa_nil)) (pe_fld (pv 0) rfl)))
      (pss_cons (ps_for PassesOwn.never rfl (pi_list (pv 1)) (pg_tup rfl (pgs_cons (pg_name (i := 3) scCount.nd rfl (.inl rfl)) (pgs_cons (pg_name (i := 4) scCount.nd rfl (.inl rfl)) pgs_nil)))
        (pss_one (ps_augS (pv 2) (pv 3) get_list pe_int ip_add set_list)))
      (pss_one (ps_ret (pv 2)))), ?_⟩
    refine ⟨by show 1 ≤ sizeLine; decide, fun z nz => ?_⟩
    have s1 : Same H (upd H z (.lst [.int 0])) := same_upd nz
    refine ⟨_, rfl, t, C, dx, _, _, rfl, s1 _ _ ht, T.cl, T.nQ, flds_q _ _, z, (n : Int), [.int 0], rfl, rfl, upd_same, by omega, by omega, ?_, fun p np => ?_⟩
    · rw [Int.toNat_natCast]
      exact lt_line (by show 1 * n ≤ 1000; omega)
    have np0 : H p = none := s1.free np
    rw [Int.toNat_natCast, replicate_flat, cnts_nil]
    have s2 : Same H (upd (upd H z (.lst [.int 0])) p (.lst (cnts n []))) := s1.trans (same_upd np)
    refine ⟨_, rfl, a, rfl, ⟨us, .inl (.inl (s2 _ _ ha))⟩, for_list (K := K) (a := a) (xs := us) (fun i σ H2 => ∃ y3 y4, σ = [some (.ref t), some (.ref a), some (.ref p), y3, y4] ∧ Same H H2 ∧ H2 p = some (.lst (cnts n (s.take i))))
      ⟨none, none, rfl, s2, by rw [List.take_zero]; exact upd_same⟩ (fun i σ H2 _ ⟨_, _, _, k2, _⟩ => .inl (.inl (k2 _ _ ha))) ?_ ?_⟩
    · rintro i x σ H2 hi ⟨y3, y4, rfl, k2, hp⟩
      obtain ⟨c, d, r, ei, rfl, er⟩ := (pr.same k2).get hi
      have hc : c < n := (hB _ (List.mem_of_getElem? ei)).1
      refine ⟨r, _, rfl, .inl (.inl er), rfl, _, _, rfl, _, _, rfl, rfl, ?_⟩
      refine ⟨_, rfl, _, rfl, p, _, c, _, rfl, rfl, .inl (.inl hp), cnts_at _ hc, _, _, rfl, rfl, p, _, _, c, rfl, rfl, hp, ixN_nat (by rw [cnts_len]; exact hc), ?_⟩
      refine ⟨some (.int (c : Int)), some (.int (d : Int)), rfl, same_own k2 np0, ?_⟩
      rw [upd_same, cnts_set (b := d) hc, take_succ ei]
    · rintro σ H2 ⟨y3, y4, rfl, k2, hp⟩
      refine ⟨_, rfl, q H2 p k2 np0 ?_⟩
      rw [hp, List.take_of_length_le (by rw [pr.len]; exact Nat.le_refl _)]
end
end Lg

/-! led_to -/
namespace Lg
open PySem L2

def optV : Option Nat → V
  | none => .non
  | some b => .int (b : Int)
def kvsOf (c : Came) : List (Key × V) := c.map fun p => ((Sum.inl (p.1 : Int) : Key), optV p.2)
theorem kvsOf_len (c : Came) : (kvsOf c).length = c.length := List.length_map _
theorem kvsOf_app (c d : Came) : kvsOf (c ++ d) = kvsOf c ++ kvsOf d := List.map_append
theorem look_cons (p : Nat × Option Nat) (r : Came) (g : Nat) : look (p :: r) g = if p.1 = g then some p.2 else look r g := by
  unfold look
  rw [List.find?_cons]
  by_cases h : p.1 = g
  · rw [decide_eq_true h, if_pos h]; rfl
  · rw [decide_eq_false h, if_neg h]
theorem val_kvs (g : Nat) : ∀ c : Came, valV (kvsOf c) (Sum.inl (g : Int) : Key) = (look c g).map optV
  | [] => rfl
  | p :: r => by
    have ih := val_kvs g r
    rw [look_cons]
    by_cases h : p.1 = g
    · rw [if_pos h]
      exact valV_pos (by show (Sum.inl (p.1 : Int) : Key) = _; rw [h])
    · rw [if_neg h, ← ih]
      refine valV_neg fun z => h ?_
      have z' : (Sum.inl (p.1 : Int) : Key) = Sum.inl (g : Int) := z
      have z2 := Sum.inl.inj z'
      omega
theorem look_none {g : Nat} : ∀ {c : Came}, g ∉ keys c → look c g = none
  | [], _ => rfl
  | p :: r, h => by
    have h' : g ∉ p.1 :: keys r := h
    rw [look_cons, if_neg (fun z => h' (by rw [z]; exact List.mem_cons_self ..))]
    exact look_none fun z => h' (List.mem_cons_of_mem _ z)
theorem look_some {g : Nat} : ∀ {c : Came}, g ∈ keys c → ∃ o, look c g = some o
  | [], h => by cases h
  | p :: r, h => by
    rw [look_cons]
    by_cases e : p.1 = g
    · exact ⟨_, if_pos e⟩
    · rw [if_neg e]
      have h' : g ∈ p.1 :: keys r := h
      rcases List.mem_cons.mp h' with z | z
      · exact absurd z.symm e
      · exact look_some z
theorem put_kvs {c : Came} {y b : Nat} (h : y ∉ keys c) : putK (kvsOf c) (Sum.inl (y : Int) : Key) (V.int (b : Int)) = kvsOf (c ++ [(y, some b)]) := by
  rw [putK_new _ (by rw [val_kvs, look_none h]; rfl), kvsOf_app]
  rfl

/-- a loop over enumerate of a list that its body leaves as it is: Pv holds ahead of each turn; T is the new pair's place -/
theorem for_enum {K : PySem.W.Frag} {a : Addr} {xs : List V} {g : TG} {tb : TS} {D : Ends} {σ : St} {H : Hp}
    (Pv : Nat → St → Hp → Prop) (h0 : Pv 0 σ H)
    (hl : ∀ i τ G, Pv i τ G → SqL K G a xs)
    (hs : ∀ i u T τ G, xs[i]? = some u → Pv i τ G → G T = none →
      g (.ref T) τ (upd G T (.tup [.int (i : Nat), u])) fun τ' G' =>
        tb { D with nx := Pv (i + 1), ct := Pv (i + 1), bk := D.nx } τ' G')
    (hd : ∀ τ G, Pv xs.length τ G → D.nx τ G) :
    tFor (fun _ G R => R (Ite K a) G) g tb D σ H := by
  refine ⟨fun i m τ G => i + m = xs.length ∧ Pv i τ G, ⟨xs.length, Nat.zero_add _, h0⟩, fun i m τ G hW => ?_⟩
  obtain ⟨hm, hP⟩ := hW
  have hq := hl i τ G hP
  cases m with
  | zero =>
    have ei : xs.length = i := by omega
    subst ei
    exact Or.inl ⟨⟨xs, hq, Nat.le_refl xs.length⟩, hd τ G hP⟩
  | succ m =>
    have hi : i < xs.length := by omega
    refine Or.inr ⟨⟨xs, xs[i], hq, List.getElem?_eq_getElem hi⟩, Pv (i + 1), fun τ' G' hP' => ⟨m, Nat.lt_succ_self m, by omega, hP'⟩, fun v G' hy => ?_⟩
    obtain ⟨T, u, ev, hT, eG, hall⟩ := hy
    subst ev
    subst eG
    exact hs i u T τ G (hall xs hq) hP hT

section
variable {P : Program} {w : World} {K : PySem.W.Frag} {mg : Str → Option Value} {base : Heap}
def spLed : Sp := fun vs H Q _ => ∃ (a : Addr) (n q : Nat) (s : Sg), vs = [.ref a, .int (q : Int)] ∧ SgAt H a s ∧ Bnd s n ∧ q < n ∧ n ≤ 24 ∧
  ∀ H' p, Same H H' → H p = none → H' p = some (.dK (kvsOf (ledTo s n q))) → Q (.ref p) H'
theorem ok_led {f C : Addr} {fd : FuncData} {k : Nat} (F : Fun K "led_to" "led_to" sLed f fd) (T : Txt K mg C) : FnOk P w K mg base CX0 (k + 1) f fd ["signs", "quarter"] spLed := by
  refine F.ok scLed (fun vs H Q E h => ?_) (fun cdv A outer s0 H vs Q E hr h => ?_)
  · obtain ⟨a, n, q, s, rfl, _⟩ := h
    rfl
  · obtain ⟨a, n, q, s, rfl, ⟨us, ha, pr⟩, hB, hq, hn, k⟩ := h
    have hu := hu_of hr
    refine ⟨_, pss_cons (ps_set (i := 2) scLed.nd rfl (.inl rfl) (pe_disp (pps_cons (pv 1) pe_non pps_nil) (by rfl) (by rfl) (fun z => by cases z) (by decide)))
      (pss_cons (ps_set (i := 3) scLed.nd rfl (.inl rfl) (pe_lst (pa_cons (pv 1) pa_nil)))
      (pss_cons (ps_set (i := 4) scLed.nd rfl (.inl rfl) pe_int)
      (pss_cons (ps_while PassesOwn.never (pt_cmpR op_lt (pv 4) (pe_callB call_len_seq (by rfl) T.len PySem.boot_len (pa_cons (pv 3) pa_nil)) (nomark _))
        (pss_cons (ps_for PassesOwn.never rfl (pi_enum (by rfl) T.enumerate (pa_cons (pv 0) pa_nil)) (pg_tup rfl (pgs_cons (pg_name (i := 5) scLed.nd rfl (.inl rfl)) (pgs_cons (pg_name (i := 6) scLed.nd rfl (.inl rfl)) pgs_nil)))
          (pss_one (ps_if (PW.pt (pw_and (pt_cmpR op_eq (pe_ix ix_tup (pv 6) pe_int (fun _ _ => rfl)) (pe_ix ix_list (pv 3) (pv 4) (fun _ _ => rfl)) (nomark _))
              (pw_and1 (pt_cmp (pc_dnotin hu (pe_ix ix_tup (pv 6) pe_int (fun _ _ => rfl)) (pv 2)) rfl))))
            (pss_cons (ps_dput hu (pv 2) (pe_ix ix_tup (pv 6) pe_int (fun _ _ => rfl)) (pv 5) rfl)
              (pss_one (ps_expr (pe_bm PySem.F.plainAttrs_list PySem.F.slot_list_append PySem.F.type_list_append mt_append (pv 3) (pa_cons (pe_ix ix_tup (pv 6) pe_int (fun _ _ => rfl)) pa_nil)))))
            pss_nil)))
        (pss_one (ps_aug (i := 4) scLed.nd rfl (.inl rfl) pe_int ip_add))))
      (pss_one (ps_ret (pv 2)))))), ?_⟩
    intro d nd
    refine ⟨_, rfl, upd_same, [((Sum.inl (q : Int) : Key), V.non)], rfl, by show 1 ≤ 15; decide, ?_⟩
    rw [upd_upd]
    refine ⟨_, rfl, by show 1 ≤ sizeLine; decide, fun l nl => ?_⟩
    have s1 : Same H (upd H d (.dK (mergeK [] [((Sum.inl (q : Int) : Key), V.non)]))) := same_upd nd
    have nl0 : H l = none := s1.free nl
    have ndl : d ≠ l := fun z => by rw [z, upd_same] at nl; cases nl
    refine ⟨fun m σ H2 => ∃ (j : Nat) (c : Came) (y5 y6 : Option V), m = n - j ∧ σ = [some (.ref a), some (.int (q : Int)), some (.ref d), some (.ref l), some (.int (j : Int)), y5, y6] ∧ Same H H2 ∧
        H2 d = some (.dK (kvsOf c)) ∧ H2 l = some (.lst (natsV (keys c))) ∧ CameOk s n q c ∧ Done s c j ∧ ledGo s (n - j) j c = ledTo s n q ∧ j ≤ c.length,
      ⟨n, 0, [(q, none)], none, none, rfl, rfl, s1.trans (same_upd nl), ?_, upd_same, CameOk.one hq, fun j x hj => absurd hj (Nat.not_lt_zero _), rfl, Nat.zero_le _⟩, fun m σ H2 hW => ?_⟩
    · rw [upd_ne ndl, upd_same]
      rfl
    · obtain ⟨j, c, y5, y6, rfl, rfl, k2, hd, hl, ok, dn, go, hj⟩ := hW
      have hcl := ok.len
      refine ⟨_, rfl, _, rfl, l, _, rfl, .inl (.inl (.inl hl)), _, _, rfl, rfl, _, rfl, ite2 (fun hlt => ?_) (fun hge => ?_)⟩
      · -- a turn
        have hlt : j < c.length := by
          have := of_decide_eq_true hlt
          rw [natsV_len, keys_length] at this
          omega
        obtain ⟨x, hx⟩ : ∃ x, (keys c)[j]? = some x := ⟨_, List.getElem?_eq_getElem (by rw [keys_length]; exact hlt)⟩
        obtain ⟨ok', pre', dn'⟩ := dn.step ok hB hx
        refine ⟨fun σ' H' => ∃ (y5 y6 : Option V), σ' = [some (.ref a), some (.int (q : Int)), some (.ref d), some (.ref l), some (.int ((j + 1 : Nat) : Int)), y5, y6] ∧ Same H H' ∧
          H' d = some (.dK (kvsOf (swp s x c s.length))) ∧ H' l = some (.lst (natsV (keys (swp s x c s.length)))), fun σ' H' hN => ?_, ?_⟩
        · obtain ⟨z5, z6, e1, e2, e3, e4⟩ := hN
          refine ⟨n - (j + 1), by omega, j + 1, _, z5, z6, rfl, e1, e2, e3, e4, ok', dn', ?_, ?_⟩
          · rw [← go, show n - j = (n - (j + 1)) + 1 by omega, ledGo_step hx]
          · have := pre'.length_le
            omega
        · -- for bridge, sign in enumerate(signs)
          refine ⟨_, rfl, a, us, rfl, .inl (.inl (k2 _ _ ha)), for_enum (K := K) (a := a) (xs := us) (fun i σ H3 => ∃ (y5 y6 : Option V), σ = [some (.ref a), some (.int (q : Int)), some (.ref d), some (.ref l), some (.int (j : Int)), y5, y6] ∧ Same H H3 ∧
              H3 d = some (.dK (kvsOf (swp s x c i))) ∧ H3 l = some (.lst (natsV (keys (swp s x c i)))))
            ⟨y5, y6, rfl, k2, hd, hl⟩ (fun i σ H3 ⟨_, _, _, k3, _⟩ => .inl (.inl (k3 _ _ ha))) ?_ ?_⟩
          · rintro i v Tt σ H3 hi ⟨z5, z6, rfl, k3, hd3, hl3⟩ nT
            obtain ⟨e1, e2, r, ei, rfl, er⟩ := (pr.same k3).get hi
            have his : i < s.length := (List.getElem?_eq_some_iff.mp ei).1
            obtain ⟨oki, prei, _⟩ := swp_ok ok hB (List.mem_of_getElem? hx) i (by omega)
            have hli := oki.len
            have kT : Same H3 (upd H3 Tt (.tup [.int (i : Nat), .ref r])) := same_upd nT
            have k4 := k3.trans kT
            have hd4 := kT _ _ hd3
            have hl4 := kT _ _ hl3
            have er4 := kT _ _ er
            have hxi : (natsV (keys (swp s x c i)))[j]? = some (.int (x : Int)) := natsV_at (pre_at (keys_pre prei) hx)
            refine ⟨Tt, _, rfl, .inl (.inl upd_same), rfl, _, _, rfl, _, _, rfl, rfl, ?_⟩
            generalize upd H3 Tt (.tup [.int (i : Nat), .ref r]) = H4 at k4 hd4 hl4 er4
            refine ⟨_, rfl, r, _, 0, _, rfl, rfl, .inl (.inl er4), atI_nat (j := 0) rfl, _, rfl, _, rfl, l, _, _, _, rfl, rfl, .inl (.inl hl4), atI_nat hxi, rfl, _, rfl, ?_⟩
            refine ite2 (fun ex => ?_) (fun nex => ?_)
            · have ex : e1 = x := by
                have := V.int.inj (of_decide_eq_true ex)
                omega
              subst ex
              refine ⟨_, rfl, r, _, 1, _, rfl, rfl, .inl (.inl er4), atI_nat (j := 1) rfl, _, rfl, d, _, rfl, DGet.k (k := Sum.inl (e2 : Int)) hd4, _, rfl, ?_⟩
              rw [val_kvs]
              by_cases hm : e2 ∈ keys (swp s e1 c i)
              · obtain ⟨o, eo⟩ := look_some hm
                rw [eo]
                refine iteF ?_
                refine ⟨_, _, rfl, k4, ?_, ?_⟩
                · rw [swp_succ ei, if_neg (fun z => z.2 hm)]; exact hd4
                · rw [swp_succ ei, if_neg (fun z => z.2 hm)]; exact hl4
              · rw [look_none hm]
                refine iteT ?_
                have dl : d ≠ l := ndl
                refine ⟨_, rfl, _, rfl, _, rfl, r, _, 1, _, rfl, rfl, .inl (.inl er4), atI_nat (j := 1) rfl, d, _, rfl, DPut.k (k := Sum.inl (e2 : Int)) hd4 (by rw [kvsOf_len]; exact small1000 (by omega)), ?_⟩
                rw [put_kvs hm]
                have er5 : (upd H4 d (.dK (kvsOf (swp s e1 c i ++ [(e2, some i)])))) r = some (.tup [.int (e1 : Int), .int (e2 : Int)]) := by
                  rw [upd_ne (ne_of er4 hd4 (by intro z; cases z))]; exact er4
                have hl5 : (upd H4 d (.dK (kvsOf (swp s e1 c i ++ [(e2, some i)])))) l = some (.lst (natsV (keys (swp s e1 c i)))) := by
                  rw [upd_ne dl.symm]; exact hl4
                refine ⟨_, rfl, .inl ⟨rfl, _, .inl (.inl hl5)⟩, _, rfl, r, _, 1, _, rfl, rfl, .inl (.inl er5), atI_nat (j := 1) rfl, l, _, _, rfl, rfl, hl5, by rw [natsV_len, keys_length]; exact small1000 (by omega), ?_⟩
                have nd0 : H d = none := nd
                refine ⟨_, _, rfl, same_own (same_own k4 nd0) nl0, ?_, ?_⟩
                · rw [swp_succ ei, if_pos ⟨rfl, hm⟩, upd_ne dl, upd_same]
                · rw [swp_succ ei, if_pos ⟨rfl, hm⟩, upd_same, keys_app, natsV_app]
                  rfl
            · have nex : e1 ≠ x := fun z => nex (decide_eq_true (by rw [z]))
              refine iteF ?_
              refine ⟨_, _, rfl, k4, ?_, ?_⟩
              · rw [swp_succ ei, if_neg (fun z => nex z.1)]; exact hd4
              · rw [swp_succ ei, if_neg (fun z => nex z.1)]; exact hl4
          · -- at += 1
            rintro σ H3 ⟨z5, z6, rfl, k3, hd3, hl3⟩
            rw [pr.len] at hd3 hl3
            exact ⟨_, rfl, _, _, rfl, rfl, z5, z6, rfl, k3, hd3, hl3⟩
      · -- the end
        have hge : c.length ≤ j := by
          have := mt (fun z => decide_eq_true z) hge
          rw [natsV_len, keys_length] at this
          omega
        rw [ledGo_end hge] at go
        rw [go] at hd
        exact ⟨_, rfl, k H2 d k2 nd hd⟩
end
end Lg

/-! turned_way -/
namespace Lg
open PySem L2
section
variable {P : Program} {w : World} {K : PySem.W.Frag} {mg : Str → Option Value} {base : Heap}
def spTurn : Sp := fun vs H Q _ => ∃ (a d : Addr) (n q g : Nat) (s : Sg) (c : Came), vs = [.ref a, .ref d, .int (g : Int)] ∧ SgAt H a s ∧ H d = some (.dK (kvsOf c)) ∧ CameOk s n q c ∧ g ∈ keys c ∧
  ∀ H' p, Same H H' → H p = none → SgAt H' p (turned s c g) → Q (.ref p) H'
theorem ok_turn {f C : Addr} {fd : FuncData} {k : Nat} (F : Fun K "turned_way" "turned_way" sTurn f fd) (T : Txt K mg C) : FnOk P w K mg base CX0 (k + 1) f fd ["signs", "came", "goal"] spTurn := by
  refine F.ok scTurn (fun vs H Q E h => ?_) (fun cdv A outer s0 H vs Q E hr h => ?_)
  · obtain ⟨a, d, n, q, g, s, c, rfl, _⟩ := h
    rfl
  · obtain ⟨a, d, n, q, g, s, c, rfl, ⟨us, ha, pr⟩, hd, ok, hg, k⟩ := h
    have hu := hu_of hr
    refine ⟨_, pss_cons (ps_set (i := 3) scTurn.nd rfl (.inl rfl) (pe_callTy call_list_of (by rfl) T.list (by decide +kernel) (pa_cons (pv 0) pa_nil)))
      (pss_cons (ps_while PassesOwn.never (pt_cmpR op_notN (pe_dget hu (pv 1) (pv 2) (fun _ _ => rfl)) pe_non (nomark _))
        (pss_cons (ps_set (i := 4) scTurn.nd rfl (.inl rfl) (pe_dget hu (pv 1) (pv 2) (fun _ _ => rfl)))
        (pss_cons (ps_asg (pe_ix ix_list (pv 0) (pv 4) (fun _ _ => rfl)) (pg_tup rfl (pgs_cons (pg_name (i := 5) scTurn.nd rfl (.inl rfl)) (pgs_cons (pg_name (i := 6) scTurn.nd rfl (.inl rfl)) pgs_nil))))
        (pss_cons (ps_asg (pe_tup (pa_cons (pv 6) (pa_cons (pv 5) pa_nil))) (pg_sub (pv 3) (pv 4) set_list))
        (pss_one (ps_set (i := 2) scTurn.nd rfl (.inl rfl) (pv 5)))))))
      (pss_one (ps_ret (pv 3)))), ?_⟩
    refine ⟨_, rfl, a, us, rfl, .inl (.inl (.inl ha)), fun p np => ?_⟩
    have s1 : Same H (upd H p (.lst us)) := same_upd np
    obtain ⟨j0, hj0⟩ := List.mem_iff_getElem?.mp hg
    have hl0 := (List.getElem?_eq_some_iff.mp hj0).1
    rw [keys_length] at hl0
    refine ⟨fun j σ H2 => ∃ (g' fu : Nat) (m : Sg) (vs : List V) (y4 y5 y6 : Option V), σ = [some (.ref a), some (.ref d), some (.int (g' : Int)), some (.ref p), y4, y5, y6] ∧ Same H H2 ∧ H2 p = some (.lst vs) ∧ Prs H2 vs m ∧
        TurnInv s c g m g' j ∧ turnGo s c fu m g' = turned s c g ∧ j < fu,
      ⟨j0, g, c.length, s, us, none, none, none, rfl, s1, upd_same, pr.same s1, TurnInv.start hj0, rfl, hl0⟩, fun j σ H2 hW => ?_⟩
    obtain ⟨g', fu, m, vs, y4, y5, y6, rfl, k2, hp, prm, ti, go, hf⟩ := hW
    obtain ⟨o, eo⟩ := look_some (List.mem_of_getElem? ti.at_)
    have hdg : DGet H2 d (kV (Sum.inl (g' : Int))) (some (optV o)) := by
      have := DGet.k (k := Sum.inl (g' : Int)) (k2 _ _ hd)
      rw [val_kvs, eo] at this
      exact this
    refine ⟨_, rfl, _, rfl, d, _, rfl, hdg, rfl, _, rfl, ?_⟩
    cases o with
    | none =>
      refine iteF ?_
      have e : turnGo s c fu m g' = m := turnGo_stop eo
      rw [e] at go
      rw [go] at prm
      exact ⟨_, rfl, k H2 p k2 np ⟨vs, hp, prm⟩⟩
    | some b =>
      refine iteT ?_
      obtain ⟨p', i, eb, hij, ti'⟩ := ti.step ok eo
      obtain ⟨fu', rfl⟩ : ∃ fu', fu = fu' + 1 := ⟨fu - 1, by omega⟩
      rw [turnGo_step eo eb] at go
      refine ⟨fun σ' H' => ∃ (vs : List V) (y4 y5 y6 : Option V), σ' = [some (.ref a), some (.ref d), some (.int (p' : Int)), some (.ref p), y4, y5, y6] ∧ Same H H' ∧ H' p = some (.lst vs) ∧ Prs H' vs (m.set b (g', p')), fun σ' H' hN => ?_, ?_⟩
      · obtain ⟨vs', z4, z5, z6, e1, e2, e3, e4⟩ := hN
        exact ⟨i, hij, p', fu', _, vs', z4, z5, z6, e1, e2, e3, e4, ti', go, by omega⟩
      · -- bridge = came[goal]; one, other = signs[bridge]
        have hbs : b < s.length := (List.getElem?_eq_some_iff.mp eb).1
        have hbm : b < m.length := by rw [ti.shape.len]; exact hbs
        obtain ⟨r, e1, er⟩ := (pr.same k2).at_ b _ eb
        refine ⟨_, rfl, _, rfl, d, _, rfl, hdg, ?_⟩
        refine ⟨_, rfl, _, rfl, a, us, _, _, rfl, rfl, .inl (.inl (k2 _ _ ha)), atI_nat e1, r, _, rfl, .inl (.inl er), rfl, _, _, rfl, _, _, rfl, rfl, ?_⟩
        refine ⟨_, rfl, _, rfl, by show 2 ≤ sizeLine; decide, fun t nt => ?_⟩
        have kt : Same H2 (upd H2 t (.tup [.int (g' : Int), .int (p' : Int)])) := same_upd nt
        have hpt := kt _ _ hp
        refine ⟨_, rfl, _, rfl, p, vs, _, b, rfl, rfl, hpt, ixN_nat (by rw [prm.len]; exact hbm), ?_⟩
        refine ⟨_, rfl, vs.set b (.ref t), _, _, _, rfl, same_own (k2.trans kt) np, upd_same, ?_⟩
        exact ((prm.same kt).set (p := (g', p')) hbm upd_same).put (fun xs z => by rw [hpt] at z; cases z)
end
end Lg

/-! ask_limits -/
namespace Lg
open PySem L2
section
variable {P : Program} {w : World} {K : PySem.W.Frag} {mg : Str → Option Value} {base : Heap}
def lims (n lim : Nat) : List V := List.replicate n (V.int (lim : Int))
theorem lims_at {n lim q : Nat} (h : q < n) : (lims n lim)[q]? = some (.int (lim : Int)) := by
  unfold lims; rw [List.getElem?_replicate, if_pos h]
theorem lims_len (n lim : Nat) : (lims n lim).length = n := List.length_replicate
def spAsk (C : Addr) : Sp := fun vs H Q _ => ∃ (t l lm : Addr) (n lim : Nat) (B : Sg), vs = [.ref t, .ref lm] ∧ TownAt C H t l n B ∧ H lm = some (.lst (lims n lim)) ∧ lim ≤ 60 ∧ Q .non H
theorem ok_ask {f C : Addr} {fd : FuncData} {k : Nat} (F : Fun K "ask_limits" "ask_limits" sAsk f fd) (T : Txt K mg C) : FnOk P w K mg base CX0 (k + 1) f fd ["town", "limits"] (spAsk C) := by
  refine F.ok scAsk (fun vs H Q E h => ?_) (fun cdv A outer s0 H vs Q E hr h => ?_)
  · obtain ⟨t, l, lm, n, lim, B, rfl, _⟩ := h
    rfl
  · obtain ⟨t, l, lm, n, lim, B, rfl, ⟨⟨dx, ht⟩, _⟩, hlm, hlim, k⟩ := h
    obtain ⟨tk, hml⟩ := T.lim
    refine ⟨_, pss_cons (ps_if (pt_cmpR op_ne (pe_callB call_len_seq (by rfl) T.len PySem.boot_len (pa_cons (pv 1) pa_nil)) (pe_fld (pv 0) rfl) (nomark _)) pss_never pss_nil)
      (pss_one (ps_for PassesOwn.never rfl (pi_list (pv 1)) (pg_name (i := 2) scAsk.nd rfl (.inl rfl))
        (pss_one (ps_if (PW.pt (pw_or (pt_cmpR op_lt (pv 2) pe_int (nomark _)) (pw_or1 (pt_cmpR op_gt (pv 2) (pe_glob (v := .int 1000000000000000000000000000000000000000000000000000000000000) (by rfl) hml ⟨_, rfl⟩) (nomark _))))) pss_never pss_nil)))), ?_⟩
    refine ⟨_, rfl, lm, _, rfl, .inl (.inl (.inl hlm)), _, rfl, t, C, dx, _, _, rfl, ht, T.cl, T.nQ, flds_q _ _, rfl, _, rfl, ?_⟩
    refine iteNS (by rw [lims_len]) ?_
    refine ⟨_, rfl, lm, rfl, ⟨_, .inl (.inl hlm)⟩, for_list (K := K) (a := lm) (xs := lims n lim) (fun i σ H2 => ∃ y2, σ = [some (.ref t), some (.ref lm), y2] ∧ H2 = H)
      ⟨none, rfl, rfl⟩ (fun i σ H2 _ ⟨_, _, e⟩ => by rw [e]; exact .inl (.inl hlm)) ?_ ?_⟩
    · rintro i x σ H2 hi ⟨y2, rfl, rfl⟩
      have hin : i < n := by
        have hlt := (List.getElem?_eq_some_iff.mp hi).1
        rw [lims_len] at hlt; exact hlt
      rw [lims_at hin] at hi
      obtain rfl := Option.some.inj hi
      refine ⟨_, rfl, _, _, rfl, rfl, _, rfl, ?_⟩
      rw [show decide ((lim : Int) < 0) = false from decide_eq_false (by omega)]
      refine iteF ?_
      refine ⟨_, rfl, _, _, rfl, rfl, _, rfl, ?_⟩
      rw [show decide ((1000000000000000000000000000000000000000000000000000000000000 : Int) < (lim : Int)) = false from decide_eq_false (by omega)]
      refine iteF ?_
      exact ⟨_, rfl, rfl⟩
    · rintro σ H2 ⟨y2, rfl, rfl⟩
      exact k
end
end Lg

/-! light_signs -/
namespace Lg
open PySem L2

theorem kvs_keys (c : Came) : (kvsOf c).map (fun kv => kV kv.1) = natsV (keys c) := by
  unfold kvsOf natsV keys
  simp only [List.map_map]
  rfl
theorem sorted_is {n : Nat} {ks : List Nat} {zs : List Int} (nd : ks.Nodup) (h : ∀ k ∈ ks, k < n) (p : zs.Perm (ks.map fun (k : Nat) => (k : Int))) (o : zs.Pairwise (· ≤ ·)) : zs.map V.int = natsV (srt n ks) := by
  rw [natsV_ints]
  congr 1
  refine List.Perm.eq_of_pairwise (le := fun a b => a ≤ b) (fun a b _ _ h1 h2 => by omega) o ?_ (p.trans ((srt_perm nd h).map _).symm)
  exact List.pairwise_map.mpr ((srt_up n ks).imp fun z => by omega)
/-- what a turn of a comprehension is to reach: its own names forgotten again; where the test says yes, the new list at R is longer by one -/
def CompTurn (R : Addr) (tt : TT) (te : TE) (own : List Nat) (σ : St) (N : Hp → Prop) : St → Hp → Prop := fun τ G =>
  wipe τ own = wipe σ own ∧ tt τ G fun yes G1 =>
    if yes = true then te τ G1 fun y G2 => ∃ made, G2 R = some (.lst made) ∧
      made.length < sizeLine ∧ N (upd G2 R (.lst (made ++ [y]))) else N G1
/-- a comprehension over the keys of a dict that is locked: Pv holds ahead of each turn -/
theorem lc_keys {d : Addr} {o : Obj} {kvs : List (Key × V)} {g : TG} {tt : TT} {te : TE} {own : List Nat} {σ : St} {G0 : Hp} {R : Addr} {Z : Hp → Prop}
    (Pv : Nat → Hp → Prop) (h0 : Pv 0 (upd G0 R (.lst [])))
    (hl : ∀ i G, Pv i G → G d = some (.frz o (.dK kvs)))
    (hs : ∀ i k v G, kvs[i]? = some (k, v) → Pv i G → g (kV k) (wipe σ own) G (CompTurn R tt te own σ (Pv (i + 1))))
    (hd : ∀ G, Pv kvs.length G → Z G) :
    ∃ W : Nat → Nat → Hp → Prop,
      (∃ m, W 0 m (upd G0 R (.lst []))) ∧
      ∀ i m G, W i m G → ((Itk d o kvs).stop i G ∧ Z G) ∨
        ((Itk d o kvs).go i G ∧ ∃ N : Hp → Prop,
          (∀ G', N G' → ∃ m', m' < m ∧ W (i + 1) m' G') ∧
          ∀ x G', (Itk d o kvs).yld i G x G' → g x (wipe σ own) G' (CompTurn R tt te own σ N)) := by
  refine ⟨fun i m G => i + m = kvs.length ∧ Pv i G, ⟨kvs.length, Nat.zero_add _, h0⟩, fun i m G hW => ?_⟩
  obtain ⟨hm, hP⟩ := hW
  have hq := hl i G hP
  cases m with
  | zero =>
    have ei : kvs.length = i := by omega
    subst ei
    exact Or.inl ⟨⟨hq, Nat.le_refl kvs.length⟩, hd G hP⟩
  | succ m =>
    refine Or.inr ⟨⟨hq, by omega⟩, Pv (i + 1), fun G' hP' => ⟨m, Nat.lt_succ_self m, by omega, hP'⟩, fun x G' hy => ?_⟩
    obtain ⟨eG, k, v, ek, ex⟩ := hy
    subst eG
    subst ex
    exact hs i k v _ ek hP
theorem unlock_eq {H : Hp} {d D : Addr} {u x y : HO} (h : H d = some u) (hne : d ≠ D) : upd (upd (upd H d x) D y) d u = upd H D y := by
  funext b
  by_cases e1 : b = d
  · subst e1
    rw [upd_same, upd_ne hne]; exact h.symm
  · rw [upd_ne e1]
    by_cases e2 : b = D
    · subst e2; rw [upd_same, upd_same]
    · rw [upd_ne e2, upd_ne e1, upd_ne e2]

section
variable {P : Program} {w : World} {K : PySem.W.Frag} {mg : Str → Option Value} {base : Heap}
def spLight (C : Addr) : Sp := fun vs H Q _ => ∃ (t l lm : Addr) (n lim : Nat) (B : Sg), vs = [.ref t, .ref lm] ∧ TownAt C H t l n B ∧ Bnd B n ∧ n ≤ 24 ∧ B.length ≤ 60 ∧ H lm = some (.lst (lims n lim)) ∧ lim ≤ 60 ∧
  (∀ H' r a s, light n lim B = .inl s → Same H H' → H a = none → SgAt H' a s → H' r = some (.tup [.str "signs", .ref a]) → Q (.ref r) H') ∧
  (∀ H' r a xs, light n lim B = .inr xs → Same H H' → H a = none → H' a = some (.lst (natsV xs)) → H' r = some (.tup [.str "crowded", .ref a]) → Q (.ref r) H')
theorem ok_light {f C fA fC fL fT : Addr} {fd fdA fdC fdL fdT : FuncData} (F : Fun K "light_signs" "light_signs" sLight f fd) (T : Txt K mg C)
    (FA : Fun K "ask_limits" "ask_limits" sAsk fA fdA) (bA : Binds K fdA ["town", "limits"] []) (gA : mg "ask_limits" = some (.ref fA))
    (FC : Fun K "counts_out" "counts_out" sCount fC fdC) (bC : Binds K fdC ["town", "signs"] []) (gC : mg "counts_out" = some (.ref fC))
    (FL : Fun K "led_to" "led_to" sLed fL fdL) (bL : Binds K fdL ["signs", "quarter"] []) (gL : mg "led_to" = some (.ref fL))
    (FT : Fun K "turned_way" "turned_way" sTurn fT fdT) (bT : Binds K fdT ["signs", "came", "goal"] []) (gT : mg "turned_way" = some (.ref fT)) :
    FnOk P w K mg base CX0 2 f fd ["town", "limits"] (spLight C) := by
  have GA : FnOk P w K mg base CX0 1 fA fdA ["town", "limits"] (spAsk C) := ok_ask FA T
  have GC : FnOk P w K mg base CX0 1 fC fdC ["town", "signs"] (spCount C) := ok_count FC T
  have GL : FnOk P w K mg base CX0 1 fL fdL ["signs", "quarter"] spLed := ok_led FL T
  have GT : FnOk P w K mg base CX0 1 fT fdT ["signs", "came", "goal"] spTurn := ok_turn FT T
  refine F.ok scLight (fun vs H Q E h => ?_) (fun cdv A outer s0 H vs Q E hr h => ?_)
  · obtain ⟨t, l, lm, n, lim, B, rfl, _⟩ := h
    rfl
  · obtain ⟨t, l, lm, n, lim, B, rfl, hT, hB, hn, hBl, hlm, hlim, kS, kC⟩ := h
    obtain ⟨⟨dx, ht⟩, us, hl, pr⟩ := id hT
    refine ⟨_, (pss_cons (ps_expr (pe_call GA hr (by rfl) gA FA.kp bA .nil pass0 (pa_cons (pv 0) (pa_cons (pv 1) pa_nil))))
      (pss_cons (ps_setLc (i := 2) (own := [("one", 7), ("other", 8)]) (g := gTup K 2 (gCons (gName 7) (gCons (gName 8) gNil))) (tt := tYes) (by rfl) scLight.nd rfl rfl (sw_true rfl rfl rfl (by decide +kernel)) (pi_list (pe_fld (pv 0) rfl))
          (blkOk_by (N := ["town", "limits", "signs", "quarter", "counts", "came", "roomy", "one", "other"]) (sc := defScope sLight) (by decide +kernel)) (fun _ _ _ _ _ => pg_tup rfl (pgs_cons (pg_name (i := 7) scLight.nd rfl (.inl rfl)) (pgs_cons (pg_name (i := 8) scLight.nd rfl (.inl rfl)) pgs_nil))) (fun _ _ _ _ _ => pts_nil) (fun _ _ _ _ _ => pe_tup (pa_cons (pv 7) (pa_cons (pv 8) pa_nil))))
      (pss_cons (ps_for PassesOwn.never rfl (pi_range1 (by rfl) T.range (pa_cons (pe_fld (pv 0) rfl) pa_nil)) (pg_name (i := 3) scLight.nd rfl (.inl rfl))
      (pss_cons (ps_set (i := 4) scLight.nd rfl (.inr rfl) (pe_call GC hr (by rfl) gC FC.kp bC .nil pass0 (pa_cons (pv 0) (pa_cons (pv 2) pa_nil))))
      (pss_one (ps_while PassesOwn.never (pt_cmpR op_gt (pe_ix ix_list (pv 4) (pv 3) (fun _ _ => rfl)) (pe_ix ix_list (pv 1) (pv 3) (fun _ _ => rfl)) (nomark _))
      (pss_cons (ps_set (i := 5) scLight.nd rfl (.inl rfl) (pe_call GL hr (by rfl) gL FL.kp bL .nil pass0 (pa_cons (pv 2) (pa_cons (pv 3) pa_nil))))
      (pss_cons (ps_lock (ps_setLc (i := 6) (own := [("other", 8)]) (g := gName 8) (tt := tTest (tOp (rI0 fun i j => .bl (decide (i < j))) (tOp (rIxL K) (tVar 4) (tVar 8)) (tOp (rIxL K) (tVar 1) (tVar 8)))) (te := tVar 8) (by rfl) scLight.nd rfl rfl (sw_true rfl rfl rfl (by decide +kernel)) (pi_keys (pv 5))
          (blkOk_by (N := ["town", "limits", "signs", "quarter", "counts", "came", "roomy", "one", "other"]) (sc := defScope sLight) (by decide +kernel)) (fun _ _ _ _ _ => pg_name (i := 8) scLight.nd rfl (.inl rfl)) (fun _ _ _ _ _ => pts_one (pt_cmpR op_lt (pe_ix ix_list (pv 4) (pv 8) (fun _ _ => rfl)) (pe_ix ix_list (pv 1) (pv 8) (fun _ _ => rfl)) (nomark _))) (fun _ _ _ _ _ => pv 8)))
      (pss_cons (ps_if (pt_cmpR op_eq (pe_callB call_len_seq (by rfl) T.len PySem.boot_len (pa_cons (pv 6) pa_nil)) pe_int (nomark _)) (pss_one (ps_ret (pe_tup (pa_cons pe_str (pa_cons (pe_callB cr_sorted (by rfl) T.sorted (by decide +kernel) (pa_cons (pe_callTy (call_list_dK rfl) (by rfl) T.list (by decide +kernel) (pa_cons (pv 5) pa_nil)) pa_nil)) pa_nil))))) pss_nil)
      (pss_cons (ps_set (i := 2) scLight.nd rfl (.inl rfl) (pe_call GT hr (by rfl) gT FT.kp bT .nil pass0 (pa_cons (pv 2) (pa_cons (pv 5) (pa_cons (pe_ix ix_list (pv 6) pe_int (fun _ _ => rfl)) pa_nil)))))
      (pss_one (ps_set (i := 4) scLight.nd rfl (.inr rfl) (pe_call GC hr (by rfl) gC FC.kp bC .nil pass0 (pa_cons (pv 0) (pa_cons (pv 2) pa_nil)))))))))))))
      (pss_one (ps_ret (pe_tup (pa_cons pe_str (pa_cons (pv 2) pa_nil)))))))), ?_⟩
    refine ⟨_, rfl, _, rfl, t, l, lm, n, lim, B, rfl, hT, hlm, hlim, ?_⟩
    refine ⟨_, rfl, t, C, dx, _, _, rfl, ht, T.cl, T.nB, flds_b _ _, l, rfl, ⟨us, .inl (.inl hl)⟩, fun D nD => ?_⟩
    refine lc_list (K := K) (a := l) (xs := us) (fun i H2 => Same H H2 ∧ ∃ vs, H2 D = some (.lst vs) ∧ Prs H2 vs (B.take i)) ⟨same_upd nD, [], upd_same, by rw [List.take_zero]; exact Prs.nil _⟩ (fun i H2 _ q => .inl (.inl (q.1 _ _ hl))) ?_ ?_
    · rintro i x H2 hi ⟨k2, vs, hD, pv2⟩
      obtain ⟨c, d, r, ei, rfl, er⟩ := (pr.same k2).get hi
      have hiB : i < B.length := (List.getElem?_eq_some_iff.mp ei).1
      refine ⟨r, _, rfl, .inl (.inl er), rfl, _, _, rfl, _, _, rfl, rfl, rfl, ?_⟩
      refine ⟨_, rfl, _, rfl, by show 2 ≤ sizeLine; decide, fun p np => ?_⟩
      have kp : Same H2 (upd H2 p (.tup [.int (c : Int), .int (d : Int)])) := same_upd np
      refine ⟨vs, kp _ _ hD, small1000 (by rw [pv2.len, List.length_take]; omega), same_own (k2.trans kp) nD, _, upd_same, ?_⟩
      rw [take_succ ei]
      exact ((pv2.same kp).snoc (p := (c, d)) upd_same).put (fun xs z => by rw [kp _ _ hD] at z; cases z)
    · rintro H2 ⟨k2, vs, hD, pv2⟩
      rw [pr.len, List.take_length] at pv2
      refine ⟨_, rfl, t, C, dx, _, _, rfl, k2 _ _ ht, T.cl, T.nQ, flds_q _ _, _, rfl, by omega, by omega, ?_⟩
      rw [Int.toNat_natCast]
      refine for_range (lo := 0) (n := n) (fun i σ H3 => ∃ (a : Addr) (s : Sg) (y3 y4 y5 y6 y7 y8 : Option V), σ = [some (.ref t), some (.ref lm), some (.ref a), y3, y4, y5, y6, y7, y8] ∧ Same H H3 ∧ H a = none ∧ SgAt H3 a s ∧ lightTo n lim B i = .inl s)
        ⟨D, B, none, none, none, none, none, none, rfl, k2, nD, ⟨vs, hD, pv2⟩, rfl⟩ ?_ ?_
      · rintro i σ H3 hi ⟨a, s, y3, y4, y5, y6, y7, y8, rfl, k3, na, hs, hlt⟩
        have lit : LitTo n lim B s i := (lightTo_ok hB i (by omega)).1 s hlt
        have e0 : (0 : Int) + ((i : Nat) : Int) = ((i : Nat) : Int) := Int.zero_add _
        rw [e0]
        refine ⟨_, rfl, _, rfl, t, l, a, n, B, s, rfl, hT.same k3, hn, hs, lit.shape.bnd hB, fun H4 cn k4 ncn hcn => ?_⟩
        refine ⟨fun m σ H5 => ∃ (a cn : Addr) (s : Sg) (fu : Nat) (y5 y6 y7 y8 : Option V), m = outc s i ∧ σ = [some (.ref t), some (.ref lm), some (.ref a), some (.int (i : Int)), some (.ref cn), y5, y6, y7, y8] ∧ Same H H5 ∧ H a = none ∧ SgAt H5 a s ∧
            H5 cn = some (.lst (cnts n s)) ∧ LitTo n lim B s i ∧ outc s i < fu ∧ lightQ n lim i fu s = lightTo n lim B (i + 1),
          ⟨outc s i, a, cn, s, B.length + 1, _, _, _, _, rfl, rfl, k3.trans k4, na, hs.same k4, hcn, lit, ?_, (lightTo_succ hlt).symm⟩, fun m σ H5 hW => ?_⟩
        · have := outc_le s i
          rw [lit.shape.len] at this
          omega
        · clear hs hlt lit hcn ncn na k4 k3 cn H4 H3 s a y3 y4 y5 y6 y7 y8
          obtain ⟨a, cn, s, fu, y5, y6, y7, y8, rfl, rfl, k5, na, hs, hcn, lit, hfu, hgo⟩ := hW
          have hsB := lit.shape.bnd hB
          refine ⟨_, rfl, _, rfl, cn, _, _, _, rfl, rfl, .inl (.inl hcn), atI_nat (cnts_at s hi), _, rfl, _, rfl, lm, _, _, _, rfl, rfl, .inl (.inl (k5 _ _ hlm)), atI_nat (lims_at hi), _, _, rfl, rfl, _, rfl, ite2 (fun hmo => ?_) (fun hmo => ?_)⟩
          · have hmo : lim < outc s i := by
              have := of_decide_eq_true hmo
              omega
            obtain ⟨fu', rfl⟩ : ∃ fu', fu = fu' + 1 := ⟨fu - 1, by omega⟩
            refine ⟨fun σ' H6 => ∃ (a cn : Addr) (s' : Sg) (y5 y6 y7 y8 : Option V), σ' = [some (.ref t), some (.ref lm), some (.ref a), some (.int (i : Int)), some (.ref cn), y5, y6, y7, y8] ∧ Same H H6 ∧ H a = none ∧ SgAt H6 a s' ∧
                H6 cn = some (.lst (cnts n s')) ∧ LitTo n lim B s' i ∧ outc s' i + 1 = outc s i ∧ lightQ n lim i fu' s' = lightTo n lim B (i + 1), fun σ' H6 hN => ?_, ?_⟩
            · obtain ⟨a', cn', s', z5, z6, z7, z8, e1, e2, e3, e4, e5, e6, e7, e8⟩ := hN
              exact ⟨outc s' i, by omega, a', cn', s', fu', z5, z6, z7, z8, rfl, e1, e2, e3, e4, e5, e6, by omega, e8⟩
            · -- came = led_to(signs, quarter)
              refine ⟨_, rfl, _, rfl, a, n, i, s, rfl, hs, hsB, hi, hn, fun H6 d k6 nd hd => ?_⟩
              obtain ⟨ok, cl⟩ := ledTo_ok hsB hi
              have hcl := ok.len
              have k06 := k5.trans k6
              have hcn6 := k6 _ _ hcn
              have hs6 := hs.same k6
              have hlm6 := k06 _ _ hlm
              refine ⟨d, _, hd, trivial, fun od => ?_⟩
              refine ⟨_, rfl, d, od, rfl, .inl ⟨_, upd_same, fun R nR => ?_⟩⟩
              have ndR : d ≠ R := fun z => by rw [← z, upd_same] at nR; cases nR
              have nR6 : H6 R = none := by rw [upd_ne ndR.symm] at nR; exact nR
              have hcnL : (upd H6 d (.frz od (.dK (kvsOf (ledTo s n i))))) cn = some (.lst (cnts n s)) := by
                rw [upd_ne (ne_of hcn6 hd (by intro z; cases z))]; exact hcn6
              have hlmL : (upd H6 d (.frz od (.dK (kvsOf (ledTo s n i))))) lm = some (.lst (lims n lim)) := by
                rw [upd_ne (ne_of hlm6 hd (by intro z; cases z))]; exact hlm6
              have hdL : (upd H6 d (.frz od (.dK (kvsOf (ledTo s n i))))) d = some (.frz od (.dK (kvsOf (ledTo s n i)))) := upd_same
              generalize hHL : upd H6 d (.frz od (.dK (kvsOf (ledTo s n i)))) = HL at nR hcnL hlmL hdL
              have hcnR : cn ≠ R := ne_of_none hcnL nR
              have hlmR : lm ≠ R := ne_of_none hlmL nR
              refine lc_keys (fun j H7 => H7 = upd HL R (.lst (natsV (((keys (ledTo s n i)).take j).filter fun k => decide (outc s k < lim))))) (by rw [List.take_zero]; rfl) (fun j H7 e => by rw [e, upd_ne ndR]; exact hdL) ?_ ?_
              · rintro j kk v H7 hj rfl
                obtain ⟨x, ex, rfl⟩ : ∃ x, (keys (ledTo s n i))[j]? = some x ∧ kk = Sum.inl (x : Int) := by
                  unfold kvsOf at hj
                  rw [List.getElem?_map] at hj
                  cases e : (ledTo s n i)[j]? with
                  | none => rw [e] at hj; cases hj
                  | some p =>
                    rw [e] at hj
                    have e1 := Option.some.inj hj
                    exact ⟨p.1, keys_at e, (congrArg Prod.fst e1).symm⟩
                have hx : x < n := ok.lt x (List.mem_of_getElem? ex)
                have hR7 : ∀ o, (upd HL R o) R = some o := fun o => upd_same
                refine ⟨rfl, ?_⟩
                refine ⟨_, rfl, _, rfl, cn, _, _, _, rfl, rfl, .inl (.inl (by rw [upd_ne hcnR]; exact hcnL)), atI_nat (cnts_at s hx), _, rfl, _, rfl, lm, _, _, _, rfl, rfl, .inl (.inl (by rw [upd_ne hlmR]; exact hlmL)), atI_nat (lims_at hx), _, _, rfl, rfl, _, rfl, ?_⟩
                refine ite2 (fun hlo => ?_) (fun hlo => ?_)
                · have hlo : outc s x < lim := by
                    have := of_decide_eq_true hlo
                    omega
                  refine ⟨_, rfl, _, hR7 _, ?_, ?_⟩
                  · rw [natsV_len]
                    refine small1000 (Nat.le_trans (List.length_filter_le _ _) ?_)
                    rw [List.length_take]
                    have := keys_length (ledTo s n i)
                    omega
                  · rw [upd_upd, take_succ ex, List.filter_append, natsV_app]
                    rw [List.filter_cons_of_pos (by simpa using hlo)]
                    rfl
                · have hlo : ¬ outc s x < lim := fun z => hlo (decide_eq_true (by omega))
                  rw [take_succ ex, List.filter_append, List.filter_cons_of_neg (by simpa using hlo), List.filter_nil, List.append_nil]
              · rintro H7 rfl
                rw [kvsOf_len, ← keys_length, List.take_length]
                refine ⟨by rw [upd_ne ndR]; exact hdL, ?_⟩
                rw [← hHL, unlock_eq hd ndR]
                have k7 : Same H6 (upd H6 R (.lst (natsV (roomy n lim i s)))) := same_upd nR6
                have hR7 : (upd H6 R (.lst (natsV (roomy n lim i s)))) R = some (.lst (natsV (roomy n lim i s))) := upd_same
                show tSeq _ _ _ _ (upd H6 R (.lst (natsV (roomy n lim i s))))
                generalize upd H6 R (.lst (natsV (roomy n lim i s))) = H7 at k7 hR7
                have k07 := k06.trans k7
                have hd7 := k7 _ _ hd
                have hs7 := hs6.same k7
                refine ⟨_, rfl, R, _, rfl, .inl (.inl (.inl hR7)), rfl, _, rfl, ite2 (fun hz => ?_) (fun hz => ?_)⟩
                · have hz : roomy n lim i s = [] := by
                    have := V.int.inj (of_decide_eq_true hz)
                    rw [natsV_len] at this
                    refine List.length_eq_zero_iff.mp ?_
                    omega
                  rw [lightQ_crowd hmo hz] at hgo
                  refine ⟨_, rfl, d, _, rfl, hd7, fun g ng => ?_⟩
                  rw [kvs_keys]
                  refine ⟨g, (keys (ledTo s n i)).map fun (k : Nat) => (k : Int), rfl, .inl (.inl (by rw [upd_same, natsV_ints])), by rw [List.length_map, keys_length]; omega, fun zs p pm po np => ?_⟩
                  rw [sorted_is ok.nd ok.lt pm po]
                  refine ⟨by show 2 ≤ sizeLine; decide, fun r nr => ?_⟩
                  have k8 : Same H7 (upd H7 g (.lst (natsV (keys (ledTo s n i))))) := same_upd ng
                  have k9 := k8.trans (same_upd (o := .lst (natsV (srt n (keys (ledTo s n i))))) np)
                  have k10 := k9.trans (same_upd (o := .tup [.str "crowded", .ref p]) nr)
                  have npr : p ≠ r := fun z => by rw [← z, upd_same] at nr; cases nr
                  refine kC _ r p _ (lightTo_inr hgo.symm n (by omega)) (k07.trans k10) ((k07.trans k8).free np) ?_ upd_same
                  rw [upd_ne npr, upd_same]
                · obtain ⟨g, rest, hg⟩ : ∃ g rest, roomy n lim i s = g :: rest := by
                    cases e : roomy n lim i s with
                    | nil => exact absurd (decide_eq_true (by rw [e]; rfl)) hz
                    | cons g r => exact ⟨g, r, rfl⟩
                  obtain ⟨hgm, hglow⟩ := roomy_head hg
                  obtain ⟨lit', hdec⟩ := lit.turn hB hi hmo hg
                  rw [lightQ_more hmo hg] at hgo
                  refine ⟨_, rfl, _, rfl, _, rfl, R, _, 0, _, rfl, rfl, .inl (.inl hR7), atI_nat (j := 0) (by rw [hg]; rfl), a, d, n, i, g, s, ledTo s n i, rfl, hs7, hd7, ok, hgm, fun H8 p k8 np hs8 => ?_⟩
                  have k08 := k07.trans k8
                  refine ⟨_, rfl, _, rfl, t, l, p, n, B, _, rfl, hT.same k08, hn, hs8, lit'.shape.bnd hB, fun H9 cn' k9 ncn hcn9 => ?_⟩
                  exact ⟨p, cn', _, _, _, _, _, rfl, k08.trans k9, k07.free np, hs8.same k9, hcn9, lit', hdec, hgo⟩
          · have hmo : ¬ lim < outc s i := fun z => hmo (decide_eq_true (by omega))
            rw [lightQ_end hmo] at hgo
            exact ⟨a, s, _, _, _, _, _, _, rfl, k5, na, hs, hgo.symm⟩
      · rintro σ H3 ⟨a, s, y3, y4, y5, y6, y7, y8, rfl, k3, na, hs, hlt⟩
        refine ⟨_, rfl, by show 2 ≤ sizeLine; decide, fun r nr => ?_⟩
        have kr : Same H3 (upd H3 r (.tup [.str "signs", .ref a])) := same_upd nr
        exact kS _ r a s hlt (k3.trans kr) na (hs.same kr) upd_same
end
end Lg

/-! lightest_signs -/
namespace Lg
open PySem L2
theorem sc_ne : decide (V.str "signs" = V.str "crowded") = false := by decide +kernel
section
variable {P : Program} {w : World} {K : PySem.W.Frag} {mg : Str → Option Value} {base : Heap}
def spLeast (C : Addr) : Sp := fun vs H Q _ => ∃ (t l : Addr) (n : Nat) (B : Sg), vs = [.ref t] ∧ TownAt C H t l n B ∧ Bnd B n ∧ n ≤ 24 ∧ B.length ≤ 60 ∧
  ∀ H' r a g, Same H H' → H a = none → H g = none → SgAt H' a (lightest n B).2.1 → H' g = some (.lst (natsV (lightest n B).2.2)) → H' r = some (.tup [.int ((lightest n B).1 : Int), .ref a, .ref g]) → Q (.ref r) H'
/-- what light_signs told for the limit c -/
def ToldAt (H H' : Hp) (n c : Nat) (B : Sg) (r : Addr) : Prop :=
  (∃ a s, light n c B = .inl s ∧ H a = none ∧ SgAt H' a s ∧ H' r = some (.tup [.str "signs", .ref a])) ∨
  (∃ a xs, light n c B = .inr xs ∧ H a = none ∧ H' a = some (.lst (natsV xs)) ∧ H' r = some (.tup [.str "crowded", .ref a]))
theorem ok_least {f C fL : Addr} {fd fdL : FuncData} (F : Fun K "lightest_signs" "lightest_signs" sLeast f fd) (T : Txt K mg C)
    (GL : FnOk P w K mg base CX0 2 fL fdL ["town", "limits"] (spLight C)) (kL : PySem.W.keepIn K (.ref fL) = true) (bL : Binds K fdL ["town", "limits"] []) (gL : mg "light_signs" = some (.ref fL)) :
    FnOk P w K mg base CX0 3 f fd ["town"] (spLeast C) := by
  refine F.ok scLeast (fun vs H Q E h => ?_) (fun cdv A outer s0 H vs Q E hr h => ?_)
  · obtain ⟨t, l, n, B, rfl, _⟩ := h
    rfl
  · obtain ⟨t, l, n, B, rfl, hT, hB, hn, hBl, k⟩ := h
    obtain ⟨⟨dx, ht⟩, us, hl, pr⟩ := id hT
    refine ⟨_, pss_cons (ps_set (i := 1) scLeast.nd rfl (.inl rfl) pe_int)
      (pss_cons (ps_set (i := 2) scLeast.nd rfl (.inl rfl) (pe_lst pa_nil))
      (pss_cons (ps_set (i := 3) scLeast.nd rfl (.inl rfl) (pe_call GL hr (by rfl) gL kL bL .nil pass0 (pa_cons (pv 0) (pa_cons (pe_op op_rep (pe_lst (pa_cons (pv 1) pa_nil)) (pe_fld (pv 0) rfl)) pa_nil))))
      (pss_cons (ps_while PassesOwn.never (pt_cmpR op_eq (pe_ix ix_tup (pv 3) pe_int (fun _ _ => rfl)) pe_str (nomark _))
        (pss_cons (ps_set (i := 2) scLeast.nd rfl (.inl rfl) (pe_ix ix_tup (pv 3) pe_int (fun _ _ => rfl)))
        (pss_cons (ps_aug (i := 1) scLeast.nd rfl (.inl rfl) pe_int ip_add)
        (pss_one (ps_set (i := 3) scLeast.nd rfl (.inl rfl) (pe_call GL hr (by rfl) gL kL bL .nil pass0 (pa_cons (pv 0) (pa_cons (pe_op op_rep (pe_lst (pa_cons (pv 1) pa_nil)) (pe_fld (pv 0) rfl)) pa_nil))))))))
      (pss_one (ps_ret (pe_tup (pa_cons (pv 1) (pa_cons (pe_ix ix_tup (pv 3) pe_int (fun _ _ => rfl)) (pa_cons (pv 2) pa_nil))))))))), ?_⟩
    have call : ∀ (c : Nat) (H1 : Hp) (R : VK) (y2 y3 : Option V), Same H H1 → c ≤ 60 → (∀ H' r, Same H1 H' → ToldAt H H' n c B r → R (.ref r) H') →
        tCall (spLight C) [] E0 (tCons (tVar 0) (tCons (tOp rRep (tLst (tCons (tVar 1) tNil)) (tFld K (tVar 0) "quarters")) tNil)) [some (.ref t), some (.int (c : Int)), y2, y3] H1 R := by
      intro c H1 R y2 y3 k1 hc hR
      refine ⟨_, rfl, _, rfl, by show 1 ≤ sizeLine; decide, fun z nz => ?_⟩
      have s1 : Same H1 (upd H1 z (.lst [.int (c : Int)])) := same_upd nz
      refine ⟨_, rfl, t, C, dx, _, _, rfl, s1 _ _ (k1 _ _ ht), T.cl, T.nQ, flds_q _ _, z, (n : Int), [.int (c : Int)], rfl, rfl, upd_same, by omega, by omega, ?_, fun lm nlm => ?_⟩
      · rw [Int.toNat_natCast]
        exact lt_line (by show 1 * n ≤ 1000; omega)
      rw [Int.toNat_natCast, replicate_flat]
      have s2 : Same H1 (upd (upd H1 z (.lst [.int (c : Int)])) lm (.lst (lims n c))) := s1.trans (same_upd nlm)
      refine ⟨t, l, lm, n, c, B, rfl, hT.same (k1.trans s2), hB, hn, hBl, upd_same, hc, fun H' r a s e k2 na hs hr => ?_, fun H' r a xs e k2 na hs hr => ?_⟩
      · exact hR H' r (s2.trans k2) (.inl ⟨a, s, e, (k1.trans s2).free na, hs, hr⟩)
      · exact hR H' r (s2.trans k2) (.inr ⟨a, xs, e, (k1.trans s2).free na, hs, hr⟩)
    refine ⟨Nat.zero_le _, fun g ng => ?_⟩
    have s1 : Same H (upd H g (.lst [])) := same_upd ng
    refine call 0 _ _ _ _ s1 (Nat.zero_le _) fun H2 r k2 told => ?_
    refine ⟨fun m σ H3 => ∃ (c : Nat) (qs : List Nat) (g r : Addr), σ = [some (.ref t), some (.int (c : Int)), some (.ref g), some (.ref r)] ∧ Same H H3 ∧ H g = none ∧ H3 g = some (.lst (natsV qs)) ∧ ToldAt H H3 n c B r ∧
        lightestGo n B m c qs = lightest n B ∧ c + m = B.length + 1 ∧ 0 < m,
      ⟨B.length + 1, 0, [], g, r, rfl, s1.trans k2, ng, k2 _ _ upd_same, told, rfl, by omega, by omega⟩, fun m σ H3 hW => ?_⟩
    clear told k2 H2 r
    obtain ⟨c, qs, g, r, rfl, k3, ng, hg, told, go, hm, hm0⟩ := hW
    rcases told with ⟨a, s, e, na, hs, hr3⟩ | ⟨a, xs, e, na, hs, hr3⟩
    · refine ⟨_, rfl, r, _, 0, _, rfl, rfl, .inl (.inl hr3), atI_nat (j := 0) rfl, rfl, _, rfl, ?_⟩
      rw [sc_ne]
      refine iteF ?_
      obtain ⟨m', rfl⟩ : ∃ m', m = m' + 1 := ⟨m - 1, by omega⟩
      rw [lightestGo_inl e] at go
      refine ⟨_, rfl, _, rfl, r, _, 1, _, rfl, rfl, .inl (.inl hr3), atI_nat (j := 1) rfl, _, rfl, by show 3 ≤ sizeLine; decide, fun u nu => ?_⟩
      have ku : Same H3 (upd H3 u (.tup [.int (c : Int), .ref a, .ref g])) := same_upd nu
      refine k _ u a g (k3.trans ku) na ng ?_ ?_ ?_
      · rw [← go]; exact hs.same ku
      · rw [← go]; exact ku _ _ hg
      · rw [← go]; exact upd_same
    · refine ⟨_, rfl, r, _, 0, _, rfl, rfl, .inl (.inl hr3), atI_nat (j := 0) rfl, rfl, _, rfl, ?_⟩
      rw [show decide (V.str "crowded" = V.str "crowded") = true from decide_eq_true rfl]
      refine iteT ?_
      obtain ⟨m', rfl⟩ : ∃ m', m = m' + 1 := ⟨m - 1, by omega⟩
      rw [lightestGo_inr e] at go
      have few := (light_inr hB e).few
      refine ⟨fun σ' H' => ∃ (g r : Addr), σ' = [some (.ref t), some (.int ((c + 1 : Nat) : Int)), some (.ref g), some (.ref r)] ∧ Same H H' ∧ H g = none ∧ H' g = some (.lst (natsV xs)) ∧ ToldAt H H' n (c + 1) B r, fun σ' H' hN => ?_, ?_⟩
      · obtain ⟨g', r', e1, e2, e3, e4, e5⟩ := hN
        exact ⟨m', by omega, c + 1, xs, g', r', e1, e2, e3, e4, e5, go, by omega, by omega⟩
      · refine ⟨_, rfl, r, _, 1, _, rfl, rfl, .inl (.inl hr3), atI_nat (j := 1) rfl, _, rfl, _, _, rfl, rfl, ?_⟩
        refine call (c + 1) H3 _ _ _ k3 (by omega) fun H4 r' k4 told' => ?_
        exact ⟨a, r', rfl, k3.trans k4, na, k4 _ _ hs, told'⟩
end
end Lg

/-! ask_town, Town.__init__ -/
namespace Lg
open PySem L2
/-- what makes a town -/
structure Fit (B : Sg) (n : Nat) : Prop where
  n1 : 1 ≤ n
  n24 : n ≤ 24
  few : B.length ≤ 60
  bnd : Bnd B n
  two : ∀ p ∈ B, p.1 ≠ p.2
section
variable {P : Program} {w : World} {K : PySem.W.Frag} {mg : Str → Option Value} {base : Heap}
def spAskT : Sp := fun vs H Q _ => ∃ (a : Addr) (n : Nat) (B : Sg), vs = [.int (n : Int), .ref a] ∧ SgAt H a B ∧ Fit B n ∧ Q .non H
theorem ok_askT {f C : Addr} {fd : FuncData} {k : Nat} (F : Fun K "ask_town" "ask_town" sAskT f fd) (T : Txt K mg C) : FnOk P w K mg base CX0 (k + 1) f fd ["quarters", "pairs"] spAskT := by
  refine F.ok scAskT (fun vs H Q E h => ?_) (fun cdv A outer s0 H vs Q E hr h => ?_)
  · obtain ⟨a, n, B, rfl, _⟩ := h
    rfl
  · obtain ⟨a, n, B, rfl, ⟨us, ha, pr⟩, ft, k⟩ := h
    obtain ⟨tq, hq⟩ := T.mq
    obtain ⟨tb, hb⟩ := T.mb
    have n1 := ft.n1
    have n24 := ft.n24
    have few := ft.few
    refine ⟨_, pss_cons (ps_if (PW.pt (pw_or (pt_cmpR op_lt (pv 0) pe_int (nomark _)) (pw_or (pt_cmpR op_gt (pv 0) (pe_glob (v := .int 24) (by rfl) hq ⟨_, rfl⟩) (nomark _))
          (pw_or1 (pt_cmpR op_gt (pe_callB call_len_seq (by rfl) T.len PySem.boot_len (pa_cons (pv 1) pa_nil)) (pe_glob (v := .int 60) (by rfl) hb ⟨_, rfl⟩) (nomark _)))))) pss_never pss_nil)
      (pss_one (ps_for PassesOwn.never rfl (pi_list (pv 1)) (pg_tup rfl (pgs_cons (pg_name (i := 2) scAskT.nd rfl (.inl rfl)) (pgs_cons (pg_name (i := 3) scAskT.nd rfl (.inl rfl)) pgs_nil)))
        (pss_one (ps_if (PW.pt (pw_or (pt_cmpR op_eq (pv 2) (pv 3) (nomark _)) (pw_or (pt_cmpR op_lt (pe_callB (call_min2 rfl) (by rfl) T.min (by decide +kernel) (pa_cons (pv 2) (pa_cons (pv 3) pa_nil))) pe_int (nomark _))
          (pw_or1 (pt_cmpR op_ge (pe_callB (call_max2 rfl) (by rfl) T.max (by decide +kernel) (pa_cons (pv 2) (pa_cons (pv 3) pa_nil))) (pv 0) (nomark _)))))) pss_never pss_nil)))), ?_⟩
    refine ⟨_, rfl, _, _, rfl, rfl, _, rfl, ?_⟩
    rw [show decide ((n : Int) < 1) = false from decide_eq_false (by omega)]
    refine iteF ⟨_, rfl, _, _, rfl, rfl, _, rfl, ?_⟩
    rw [show decide ((24 : Int) < (n : Int)) = false from decide_eq_false (by omega)]
    refine iteF ⟨_, rfl, a, _, rfl, .inl (.inl (.inl ha)), _, _, rfl, rfl, _, rfl, ?_⟩
    rw [show decide ((60 : Int) < (us.length : Int)) = false from decide_eq_false (by rw [pr.len]; omega)]
    refine iteF ?_
    refine ⟨_, rfl, a, rfl, ⟨us, .inl (.inl ha)⟩, for_list (K := K) (a := a) (xs := us) (fun i σ H2 => ∃ y2 y3, σ = [some (.int (n : Int)), some (.ref a), y2, y3] ∧ H2 = H)
      ⟨none, none, rfl, rfl⟩ (fun i σ H2 _ ⟨_, _, _, e⟩ => by rw [e]; exact .inl (.inl ha)) ?_ ?_⟩
    · rintro i x σ H2 hi ⟨y2, y3, rfl, rfl⟩
      obtain ⟨c, d, r, ei, rfl, er⟩ := pr.get hi
      have hm := List.mem_of_getElem? ei
      have hc : c < n := (ft.bnd _ hm).1
      have hd : d < n := (ft.bnd _ hm).2
      have hne : c ≠ d := ft.two _ hm
      refine ⟨r, _, rfl, .inl (.inl er), rfl, _, _, rfl, _, _, rfl, rfl, ?_⟩
      refine ⟨_, rfl, _, rfl, rfl, _, rfl, ?_⟩
      rw [show decide (V.int (c : Int) = V.int (d : Int)) = false from decide_eq_false (fun z => by have := V.int.inj z; omega)]
      refine iteF ⟨_, rfl, _, rfl, _, _, rfl, _, _, rfl, rfl, _, rfl, ?_⟩
      rw [show decide ((if (d : Int) < (c : Int) then (d : Int) else (c : Int)) < 0) = false from decide_eq_false (by split <;> omega)]
      refine iteF ⟨_, rfl, _, rfl, _, _, rfl, _, rfl, _, _, rfl, rfl, _, rfl, ?_⟩
      rw [show decide ((n : Int) ≤ (if (d : Int) > (c : Int) then (d : Int) else (c : Int))) = false from decide_eq_false (by split <;> omega)]
      refine iteF ?_
      exact ⟨_, _, rfl, rfl⟩
    · rintro σ H2 ⟨y2, y3, rfl, rfl⟩
      exact k
def spInit (C : Addr) : Sp := fun vs H Q _ => ∃ (p dx a : Addr) (n : Nat) (B : Sg) (us : List V), vs = [.ref p, .int (n : Int), .ref a] ∧ H p = some (.ins C dx []) ∧ H a = some (.lst us) ∧ Prs H us B ∧ Fit B n ∧
  ∀ H' l, (∀ b o, H b = some o → b ≠ p → H' b = some o) → H l = none → H' p = some (.ins C dx (flds n l)) → H' l = some (.lst us) → Q .non H'
theorem ok_init {f C fA : Addr} {fd fdA : FuncData} (F : Fun K "__init__" "Town.__init__" sInit f fd) (T : Txt K mg C)
    (FA : Fun K "ask_town" "ask_town" sAskT fA fdA) (bA : Binds K fdA ["quarters", "pairs"] []) (gA : mg "ask_town" = some (.ref fA)) : FnOk P w K mg base CX0 2 f fd ["self", "quarters", "bridges"] (spInit C) := by
  have GA : FnOk P w K mg base CX0 1 fA fdA ["quarters", "pairs"] spAskT := ok_askT FA T
  refine F.ok scInit (fun vs H Q E h => ?_) (fun cdv A outer s0 H vs Q E hr h => ?_)
  · obtain ⟨p, dx, a, n, B, us, rfl, _⟩ := h
    rfl
  · obtain ⟨p, dx, a, n, B, us, rfl, hp, ha, pr, ft, k⟩ := h
    refine ⟨_, pss_cons (ps_expr (pe_call GA hr (by rfl) gA FA.kp bA .nil pass0 (pa_cons (pv 1) (pa_cons (pv 2) pa_nil))))
      (pss_cons (ps_fld (pv 0) (pv 1) rfl)
      (pss_one (ps_fld (pv 0) (pe_callTy call_list_of (by rfl) T.list (by decide +kernel) (pa_cons (pv 2) pa_nil)) rfl))), ?_⟩
    refine ⟨_, rfl, _, rfl, a, n, B, rfl, ⟨us, ha, pr⟩, ft, ?_⟩
    have nap : a ≠ p := ne_of ha hp (by intro z; cases z)
    refine ⟨_, rfl, _, rfl, p, C, dx, [], rfl, hp, T.cl, T.nQ, (by show 0 < 1000; decide), ?_⟩
    have ha1 : (upd H p (.ins C dx (putF "quarters" (.int (n : Int)) []))) a = some (.lst us) := by rw [upd_ne nap]; exact ha
    refine ⟨_, rfl, a, us, rfl, .inl (.inl (.inl ha1)), fun l nl => ?_⟩
    have npl : p ≠ l := fun z => by rw [← z, upd_same] at nl; cases nl
    refine ⟨_, rfl, p, C, dx, _, rfl, (by rw [upd_ne npl, upd_same]), T.cl, T.nB, (by show 1 < 1000; decide), ?_⟩
    refine k _ l (fun b o e hb => ?_) (by rw [upd_ne npl.symm] at nl; exact nl) upd_same (by rw [upd_ne npl.symm, upd_same])
    have nl0 : H l = none := by rw [upd_ne npl.symm] at nl; exact nl
    rw [upd_ne hb, upd_ne (ne_of_none e nl0), upd_ne hb]
    exact e
end
end Lg

/-! _law_numbers, _law_town -/
namespace Lg
open PySem L2
section
variable {P : Program} {w : World} {K : PySem.W.Frag} {mg : Str → Option Value} {base : Heap}
def spNums (K : PySem.W.Frag) : Sp := fun vs H Q _ => ∃ (a : Addr) (ns : List Int), vs = [.ref a, .int 63] ∧ SqL K H a (ns.map V.int) ∧ ns.length ≤ 63 ∧
  ∀ H' p (fs : List Int), Same H H' → H p = none → H' p = some (.lst (fs.map V.int)) → fs.length = 63 → Q (.ref p) H'
theorem ints_at {ns : List Int} {i : Nat} (h : i < ns.length) : (ns.map V.int)[i]? = some (.int ns[i]) := by
  rw [List.getElem?_map, List.getElem?_eq_getElem h]; rfl
theorem ok_nums {f C : Addr} {fd : FuncData} {k : Nat} (F : Fun K "_law_numbers" "_law_numbers" sNums f fd) (T : Txt K mg C) : FnOk P w K mg base CX0 (k + 1) f fd ["script", "many"] (spNums K) := by
  refine F.ok scNums (fun vs H Q E h => ?_) (fun cdv A outer s0 H vs Q E hr h => ?_)
  · obtain ⟨a, ns, rfl, _⟩ := h
    rfl
  · obtain ⟨a, ns, rfl, hS, hlen, k⟩ := h
    refine ⟨_, pss_cons (ps_set (i := 2) scNums.nd rfl (.inl rfl) (pe_lst pa_nil))
      (pss_cons (ps_set (i := 3) scNums.nd rfl (.inl rfl) pe_int)
      (pss_cons (ps_if (pt_cmpR op_gt (pe_callB call_len_seq (by rfl) T.len PySem.boot_len (pa_cons (pv 0) pa_nil)) pe_int (nomark _))
        (pss_one (ps_set (i := 3) scNums.nd rfl (.inl rfl) (pe_op op_add pe_int (pe_op op_mod (pe_ix ix_list (pv 0) pe_int (fun _ _ => rfl)) pe_int)))) pss_nil)
      (pss_cons (ps_for PassesOwn.never rfl (pi_range1 (by rfl) T.range (pa_cons (pv 1) pa_nil)) (pg_name (i := 4) scNums.nd rfl (.inl rfl))
        (pss_cons (ps_set (i := 3) scNums.nd rfl (.inl rfl) (pe_op op_mod (pe_op op_mul (pv 3) pe_int) pe_int))
        (pss_one (ps_expr (pe_bm PySem.F.plainAttrs_list PySem.F.slot_list_append PySem.F.type_list_append mt_append (pv 2) (pa_cons (pe_op op_mod (pe_op op_fdiv (pv 3) pe_int) pe_int) pa_nil))))))
      (pss_cons (ps_for PassesOwn.never rfl (pi_range1 (by rfl) T.range (pa_cons (pe_callB call_len_seq (by rfl) T.len PySem.boot_len (pa_cons (pv 0) pa_nil)) pa_nil)) (pg_name (i := 4) scNums.nd rfl (.inl rfl))
        (pss_one (ps_asg (pe_op op_mod (pe_op op_add (pe_ix ix_list (pv 2) (pe_op op_mod (pv 4) (pv 1)) (fun _ _ => rfl)) (pe_ix ix_list (pv 0) (pv 4) (fun _ _ => rfl))) pe_int) (pg_sub (pv 2) (pe_op op_mod (pv 4) (pv 1)) set_list))))
      (pss_one (ps_ret (pv 2))))))), ?_⟩
    refine ⟨Nat.zero_le _, fun p np => ?_⟩
    have s1 : Same H (upd H p (.lst [])) := same_upd np
    refine ⟨_, rfl, a, _, rfl, .inl (s1.seq hS), _, _, rfl, rfl, _, rfl, ite2 (fun h0 => ?_) (fun h0 => ?_)⟩
    · have h0 : 0 < ns.length := by
        have := of_decide_eq_true h0
        rw [List.length_map] at this
        omega
      refine ⟨_, rfl, a, _, 0, _, rfl, rfl, s1.seq hS, atI_nat (j := 0) (ints_at h0), _, _, rfl, rfl, (by show (0 : Int) < 2147483646; decide), _, _, rfl, rfl, ?_⟩
      refine ⟨_, rfl, 63, rfl, by decide, by decide, for_range (lo := 0) (n := 63) (fun i σ H2 => ∃ (st : Int) (y4 : Option V) (fs : List Int), σ = [some (.ref a), some (.int 63), some (.ref p), some (.int st), y4] ∧ Same H H2 ∧ H2 p = some (.lst (fs.map V.int)) ∧ fs.length = i)
        ⟨_, none, [], rfl, s1, upd_same, rfl⟩ ?_ ?_⟩
      · rintro i σ H2 hi ⟨st, y4, fs, rfl, k2, hp, hl⟩
        refine ⟨_, rfl, _, _, rfl, rfl, .inr ⟨by decide, by decide⟩, _, _, rfl, rfl, (by show (0 : Int) < 2147483647; decide), ?_⟩
        refine ⟨_, rfl, .inl ⟨rfl, _, .inl (.inl hp)⟩, _, rfl, _, _, rfl, rfl, ⟨by decide, by decide⟩, _, _, rfl, rfl, (by show (0 : Int) < 1000000; decide), p, _, _, rfl, rfl, hp, by rw [List.length_map]; exact small1000 (by omega), ?_⟩
        exact ⟨_, _, fs ++ [_], rfl, same_own k2 np, by rw [upd_same, List.map_append]; rfl, by rw [List.length_append, hl]; rfl⟩
      · rintro σ H2 ⟨st, y4, fs, rfl, k2, hp, hl⟩
        refine ⟨_, rfl, a, _, rfl, .inl (k2.seq hS), _, rfl, by rw [List.length_map]; omega, by rw [List.length_map]; omega, ?_⟩
        rw [Int.toNat_natCast, List.length_map]
        refine for_range (lo := 0) (n := ns.length) (fun i σ H3 => ∃ (y4 : Option V) (fs : List Int), σ = [some (.ref a), some (.int 63), some (.ref p), some (.int st), y4] ∧ Same H H3 ∧ H3 p = some (.lst (fs.map V.int)) ∧ fs.length = 63)
          ⟨y4, fs, rfl, k2, hp, hl⟩ ?_ ?_
        · rintro i σ H3 hi ⟨y4, fs, rfl, k3, hp, hl⟩
          have e0 : (0 : Int) + ((i : Nat) : Int) = ((i : Nat) : Int) := Int.zero_add _
          rw [e0]
          have hm : i % 63 < fs.length := by rw [hl]; exact Nat.mod_lt _ (by decide)
          have em : (i : Int) % 63 = ((i % 63 : Nat) : Int) := by omega
          refine ⟨_, rfl, _, rfl, _, rfl, _, _, rfl, rfl, (by show (0 : Int) < 63; decide), p, _, _, _, rfl, rfl, .inl (.inl hp), at_of em (ints_at hm), _, rfl, _, rfl, a, _, _, _, rfl, rfl, k3.seq hS, atI_nat (ints_at hi), _, _, rfl, rfl, _, _, rfl, rfl, (by show (0 : Int) < 1000000; decide), ?_⟩
          refine ⟨_, rfl, _, rfl, _, rfl, _, _, rfl, rfl, (by show (0 : Int) < 63; decide), p, _, _, i % 63, rfl, rfl, hp, by rw [em]; exact ixN_nat (by rw [List.length_map]; exact hm), ?_⟩
          refine ⟨_, fs.set (i % 63) _, rfl, same_own k3 np, by rw [upd_same, List.map_set], by rw [List.length_set]; exact hl⟩
        · rintro σ H3 ⟨y4, fs, rfl, k3, hp, hl⟩
          exact ⟨_, rfl, k H3 p fs k3 np hp hl⟩
    · have h0 : ns.length = 0 := by
        have := mt (fun z => decide_eq_true z) h0
        rw [List.length_map] at this
        omega
      refine ⟨_, rfl, 63, rfl, by decide, by decide, for_range (lo := 0) (n := 63) (fun i σ H2 => ∃ (st : Int) (y4 : Option V) (fs : List Int), σ = [some (.ref a), some (.int 63), some (.ref p), some (.int st), y4] ∧ Same H H2 ∧ H2 p = some (.lst (fs.map V.int)) ∧ fs.length = i)
        ⟨1, none, [], rfl, s1, upd_same, rfl⟩ ?_ ?_⟩
      · rintro i σ H2 hi ⟨st, y4, fs, rfl, k2, hp, hl⟩
        refine ⟨_, rfl, _, _, rfl, rfl, .inr ⟨by decide, by decide⟩, _, _, rfl, rfl, (by show (0 : Int) < 2147483647; decide), ?_⟩
        refine ⟨_, rfl, .inl ⟨rfl, _, .inl (.inl hp)⟩, _, rfl, _, _, rfl, rfl, ⟨by decide, by decide⟩, _, _, rfl, rfl, (by show (0 : Int) < 1000000; decide), p, _, _, rfl, rfl, hp, by rw [List.length_map]; exact small1000 (by omega), ?_⟩
        exact ⟨_, _, fs ++ [_], rfl, same_own k2 np, by rw [upd_same, List.map_append]; rfl, by rw [List.length_append, hl]; rfl⟩
      · rintro σ H2 ⟨st, y4, fs, rfl, k2, hp, hl⟩
        refine ⟨_, rfl, a, _, rfl, .inl (k2.seq hS), _, rfl, by rw [List.length_map]; omega, by rw [List.length_map]; omega, ?_⟩
        rw [Int.toNat_natCast, List.length_map, h0]
        refine for_range (lo := 0) (n := 0) (fun i σ H3 => i = 0 ∧ ∃ (y4 : Option V), σ = [some (.ref a), some (.int 63), some (.ref p), some (.int st), y4] ∧ Same H H3 ∧ H3 p = some (.lst (fs.map V.int)))
          ⟨rfl, y4, rfl, k2, hp⟩ ?_ ?_
        · intro i σ H3 hi
          exact (Nat.not_lt_zero i hi).elim
        · rintro σ H3 ⟨_, y4, rfl, k3, hp⟩
          exact ⟨_, rfl, k H3 p fs k3 np hp hl⟩

/-! ### the town that is drawn -/
theorem two_ends {n z : Int} (hn : 2 ≤ n) : 0 ≤ z % n ∧ z % n < n ∧ 0 ≤ (z % n + 1 + z / 7 % (n - 1)) % n ∧ (z % n + 1 + z / 7 % (n - 1)) % n < n ∧ z % n ≠ (z % n + 1 + z / 7 % (n - 1)) % n := by
  have a1 := Int.emod_nonneg z (show n ≠ 0 by omega)
  have a2 := Int.emod_lt_of_pos z (show 0 < n by omega)
  have b1 := Int.emod_nonneg (z / 7) (show n - 1 ≠ 0 by omega)
  have b2 := Int.emod_lt_of_pos (z / 7) (show 0 < n - 1 by omega)
  generalize z % n = o at *
  generalize z / 7 % (n - 1) = e at *
  have c1 := Int.emod_nonneg (o + 1 + e) (show n ≠ 0 by omega)
  have c2 := Int.emod_lt_of_pos (o + 1 + e) (show 0 < n by omega)
  have c3 := Int.mul_ediv_add_emod (o + 1 + e) n
  refine ⟨a1, a2, c1, c2, fun h => ?_⟩
  rw [← h] at c3
  have e1 : n * ((o + 1 + e) / n) = 1 + e := by omega
  generalize (o + 1 + e) / n = q at e1
  by_cases hq : q ≤ 0
  · have := Int.mul_le_mul_of_nonneg_left hq (show 0 ≤ n by omega)
    omega
  · have := Int.mul_le_mul_of_nonneg_left (show 1 ≤ q by omega) (show 0 ≤ n by omega)
    omega
structure Drawn (B : Sg) (n : Nat) : Prop where
  n1 : 1 ≤ n
  n7 : n ≤ 7
  few : B.length ≤ 40
  bnd : Bnd B n
  two : ∀ p ∈ B, p.1 ≠ p.2
def spTown : Sp := fun vs H Q _ => ∃ (a : Addr) (fs : List Int) (m : Nat), vs = [.ref a, .int (m : Int)] ∧ H a = some (.lst (fs.map V.int)) ∧ fs.length = 63 ∧ 0 < m ∧ m ≤ 41 ∧
  ∀ H' r l n B, Same H H' → H l = none → H' r = some (.tup [.int (n : Nat), .ref l]) → SgAt H' l B → Drawn B n → Q (.ref r) H'
theorem ok_town {f C : Addr} {fd : FuncData} {k : Nat} (F : Fun K "_law_town" "_law_town" sTown f fd) (T : Txt K mg C) : FnOk P w K mg base CX0 (k + 1) f fd ["numbers", "most"] spTown := by
  refine F.ok scTown (fun vs H Q E h => ?_) (fun cdv A outer s0 H vs Q E hr h => ?_)
  · obtain ⟨a, fs, m, rfl, _⟩ := h
    rfl
  · obtain ⟨a, fs, m, rfl, ha, hl, hm0, hm, k⟩ := h
    refine ⟨_, pss_cons (ps_set (i := 2) scTown.nd rfl (.inl rfl) (pe_op op_add pe_int (pe_op op_mod (pe_ix ix_list (pv 0) pe_int (fun _ _ => rfl)) pe_int)))
      (pss_cons (ps_set (i := 3) scTown.nd rfl (.inl rfl) (pe_op op_mod (pe_ix ix_list (pv 0) pe_int (fun _ _ => rfl)) (pv 1)))
      (pss_cons (ps_if (pt_cmpR op_eq (pv 2) pe_int (nomark _)) (pss_one (ps_set (i := 3) scTown.nd rfl (.inl rfl) pe_int)) pss_nil)
      (pss_cons (ps_set (i := 4) scTown.nd rfl (.inl rfl) (pe_lst pa_nil))
      (pss_cons (ps_for PassesOwn.never rfl (pi_range1 (by rfl) T.range (pa_cons (pv 3) pa_nil)) (pg_name (i := 5) scTown.nd rfl (.inl rfl))
        (pss_cons (ps_set (i := 6) scTown.nd rfl (.inl rfl) (pe_ix ix_list (pv 0) (pe_op op_add pe_int (pv 5)) (fun _ _ => rfl)))
        (pss_cons (ps_set (i := 7) scTown.nd rfl (.inl rfl) (pe_op op_mod (pv 6) (pv 2)))
        (pss_one (ps_expr (pe_bm PySem.F.plainAttrs_list PySem.F.slot_list_append PySem.F.type_list_append mt_append (pv 4) (pa_cons (pe_tup (pa_cons (pv 7) (pa_cons
          (pe_op op_mod (pe_op op_add (pe_op op_add (pv 7) pe_int) (pe_op op_mod (pe_op op_fdiv (pv 6) pe_int) (pe_op op_sub (pv 2) pe_int))) (pv 2)) pa_nil))) pa_nil)))))))
      (pss_one (ps_ret (pe_tup (pa_cons (pv 2) (pa_cons (pv 4) pa_nil))))))))), ?_⟩
    have h0 : 0 < fs.length := by omega
    have h1 : 1 < fs.length := by omega
    refine ⟨_, rfl, a, _, 0, _, rfl, rfl, .inl (.inl ha), atI_nat (j := 0) (ints_at h0), _, _, rfl, rfl, (by show (0 : Int) < 7; decide), _, _, rfl, rfl, ?_⟩
    refine ⟨_, rfl, a, _, 1, _, rfl, rfl, .inl (.inl ha), atI_nat (j := 1) (ints_at h1), _, rfl, _, _, rfl, rfl, (by show (0 : Int) < (m : Int); omega), ?_⟩
    have q1 := Int.emod_nonneg fs[0] (show (7 : Int) ≠ 0 by decide)
    have q2 := Int.emod_lt_of_pos fs[0] (show (0 : Int) < 7 by decide)
    have m1 := Int.emod_nonneg fs[1] (show (m : Int) ≠ 0 by omega)
    have m2 := Int.emod_lt_of_pos fs[1] (show (0 : Int) < (m : Int) by omega)
    obtain ⟨n, hn⟩ : ∃ n : Nat, 1 + fs[0] % 7 = (n : Int) := ⟨(1 + fs[0] % 7).toNat, by omega⟩
    obtain ⟨y, hy⟩ : ∃ y : Nat, fs[1] % (m : Int) = (y : Int) := ⟨(fs[1] % (m : Int)).toNat, by omega⟩
    have n1 : 1 ≤ n := by omega
    have n7 : n ≤ 7 := by omega
    have hy40 : y ≤ 40 := by omega
    have rest : ∀ (qn yn : Int) (n y : Nat) (R : VK), qn = (n : Int) → yn = (y : Int) → 1 ≤ n → n ≤ 7 → y ≤ 40 → (y = 0 ∨ 2 ≤ n) → (∀ H' r l B, Same H H' → H l = none → H' r = some (.tup [.int (n : Nat), .ref l]) → SgAt H' l B → Drawn B n → R (.ref r) H') →
        tSeq (tAsg (tLst tNil) (gName 4)) (tSeq (tFor (iRng1 (tCons (tVar 3) tNil)) (gName 5)
          (tSeq (tAsg (tOp (rIxL K) (tVar 0) (tOp (rI0 fun i j => V.int (i + j)) (tC (.int 8)) (tVar 5))) (gName 6)) (tSeq (tAsg (tOp (rI (fun _ j => 0 < j) fun i j => V.int (i % j)) (tVar 6) (tVar 2)) (gName 7))
            (tDrop (tBM K "list" rAppend (tVar 4) (tCons (tTup (tCons (tVar 7) (tCons (tOp (rI (fun _ j => 0 < j) fun i j => V.int (i % j)) (tOp (rI0 fun i j => V.int (i + j)) (tOp (rI0 fun i j => V.int (i + j)) (tVar 7) (tC (.int 1)))
              (tOp (rI (fun _ j => 0 < j) fun i j => V.int (i % j)) (tOp (rI CDiv fun i j => V.int (i / j)) (tVar 6) (tC (.int 7))) (tOp (rI0 fun i j => V.int (i - j)) (tVar 2) (tC (.int 1))))) (tVar 2)) tNil))) tNil))))))
          (tRet (tTup (tCons (tVar 2) (tCons (tVar 4) tNil))))) { nx := fun _ H' => R .non H', rt := R } [some (.ref a), some (.int (m : Int)), some (.int qn), some (.int yn), none, none, none, none] H := by
      clear k hy40 hy hn q1 q2 m1 m2 n1 n7 y n
      intro qn yn n y R e1 e2 n1 n7 hy40 hyn k
      subst e1
      subst e2
      refine ⟨Nat.zero_le _, fun p np => ?_⟩
      have s1 : Same H (upd H p (.lst [])) := same_upd np
      refine ⟨_, rfl, _, rfl, by omega, by omega, ?_⟩
      rw [Int.toNat_natCast]
      refine for_range (lo := 0) (n := y) (fun i σ H2 => ∃ (vs : List V) (B : Sg) (y5 y6 y7 : Option V), σ = [some (.ref a), some (.int (m : Int)), some (.int (n : Int)), some (.int (y : Int)), some (.ref p), y5, y6, y7] ∧ Same H H2 ∧
          H2 p = some (.lst vs) ∧ Prs H2 vs B ∧ B.length = i ∧ Bnd B n ∧ ∀ q ∈ B, q.1 ≠ q.2)
        ⟨[], [], none, none, none, rfl, s1, upd_same, Prs.nil _, rfl, fun q hq => (by cases hq), fun q hq => (by cases hq)⟩ ?_ ?_
      · rintro i σ H2 hi ⟨vs, B, y5, y6, y7, rfl, k2, hp, pr, hB, bnd, two⟩
        have e0 : (0 : Int) + ((i : Nat) : Int) = ((i : Nat) : Int) := Int.zero_add _
        rw [e0]
        have hi8 : 8 + i < fs.length := by omega
        refine ⟨_, rfl, _, rfl, _, _, rfl, rfl, a, _, _, _, rfl, rfl, .inl (.inl (k2 _ _ ha)), at_of (j := 8 + i) (by omega) (ints_at hi8), ?_⟩
        have n2 : 2 ≤ n := by omega
        obtain ⟨o1, o2, o3, o4, o5⟩ := two_ends (n := (n : Int)) (z := fs[8 + i]) (by omega)
        refine ⟨_, rfl, _, rfl, _, _, rfl, rfl, (by show (0 : Int) < (n : Int); omega), ?_⟩
        refine ⟨_, rfl, .inl ⟨rfl, _, .inl (.inl hp)⟩, _, rfl, _, rfl, _, _, rfl, rfl, _, rfl, _, _, rfl, rfl, ⟨by decide, by decide⟩, _, rfl, _, _, rfl, rfl, _, _, rfl, rfl, (by show (0 : Int) < (n : Int) - 1; omega), _, _, rfl, rfl, _, rfl, _, _, rfl, rfl, (by show (0 : Int) < (n : Int); omega),
          by show 2 ≤ sizeLine; decide, fun t nt => ?_⟩
        obtain ⟨x, hx⟩ : ∃ x : Nat, fs[8 + i] % (n : Int) = (x : Int) := ⟨(fs[8 + i] % (n : Int)).toNat, by omega⟩
        obtain ⟨z, hz⟩ : ∃ z : Nat, (fs[8 + i] % (n : Int) + 1 + fs[8 + i] / 7 % ((n : Int) - 1)) % (n : Int) = (z : Int) := ⟨((fs[8 + i] % (n : Int) + 1 + fs[8 + i] / 7 % ((n : Int) - 1)) % (n : Int)).toNat, by omega⟩
        rw [hz] at o3 o4 o5
        dsimp only
        rw [hz, hx]
        rw [hx] at o1 o2 o5
        have kt : Same H2 (upd H2 t (.tup [.int (x : Int), .int (z : Int)])) := same_upd nt
        refine ⟨p, _, _, rfl, rfl, kt _ _ hp, by rw [pr.len, hB]; exact small1000 (by omega), ?_⟩
        refine ⟨_, B ++ [(x, z)], _, _, _, rfl, same_own (k2.trans kt) np, upd_same, ?_, by rw [List.length_append, hB]; rfl, fun q hq => ?_, fun q hq => ?_⟩
        · exact ((pr.same kt).snoc (p := (x, z)) upd_same).put (fun xs q => by rw [kt _ _ hp] at q; cases q)
        · rcases List.mem_append.mp hq with ho | hn
          · exact bnd q ho
          · rw [List.mem_singleton.mp hn]
            exact ⟨by show x < n; omega, by show z < n; omega⟩
        · rcases List.mem_append.mp hq with ho | hn
          · exact two q ho
          · rw [List.mem_singleton.mp hn]
            show x ≠ z
            omega
      · rintro σ H2 ⟨vs, B, y5, y6, y7, rfl, k2, hp, pr, hB, bnd, two⟩
        refine ⟨_, rfl, _, rfl, by show 2 ≤ sizeLine; decide, fun r nr => ?_⟩
        have kr : Same H2 (upd H2 r (.tup [.int (n : Int), .ref p])) := same_upd nr
        exact k _ r p B (k2.trans kr) np upd_same ⟨vs, kr _ _ hp, pr.same kr⟩ ⟨n1, n7, by omega, bnd, two⟩
    refine ⟨_, rfl, rfl, _, rfl, ite2 (fun h1 => ?_) (fun h1 => ?_)⟩
    · exact rest _ _ n 0 Q hn rfl n1 n7 (Nat.zero_le _) (.inl rfl) (fun H' r l B e1 e2 e3 e4 e5 => k H' r l n B e1 e2 e3 e4 e5)
    · have h1 : n ≠ 1 := fun z => h1 (decide_eq_true (congrArg V.int (hn.trans (by rw [z]; rfl))))
      exact rest _ _ n y Q hn hy n1 n7 hy40 (.inr (by omega)) (fun H' r l B e1 e2 e3 e4 e5 => k H' r l n B e1 e2 e3 e4 e5)
end
end Lg

/-! _law_whole_number, _law_rises, _law_signs, _law_out, _law_within -/
namespace Lg
open PySem L2
theorem kit_ii {K : PySem.W.Frag} : PySem.W.kitOne K (.type "int") (.type "int") = some true := kit_ty (by decide +kernel)
theorem kit_ib {K : PySem.W.Frag} : PySem.W.kitOne K (.type "int") (.type "bool") = some false := kit_ty (by decide +kernel)
theorem kit_ll {K : PySem.W.Frag} : PySem.W.kitOne K (.type "list") (.type "list") = some true := kit_ty (by decide +kernel)
theorem kit_tt {K : PySem.W.Frag} : PySem.W.kitOne K (.type "tuple") (.type "tuple") = some true := kit_ty (by decide +kernel)
theorem inV_nat (a : Nat) : ∀ xs : List Nat, inV (.int (a : Int)) (natsV xs) = decide (a ∈ xs)
  | [] => by simp [inV, natsV]
  | x :: r => by
    have ih := inV_nat a r
    unfold inV at ih ⊢
    show (eqV (.int (x : Int)) (.int (a : Int)) || (natsV r).any fun y => eqV y (.int (a : Int))) = _
    rw [ih]
    show (((x : Int) == (a : Int)) || decide (a ∈ r)) = _
    by_cases h : x = a
    · subst h; simp
    · rw [show ((x : Int) == (a : Int)) = false from by rw [beq_eq_false_iff_ne]; omega]
      simp
      intro z
      exact absurd z.symm h
theorem flat_nats (xs : List Nat) : (natsV xs).all flatV = true := by
  unfold natsV
  rw [List.all_map]
  exact List.all_eq_true.mpr fun k _ => rfl
theorem within_snoc (s : Sg) (xs : List Nat) (a b : Nat) : within (s ++ [(a, b)]) xs = within s xs + if decide (a ∈ xs) && decide (b ∈ xs) then 1 else 0 := by
  unfold within
  rw [List.countP_append, List.countP_cons, List.countP_nil, Nat.zero_add]
section
variable {P : Program} {w : World} {K : PySem.W.Frag} {mg : Str → Option Value} {base : Heap}
/-! ### _law_whole_number -/
def spWhole : Sp := fun vs H Q _ => ∃ (i : Int), vs = [.int i] ∧ Q (.bl true) H
theorem ok_whole {f C : Addr} {fd : FuncData} {k : Nat} (F : Fun K "_law_whole_number" "_law_whole_number" sWhole f fd) (T : Txt K mg C) : FnOk P w K mg base CX0 (k + 1) f fd ["found"] spWhole := by
  refine F.ok scWhole (fun vs H Q E h => ?_) (fun cdv A outer s0 H vs Q E hr h => ?_)
  · obtain ⟨i, rfl, _⟩ := h
    rfl
  · obtain ⟨i, rfl, k⟩ := h
    refine ⟨_, pss_one (ps_ret (pe_and (pe_callB call_isi (by rfl) T.isi (by decide +kernel) (pa_cons (pv 0) (pa_cons (pe_bltn (v := .ty "int") (by rfl) T.int (by decide +kernel) rfl) pa_nil)))
      (pe_one (pe_not (pe_callB call_isi (by rfl) T.isi (by decide +kernel) (pa_cons (pv 0) (pa_cons (pe_bltn (v := .ty "bool") (by rfl) T.bool (by decide +kernel) rfl) pa_nil))))))), ?_⟩
    refine ⟨_, rfl, _, _, _, _, true, rfl, .ty "int", .base (.int i), kit_ii, true, rfl, iteT ?_⟩
    exact ⟨_, rfl, _, _, _, _, false, rfl, .ty "bool", .base (.int i), kit_ib, false, rfl, k⟩

/-! ### _law_rises -/
def spRises : Sp := fun vs H Q _ => ∃ (a : Addr) (xs : List Nat) (n : Nat), vs = [.ref a, .int (n : Int)] ∧ H a = some (.lst (natsV xs)) ∧ xs.Pairwise (· < ·) ∧ (∀ x ∈ xs, x < n) ∧ Q (.bl true) H
theorem ok_rises {f C fW : Addr} {fd fdW : FuncData} (F : Fun K "_law_rises" "_law_rises" sRises f fd) (T : Txt K mg C)
    (FW : Fun K "_law_whole_number" "_law_whole_number" sWhole fW fdW) (bW : Binds K fdW ["found"] []) (gW : mg "_law_whole_number" = some (.ref fW)) : FnOk P w K mg base CX0 2 f fd ["found", "most"] spRises := by
  have GW : FnOk P w K mg base CX0 1 fW fdW ["found"] spWhole := ok_whole FW T
  refine F.ok scRises (fun vs H Q E h => ?_) (fun cdv A outer s0 H vs Q E hr h => ?_)
  · obtain ⟨a, xs, n, rfl, _⟩ := h
    rfl
  · obtain ⟨a, xs, n, rfl, ha, up, lt, k⟩ := h
    refine ⟨_, pss_cons (ps_if (pt_not (pt_val (pe_callB call_isi (by rfl) T.isi (by decide +kernel) (pa_cons (pv 0) (pa_cons (pe_bltn (v := .ty "list") (by rfl) T.list (by decide +kernel) rfl) pa_nil))))) (pss_one (ps_ret pe_bl)) pss_nil)
      (pss_cons (ps_set (i := 2) scRises.nd rfl (.inl rfl) (pe_un un_neg pe_int))
      (pss_cons (ps_for PassesOwn.never rfl (pi_list (pv 0)) (pg_name (i := 3) scRises.nd rfl (.inl rfl))
        (pss_cons (ps_if (PW.pt (pw_or (pt_not (pt_val (pe_call GW hr (by rfl) gW FW.kp bW .nil pass0 (pa_cons (pv 3) pa_nil)))) (pw_or (pt_cmpR op_le (pv 3) (pv 2) (nomark _)) (pw_or1 (pt_cmpR op_ge (pv 3) (pv 1) (nomark _)))))) (pss_one (ps_ret pe_bl)) pss_nil)
        (pss_one (ps_set (i := 2) scRises.nd rfl (.inl rfl) (pv 3)))))
      (pss_one (ps_ret pe_bl)))), ?_⟩
    refine ⟨_, rfl, _, _, _, _, true, rfl, .ty "list", .base (.lst ha), kit_ll, true, rfl, ?_⟩
    refine ⟨_, rfl, ?_⟩
    refine ⟨_, rfl, a, rfl, ⟨_, .inl (.inl ha)⟩, for_list (K := K) (a := a) (xs := natsV xs) (fun i σ H2 => ∃ (z : Int) (y3 : Option V), σ = [some (.ref a), some (.int (n : Int)), some (.int z), y3] ∧ H2 = H ∧ ∀ x, xs[i]? = some x → z < (x : Int))
      ⟨-1, none, rfl, rfl, fun x _ => by omega⟩ (fun i σ H2 _ ⟨_, _, _, e, _⟩ => by rw [e]; exact .inl (.inl ha)) ?_ ?_⟩
    · rintro i v σ H2 hi ⟨z, y3, rfl, rfl, hz⟩
      obtain ⟨x, ex, rfl⟩ := natsV_get hi
      have h1 := hz x ex
      have h2 := lt x (List.mem_of_getElem? ex)
      refine ⟨_, rfl, (x : Int), rfl, true, rfl, ?_⟩
      refine iteF ⟨_, rfl, _, rfl, _, _, rfl, rfl, _, rfl, ?_⟩
      rw [show decide ((x : Int) ≤ z) = false from decide_eq_false (by omega)]
      refine iteF ⟨_, rfl, _, rfl, _, _, rfl, rfl, _, rfl, ?_⟩
      rw [show decide ((n : Int) ≤ (x : Int)) = false from decide_eq_false (by omega)]
      refine iteF ⟨_, rfl, (x : Int), _, rfl, rfl, fun y ey => ?_⟩
      have hl := (List.getElem?_eq_some_iff.mp ey)
      have hl0 := (List.getElem?_eq_some_iff.mp ex)
      have := List.pairwise_iff_getElem.mp up i (i + 1) hl0.1 hl.1 (Nat.lt_succ_self _)
      rw [hl0.2, hl.2] at this
      omega
    · rintro σ H2 ⟨z, y3, rfl, rfl, hz⟩
      exact k

/-! ### _law_signs -/
def pd (a b : Nat) : PyData := .tuple [.int (a : Int), .int (b : Int)]
theorem pd_shaped (a b : Nat) : SeqAt.shaped (pd a b) = true := rfl
theorem pd_refl (a b : Nat) : PyData.eqv (pd a b) (pd a b) = true := SeqAt.eqv_refl _ (SeqAt.canLay_of_shaped (pd_shaped a b))
theorem pd_dp {H : Hp} {r : Addr} {a b : Nat} (e : H r = some (.tup [.int (a : Int), .int (b : Int)])) : Dp K H (.ref r) (pd a b) := .tup (.inl (.inl e)) (.cons (.int _) (.cons (.int _) .nil))
def spSigns : Sp := fun vs H Q _ => ∃ (a b : Addr) (B s : Sg), vs = [.ref a, .ref b] ∧ SgAt H a B ∧ SgAt H b s ∧ Shape B s ∧ B.length ≤ 60 ∧ ∀ H', Same H H' → Q (.bl true) H'
theorem ok_signs {f C fW : Addr} {fd fdW : FuncData} (F : Fun K "_law_signs" "_law_signs" sSigns f fd) (T : Txt K mg C)
    (FW : Fun K "_law_whole_number" "_law_whole_number" sWhole fW fdW) (bW : Binds K fdW ["found"] []) (gW : mg "_law_whole_number" = some (.ref fW)) : FnOk P w K mg base CX0 2 f fd ["pairs", "found"] spSigns := by
  have GW : FnOk P w K mg base CX0 1 fW fdW ["found"] spWhole := ok_whole FW T
  refine F.ok scSigns (fun vs H Q E h => ?_) (fun cdv A outer s0 H vs Q E hr h => ?_)
  · obtain ⟨a, b, B, s, rfl, _⟩ := h
    rfl
  · obtain ⟨a, b, B, s, rfl, ⟨us, ha, pr⟩, ⟨zs, hb, ps⟩, sh, hBl, k⟩ := h
    have hu := hr.units
    refine ⟨_, (pss_cons (ps_if (PW.pt (pw_or (pt_not (pt_val (pe_callB call_isi (by rfl) T.isi (by decide +kernel) (pa_cons (pv 1) (pa_cons (pe_bltn (v := .ty "list") (by rfl) T.list (by decide +kernel) rfl) pa_nil))))) (pw_or1 (pt_cmpR op_ne (pe_callB call_len_seq (by rfl) T.len PySem.boot_len (pa_cons (pv 1) pa_nil)) (pe_callB call_len_seq (by rfl) T.len PySem.boot_len (pa_cons (pv 0) pa_nil)) (nomark _))))) (pss_one (ps_ret pe_bl)) pss_nil)
      (pss_cons (ps_for PassesOwn.never rfl (pi_range1 (by rfl) T.range (pa_cons (pe_callB call_len_seq (by rfl) T.len PySem.boot_len (pa_cons (pv 0) pa_nil)) pa_nil)) (pg_name (i := 2) scSigns.nd rfl (.inl rfl))
      (pss_cons (ps_set (i := 3) scSigns.nd rfl (.inl rfl) (pe_ix ix_list (pv 1) (pv 2) (fun _ _ => rfl)))
      (pss_cons (ps_if (PW.pt (pw_or (pt_not (pt_val (pe_callB call_isi (by rfl) T.isi (by decide +kernel) (pa_cons (pv 3) (pa_cons (pe_bltn (v := .ty "tuple") (by rfl) T.tuple (by decide +kernel) rfl) pa_nil))))) (pw_or1 (pt_cmpR op_ne (pe_callB call_len_seq (by rfl) T.len PySem.boot_len (pa_cons (pv 3) pa_nil)) pe_int (nomark _))))) (pss_one (ps_ret pe_bl)) pss_nil)
      (pss_cons (ps_if (PW.pt (pw_or (pt_not (pt_val (pe_call GW hr (by rfl) gW FW.kp bW .nil pass0 (pa_cons (pe_ix ix_tup (pv 3) pe_int (fun _ _ => rfl)) pa_nil)))) (pw_or1 (pt_not (pt_val (pe_call GW hr (by rfl) gW FW.kp bW .nil pass0 (pa_cons (pe_ix ix_tup (pv 3) pe_int (fun _ _ => rfl)) pa_nil))))))) (pss_one (ps_ret pe_bl)) pss_nil)
      (pss_one (ps_if (PW.pt (pw_and (pt_cmpR (op_neD hu) (pv 3) (pe_tup (pa_cons (pe_ix ix_tup (pe_ix ix_list (pv 0) (pv 2) (fun _ _ => rfl)) pe_int (fun _ _ => rfl)) (pa_cons (pe_ix ix_tup (pe_ix ix_list (pv 0) (pv 2) (fun _ _ => rfl)) pe_int (fun _ _ => rfl)) pa_nil))) (nomark _)) (pw_and1 (pt_cmpR (op_neD hu) (pv 3) (pe_tup (pa_cons (pe_ix ix_tup (pe_ix ix_list (pv 0) (pv 2) (fun _ _ => rfl)) pe_int (fun _ _ => rfl)) (pa_cons (pe_ix ix_tup (pe_ix ix_list (pv 0) (pv 2) (fun _ _ => rfl)) pe_int (fun _ _ => rfl)) pa_nil))) (nomark _))))) (pss_one (ps_ret pe_bl)) pss_nil))))))
      (pss_one (ps_ret pe_bl)))), ?_⟩
    refine ⟨_, rfl, _, _, _, _, true, rfl, .ty "list", .base (.lst hb), kit_ll, true, rfl, ?_⟩
    refine iteF ⟨_, rfl, b, _, rfl, .inl (.inl (.inl hb)), _, rfl, a, _, rfl, .inl (.inl (.inl ha)), rfl, _, rfl, ?_⟩
    refine iteNS (by rw [ps.len, pr.len, sh.len]) ?_
    refine ⟨_, rfl, a, _, rfl, .inl (.inl (.inl ha)), _, rfl, by omega, by rw [pr.len]; omega, ?_⟩
    rw [Int.toNat_natCast, pr.len]
    refine for_range (lo := 0) (n := B.length) (fun i σ H2 => ∃ (y2 y3 : Option V), σ = [some (.ref a), some (.ref b), y2, y3] ∧ Same H H2) ⟨none, none, rfl, Same.refl H⟩ ?_ ?_
    · rintro i σ H2 hi ⟨y2, y3, rfl, k2⟩
      have e0 : (0 : Int) + ((i : Nat) : Int) = ((i : Nat) : Int) := Int.zero_add _
      rw [e0]
      obtain ⟨p, q, eB⟩ : ∃ p q, B[i]? = some (p, q) := ⟨_, _, List.getElem?_eq_getElem hi⟩
      obtain ⟨c, d, es⟩ : ∃ c d, s[i]? = some (c, d) := ⟨_, _, List.getElem?_eq_getElem (by rw [sh.len]; exact hi)⟩
      obtain ⟨r, er, hr1⟩ := (ps.same k2).at_ i _ es
      obtain ⟨u, eu, hu1⟩ := (pr.same k2).at_ i _ eB
      have ha2 := k2 _ _ ha
      have hb2 := k2 _ _ hb
      refine ⟨_, rfl, _, rfl, b, _, _, _, rfl, rfl, .inl (.inl hb2), atI_nat er, ?_⟩
      refine ⟨_, rfl, _, _, _, _, true, rfl, .ty "tuple", .base (.tup hr1), kit_tt, true, rfl, ?_⟩
      refine iteF ⟨_, rfl, r, _, rfl, .inr (.inl (.inl hr1)), rfl, _, rfl, ?_⟩
      refine iteNS rfl ?_
      refine ⟨_, rfl, r, _, 0, _, rfl, rfl, .inl (.inl hr1), atI_nat (j := 0) rfl, _, rfl, true, rfl, ?_⟩
      refine iteF ⟨_, rfl, r, _, 1, _, rfl, rfl, .inl (.inl hr1), atI_nat (j := 1) rfl, _, rfl, true, rfl, ?_⟩
      refine iteF ?_
      refine ⟨_, rfl, _, rfl, _, rfl, a, _, _, _, rfl, rfl, .inl (.inl ha2), atI_nat eu, u, _, 0, _, rfl, rfl, .inl (.inl hu1), atI_nat (j := 0) rfl, _, rfl, _, rfl, a, _, _, _, rfl, rfl, .inl (.inl ha2), atI_nat eu, u, _, 1, _, rfl, rfl, .inl (.inl hu1), atI_nat (j := 1) rfl,
        by show 2 ≤ sizeLine; decide, fun t nt => ?_⟩
      have kt : Same H2 (upd H2 t (.tup [.int (p : Int), .int (q : Int)])) := same_upd nt
      have hrt := kt _ _ hr1
      have hat := kt _ _ ha2
      have hut := kt _ _ hu1
      refine ⟨pd c d, pd p q, pd_dp hrt, pd_dp upd_same, pd_shaped _ _, pd_shaped _ _, _, rfl, ?_⟩
      by_cases hpq : PyData.eqv (pd c d) (pd p q) = true
      · rw [hpq]
        refine iteF ?_
        exact ⟨_, _, rfl, k2.trans kt⟩
      · rw [show PyData.eqv (pd c d) (pd p q) = false from Bool.eq_false_iff.mpr hpq]
        refine iteT ?_
        have hsw : c = q ∧ d = p := by
          rcases sh.at es with e | e
          · rw [eB] at e
            cases e
            exact absurd (pd_refl p q) hpq
          · rw [eB] at e
            cases e
            exact ⟨rfl, rfl⟩
        obtain ⟨rfl, rfl⟩ := hsw
        have k3 := k2.trans kt
        generalize upd H2 t (.tup [.int (d : Int), .int (c : Int)]) = H3 at hrt hat hut k3
        refine ⟨_, rfl, _, rfl, _, rfl, a, _, _, _, rfl, rfl, .inl (.inl hat), atI_nat eu, u, _, 1, _, rfl, rfl, .inl (.inl hut), atI_nat (j := 1) rfl, _, rfl, _, rfl, a, _, _, _, rfl, rfl, .inl (.inl hat), atI_nat eu, u, _, 0, _, rfl, rfl, .inl (.inl hut), atI_nat (j := 0) rfl,
          by show 2 ≤ sizeLine; decide, fun t' nt' => ?_⟩
        have kt' : Same H3 (upd H3 t' (.tup [.int (c : Int), .int (d : Int)])) := same_upd nt'
        refine ⟨pd c d, pd c d, pd_dp (kt' _ _ hrt), pd_dp upd_same, pd_shaped _ _, pd_shaped _ _, _, rfl, ?_⟩
        rw [pd_refl]
        refine iteF ?_
        exact ⟨_, _, rfl, k3.trans kt'⟩
    · rintro σ H2 ⟨y2, y3, rfl, k2⟩
      exact k H2 k2

/-! ### _law_out -/
def spOut : Sp := fun vs H Q _ => ∃ (a : Addr) (s : Sg) (q : Nat), vs = [.ref a, .int (q : Int)] ∧ SgAt H a s ∧ s.length ≤ 60 ∧ ∀ H', Same H H' → Q (.int (outc s q : Int)) H'
theorem ok_out {f C : Addr} {fd : FuncData} {k : Nat} (F : Fun K "_law_out" "_law_out" sOut f fd) (T : Txt K mg C) : FnOk P w K mg base CX0 (k + 1) f fd ["signs", "quarter"] spOut := by
  refine F.ok scOut (fun vs H Q E h => ?_) (fun cdv A outer s0 H vs Q E hr h => ?_)
  · obtain ⟨a, s, q, rfl, _⟩ := h
    rfl
  · obtain ⟨a, s, q, rfl, ⟨us, ha, pr⟩, hl, k⟩ := h
    refine ⟨_, pss_one (ps_ret (pe_callB call_len_seq (by rfl) T.len PySem.boot_len (pa_cons
      (pe_lc (own := [("sign", 2)]) (g := gName 2) (tt := tTest (tOp rEq (tOp (rIxT K) (tVar 2) (tC (.int 0))) (tVar 1))) (te := tVar 2) (by rfl) scOut.nd (pi_list (pv 0))
        (blkOk_by (N := ["signs", "quarter", "sign"]) (sc := defScope sOut) (by decide +kernel)) (fun _ _ _ _ _ => pg_name (i := 2) scOut.nd rfl (.inl rfl))
        (fun _ _ _ _ _ => pts_one (pt_cmpR op_eq (pe_ix ix_tup (pv 2) pe_int (fun _ _ => rfl)) (pv 1) (nomark _))) (fun _ _ _ _ _ => pv 2)) pa_nil))), ?_⟩
    refine ⟨_, rfl, a, rfl, ⟨us, .inl (.inl ha)⟩, fun D nD => ?_⟩
    refine lc_list (K := K) (a := a) (xs := us) (fun i H2 => Same H H2 ∧ ∃ acc, H2 D = some (.lst acc) ∧ acc.length = outc (s.take i) q) ⟨same_upd nD, [], upd_same, by rw [List.take_zero]; rfl⟩ (fun i H2 _ e => .inl (.inl (e.1 _ _ ha))) ?_ ?_
    · rintro i x H2 hi ⟨k2, acc, hD, hacc⟩
      obtain ⟨c, d, r, ei, rfl, er⟩ := (pr.same k2).get hi
      refine ⟨rfl, _, rfl, r, _, 0, _, rfl, rfl, .inl (.inl er), atI_nat (j := 0) rfl, _, rfl, rfl, _, rfl, ?_⟩
      have hle : outc (s.take i) q ≤ 60 := by
        have := outc_le (s.take i) q
        rw [List.length_take] at this
        omega
      refine ite2 (fun e => ?_) (fun e => ?_)
      · have e : c = q := by
          have := V.int.inj (of_decide_eq_true e)
          omega
        refine ⟨_, rfl, acc, hD, small1000 (by omega), same_own k2 nD, _, upd_same, ?_⟩
        rw [take_succ ei, outc_snoc, List.length_append, hacc, e, ind_self]
        rfl
      · have e : q ≠ c := fun z => e (decide_eq_true (by rw [z]))
        refine ⟨k2, acc, hD, ?_⟩
        rw [take_succ ei, outc_snoc, hacc, ind_ne e, Nat.add_zero]
    · rintro H2 ⟨k2, acc, hD, hacc⟩
      rw [pr.len, List.take_length] at hacc
      refine ⟨D, acc, rfl, .inl (.inl (.inl hD)), ?_⟩
      rw [hacc]
      exact k H2 k2

/-! ### _law_within -/
def spWithin : Sp := fun vs H Q _ => ∃ (a g : Addr) (B : Sg) (xs : List Nat), vs = [.ref a, .ref g] ∧ SgAt H a B ∧ H g = some (.lst (natsV xs)) ∧ B.length ≤ 60 ∧ ∀ H', Same H H' → Q (.int (within B xs : Int)) H'
theorem ok_within {f C : Addr} {fd : FuncData} {k : Nat} (F : Fun K "_law_within" "_law_within" sWithin f fd) (T : Txt K mg C) : FnOk P w K mg base CX0 (k + 1) f fd ["pairs", "some"] spWithin := by
  refine F.ok scWithin (fun vs H Q E h => ?_) (fun cdv A outer s0 H vs Q E hr h => ?_)
  · obtain ⟨a, g, B, xs, rfl, _⟩ := h
    rfl
  · obtain ⟨a, g, B, xs, rfl, ⟨us, ha, pr⟩, hg, hl, k⟩ := h
    refine ⟨_, pss_one (ps_ret (pe_callB call_len_seq (by rfl) T.len PySem.boot_len (pa_cons
      (pe_lc (own := [("pair", 2)]) (g := gName 2) (tt := tAnd (tTest (tOp (rIn K false) (tOp (rIxT K) (tVar 2) (tC (.int 0))) (tVar 1))) (tTest (tOp (rIn K false) (tOp (rIxT K) (tVar 2) (tC (.int 1))) (tVar 1)))) (te := tVar 2) (by rfl) scWithin.nd (pi_list (pv 0))
        (blkOk_by (N := ["pairs", "some", "pair"]) (sc := defScope sWithin) (by decide +kernel)) (fun _ _ _ _ _ => pg_name (i := 2) scWithin.nd rfl (.inl rfl))
        (fun _ _ _ _ _ => pts_one (PW.pt (pw_and (pt_cmpR op_in_seq (pe_ix ix_tup (pv 2) pe_int (fun _ _ => rfl)) (pv 1) rfl) (pw_and1 (pt_cmpR op_in_seq (pe_ix ix_tup (pv 2) pe_int (fun _ _ => rfl)) (pv 1) rfl))))) (fun _ _ _ _ _ => pv 2)) pa_nil))), ?_⟩
    refine ⟨_, rfl, a, rfl, ⟨us, .inl (.inl ha)⟩, fun D nD => ?_⟩
    refine lc_list (K := K) (a := a) (xs := us) (fun i H2 => Same H H2 ∧ ∃ acc, H2 D = some (.lst acc) ∧ acc.length = within (B.take i) xs) ⟨same_upd nD, [], upd_same, by rw [List.take_zero]; rfl⟩ (fun i H2 _ e => .inl (.inl (e.1 _ _ ha))) ?_ ?_
    · rintro i x H2 hi ⟨k2, acc, hD, hacc⟩
      obtain ⟨c, d, r, ei, rfl, er⟩ := (pr.same k2).get hi
      have hg2 := k2 _ _ hg
      have hle : within (B.take i) xs ≤ 60 := by
        have := within_le (B.take i) xs
        rw [List.length_take] at this
        omega
      refine ⟨rfl, _, rfl, r, _, 0, _, rfl, rfl, .inl (.inl er), atI_nat (j := 0) rfl, _, rfl, g, _, rfl, .inl (.inl (.inl hg2)), rfl, flat_nats _, _, rfl, ?_⟩
      rw [if_neg Bool.false_ne_true, inV_nat]
      refine ite2 (fun e => ?_) (fun e => ?_)
      · have e := of_decide_eq_true e
        refine ⟨_, rfl, r, _, 1, _, rfl, rfl, .inl (.inl er), atI_nat (j := 1) rfl, _, rfl, g, _, rfl, .inl (.inl (.inl hg2)), rfl, flat_nats _, _, rfl, ?_⟩
        rw [if_neg Bool.false_ne_true, inV_nat]
        refine ite2 (fun e' => ?_) (fun e' => ?_)
        · have e' := of_decide_eq_true e'
          refine ⟨_, rfl, acc, hD, small1000 (by omega), same_own k2 nD, _, upd_same, ?_⟩
          rw [take_succ ei, within_snoc, List.length_append, hacc, decide_eq_true e, decide_eq_true e']
          rfl
        · have e' : d ∉ xs := fun z => e' (decide_eq_true z)
          refine ⟨k2, acc, hD, ?_⟩
          rw [take_succ ei, within_snoc, hacc, decide_eq_true e, decide_eq_false e']
          rfl
      · have e : c ∉ xs := fun z => e (decide_eq_true z)
        refine iteF ⟨k2, acc, hD, ?_⟩
        rw [take_succ ei, within_snoc, hacc, decide_eq_false e]
        rfl
    · rintro H2 ⟨k2, acc, hD, hacc⟩
      rw [pr.len, List.take_length] at hacc
      refine ⟨D, acc, rfl, .inl (.inl (.inl hD)), ?_⟩
      rw [hacc]
      exact k H2 k2
end
end Lg

/-! law -/
namespace Lg
open PySem L2
/-! ### data -/
def plD (s : Sg) : PyData := .list (s.map fun p => pd p.1 p.2)
def nlD (xs : List Nat) : PyData := .list (xs.map fun (x : Nat) => PyData.int (x : Int))
def rsD (c : Nat) (s : Sg) (xs : List Nat) : PyData := .tuple [.int (c : Int), plD s, nlD xs]
theorem can_pairs : ∀ s : Sg, PyData.canLayAll0 (s.map fun p => pd p.1 p.2) = true
  | [] => rfl
  | p :: r => by
    show (PyData.canLay0 (pd p.1 p.2) && PyData.canLayAll0 (r.map fun p => pd p.1 p.2)) = true
    rw [can_pairs r]
    rfl
theorem can_nats : ∀ xs : List Nat, PyData.canLayAll0 (xs.map fun (x : Nat) => PyData.int (x : Int)) = true
  | [] => rfl
  | x :: r => by
    show (PyData.canLay0 (PyData.int (x : Int)) && PyData.canLayAll0 (r.map fun (x : Nat) => PyData.int (x : Int))) = true
    rw [can_nats r]
    rfl
theorem dep_pairs : ∀ s : Sg, PyData.depthAll (s.map fun p => pd p.1 p.2) ≤ 1
  | [] => Nat.zero_le _
  | p :: r => by
    show max (PyData.depth (pd p.1 p.2)) (PyData.depthAll (r.map fun p => pd p.1 p.2)) ≤ 1
    exact Nat.max_le.mpr ⟨Nat.le_refl 1, dep_pairs r⟩
theorem dep_nats : ∀ xs : List Nat, PyData.depthAll (xs.map fun (x : Nat) => PyData.int (x : Int)) ≤ 0
  | [] => Nat.le_refl _
  | x :: r => by
    show max (PyData.depth (PyData.int (x : Int))) (PyData.depthAll (r.map fun (x : Nat) => PyData.int (x : Int))) ≤ 0
    exact Nat.max_le.mpr ⟨Nat.le_refl 0, dep_nats r⟩
theorem can_pl (s : Sg) : (plD s).canLay0 = true := by
  unfold plD
  simp only [PyData.canLay0]
  exact can_pairs s
theorem can_nl (xs : List Nat) : (nlD xs).canLay0 = true := by
  unfold nlD
  simp only [PyData.canLay0]
  exact can_nats xs
theorem dep_pl (s : Sg) : (plD s).depth ≤ 2 := by
  unfold plD
  simp only [PyData.depth]
  have := dep_pairs s
  omega
theorem dep_nl (xs : List Nat) : (nlD xs).depth ≤ 1 := by
  unfold nlD
  simp only [PyData.depth]
  have := dep_nats xs
  omega
theorem sh_pl (s : Sg) : SeqAt.shaped (plD s) = true := by
  unfold SeqAt.shaped
  rw [can_pl, decide_eq_true (Nat.le_trans (dep_pl s) (by decide))]
  rfl
theorem sh_rs (c : Nat) (s : Sg) (xs : List Nat) : SeqAt.shaped (rsD c s xs) = true := by
  unfold SeqAt.shaped
  have h1 : (rsD c s xs).canLay0 = true := by
    unfold rsD
    simp only [PyData.canLay0, PyData.canLayAll0, can_pl, can_nl, Bool.and_true]
  have h2 : (rsD c s xs).depth ≤ 64 := by
    unfold rsD
    simp only [PyData.depthAll, PyData.depth]
    have := dep_pl s
    have := dep_nl xs
    omega
  rw [h1, decide_eq_true h2]
  rfl
theorem dpAll_of {K : PySem.W.Frag} {H : Hp} : ∀ {vs : List V} {ds : List PyData}, vs.length = ds.length → (∀ (i : Nat) (v : V) (d : PyData), vs[i]? = some v → ds[i]? = some d → Dp K H v d) → DpAll K H vs ds
  | [], [], _, _ => .nil
  | v :: vs, d :: ds, hl, h => .cons (h 0 v d rfl rfl) (dpAll_of (by simpa using hl) fun i v' d' e1 e2 => h (i + 1) v' d' (by simpa using e1) (by simpa using e2))
  | [], d :: ds, hl, _ => absurd hl (by simp)
  | v :: vs, [], hl, _ => absurd hl (by simp)
theorem dp_pl {K : PySem.W.Frag} {H : Hp} {a : Addr} {s : Sg} (h : SgAt H a s) : Dp K H (.ref a) (plD s) := by
  obtain ⟨vs, ha, pr⟩ := h
  refine .lst (.inl (.inl ha)) (dpAll_of (by rw [pr.len, List.length_map]) fun i v d e1 e2 => ?_)
  obtain ⟨c, e, r, es, rfl, er⟩ := pr.get e1
  rw [List.getElem?_map, es] at e2
  cases Option.some.inj e2
  exact pd_dp er
theorem dp_nl {K : PySem.W.Frag} {H : Hp} {g : Addr} {xs : List Nat} (h : H g = some (.lst (natsV xs))) : Dp K H (.ref g) (nlD xs) := by
  refine .lst (.inl (.inl h)) (dpAll_of (by rw [natsV_len, List.length_map]) fun i v d e1 e2 => ?_)
  obtain ⟨x, ex, rfl⟩ := natsV_get e1
  rw [List.getElem?_map, ex] at e2
  cases Option.some.inj e2
  exact .int _
theorem dp_rs {K : PySem.W.Frag} {H : Hp} {r a g : Addr} {c : Nat} {s : Sg} {xs : List Nat} (h : H r = some (.tup [.int (c : Int), .ref a, .ref g])) (ha : SgAt H a s) (hg : H g = some (.lst (natsV xs))) : Dp K H (.ref r) (rsD c s xs) :=
  .tup (.inl (.inl h)) (.cons (.int _) (.cons (dp_pl ha) (.cons (dp_nl hg) .nil)))
theorem rs_refl (c : Nat) (s : Sg) (xs : List Nat) : PyData.eqv (rsD c s xs) (rsD c s xs) = true := SeqAt.eqv_refl _ (SeqAt.canLay_of_shaped (sh_rs c s xs))
theorem pl_refl (s : Sg) : PyData.eqv (plD s) (plD s) = true := SeqAt.eqv_refl _ (can_pl s)
theorem pick (k : Bool) : ∃ m : Nat, 0 < m ∧ m ≤ 41 ∧ atI [V.int 17, V.int 41] (if k = true then 1 else 0) = some (.int (m : Int)) := by
  cases k with
  | false => exact ⟨17, by decide, by decide, atI_nat (j := 0) rfl⟩
  | true => exact ⟨41, by decide, by decide, atI_nat (j := 1) rfl⟩

section
variable {P : Program} {w : World} {K : PySem.W.Frag} {mg : Str → Option Value} {base : Heap}
def spLaw (K : PySem.W.Frag) : Sp := fun vs H Q _ => ∃ (a : Addr) (ns : List Int), vs = [.ref a] ∧ SqL K H a (ns.map V.int) ∧ ns.length ≤ 63 ∧ ∀ H', Q (.bl true) H'
theorem ok_law {f C fN fT fI fL fW fS fR fO fH : Addr} {fd fdN fdT fdI fdL fdW fdS fdR fdO fdH : FuncData} (F : Fun K "law" "law" sLaw f fd) (T : Txt K mg C) (M : Mk K C fI)
    (FN : Fun K "_law_numbers" "_law_numbers" sNums fN fdN) (bN : Binds K fdN ["script", "many"] []) (gN : mg "_law_numbers" = some (.ref fN))
    (FT : Fun K "_law_town" "_law_town" sTown fT fdT) (bT : Binds K fdT ["numbers", "most"] []) (gT : mg "_law_town" = some (.ref fT))
    (GI : FnOk P w K mg base CX0 2 fI fdI ["self", "quarters", "bridges"] (spInit C)) (bI : Binds K fdI ["self", "quarters", "bridges"] [])
    (GL : FnOk P w K mg base CX0 3 fL fdL ["town"] (spLeast C)) (FL : Fun K "lightest_signs" "lightest_signs" sLeast fL fdL) (bL : Binds K fdL ["town"] []) (gL : mg "lightest_signs" = some (.ref fL))
    (FW : Fun K "_law_whole_number" "_law_whole_number" sWhole fW fdW) (bW : Binds K fdW ["found"] []) (gW : mg "_law_whole_number" = some (.ref fW))
    (FS : Fun K "_law_signs" "_law_signs" sSigns fS fdS) (bS : Binds K fdS ["pairs", "found"] []) (gS : mg "_law_signs" = some (.ref fS))
    (FR : Fun K "_law_rises" "_law_rises" sRises fR fdR) (bR : Binds K fdR ["found", "most"] []) (gR : mg "_law_rises" = some (.ref fR))
    (FO : Fun K "_law_out" "_law_out" sOut fO fdO) (bO : Binds K fdO ["signs", "quarter"] []) (gO : mg "_law_out" = some (.ref fO))
    (FH : Fun K "_law_within" "_law_within" sWithin fH fdH) (bH : Binds K fdH ["pairs", "some"] []) (gH : mg "_law_within" = some (.ref fH)) :
    FnOk P w K mg base CX0 4 f fd ["script"] (spLaw K) := by
  have GN : FnOk P w K mg base CX0 1 fN fdN ["script", "many"] (spNums K) := ok_nums FN T
  have GT : FnOk P w K mg base CX0 1 fT fdT ["numbers", "most"] spTown := ok_town FT T
  have GW : FnOk P w K mg base CX0 1 fW fdW ["found"] spWhole := ok_whole FW T
  have GS : FnOk P w K mg base CX0 2 fS fdS ["pairs", "found"] spSigns := ok_signs FS T FW bW gW
  have GR : FnOk P w K mg base CX0 2 fR fdR ["found", "most"] spRises := ok_rises FR T FW bW gW
  have GO : FnOk P w K mg base CX0 1 fO fdO ["signs", "quarter"] spOut := ok_out FO T
  have GH : FnOk P w K mg base CX0 1 fH fdH ["pairs", "some"] spWithin := ok_within FH T
  refine F.ok scLaw (fun vs H Q E h => ?_) (fun cdv A outer s0 H vs Q E hr h => ?_)
  · obtain ⟨a, ns, rfl, _⟩ := h
    rfl
  · obtain ⟨a, ns, rfl, hS, hlen, k⟩ := h
    have hu := hr.units
    refine ⟨_, (pss_cons (ps_set (i := 1) scLaw.nd rfl (.inl rfl) (pe_call GN (hr.mono (by decide)) (by rfl) gN FN.kp bN .nil pass0 (pa_cons (pv 0) (pa_cons pe_int pa_nil))))
      (pss_cons (ps_asg (pe_call GT (hr.mono (by decide)) (by rfl) gT FT.kp bT .nil pass0 (pa_cons (pv 1) (pa_cons (pe_ix ix_list (pe_lst (pa_cons pe_int (pa_cons pe_int pa_nil))) (pe_callTy call_int1 (by rfl) T.int (by decide +kernel) (pa_cons (pe_cmpR op_eq (pe_op op_mod (pe_ix ix_list (pv 1) pe_int (fun _ _ => rfl)) pe_int) pe_int (nomark _)) pa_nil)) (fun _ _ => rfl)) pa_nil))) (pg_tup rfl (pgs_cons (pg_name (i := 2) scLaw.nd rfl (.inl rfl)) (pgs_cons (pg_name (i := 3) scLaw.nd rfl (.inl rfl)) pgs_nil))))
      (pss_cons (ps_set (i := 4) scLaw.nd rfl (.inl rfl) (pe_make M GI hr (by rfl) T.mgC bI .nil pass0 (pa_cons (pv 2) (pa_cons (pe_callTy call_list_of (by rfl) T.list (by decide +kernel) (pa_cons (pv 3) pa_nil)) pa_nil))))
      (pss_cons (ps_set (i := 5) scLaw.nd rfl (.inl rfl) (pe_call GL hr (by rfl) gL FL.kp bL .nil pass0 (pa_cons (pv 4) pa_nil)))
      (pss_cons (ps_if (PW.pt (pw_or (pt_cmpR (op_neD hu) (pe_fld (pv 4) rfl) (pv 3) (nomark _)) (pw_or (pt_not (pt_val (pe_callB call_isi (by rfl) T.isi (by decide +kernel) (pa_cons (pv 5) (pa_cons (pe_bltn (v := .ty "tuple") (by rfl) T.tuple (by decide +kernel) rfl) pa_nil))))) (pw_or1 (pt_cmpR op_ne (pe_callB call_len_seq (by rfl) T.len (by decide +kernel) (pa_cons (pv 5) pa_nil)) pe_int (nomark _)))))) (pss_one (ps_ret pe_bl)) pss_nil)
      (pss_cons (ps_if (PW.pt (pw_or (pt_not (pt_val (pe_call GW (hr.mono (by decide)) (by rfl) gW FW.kp bW .nil pass0 (pa_cons (pe_ix ix_tup (pv 5) pe_int (fun _ _ => rfl)) pa_nil)))) (pw_or (pt_not (pt_val (pe_call GS (hr.mono (by decide)) (by rfl) gS FS.kp bS .nil pass0 (pa_cons (pv 3) (pa_cons (pe_ix ix_tup (pv 5) pe_int (fun _ _ => rfl)) pa_nil))))) (pw_or1 (pt_not (pt_val (pe_call GR (hr.mono (by decide)) (by rfl) gR FR.kp bR .nil pass0 (pa_cons (pe_ix ix_tup (pv 5) pe_int (fun _ _ => rfl)) (pa_cons (pv 2) pa_nil))))))))) (pss_one (ps_ret pe_bl)) pss_nil)
      (pss_cons (ps_if (PW.pt (pw_and (pt_cmpR (op_eqD hu) (pv 3) (pe_lst pa_nil) (nomark _)) (pw_and1 (pt_cmpR (op_neD hu) (pv 5) (pe_tup (pa_cons pe_int (pa_cons (pe_lst pa_nil) (pa_cons (pe_lst pa_nil) pa_nil)))) (nomark _))))) (pss_one (ps_ret pe_bl)) pss_nil)
      (pss_cons (ps_for PassesOwn.never rfl (pi_range1 (by rfl) T.range (pa_cons (pv 2) pa_nil)) (pg_name (i := 6) scLaw.nd rfl (.inl rfl))
      (pss_one (ps_if (pt_cmpR op_gt (pe_call GO (hr.mono (by decide)) (by rfl) gO FO.kp bO .nil pass0 (pa_cons (pe_ix ix_tup (pv 5) pe_int (fun _ _ => rfl)) (pa_cons (pv 6) pa_nil))) (pe_ix ix_tup (pv 5) pe_int (fun _ _ => rfl)) (nomark _)) (pss_one (ps_ret pe_bl)) pss_nil)))
      (pss_cons (ps_if (PW.pt (pw_and (pt_cmpR (op_neD hu) (pv 3) (pe_lst pa_nil) (nomark _)) (pw_and1 (pt_cmpR op_le (pe_call GH (hr.mono (by decide)) (by rfl) gH FH.kp bH .nil pass0 (pa_cons (pv 3) (pa_cons (pe_ix ix_tup (pv 5) pe_int (fun _ _ => rfl)) pa_nil))) (pe_op op_mul (pe_op op_sub (pe_ix ix_tup (pv 5) pe_int (fun _ _ => rfl)) pe_int) (pe_callB call_len_seq (by rfl) T.len (by decide +kernel) (pa_cons (pe_ix ix_tup (pv 5) pe_int (fun _ _ => rfl)) pa_nil))) (nomark _))))) (pss_one (ps_ret pe_bl)) pss_nil)
      (pss_cons (ps_set (i := 7) scLaw.nd rfl (.inl rfl) (pe_tup (pa_cons (pe_ix ix_tup (pv 5) pe_int (fun _ _ => rfl)) (pa_cons (pe_callTy call_list_of (by rfl) T.list (by decide +kernel) (pa_cons (pe_ix ix_tup (pv 5) pe_int (fun _ _ => rfl)) pa_nil)) (pa_cons (pe_callTy call_list_of (by rfl) T.list (by decide +kernel) (pa_cons (pe_ix ix_tup (pv 5) pe_int (fun _ _ => rfl)) pa_nil)) pa_nil)))))
      (pss_cons (ps_expr (pe_bm PySem.F.plainAttrs_list PySem.F.slot_list_append PySem.F.type_list_append mt_append (pe_ix ix_tup (pv 5) pe_int (fun _ _ => rfl)) (pa_cons (pe_tup (pa_cons pe_int (pa_cons pe_int pa_nil))) pa_nil)))
      (pss_cons (ps_expr (pe_bm PySem.F.plainAttrs_list PySem.F.slot_list_append PySem.F.type_list_append mt_append (pe_ix ix_tup (pv 5) pe_int (fun _ _ => rfl)) (pa_cons pe_int pa_nil)))
      (pss_one (ps_ret (pe_and (pe_cmpR (op_eqD hu) (pe_call GL hr (by rfl) gL FL.kp bL .nil pass0 (pa_cons (pv 4) pa_nil)) (pv 7) (nomark _)) (pe_one (pe_cmpR (op_eqD hu) (pe_fld (pv 4) rfl) (pv 3) (nomark _)))))))))))))))))), ?_⟩
    refine ⟨_, rfl, a, ns, rfl, hS, hlen, fun H1 p fs k1 np hp hfl => ?_⟩
    refine ⟨_, rfl, by show 2 ≤ sizeLine; decide, fun z nz => ?_⟩
    have kz : Same H1 (upd H1 z (.lst [.int 17, .int 41])) := same_upd nz
    have hpz := kz _ _ hp
    have h2 : 2 < fs.length := by omega
    refine ⟨_, rfl, p, _, 2, _, rfl, rfl, .inl (.inl hpz), atI_nat (j := 2) (ints_at h2), _, _, rfl, rfl, (by show (0 : Int) < 8; decide), rfl, .inr ⟨_, rfl, ?_⟩⟩
    obtain ⟨m, m0, m41, em⟩ := pick (decide (V.int (fs[2] % 8) = V.int 1))
    refine ⟨z, _, _, _, rfl, rfl, .inl (.inl upd_same), em, p, fs, m, rfl, hpz, hfl, m0, m41, fun H2 r0 l0 n B k2 nl0 hr0 hl0 dr => ?_⟩
    refine ⟨r0, _, rfl, .inl (.inl hr0), rfl, _, _, rfl, _, _, rfl, rfl, ?_⟩
    have n1 := dr.n1
    have n7 := dr.n7
    have few := dr.few
    have hB := dr.bnd
    obtain ⟨us, hl, pr⟩ := id hl0
    refine ⟨_, rfl, _, rfl, l0, us, rfl, .inl (.inl (.inl hl)), fun l1 nl1 => ?_⟩
    have k3 : Same H2 (upd H2 l1 (.lst us)) := same_upd nl1
    intro x dx nx ndx nex
    generalize hH3 : upd H2 l1 (.lst us) = H3 at k3 nx ndx
    have hl1 : H3 l1 = some (.lst us) := by rw [← hH3]; exact upd_same
    have k3' : Same H3 (upd (upd H3 dx (.own x)) x (.ins C dx [])) := fun b o e => by
      rw [upd_ne (ne_of_none e nx), upd_ne (ne_of_none e ndx)]
      exact e
    refine ⟨x, dx, l1, n, B, us, rfl, upd_same, k3' _ _ hl1, (pr.same k3).same k3', ⟨n1, by omega, by omega, hB, dr.two⟩, fun H4 l2 k4 nl2 hx hl2 => ⟨rfl, ?_⟩⟩
    have k34 : Same H3 H4 := fun b o e => k4 b o (k3' _ _ e) (ne_of_none e nx)
    have k24 := k3.trans k34
    have hl4 := k24 _ _ hl
    have pr4 := pr.same k24
    have sg4 : SgAt H4 l0 B := ⟨us, hl4, pr4⟩
    have tw4 : TownAt C H4 x l2 n B := ⟨⟨dx, hx⟩, us, hl2, pr4⟩
    clear k4 nl2 hl2 hx k34 k24 k3' hl1 hH3 k3 nx ndx nex nl1 hl4 pr4
    refine ⟨_, rfl, x, l2, n, B, rfl, tw4, hB, by omega, by omega, fun H5 r sa g k5 na ng ha hg hr5 => ?_⟩
    have lst := lightest_ok hB
    generalize hres : lightest n B = res at ha hg hr5 lst
    obtain ⟨c, s, xs⟩ := res
    dsimp only at ha hg hr5
    have lit : LitTo n c B s n := lst.lit
    have hc : c ≤ B.length := lst.few
    have sg5 := sg4.same k5
    have tw5 := tw4.same k5
    obtain ⟨⟨dx5, hx5⟩, sgt5⟩ := id tw5
    refine ⟨_, rfl, x, C, dx5, _, _, rfl, hx5, T.cl, T.nB, flds_b _ _, _, rfl, plD B, plD B, dp_pl sgt5, dp_pl sg5, sh_pl B, sh_pl B, _, rfl, ?_⟩
    rw [pl_refl]
    refine iteF ⟨_, rfl, _, _, _, _, true, rfl, .ty "tuple", .base (.tup hr5), kit_tt, true, rfl, ?_⟩
    refine iteF ⟨_, rfl, r, _, rfl, .inr (.inl (.inl hr5)), rfl, _, rfl, ?_⟩
    refine iteNS rfl ?_
    refine ⟨_, rfl, r, _, 0, _, rfl, rfl, .inl (.inl hr5), atI_nat (j := 0) rfl, (c : Int), rfl, true, rfl, ?_⟩
    refine iteF ⟨_, rfl, _, rfl, r, _, 1, _, rfl, rfl, .inl (.inl hr5), atI_nat (j := 1) rfl, l0, sa, B, s, rfl, sg5, ha, lit.shape, by omega, fun H6 k6 => ⟨true, rfl, ?_⟩⟩
    have hr6 := k6 _ _ hr5
    have hg6 := k6 _ _ hg
    have xup : xs.Pairwise (· < ·) ∧ ∀ y ∈ xs, y < n := by
      rcases lst.ahead with ⟨_, e⟩ | ⟨d, _, cr⟩
      · have e : xs = [] := e
        subst e
        exact ⟨List.Pairwise.nil, fun y hy => by cases hy⟩
      · exact ⟨cr.up, cr.lt⟩
    refine iteF ⟨_, rfl, r, _, 2, _, rfl, rfl, .inl (.inl hr6), atI_nat (j := 2) rfl, _, rfl, g, xs, n, rfl, hg6, xup.1, xup.2, true, rfl, ?_⟩
    refine iteF ?_
    have h05 : ∀ {Hk : Hp}, Same H5 Hk → SgAt Hk l0 B := fun kk => sg5.same kk
    have eN : B ≠ [] → PyData.eqv (plD B) (.list []) = false := fun hne => by
      cases B with
      | nil => exact absurd rfl hne
      | cons p t => rfl
    have if3 : ∀ D : Ends, (∀ Hk, Same H6 Hk → D.nx [some (.ref a), some (.ref p), some (.int (n : Int)), some (.ref l0), some (.ref x), some (.ref r), none, none] Hk) →
        tIfS (tAnd (tTest (tOp (rEqD K) (tVar 3) (tLst tNil))) (tTest (tOp (rNeD K) (tVar 5) (tTup (tCons (tC (.int 0)) (tCons (tLst tNil) (tCons (tLst tNil) tNil))))))) (tRet (tC (.bl false))) tNext D
          [some (.ref a), some (.ref p), some (.int (n : Int)), some (.ref l0), some (.ref x), some (.ref r), none, none] H6 := by
      intro D hD
      refine ⟨_, rfl, Nat.zero_le _, fun e1 ne1 => ?_⟩
      have s1 : Same H6 (upd H6 e1 (.lst [])) := same_upd ne1
      refine ⟨plD B, .list [], dp_pl (h05 (k6.trans s1)), .lst (.inl (.inl upd_same)) .nil, sh_pl B, rfl, _, rfl, ?_⟩
      by_cases hBe : B = []
      · have e0 := lightest_nil n
        rw [hBe] at hres
        rw [e0] at hres
        cases hres
        rw [hBe, show PyData.eqv (plD []) (.list []) = true from rfl]
        refine iteT ⟨_, rfl, Nat.zero_le _, fun e2 ne2 => ⟨Nat.zero_le _, fun e3 ne3 => ⟨by show 3 ≤ sizeLine; decide, fun t nt => ?_⟩⟩⟩
        have s2 := s1.trans (same_upd (o := .lst []) ne2)
        have s3 := s2.trans (same_upd (o := .lst []) ne3)
        have s4 := s3.trans (same_upd (o := .tup [.int 0, .ref e2, .ref e3]) nt)
        have n23 : e2 ≠ e3 := fun z => by rw [← z, upd_same] at ne3; cases ne3
        have n2t : e2 ≠ t := fun z => by rw [← z, upd_ne n23, upd_same] at nt; cases nt
        have n3t : e3 ≠ t := fun z => by rw [← z, upd_same] at nt; cases nt
        refine ⟨rsD 0 [] [], rsD 0 [] [], dp_rs (s4 _ _ hr6) (ha.same (k6.trans s4)) (s4 _ _ hg6), dp_rs upd_same ⟨[], by rw [upd_ne n2t, upd_ne n23, upd_same], Prs.nil _⟩ (by rw [upd_ne n3t, upd_same]; rfl), sh_rs _ _ _, sh_rs _ _ _, _, rfl, ?_⟩
        rw [rs_refl]
        exact iteF (hD _ s4)
      · rw [eN hBe]
        exact iteF (iteF (hD _ s1))
    refine if3 _ fun H7 k7 => ?_
    clear if3
    have k57 := k6.trans k7
    refine ⟨_, rfl, _, rfl, by omega, by omega, ?_⟩
    rw [Int.toNat_natCast]
    refine for_range (lo := 0) (n := n) (fun i σ H8 => ∃ y6, σ = [some (.ref a), some (.ref p), some (.int (n : Int)), some (.ref l0), some (.ref x), some (.ref r), y6, none] ∧ Same H5 H8) ⟨none, rfl, k57⟩ ?_ ?_
    · rintro i σ H8 hi ⟨y6, rfl, k8⟩
      have e0 : (0 : Int) + ((i : Nat) : Int) = ((i : Nat) : Int) := Int.zero_add _
      rw [e0]
      have hls : s.length ≤ 60 := by rw [lit.shape.len]; omega
      refine ⟨_, rfl, r, _, 1, _, rfl, rfl, .inl (.inl (k8 _ _ hr5)), atI_nat (j := 1) rfl, _, rfl, sa, s, i, rfl, ha.same k8, hls, fun H9 k9 => ?_⟩
      refine ⟨_, rfl, r, _, 0, _, rfl, rfl, .inl (.inl (k9 _ _ (k8 _ _ hr5))), atI_nat (j := 0) rfl, _, _, rfl, rfl, _, rfl, ?_⟩
      have := lit.low i hi
      rw [show decide ((c : Int) < (outc s i : Int)) = false from decide_eq_false (by omega)]
      refine iteF ?_
      exact ⟨_, rfl, k8.trans k9⟩
    · rintro σ H8 ⟨y6, rfl, k8⟩
      have if4 : ∀ D : Ends, (∀ Hk, Same H8 Hk → D.nx [some (.ref a), some (.ref p), some (.int (n : Int)), some (.ref l0), some (.ref x), some (.ref r), y6, none] Hk) →
          tIfS (tAnd (tTest (tOp (rNeD K) (tVar 3) (tLst tNil))) (tTest (tOp (rI0 fun i j => .bl (decide (i ≤ j))) (tCall spWithin [] E0 (tCons (tVar 3) (tCons (tOp (rIxT K) (tVar 5) (tC (.int 2))) tNil)))
            (tOp (rI CMul fun i j => .int (i * j)) (tOp (rI0 fun i j => .int (i - j)) (tOp (rIxT K) (tVar 5) (tC (.int 0))) (tC (.int 1)))
              (tCB (fun xs H Q => ∃ p ys, xs = [.ref p] ∧ (SqL K H p ys ∨ SqT K H p ys) ∧ Q (.int (ys.length : Int)) H) (tCons (tOp (rIxT K) (tVar 5) (tC (.int 2))) tNil)))))) (tRet (tC (.bl false))) tNext D
            [some (.ref a), some (.ref p), some (.int (n : Int)), some (.ref l0), some (.ref x), some (.ref r), y6, none] H8 := by
        intro D hD
        refine ⟨_, rfl, Nat.zero_le _, fun e1 ne1 => ?_⟩
        have s1 : Same H8 (upd H8 e1 (.lst [])) := same_upd ne1
        refine ⟨plD B, .list [], dp_pl (h05 (k8.trans s1)), .lst (.inl (.inl upd_same)) .nil, sh_pl B, rfl, _, rfl, ?_⟩
        by_cases hBe : B = []
        · rw [hBe, show PyData.eqv (plD []) (.list []) = true from rfl]
          exact iteF (iteF (hD _ s1))
        · rw [eN hBe]
          have k81 := k8.trans s1
          refine iteT ⟨_, rfl, _, rfl, r, _, 2, _, rfl, rfl, .inl (.inl (k81 _ _ hr5)), atI_nat (j := 2) rfl, l0, g, B, xs, rfl, h05 k81, k81 _ _ hg, by omega, fun H9 k9 => ?_⟩
          have k59 := k81.trans k9
          obtain ⟨d, ec, cr⟩ := lst.more hB hBe
          have ec : c = d + 1 := ec
          have hmore : d * xs.length < within B xs := cr.more
          refine ⟨_, rfl, r, _, 0, _, rfl, rfl, .inl (.inl (k59 _ _ hr5)), atI_nat (j := 0) rfl, _, _, rfl, rfl, _, rfl, r, _, 2, _, rfl, rfl, .inl (.inl (k59 _ _ hr5)), atI_nat (j := 2) rfl, g, _, rfl, .inl (.inl (.inl (k59 _ _ hg))), _, _, rfl, rfl,
            .inl ⟨by omega, by omega⟩, _, _, rfl, rfl, _, rfl, ?_⟩
          have hlt : ¬ ((within B xs : Nat) : Int) ≤ ((c : Int) - 1) * ((natsV xs).length : Int) := by
            rw [natsV_len, show (c : Int) - 1 = (d : Int) by omega, ← Int.natCast_mul]
            omega
          rw [show decide (((within B xs : Nat) : Int) ≤ ((c : Int) - 1) * ((natsV xs).length : Int)) = false from decide_eq_false hlt]
          exact iteF (hD _ (s1.trans k9))
      refine if4 _ fun H9 k9 => ?_
      clear if4
      have k59 := k8.trans k9
      have hr9 := k59 _ _ hr5
      have hg9 := k59 _ _ hg
      obtain ⟨vs, hsa, prs⟩ := id (ha.same k59)
      refine ⟨_, rfl, r, _, 0, _, rfl, rfl, .inl (.inl hr9), atI_nat (j := 0) rfl, _, rfl, r, _, 1, _, rfl, rfl, .inl (.inl hr9), atI_nat (j := 1) rfl, sa, vs, rfl, .inl (.inl (.inl hsa)), fun ka nka => ?_⟩
      have s1 : Same H9 (upd H9 ka (.lst vs)) := same_upd nka
      refine ⟨_, rfl, r, _, 2, _, rfl, rfl, .inl (.inl (s1 _ _ hr9)), atI_nat (j := 2) rfl, g, _, rfl, .inl (.inl (.inl (s1 _ _ hg9))), fun kg nkg => ?_⟩
      have s2 := s1.trans (same_upd (o := .lst (natsV xs)) nkg)
      refine ⟨by show 3 ≤ sizeLine; decide, fun kt nkt => ?_⟩
      have s3 := s2.trans (same_upd (o := .tup [.int (c : Int), .ref ka, .ref kg]) nkt)
      have hkt : (upd (upd (upd H9 ka (.lst vs)) kg (.lst (natsV xs))) kt (.tup [.int (c : Int), .ref ka, .ref kg])) kt = some (.tup [.int (c : Int), .ref ka, .ref kg]) := upd_same
      have hkg : (upd (upd (upd H9 ka (.lst vs)) kg (.lst (natsV xs))) kt (.tup [.int (c : Int), .ref ka, .ref kg])) kg = some (.lst (natsV xs)) := (same_upd (o := .tup [.int (c : Int), .ref ka, .ref kg]) nkt) _ _ upd_same
      have hka : (upd (upd (upd H9 ka (.lst vs)) kg (.lst (natsV xs))) kt (.tup [.int (c : Int), .ref ka, .ref kg])) ka = some (.lst vs) := (same_upd (o := .tup [.int (c : Int), .ref ka, .ref kg]) nkt) _ _ ((same_upd (o := .lst (natsV xs)) nkg) _ _ upd_same)
      have nkg9 : H9 kg = none := s1.free nkg
      have na1 : sa ≠ ka := ne_of_none hsa nka
      have na2 : sa ≠ kg := ne_of_none hsa nkg9
      have ng1 : g ≠ ka := ne_of_none hg9 nka
      have ng2 : g ≠ kg := ne_of_none hg9 nkg9
      generalize upd (upd (upd H9 ka (.lst vs)) kg (.lst (natsV xs))) kt (.tup [.int (c : Int), .ref ka, .ref kg]) = H12 at s3 hkt hkg hka
      clear s1 s2
      have hr12 := s3 _ _ hr9
      have hsa12 := s3 _ _ hsa
      have hg12 := s3 _ _ hg9
      refine ⟨_, rfl, r, _, 1, _, rfl, rfl, .inl (.inl hr12), atI_nat (j := 1) rfl, .inl ⟨rfl, _, .inl (.inl hsa12)⟩, by show 2 ≤ sizeLine; decide, fun t nt => ?_⟩
      have s4 : Same H12 (upd H12 t (.tup [.int 0, .int 0])) := same_upd nt
      have hsa13 := s4 _ _ hsa12
      have hg13 := s4 _ _ hg12
      have hr13 := s4 _ _ hr12
      have hkt13 := s4 _ _ hkt
      have hkg13 := s4 _ _ hkg
      have hka13 := s4 _ _ hka
      have prs13 := (prs.same s3).same s4
      have k413 : Same H4 (upd H12 t (.tup [.int 0, .int 0])) := ((k5.trans k59).trans s3).trans s4
      generalize upd H12 t (.tup [.int 0, .int 0]) = H13 at hsa13 hg13 hr13 hkt13 hkg13 hka13 prs13 k413
      have lvs : vs.length ≤ 60 := by rw [prs.len, lit.shape.len]; omega
      refine ⟨sa, vs, _, rfl, rfl, hsa13, small1000 (by omega), ?_⟩
      have hr14 : (upd H13 sa (.lst (vs ++ [.ref t]))) r = some (.tup [.int (c : Int), .ref sa, .ref g]) := by rw [upd_ne (ne_of hr13 hsa13 (by intro z; cases z))]; exact hr13
      have hkt14 : (upd H13 sa (.lst (vs ++ [.ref t]))) kt = some (.tup [.int (c : Int), .ref ka, .ref kg]) := by rw [upd_ne (ne_of hkt13 hsa13 (by intro z; cases z))]; exact hkt13
      have hka14 : (upd H13 sa (.lst (vs ++ [.ref t]))) ka = some (.lst vs) := by rw [upd_ne na1.symm]; exact hka13
      have hkg14 : (upd H13 sa (.lst (vs ++ [.ref t]))) kg = some (.lst (natsV xs)) := by rw [upd_ne na2.symm]; exact hkg13
      have prs14 : Prs (upd H13 sa (.lst (vs ++ [.ref t]))) vs s := prs13.put (fun ys z => by rw [hsa13] at z; cases z)
      have k414 : Same H4 (upd H13 sa (.lst (vs ++ [.ref t]))) := same_own k413 na
      have lxs : xs.length ≤ 60 := by
        have h1 := List.Nodup.length_le_of_subset (show xs.Nodup from xup.1.imp fun z => Nat.ne_of_lt z) (l₂ := List.range n) (fun y hy => List.mem_range.mpr (xup.2 y hy))
        rw [List.length_range] at h1
        omega
      obtain ⟨gs, hg14, lgs⟩ : ∃ gs, (upd H13 sa (.lst (vs ++ [.ref t]))) g = some (.lst gs) ∧ gs.length ≤ 100 := by
        by_cases e : g = sa
        · exact ⟨_, by rw [e]; exact upd_same, by rw [List.length_append, List.length_singleton]; omega⟩
        · exact ⟨_, by rw [upd_ne e]; exact hg13, by rw [natsV_len]; omega⟩
      generalize upd H13 sa (.lst (vs ++ [.ref t])) = H14 at hr14 hkt14 hka14 hkg14 prs14 k414 hg14
      refine ⟨_, rfl, r, _, 2, _, rfl, rfl, .inl (.inl hr14), atI_nat (j := 2) rfl, .inl ⟨rfl, _, .inl (.inl hg14)⟩, g, gs, _, rfl, rfl, hg14, small1000 (by omega), ?_⟩
      have hkt15 : (upd H14 g (.lst (gs ++ [.int 0]))) kt = some (.tup [.int (c : Int), .ref ka, .ref kg]) := by rw [upd_ne (ne_of hkt14 hg14 (by intro z; cases z))]; exact hkt14
      have hka15 : (upd H14 g (.lst (gs ++ [.int 0]))) ka = some (.lst vs) := by rw [upd_ne ng1.symm]; exact hka14
      have hkg15 : (upd H14 g (.lst (gs ++ [.int 0]))) kg = some (.lst (natsV xs)) := by rw [upd_ne ng2.symm]; exact hkg14
      have prs15 : Prs (upd H14 g (.lst (gs ++ [.int 0]))) vs s := prs14.put (fun ys z => by rw [hg14] at z; cases z)
      have k415 : Same H4 (upd H14 g (.lst (gs ++ [.int 0]))) := same_own k414 ng
      generalize upd H14 g (.lst (gs ++ [.int 0])) = H15 at hkt15 hka15 hkg15 prs15 k415
      have tw15 := tw4.same k415
      refine ⟨_, rfl, x, l2, n, B, rfl, tw15, hB, by omega, by omega, fun H16 r' a' g' k16 na' ng' ha' hg' hr' => ?_⟩
      rw [hres] at ha' hg' hr'
      refine ⟨_, rfl, rsD c s xs, rsD c s xs, dp_rs hr' ha' hg', dp_rs (k16 _ _ hkt15) (SgAt.same ⟨vs, hka15, prs15⟩ k16) (k16 _ _ hkg15), sh_rs _ _ _, sh_rs _ _ _, _, rfl, ?_⟩
      rw [rs_refl]
      have tw16 := tw15.same k16
      obtain ⟨⟨dx16, hx16⟩, sgt16⟩ := id tw16
      refine iteT ⟨_, rfl, x, C, dx16, _, _, rfl, hx16, T.cl, T.nB, flds_b _ _, _, rfl, plD B, plD B, dp_pl sgt16, dp_pl ((sg4.same k415).same k16), sh_pl B, sh_pl B, ?_⟩
      rw [pl_refl]
      exact k _
end
end Lg

namespace Lg
open PySem L2
/-! ### what the top has left -/
theorem all_mk {l : PySem.W.OpenLaw} {w : World} {K : PySem.W.Frag} {h : Heap} {mg : Str → Option Value} {fa Cc fA fL fU fC fG fE fK fN fT fW fR fS fO fH fZ fI : Addr} (X : K.In h) (G : h.Ns mainGlobals mg) (hfa : mg "law" = some (.ref fa))
    {odA anA : Option Addr} {slA : Array (Option Value)} {ocA kVA dcA pmA cdA ctA : Value}
    {odL anL : Option Addr} {slL : Array (Option Value)} {ocL kVL dcL pmL cdL ctL : Value}
    {odU anU : Option Addr} {slU : Array (Option Value)} {ocU kVU dcU pmU cdU ctU : Value}
    {odC anC : Option Addr} {slC : Array (Option Value)} {ocC kVC dcC pmC cdC ctC : Value}
    {odG anG : Option Addr} {slG : Array (Option Value)} {ocG kVG dcG pmG cdG ctG : Value}
    {odE anE : Option Addr} {slE : Array (Option Value)} {ocE kVE dcE pmE cdE ctE : Value}
    {odK anK : Option Addr} {slK : Array (Option Value)} {ocK kVK dcK pmK cdK ctK : Value}
    {odN anN : Option Addr} {slN : Array (Option Value)} {ocN kVN dcN pmN cdN ctN : Value}
    {odT anT : Option Addr} {slT : Array (Option Value)} {ocT kVT dcT pmT cdT ctT : Value}
    {odW anW : Option Addr} {slW : Array (Option Value)} {ocW kVW dcW pmW cdW ctW : Value}
    {odR anR : Option Addr} {slR : Array (Option Value)} {ocR kVR dcR pmR cdR ctR : Value}
    {odS anS : Option Addr} {slS : Array (Option Value)} {ocS kVS dcS pmS cdS ctS : Value}
    {odO anO : Option Addr} {slO : Array (Option Value)} {ocO kVO dcO pmO cdO ctO : Value}
    {odH anH : Option Addr} {slH : Array (Option Value)} {ocH kVH dcH pmH cdH ctH : Value}
    {odZ anZ : Option Addr} {slZ : Array (Option Value)} {ocZ kVZ dcZ pmZ cdZ ctZ : Value}
    {odI anI : Option Addr} {slI : Array (Option Value)} {ocI kVI dcI pmI cdI ctI : Value}
    (aA : PySem.W.nsIn K mainGlobals "ask_limits" = some (some (.ref fA))) (lA : K.lookup fA = some ⟨ocA, odA, .func (PySem.W.fnOf "ask_limits" "ask_limits" (defArgs sAsk) (defBody sAsk) (defScope sAsk) .none kVA dcA pmA anA cdA ctA), slA⟩) (cA : PySem.W.codeIn K cdA "ask_limits" = true) (kA : PySem.W.keepIn K (.ref fA) = true)
    (aL : PySem.W.nsIn K mainGlobals "led_to" = some (some (.ref fL))) (lL : K.lookup fL = some ⟨ocL, odL, .func (PySem.W.fnOf "led_to" "led_to" (defArgs sLed) (defBody sLed) (defScope sLed) .none kVL dcL pmL anL cdL ctL), slL⟩) (cL : PySem.W.codeIn K cdL "led_to" = true) (kL : PySem.W.keepIn K (.ref fL) = true)
    (aU : PySem.W.nsIn K mainGlobals "turned_way" = some (some (.ref fU))) (lU : K.lookup fU = some ⟨ocU, odU, .func (PySem.W.fnOf "turned_way" "turned_way" (defArgs sTurn) (defBody sTurn) (defScope sTurn) .none kVU dcU pmU anU cdU ctU), slU⟩) (cU : PySem.W.codeIn K cdU "turned_way" = true) (kU : PySem.W.keepIn K (.ref fU) = true)
    (aC : PySem.W.nsIn K mainGlobals "counts_out" = some (some (.ref fC))) (lC : K.lookup fC = some ⟨ocC, odC, .func (PySem.W.fnOf "counts_out" "counts_out" (defArgs sCount) (defBody sCount) (defScope sCount) .none kVC dcC pmC anC cdC ctC), slC⟩) (cC : PySem.W.codeIn K cdC "counts_out" = true) (kC : PySem.W.keepIn K (.ref fC) = true)
    (aG : PySem.W.nsIn K mainGlobals "light_signs" = some (some (.ref fG))) (lG : K.lookup fG = some ⟨ocG, odG, .func (PySem.W.fnOf "light_signs" "light_signs" (defArgs sLight) (defBody sLight) (defScope sLight) .none kVG dcG pmG anG cdG ctG), slG⟩) (cG : PySem.W.codeIn K cdG "light_signs" = true) (kG : PySem.W.keepIn K (.ref fG) = true)
    (aE : PySem.W.nsIn K mainGlobals "lightest_signs" = some (some (.ref fE))) (lE : K.lookup fE = some ⟨ocE, odE, .func (PySem.W.fnOf "lightest_signs" "lightest_signs" (defArgs sLeast) (defBody sLeast) (defScope sLeast) .none kVE dcE pmE anE cdE ctE), slE⟩) (cE : PySem.W.codeIn K cdE "lightest_signs" = true) (kE : PySem.W.keepIn K (.ref fE) = true)
    (aK : PySem.W.nsIn K mainGlobals "ask_town" = some (some (.ref fK))) (lK : K.lookup fK = some ⟨ocK, odK, .func (PySem.W.fnOf "ask_town" "ask_town" (defArgs sAskT) (defBody sAskT) (defScope sAskT) .none kVK dcK pmK anK cdK ctK), slK⟩) (cK : PySem.W.codeIn K cdK "ask_town" = true) (kK : PySem.W.keepIn K (.ref fK) = true)
    (aN : PySem.W.nsIn K mainGlobals "_law_numbers" = some (some (.ref fN))) (lN : K.lookup fN = some ⟨ocN, odN, .func (PySem.W.fnOf "_law_numbers" "_law_numbers" (defArgs sNums) (defBody sNums) (defScope sNums) .none kVN dcN pmN anN cdN ctN), slN⟩) (cN : PySem.W.codeIn K cdN "_law_numbers" = true) (kN : PySem.W.keepIn K (.ref fN) = true)
    (aT : PySem.W.nsIn K mainGlobals "_law_town" = some (some (.ref fT))) (lT : K.lookup fT = some ⟨ocT, odT, .func (PySem.W.fnOf "_law_town" "_law_town" (defArgs sTown) (defBody sTown) (defScope sTown) .none kVT dcT pmT anT cdT ctT), slT⟩) (cT : PySem.W.codeIn K cdT "_law_town" = true) (kT : PySem.W.keepIn K (.ref fT) = true)
    (aW : PySem.W.nsIn K mainGlobals "_law_whole_number" = some (some (.ref fW))) (lW : K.lookup fW = some ⟨ocW, odW, .func (PySem.W.fnOf "_law_whole_number" "_law_whole_number" (defArgs sWhole) (defBody sWhole) (defScope sWhole) .none kVW dcW pmW anW cdW ctW), slW⟩) (cW : PySem.W.codeIn K cdW "_law_whole_number" = true) (kW : PySem.W.keepIn K (.ref fW) = true)
    (aR : PySem.W.nsIn K mainGlobals "_law_rises" = some (some (.ref fR))) (lR : K.lookup fR = some ⟨ocR, odR, .func (PySem.W.fnOf "_law_rises" "_law_rises" (defArgs sRises) (defBody sRises) (defScope sRises) .none kVR dcR pmR anR cdR ctR), slR⟩) (cR : PySem.W.codeIn K cdR "_law_rises" = true) (kR : PySem.W.keepIn K (.ref fR) = true)
    (aS : PySem.W.nsIn K mainGlobals "_law_signs" = some (some (.ref fS))) (lS : K.lookup fS = some ⟨ocS, odS, .func (PySem.W.fnOf "_law_signs" "_law_signs" (defArgs sSigns) (defBody sSigns) (defScope sSigns) .none kVS dcS pmS anS cdS ctS), slS⟩) (cS : PySem.W.codeIn K cdS "_law_signs" = true) (kS : PySem.W.keepIn K (.ref fS) = true)
    (aO : PySem.W.nsIn K mainGlobals "_law_out" = some (some (.ref fO))) (lO : K.lookup fO = some ⟨ocO, odO, .func (PySem.W.fnOf "_law_out" "_law_out" (defArgs sOut) (defBody sOut) (defScope sOut) .none kVO dcO pmO anO cdO ctO), slO⟩) (cO : PySem.W.codeIn K cdO "_law_out" = true) (kO : PySem.W.keepIn K (.ref fO) = true)
    (aH : PySem.W.nsIn K mainGlobals "_law_within" = some (some (.ref fH))) (lH : K.lookup fH = some ⟨ocH, odH, .func (PySem.W.fnOf "_law_within" "_law_within" (defArgs sWithin) (defBody sWithin) (defScope sWithin) .none kVH dcH pmH anH cdH ctH), slH⟩) (cH : PySem.W.codeIn K cdH "_law_within" = true) (kH : PySem.W.keepIn K (.ref fH) = true)
    (aZ : PySem.W.nsIn K mainGlobals "law" = some (some (.ref fZ))) (lZ : K.lookup fZ = some ⟨ocZ, odZ, .func (PySem.W.fnOf "law" "law" (defArgs sLaw) (defBody sLaw) (defScope sLaw) .none kVZ dcZ pmZ anZ cdZ ctZ), slZ⟩) (cZ : PySem.W.codeIn K cdZ "law" = true) (kZ : PySem.W.keepIn K (.ref fZ) = true)
    (aX : PySem.W.nsIn K mainGlobals "Town" = some (some (.ref Cc)))
    (aI : PySem.W.findIn K (.ref Cc) "__init__" = some (some (.ref fI))) (iI : PySem.W.isFn K (.ref fI) = true) (lI : K.lookup fI = some ⟨ocI, odI, .func (PySem.W.fnOf "__init__" "Town.__init__" (defArgs sInit) (defBody sInit) (defScope sInit) .none kVI dcI pmI anI cdI ctI), slI⟩) (cI : PySem.W.codeIn K cdI "Town.__init__" = true) (kI : PySem.W.keepIn K (.ref fI) = true)
    (pg : PySem.W.plainGet K Cc Str.empty = true) (hd : PySem.W.hasDictIn K Cc = true) (po : PySem.W.plainOver K Cc = true) (sa : PySem.W.findIn K (.ref Cc) "__setattr__" = some (some (.builtin "object.__setattr__"))) (mk : PySem.W.makesIn K Cc = true) (kc : PySem.W.keepIn K (.ref Cc) = true)
    (nQ : PySem.W.findIn K (.ref Cc) "quarters" = some none) (nB : PySem.W.findIn K (.ref Cc) "bridges" = some none)
    (z0 : PySem.W.nsIn K mainGlobals "len" = some none)
    (z1 : PySem.W.nsIn K mainGlobals "range" = some none)
    (z2 : PySem.W.nsIn K mainGlobals "enumerate" = some none)
    (z3 : PySem.W.nsIn K mainGlobals "sorted" = some none)
    (z4 : PySem.W.nsIn K mainGlobals "list" = some none)
    (z5 : PySem.W.nsIn K mainGlobals "min" = some none)
    (z6 : PySem.W.nsIn K mainGlobals "max" = some none)
    (z7 : PySem.W.nsIn K mainGlobals "int" = some none)
    (z8 : PySem.W.nsIn K mainGlobals "isinstance" = some none)
    (z9 : PySem.W.nsIn K mainGlobals "tuple" = some none)
    (z10 : PySem.W.nsIn K mainGlobals "bool" = some none)
    {tk0 : Tok} (m0 : PySem.W.nsIn K mainGlobals "MOST_LIMIT" = some (some (.int 1000000000000000000000000000000000000000000000000000000000000 tk0)))
    {tk1 : Tok} (m1 : PySem.W.nsIn K mainGlobals "MOST_QUARTERS" = some (some (.int 24 tk1)))
    {tk2 : Tok} (m2 : PySem.W.nsIn K mainGlobals "MOST_BRIDGES" = some (some (.int 60 tk2)))
    : ∃ fd : FuncData, (∀ (s : Shared) (v : Value), BindsTo s fd ⟨[v], []⟩ [("script", v)]) ∧ ∀ base : Heap, K.In base → base.Ns mainGlobals mg → FnOk l.prog w K mg base CX0 4 fa fd ["script"] (spLaw K) := by
  have e := hfa.symm.trans (PySem.W.mg_of X G aZ)
  cases e
  have T : Txt K mg Cc := { cl := ⟨pg, hd, po, sa⟩, nQ := nQ, nB := nB, mgC := PySem.W.mg_of X G aX, lim := ⟨tk0, PySem.W.mg_of X G m0⟩, mq := ⟨tk1, PySem.W.mg_of X G m1⟩, mb := ⟨tk2, PySem.W.mg_of X G m2⟩, len := PySem.W.mg_none_of X G z0, range := PySem.W.mg_none_of X G z1, enumerate := PySem.W.mg_none_of X G z2, sorted := PySem.W.mg_none_of X G z3, list := PySem.W.mg_none_of X G z4, min := PySem.W.mg_none_of X G z5, max := PySem.W.mg_none_of X G z6, int := PySem.W.mg_none_of X G z7, isi := PySem.W.mg_none_of X G z8, tuple := PySem.W.mg_none_of X G z9, bool := PySem.W.mg_none_of X G z10 }
  have FA := fun_mk (st := sAsk) lA cA kA
  have bA := FA.binds (ps := ["town", "limits"]) fun _ _ _ _ _ _ us hl => match us, hl with | [_, _], _ => rfl
  have gA := PySem.W.mg_of X G aA
  have FL := fun_mk (st := sLed) lL cL kL
  have bL := FL.binds (ps := ["signs", "quarter"]) fun _ _ _ _ _ _ us hl => match us, hl with | [_, _], _ => rfl
  have gL := PySem.W.mg_of X G aL
  have FU := fun_mk (st := sTurn) lU cU kU
  have bU := FU.binds (ps := ["signs", "came", "goal"]) fun _ _ _ _ _ _ us hl => match us, hl with | [_, _, _], _ => rfl
  have gU := PySem.W.mg_of X G aU
  have FC := fun_mk (st := sCount) lC cC kC
  have bC := FC.binds (ps := ["town", "signs"]) fun _ _ _ _ _ _ us hl => match us, hl with | [_, _], _ => rfl
  have gC := PySem.W.mg_of X G aC
  have FG := fun_mk (st := sLight) lG cG kG
  have bG := FG.binds (ps := ["town", "limits"]) fun _ _ _ _ _ _ us hl => match us, hl with | [_, _], _ => rfl
  have gG := PySem.W.mg_of X G aG
  have FE := fun_mk (st := sLeast) lE cE kE
  have bE := FE.binds (ps := ["town"]) fun _ _ _ _ _ _ us hl => match us, hl with | [_], _ => rfl
  have gE := PySem.W.mg_of X G aE
  have FK := fun_mk (st := sAskT) lK cK kK
  have bK := FK.binds (ps := ["quarters", "pairs"]) fun _ _ _ _ _ _ us hl => match us, hl with | [_, _], _ => rfl
  have gK := PySem.W.mg_of X G aK
  have FN := fun_mk (st := sNums) lN cN kN
  have bN := FN.binds (ps := ["script", "many"]) fun _ _ _ _ _ _ us hl => match us, hl with | [_, _], _ => rfl
  have gN := PySem.W.mg_of X G aN
  have FT := fun_mk (st := sTown) lT cT kT
  have bT := FT.binds (ps := ["numbers", "most"]) fun _ _ _ _ _ _ us hl => match us, hl with | [_, _], _ => rfl
  have gT := PySem.W.mg_of X G aT
  have FW := fun_mk (st := sWhole) lW cW kW
  have bW := FW.binds (ps := ["found"]) fun _ _ _ _ _ _ us hl => match us, hl with | [_], _ => rfl
  have gW := PySem.W.mg_of X G aW
  have FR := fun_mk (st := sRises) lR cR kR
  have bR := FR.binds (ps := ["found", "most"]) fun _ _ _ _ _ _ us hl => match us, hl with | [_, _], _ => rfl
  have gR := PySem.W.mg_of X G aR
  have FS := fun_mk (st := sSigns) lS cS kS
  have bS := FS.binds (ps := ["pairs", "found"]) fun _ _ _ _ _ _ us hl => match us, hl with | [_, _], _ => rfl
  have gS := PySem.W.mg_of X G aS
  have FO := fun_mk (st := sOut) lO cO kO
  have bO := FO.binds (ps := ["signs", "quarter"]) fun _ _ _ _ _ _ us hl => match us, hl with | [_, _], _ => rfl
  have gO := PySem.W.mg_of X G aO
  have FH := fun_mk (st := sWithin) lH cH kH
  have bH := FH.binds (ps := ["pairs", "some"]) fun _ _ _ _ _ _ us hl => match us, hl with | [_, _], _ => rfl
  have gH := PySem.W.mg_of X G aH
  have FI := fun_mk (st := sInit) lI cI kI
  have bI := FI.binds (ps := ["self", "quarters", "bridges"]) fun _ _ _ _ _ _ us hl => match us, hl with | [_, _, _], _ => rfl
  refine ⟨PySem.W.fnOf "law" "law" (defArgs sLaw) (defBody sLaw) (defScope sLaw) .none kVZ dcZ pmZ anZ cdZ ctZ, fun s v => .of_eq rfl, fun base _ _ => ?_⟩
  have GG : FnOk l.prog w K mg base CX0 2 fG _ ["town", "limits"] (spLight Cc) := ok_light FG T FA bA gA FC bC gC FL bL gL FU bU gU
  have GE : FnOk l.prog w K mg base CX0 3 fE _ ["town"] (spLeast Cc) := ok_least FE T GG FG.kp bG gG
  have GI : FnOk l.prog w K mg base CX0 2 fI _ ["self", "quarters", "bridges"] (spInit Cc) := ok_init FI T FK bK gK
  exact ok_law (fun_mk (st := sLaw) lZ cZ kZ) T ⟨mk, aI, iI, kc⟩ FN bN gN FT bT gT GI bI GE FE bE gE FW bW gW FS bS gS FR bR gR FO bO gO FH bH gH
end Lg
open PySem PySem.W PyProof.Rows in
set_option maxHeartbeats 0 in
theorem PySem.Challenge.cw_bridgecrews_k43_whole_lightest_holds : PySem.Challenge.rw_bridgecrews_k43_whole_lightest.Holds := by
  w_on; o_law; k_head; (case hw => w_witness2)
  k_fill
  refine L2.walk_of (l := PySem.Challenge.rw_bridgecrews_k43_whole_lightest) (n := 63) (k := 4) (x := "script") (CX := fun _ => L2.CX0) (sp := fun w => Lg.spLaw _) rfl (by decide) rfl ⟨rfl, by decide, by decide⟩ (fun w h Y => PySem.W.kIn_of Y) ?F (fun _ _ a ns hl _ hS => ⟨a, ns, rfl, hS, hl, fun _ => rfl⟩) (fun _ _ _ _ _ h => h)
  case F =>
    intro w mg fa h KX G hmg
    refine' Lg.all_mk KX G hmg ?aA ?lA ?cA ?kA ?aL ?lL ?cL ?kL ?aU ?lU ?cU ?kU ?aC ?lC ?cC ?kC ?aG ?lG ?cG ?kG ?aE ?lE ?cE ?kE ?aK ?lK ?cK ?kK ?aN ?lN ?cN ?kN ?aT ?lT ?cT ?kT ?aW ?lW ?cW ?kW ?aR ?lR ?cR ?kR ?aS ?lS ?cS ?kS ?aO ?lO ?cO ?kO ?aH ?lH ?cH ?kH ?aZ ?lZ ?cZ ?kZ ?aX ?aI ?iI ?lI ?cI ?kI ?pg ?hd ?po ?sa ?mk ?kc ?nQ ?nB ?z0 ?z1 ?z2 ?z3 ?z4 ?z5 ?z6 ?z7 ?z8 ?z9 ?z10 ?m0 ?m1 ?m2
    (case aA => k_is)
    (case lA => k_is)
    (case cA => k_is)
    (case kA => k_is)
    (case aL => k_is)
    (case lL => k_is)
    (case cL => k_is)
    (case kL => k_is)
    (case aU => k_is)
    (case lU => k_is)
    (case cU => k_is)
    (case kU => k_is)
    (case aC => k_is)
    (case lC => k_is)
    (case cC => k_is)
    (case kC => k_is)
    (case aG => k_is)
    (case lG => k_is)
    (case cG => k_is)
    (case kG => k_is)
    (case aE => k_is)
    (case lE => k_is)
    (case cE => k_is)
    (case kE => k_is)
    (case aK => k_is)
    (case lK => k_is)
    (case cK => k_is)
    (case kK => k_is)
    (case aN => k_is)
    (case lN => k_is)
    (case cN => k_is)
    (case kN => k_is)
    (case aT => k_is)
    (case lT => k_is)
    (case cT => k_is)
    (case kT => k_is)
    (case aW => k_is)
    (case lW => k_is)
    (case cW => k_is)
    (case kW => k_is)
    (case aR => k_is)
    (case lR => k_is)
    (case cR => k_is)
    (case kR => k_is)
    (case aS => k_is)
    (case lS => k_is)
    (case cS => k_is)
    (case kS => k_is)
    (case aO => k_is)
    (case lO => k_is)
    (case cO => k_is)
    (case kO => k_is)
    (case aH => k_is)
    (case lH => k_is)
    (case cH => k_is)
    (case kH => k_is)
    (case aZ => k_is)
    (case lZ => k_is)
    (case cZ => k_is)
    (case kZ => k_is)
    (case aX => k_is)
    (case aI => k_is)
    (case iI => k_is)
    (case lI => k_is)
    (case cI => k_is)
    (case kI => k_is)
    (case pg => k_is)
    (case hd => k_is)
    (case po => k_is)
    (case sa => k_is)
    (case mk => k_is)
    (case kc => k_is)
    (case nQ => k_is)
    (case nB => k_is)
    (case z0 => k_is)
    (case z1 => k_is)
    (case z2 => k_is)
    (case z3 => k_is)
    (case z4 => k_is)
    (case z5 => k_is)
    (case z6 => k_is)
    (case z7 => k_is)
    (case z8 => k_is)
    (case z9 => k_is)
    (case z10 => k_is)
    (case m0 => k_is)
    (case m1 => k_is)
    (case m2 => k_is)
