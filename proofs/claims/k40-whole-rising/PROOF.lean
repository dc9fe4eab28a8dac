import PyProof.Rows.All
import Wide.All
import OpenK.AllK
import Wide.FinOn
import KE.KStateDown
import Lean
import HandS.ForMost
import HandS.Exc
import HandS.Defaults
import HandS.Property
import HandS.IsInst
import HandS.Head0
import HandS.Head1
import HandS.Head2
import HandS.HeadEnd
import HandS.HeadHook1
import HandS.HeadHook2
import HandS.HeadHook3
import HandS.HeadHook4
import PySem.Challenge.RW_runcolumns_k40_whole_rising
import KE.SortKeyHeap
import PyProof.InstNe
import HandS.Codes
import HandS.Lambda
import HandS.Nested
import HandS.OwnEq
import HandS.Zip
import HandS.Walk
import HandS.Star
import HandS.TupAny
import HandS.Deep
import HandS.Style
import HandS.Conv
import HandS.SetFor
import HandS.SortOrd
import HandS.SortInts
import HandS.SortKw
import HandS.EndBits
import HandS.EndTab
import HandS.HeadWalk
import KE.GoesMore
import KE.KNestM
/-! The plain mathematics of the law: no program in sight. Core Lean alone. -/
set_option linter.all false
namespace Rs

/-! ### lists -/
theorem len_le_of_sub : ∀ {l1 l2 : List Nat}, l1.Nodup → (∀ x ∈ l1, x ∈ l2) → l1.length ≤ l2.length
  | [], _, _, _ => Nat.zero_le _
  | x :: l1, l2, nd, hs => by
    have hx : x ∈ l2 := hs x List.mem_cons_self
    have nd' := List.nodup_cons.mp nd
    have h1 : l1.length ≤ (l2.erase x).length := by
      refine len_le_of_sub nd'.2 fun y hy => ?_
      have hyx : y ≠ x := fun e => nd'.1 (e ▸ hy)
      exact (List.mem_erase_of_ne hyx).mpr (hs y (List.mem_cons_of_mem _ hy))
    rw [List.length_erase_of_mem hx] at h1
    have : 0 < l2.length := List.length_pos_of_mem hx
    rw [List.length_cons]
    omega
theorem perm_of_nodup : ∀ {l1 l2 : List Nat}, l1.Nodup → l2.Nodup → (∀ x, x ∈ l1 ↔ x ∈ l2) → l1.Perm l2
  | [], l2, _, _, h => by
    have : l2 = [] := by
      cases l2 with
      | nil => rfl
      | cons y r => exact absurd ((h y).mpr List.mem_cons_self) (by simp)
    rw [this]
  | x :: l1, l2, n1, n2, h => by
    have hx : x ∈ l2 := (h x).mp List.mem_cons_self
    have n1' := List.nodup_cons.mp n1
    refine (List.Perm.cons x (perm_of_nodup n1'.2 (n2.erase x) fun y => ?_)).trans (List.perm_cons_erase hx).symm
    rw [n2.mem_erase_iff]
    constructor
    · intro hy
      exact ⟨fun e => n1'.1 (e ▸ hy), (h y).mp (List.mem_cons_of_mem _ hy)⟩
    · rintro ⟨e, hy⟩
      rcases List.mem_cons.mp ((h y).mpr hy) with z | z
      · exact absurd z e
      · exact z

theorem nd_filter {l : List Nat} (p : Nat → Bool) (h : l.Nodup) : (l.filter p).Nodup := h.sublist List.filter_sublist
theorem len_split (p : Nat → Bool) : ∀ l : List Nat, l.length = (l.filter p).length + (l.filter fun x => !p x).length
  | [] => rfl
  | x :: l => by
    have ih := len_split p l
    rw [List.filter_cons, List.filter_cons]
    cases h : p x with
    | true => simp; omega
    | false => simp; omega

/-! ### ahead: a dict of ints -/
abbrev Mt := List (Nat × Nat)
def look (m : Mt) (e : Nat) : Option Nat := (m.find? fun p => decide (p.1 = e)).map (·.2)
def put (m : Mt) (e a : Nat) : Mt := if (m.any fun p => decide (p.1 = e)) = true then m.map (fun p => if p.1 = e then (p.1, a) else p) else m ++ [(e, a)]
def vals (m : Mt) : List Nat := m.map (·.2)
def keys (m : Mt) : List Nat := m.map (·.1)
theorem look_nil (e : Nat) : look [] e = none := rfl
theorem look_pos {p : Nat × Nat} {r : Mt} {e : Nat} (h : p.1 = e) : look (p :: r) e = some p.2 := by simp [look, List.find?_cons, h]
theorem look_neg {p : Nat × Nat} {r : Mt} {e : Nat} (h : ¬ p.1 = e) : look (p :: r) e = look r e := by simp [look, List.find?_cons, h]
theorem look_none {e : Nat} : ∀ {m : Mt}, look m e = none ↔ e ∉ keys m
  | [] => by simp [look, keys]
  | p :: r => by
    by_cases h : p.1 = e
    · rw [look_pos h]; simp [keys, h]
    · rw [look_neg h, look_none (m := r)]; simp [keys, Ne.symm h]
theorem look_mem {e a : Nat} : ∀ {m : Mt}, look m e = some a → (e, a) ∈ m
  | [], h => by simp [look] at h
  | p :: r, h => by
    by_cases q : p.1 = e
    · rw [look_pos q] at h
      have : p = (e, a) := by
        obtain ⟨x, y⟩ := p
        simp at q h
        rw [q, h]
      rw [this]; exact List.mem_cons_self
    · rw [look_neg q] at h
      exact List.mem_cons_of_mem _ (look_mem h)
theorem mem_look {e a : Nat} : ∀ {m : Mt}, (keys m).Nodup → (e, a) ∈ m → look m e = some a
  | [], _, h => by simp at h
  | p :: r, nd, h => by
    have nd' := List.nodup_cons.mp (show (p.1 :: keys r).Nodup from nd)
    rcases List.mem_cons.mp h with z | z
    · subst z; exact look_pos rfl
    · have hk : e ∈ keys r := List.mem_map.mpr ⟨_, z, rfl⟩
      rw [look_neg (fun q => nd'.1 (q ▸ hk))]
      exact mem_look nd'.2 z
theorem any_key (e : Nat) : ∀ (m : Mt), (m.any fun p => decide (p.1 = e)) = (look m e).isSome
  | [] => rfl
  | p :: r => by
    rw [List.any_cons]
    by_cases h : p.1 = e
    · rw [look_pos h]; simp [h]
    · rw [look_neg h, decide_eq_false h, Bool.false_or]; exact any_key e r
theorem put_new {m : Mt} {e a : Nat} (h : look m e = none) : put m e a = m ++ [(e, a)] := by
  unfold put
  rw [if_neg]
  rw [any_key, h]; simp
theorem put_old {m : Mt} {e a b : Nat} (h : look m e = some b) : put m e a = m.map (fun p => if p.1 = e then (p.1, a) else p) := by
  unfold put
  rw [if_pos]
  rw [any_key, h]; rfl
theorem look_map {e a x : Nat} : ∀ {m : Mt}, look (m.map (fun p => if p.1 = e then (p.1, a) else p)) x = if x = e then (look m x).map (fun _ => a) else look m x
  | [] => by simp [look]
  | p :: r => by
    rw [List.map_cons]
    by_cases hp : p.1 = e
    · rw [if_pos hp]
      by_cases hx : x = e
      · rw [look_pos (p := (p.1, a)) (hp.trans hx.symm), look_pos (hp.trans hx.symm), if_pos hx]; rfl
      · rw [look_neg (p := (p.1, a)) (fun q => hx (q.symm.trans hp)), look_neg (fun q => hx (q.symm.trans hp)), look_map]
    · rw [if_neg hp]
      by_cases hx : p.1 = x
      · rw [look_pos hx, look_pos hx, if_neg (fun q => hp (hx.trans q))]
      · rw [look_neg hx, look_neg hx, look_map]
theorem look_append {x : Nat} {q : Nat × Nat} : ∀ {m : Mt}, look m x = none → look (m ++ [q]) x = if q.1 = x then some q.2 else none
  | [], _ => by
    by_cases h : q.1 = x
    · rw [if_pos h]; exact look_pos h
    · rw [if_neg h]; exact look_neg h
  | p :: r, h => by
    by_cases hp : p.1 = x
    · rw [look_pos hp] at h; cases h
    · rw [look_neg hp] at h
      rw [List.cons_append, look_neg hp]
      exact look_append h
theorem look_append_some {x b : Nat} {q : Nat × Nat} : ∀ {m : Mt}, look m x = some b → look (m ++ [q]) x = some b
  | [], h => by simp [look] at h
  | p :: r, h => by
    by_cases hp : p.1 = x
    · rw [look_pos hp] at h
      rw [List.cons_append, look_pos hp]; exact h
    · rw [look_neg hp] at h
      rw [List.cons_append, look_neg hp]
      exact look_append_some h
theorem look_put (m : Mt) (e a x : Nat) : look (put m e a) x = if x = e then some a else look m x := by
  cases h : look m e with
  | none =>
    rw [put_new h]
    cases hx : look m x with
    | none =>
      rw [look_append hx]
      by_cases q : x = e
      · rw [if_pos q.symm, if_pos q]
      · rw [if_neg (fun z => q z.symm), if_neg q]
    | some b =>
      rw [look_append_some hx, if_neg]
      intro q
      rw [q, h] at hx; cases hx
  | some b =>
    rw [put_old h, look_map]
    by_cases q : x = e
    · rw [if_pos q, if_pos q, q, h]; rfl
    · rw [if_neg q, if_neg q]
theorem keys_put {m : Mt} {e a : Nat} (nd : (keys m).Nodup) : (keys (put m e a)).Nodup := by
  cases h : look m e with
  | none =>
    rw [put_new h]
    have hk := look_none.mp h
    unfold keys at *
    rw [List.map_append, List.map_singleton]
    rw [List.nodup_append]
    refine ⟨nd, by simp, fun x hx y hy q => ?_⟩
    have hy : y = e := by simpa using hy
    rw [hy] at q
    exact hk (q ▸ hx)
  | some b =>
    rw [put_old h]
    have e2 : keys (m.map (fun p => if p.1 = e then (p.1, a) else p)) = keys m := by
      unfold keys
      rw [List.map_map]
      refine List.map_congr_left fun p _ => ?_
      show (if p.1 = e then (p.1, a) else p).1 = p.1
      split <;> rfl
    rw [e2]; exact nd
theorem vals_same {e a : Nat} : ∀ {m : Mt}, e ∉ keys m → m.map (fun p => if p.1 = e then (p.1, a) else p) = m
  | [], _ => rfl
  | p :: r, h => by
    have h1 : ¬ p.1 = e := fun q => h (by simp [keys, q])
    have h2 : e ∉ keys r := fun q => h (List.mem_cons_of_mem _ q)
    rw [List.map_cons, if_neg h1, vals_same h2]
theorem vals_put_old {e a b : Nat} : ∀ {m : Mt}, (keys m).Nodup → look m e = some b → (b :: vals (put m e a)).Perm (a :: vals m) := by
  intro m nd h
  rw [put_old h]
  induction m with
  | nil => simp [look] at h
  | cons p r ih =>
    have nd' := List.nodup_cons.mp (show (p.1 :: keys r).Nodup from nd)
    by_cases hp : p.1 = e
    · rw [look_pos hp] at h
      rw [List.map_cons, if_pos hp, vals_same (hp ▸ nd'.1)]
      have hb : p.2 = b := Option.some.inj h
      show (b :: a :: vals r).Perm (a :: p.2 :: vals r)
      rw [hb]
      exact List.Perm.swap _ _ _
    · rw [look_neg hp] at h
      rw [List.map_cons, if_neg hp]
      have := ih nd'.2 h
      show (b :: p.2 :: vals (r.map fun p => if p.1 = e then (p.1, a) else p)).Perm (a :: p.2 :: vals r)
      exact (List.Perm.swap _ _ _).trans ((this.cons p.2).trans (List.Perm.swap _ _ _))
theorem vals_put_new {e a : Nat} {m : Mt} (h : look m e = none) : (vals (put m e a)).Perm (a :: vals m) := by
  rw [put_new h]
  unfold vals
  rw [List.map_append, List.map_singleton]
  exact List.perm_append_singleton a _

/-! ### one search of an augmenting path -/
structure Sr where
  ok : Bool
  m : Mt
  s : List Nat
def leadL (B : Nat → Nat → Bool) (rec : Nat → Mt → List Nat → Sr) (a : Nat) : List Nat → Mt → List Nat → Sr
  | [], m, s => ⟨false, m, s⟩
  | e :: es, m, s =>
    if e ∉ s ∧ B e a = true then
      match look m e with
      | none => ⟨true, put m e a, s ++ [e]⟩
      | some a' => if (rec a' m (s ++ [e])).ok = true then ⟨true, put (rec a' m (s ++ [e])).m e a, (rec a' m (s ++ [e])).s⟩
          else leadL B rec a es (rec a' m (s ++ [e])).m (rec a' m (s ++ [e])).s
    else leadL B rec a es m s
def lead (B : Nat → Nat → Bool) : Nat → Nat → Mt → List Nat → Sr
  | 0, _, m, s => ⟨false, m, s⟩
  | f + 1, a, m, s => leadL B (lead B f) a (List.range a) m s

/-- those below n that are not seen -/
def unseen (n : Nat) (s : List Nat) : Nat := ((List.range n).filter fun x => decide (x ∉ s)).length
theorem unseen_le (n : Nat) (s : List Nat) : unseen n s ≤ n := by
  have := List.length_filter_le (fun x => decide (x ∉ s)) (List.range n)
  rw [List.length_range] at this
  exact this
theorem unseen_mono {n : Nat} {s t : List Nat} (h : ∀ x ∈ s, x ∈ t) : unseen n t ≤ unseen n s := by
  unfold unseen
  refine len_le_of_sub (nd_filter _ List.nodup_range) fun x hx => ?_
  rw [List.mem_filter] at hx ⊢
  refine ⟨hx.1, ?_⟩
  simp only [decide_eq_true_eq] at hx ⊢
  exact fun q => hx.2 (h x q)
theorem unseen_lt {n e : Nat} {s : List Nat} (he : e < n) (hs : e ∉ s) : unseen n (s ++ [e]) < unseen n s := by
  unfold unseen
  have h1 : (e :: ((List.range n).filter fun x => decide (x ∉ s ++ [e]))).length ≤ ((List.range n).filter fun x => decide (x ∉ s)).length := by
    refine len_le_of_sub (List.nodup_cons.mpr ⟨?_, nd_filter _ List.nodup_range⟩) fun x hx => ?_
    · rw [List.mem_filter]
      simp
    · rw [List.mem_filter]
      rcases List.mem_cons.mp hx with q | q
      · subst q
        exact ⟨List.mem_range.mpr he, by simpa using hs⟩
      · rw [List.mem_filter] at q
        refine ⟨q.1, ?_⟩
        have := q.2
        simp only [decide_eq_true_eq, List.mem_append, List.mem_singleton, not_or] at this ⊢
        exact this.1
  rw [List.length_cons] at h1
  omega

/-- every left neighbour of a is in D -/
def Nb (B : Nat → Nat → Bool) (a : Nat) (D : List Nat) : Prop := ∀ e, e < a → B e a = true → e ∈ D
/-- e is matched, and the neighbours of its partner are in D -/
def Shut (B : Nat → Nat → Bool) (m : Mt) (D : List Nat) (e : Nat) : Prop := ∃ a, look m e = some a ∧ Nb B a D
theorem Nb.mono {B : Nat → Nat → Bool} {a : Nat} {D D' : List Nat} (h : Nb B a D) (k : ∀ x ∈ D, x ∈ D') : Nb B a D' := fun e h1 h2 => k e (h e h1 h2)
theorem Shut.mono {B : Nat → Nat → Bool} {m : Mt} {e : Nat} {D D' : List Nat} (h : Shut B m D e) (k : ∀ x ∈ D, x ∈ D') : Shut B m D' e := let ⟨a, h1, h2⟩ := h; ⟨a, h1, h2.mono k⟩

/-- what a search keeps to -/
structure Told (B : Nat → Nat → Bool) (n a : Nat) (m : Mt) (s : List Nat) (r : Sr) : Prop where
  sub : ∀ x ∈ s, x ∈ r.s
  fail : r.ok = false → r.m = m ∧ Nb B a r.s ∧ ∀ e ∈ r.s, e ∈ s ∨ Shut B m r.s e
  vals : r.ok = true → (vals r.m).Perm (a :: vals m)
  old : ∀ e ∈ s, look r.m e = look m e
  nd : (keys r.m).Nodup
  good : ∀ e b, look r.m e = some b → e < b ∧ B e b = true ∧ b < n
  dead : ∀ D, (∀ e ∈ D, Shut B m D e) → (Nb B a D → r.ok = false) ∧ ∀ e ∈ D, look r.m e = look m e

def Good (B : Nat → Nat → Bool) (n : Nat) (m : Mt) : Prop := ∀ e b, look m e = some b → e < b ∧ B e b = true ∧ b < n
theorem leadL_told {B : Nat → Nat → Bool} {n a f : Nat} {rec : Nat → Mt → List Nat → Sr} (ha : a < n)
    (hr : ∀ a' m s, a' < n → unseen n s < f → (keys m).Nodup → Good B n m → Told B n a' m s (rec a' m s)) :
    ∀ (es : List Nat) (m : Mt) (s : List Nat), (∀ e ∈ es, e < a) → (∀ e, e < a → e ∉ es → B e a = true → e ∈ s) → unseen n s < f + 1 → (keys m).Nodup → Good B n m → Told B n a m s (leadL B rec a es m s)
  | [], m, s, _, hd, _, nd, gd => by
    refine ⟨fun x h => h, fun _ => ⟨rfl, fun e h1 h2 => hd e h1 (by simp) h2, fun e he => .inl he⟩, (fun h => nomatch h), fun e _ => rfl, nd, gd, fun D _ => ⟨fun _ => rfl, fun e _ => rfl⟩⟩
  | e :: es, m, s, hl, hd, hu, nd, gd => by
    have hea : e < a := hl e List.mem_cons_self
    unfold leadL
    by_cases hc : e ∉ s ∧ B e a = true
    · rw [if_pos hc]
      cases hk : look m e with
      | none =>
        dsimp only
        refine ⟨fun x h => List.mem_append_left _ h, (fun h => nomatch h), fun _ => vals_put_new hk, fun x hx => ?_, keys_put nd, fun x b h => ?_, fun D hD => ⟨fun hN => ?_, fun x hx => ?_⟩⟩
        · rw [look_put, if_neg]
          rintro rfl
          exact hc.1 hx
        · rw [look_put] at h
          by_cases hx : x = e
          · rw [if_pos hx] at h
            cases h
            rw [hx]
            exact ⟨hea, hc.2, ha⟩
          · rw [if_neg hx] at h
            exact gd x b h
        · obtain ⟨b, hb, _⟩ := hD e (hN e hea hc.2)
          rw [hk] at hb; cases hb
        · rw [look_put, if_neg]
          rintro rfl
          obtain ⟨b, hb, _⟩ := hD x hx
          rw [hk] at hb; cases hb
      | some a' =>
        dsimp only
        have hen : e < n := Nat.lt_trans hea ha
        have T := hr a' m (s ++ [e]) (gd e a' hk).2.2 (by have := unseen_lt hen hc.1; omega) nd gd
        have hs1 : ∀ x ∈ s, x ∈ (rec a' m (s ++ [e])).s := fun x hx => T.sub x (List.mem_append_left _ hx)
        have he1 : e ∈ (rec a' m (s ++ [e])).s := T.sub e (by simp)
        cases hok : (rec a' m (s ++ [e])).ok with
        | true =>
          rw [if_pos rfl]
          have hle : look (rec a' m (s ++ [e])).m e = some a' := by rw [T.old e (by simp), hk]
          have nE : ∀ D, (∀ e ∈ D, Shut B m D e) → e ∉ D := fun D hD hx => by
            obtain ⟨b, hb, hN⟩ := hD e hx
            rw [hk] at hb; cases hb
            have := (T.dead D hD).1 hN
            rw [hok] at this; cases this
          refine ⟨hs1, (fun h => nomatch h), fun _ => ?_, fun x hx => ?_, keys_put T.nd, fun x b h => ?_, fun D hD => ⟨fun hN => ?_, fun x hx => ?_⟩⟩
          · have h1 : (a' :: vals (put (rec a' m (s ++ [e])).m e a)).Perm (a :: vals (rec a' m (s ++ [e])).m) := vals_put_old T.nd hle
            have h2 := T.vals hok
            have h3 : (a' :: vals (put (rec a' m (s ++ [e])).m e a)).Perm (a' :: a :: vals m) := h1.trans ((h2.cons a).trans (List.Perm.swap _ _ _))
            exact h3.cons_inv
          · show look (put _ e a) x = _
            have ne : x ≠ e := by
              rintro rfl
              exact hc.1 hx
            rw [look_put, if_neg ne]
            exact T.old x (List.mem_append_left _ hx)
          · have h : look (put (rec a' m (s ++ [e])).m e a) x = some b := h
            rw [look_put] at h
            by_cases hx : x = e
            · rw [if_pos hx] at h
              cases h
              rw [hx]
              exact ⟨hea, hc.2, ha⟩
            · rw [if_neg hx] at h
              exact T.good x b h
          · exact absurd (hN e hea hc.2) (nE D hD)
          · show look (put _ e a) x = _
            have ne : x ≠ e := by
              rintro rfl
              exact nE D hD hx
            rw [look_put, if_neg ne]
            exact (T.dead D hD).2 x hx
        | false =>
          rw [if_neg (by simp)]
          obtain ⟨em, hN, hS⟩ := T.fail hok
          rw [em]
          have U := leadL_told ha hr es m (rec a' m (s ++ [e])).s (fun x hx => hl x (List.mem_cons_of_mem _ hx)) (fun x hx hne hB => by
              by_cases q : x = e
              · rw [q]; exact he1
              · exact hs1 x (hd x hx (by rw [List.mem_cons, not_or]; exact ⟨q, hne⟩) hB)) (Nat.lt_of_le_of_lt (unseen_mono hs1) hu) nd gd
          refine ⟨fun x hx => U.sub x (hs1 x hx), fun h => ?_, U.vals, fun x hx => U.old x (hs1 x hx), U.nd, U.good, U.dead⟩
          obtain ⟨h1, h2, h3⟩ := U.fail h
          refine ⟨h1, h2, fun x hx => ?_⟩
          rcases h3 x hx with q | q
          · rcases hS x q with z | z
            · rcases List.mem_append.mp z with z | z
              · exact .inl z
              · have : x = e := by simpa using z
                rw [this]
                exact .inr ⟨a', hk, hN.mono U.sub⟩
            · exact .inr (z.mono U.sub)
          · exact .inr q
    · rw [if_neg hc]
      exact leadL_told ha hr es m s (fun x hx => hl x (List.mem_cons_of_mem _ hx)) (fun x hx hne hB => by
          by_cases q : x = e
          · rw [q] at hB ⊢
            by_cases hs : e ∈ s
            · exact hs
            · exact absurd ⟨hs, hB⟩ hc
          · exact hd x hx (by rw [List.mem_cons, not_or]; exact ⟨q, hne⟩) hB) hu nd gd
theorem lead_told {B : Nat → Nat → Bool} {n : Nat} : ∀ (f a : Nat) (m : Mt) (s : List Nat), a < n → unseen n s < f → (keys m).Nodup → Good B n m → Told B n a m s (lead B f a m s)
  | 0, _, _, _, _, hu, _, _ => absurd hu (Nat.not_lt_zero _)
  | f + 1, a, m, s, ha, hu, nd, gd => by
    unfold lead
    exact leadL_told ha (fun a' m s h1 h2 h3 h4 => lead_told f a' m s h1 h2 h3 h4) (List.range a) m s (fun e he => List.mem_range.mp he) (fun e h1 h2 _ => absurd (List.mem_range.mpr h1) h2) hu nd gd

/-! ### all searches -/
def kuhn (B : Nat → Nat → Bool) (f : Nat) : Nat → Mt
  | 0 => []
  | i + 1 => (lead B f i (kuhn B f i) []).m
structure Kept (B : Nat → Nat → Bool) (n i : Nat) (m : Mt) (D : List Nat) : Prop where
  nd : (keys m).Nodup
  good : Good B n m
  vnd : (vals m).Nodup
  vlt : ∀ v ∈ vals m, v < i
  shut : ∀ e ∈ D, Shut B m D e
  free : ∀ t, t < i → t ∉ vals m → Nb B t D
theorem kuhn_kept {B : Nat → Nat → Bool} {n f : Nat} (hf : n < f) : ∀ i, i ≤ n → ∃ D, Kept B n i (kuhn B f i) D
  | 0, _ => ⟨[], ⟨List.nodup_nil, fun e b h => by simp [kuhn, look] at h, List.nodup_nil, fun v h => by simp [kuhn, vals] at h, fun e h => by simp at h, fun t h => absurd h (Nat.not_lt_zero _)⟩⟩
  | i + 1, hi => by
    obtain ⟨D, K⟩ := kuhn_kept hf i (Nat.le_of_succ_le hi)
    have T : Told B n i (kuhn B f i) [] (lead B f i (kuhn B f i) []) := lead_told f i _ [] hi (Nat.lt_of_le_of_lt (unseen_le _ _) hf) K.nd K.good
    unfold kuhn
    cases hok : (lead B f i (kuhn B f i) []).ok with
    | true =>
      have hp := T.vals hok
      refine ⟨D, ⟨T.nd, T.good, hp.nodup_iff.mpr (List.nodup_cons.mpr ⟨fun h => Nat.lt_irrefl _ (K.vlt i h), K.vnd⟩), fun v hv => ?_, fun e he => ?_, fun t ht hn => ?_⟩⟩
      · rcases List.mem_cons.mp (hp.mem_iff.mp hv) with q | q
        · rw [q]; exact Nat.lt_succ_self _
        · exact Nat.lt_succ_of_lt (K.vlt v q)
      · obtain ⟨a, h1, h2⟩ := K.shut e he
        exact ⟨a, by rw [(T.dead D K.shut).2 e he]; exact h1, h2⟩
      · have hn' : t ∉ i :: vals (kuhn B f i) := fun q => hn (hp.mem_iff.mpr q)
        rw [List.mem_cons, not_or] at hn'
        exact K.free t (by omega) hn'.2
    | false =>
      obtain ⟨em, hN, hS⟩ := T.fail hok
      rw [em]
      have hs : ∀ e ∈ (lead B f i (kuhn B f i) []).s, Shut B (kuhn B f i) (lead B f i (kuhn B f i) []).s e := fun e he => by
        rcases hS e he with q | q
        · simp at q
        · exact q
      refine ⟨D ++ (lead B f i (kuhn B f i) []).s, ⟨K.nd, K.good, K.vnd, fun v hv => Nat.lt_succ_of_lt (K.vlt v hv), fun e he => ?_, fun t ht hn => ?_⟩⟩
      · rcases List.mem_append.mp he with q | q
        · exact (K.shut e q).mono fun x hx => List.mem_append_left _ hx
        · exact (hs e q).mono fun x hx => List.mem_append_right _ hx
      · by_cases q : t = i
        · rw [q]
          exact hN.mono fun x hx => List.mem_append_right _ hx
        · exact (K.free t (by omega) hn).mono fun x hx => List.mem_append_left _ hx

/-- those that no row stands directly ahead of -/
def roots (n : Nat) (m : Mt) : List Nat := (List.range n).filter fun t => decide (t ∉ vals m)
theorem mem_roots {n t : Nat} {m : Mt} : t ∈ roots n m ↔ t < n ∧ t ∉ vals m := by
  unfold roots
  rw [List.mem_filter, List.mem_range, decide_eq_true_eq]
theorem look_vals {m : Mt} {e a : Nat} (h : look m e = some a) : a ∈ vals m := List.mem_map.mpr ⟨_, look_mem h, rfl⟩
theorem look_inj : ∀ {m : Mt} {e e' a : Nat}, (vals m).Nodup → look m e = some a → look m e' = some a → e = e'
  | [], _, _, _, _, h, _ => by simp [look] at h
  | p :: r, e, e', a, nd, h, h' => by
    have nd' := List.nodup_cons.mp (show (p.2 :: vals r).Nodup from nd)
    by_cases q : p.1 = e
    · by_cases q' : p.1 = e'
      · exact q.symm.trans q'
      · rw [look_pos q] at h
        rw [look_neg q'] at h'
        cases h
        exact absurd (look_vals h') nd'.1
    · rw [look_neg q] at h
      by_cases q' : p.1 = e'
      · rw [look_pos q'] at h'
        cases h'
        exact absurd (look_vals h) nd'.1
      · rw [look_neg q'] at h'
        exact look_inj nd'.2 h h'
/-- as many places as there are roots, no two of which are one below the other -/
theorem anti {B : Nat → Nat → Bool} {n : Nat} {m : Mt} {D : List Nat} (K : Kept B n n m D) :
    ∃ A : List Nat, A.Sublist (List.range n) ∧ (roots n m).length ≤ A.length ∧ ∀ i ∈ A, ∀ j ∈ A, i < j → B i j = false := by
  let T : List Nat := (List.range n).filter fun t => decide (t ∉ vals m) || D.any fun e => decide (look m e = some t)
  let D' : List Nat := (List.range n).filter fun t => decide (t ∈ D)
  have hT : ∀ t, t ∈ T ↔ t < n ∧ (t ∉ vals m ∨ ∃ e ∈ D, look m e = some t) := fun t => by
    show t ∈ (List.range n).filter _ ↔ _
    rw [List.mem_filter, List.mem_range]
    simp
  have hNb : ∀ t ∈ T, Nb B t D := fun t ht => by
    obtain ⟨h1, h2⟩ := (hT t).mp ht
    rcases h2 with h2 | ⟨e, he, hl⟩
    · exact K.free t h1 h2
    · obtain ⟨a, h3, h4⟩ := K.shut e he
      rw [hl] at h3; cases h3
      exact h4
  refine ⟨T.filter fun t => decide (t ∉ D), (List.filter_sublist).trans List.filter_sublist, ?_, fun i hi j hj hij => ?_⟩
  · -- W: the partners of D
    let g : Nat → Nat := fun e => (look m e).getD 0
    have hg : ∀ e ∈ D, look m e = some (g e) := fun e he => by
      obtain ⟨a, h, _⟩ := K.shut e he
      show look m e = some ((look m e).getD 0)
      rw [h]; rfl
    have ndD : D'.Nodup := nd_filter _ List.nodup_range
    have inD : ∀ e ∈ D', e ∈ D := fun e he => by
      have := (List.mem_filter.mp he).2
      simpa using this
    have ltD : ∀ e ∈ D, e < n := fun e he => by
      have := K.good e _ (hg e he)
      omega
    have ndW : (D'.map g).Nodup := by
      rw [List.nodup_iff_pairwise_ne, List.pairwise_map]
      refine List.Pairwise.imp_of_mem (fun {x y} hx hy hne => ?_) (List.nodup_iff_pairwise_ne.mp ndD)
      intro q
      have h1 := hg x (inD x hx)
      have h2 := hg y (inD y hy)
      rw [← q] at h2
      exact hne (look_inj K.vnd h1 h2)
    have h1 : (roots n m ++ D'.map g).length ≤ T.length := by
      refine len_le_of_sub ?_ fun x hx => ?_
      · rw [List.nodup_append]
        refine ⟨nd_filter _ List.nodup_range, ndW, fun x hx y hy q => ?_⟩
        obtain ⟨e, he, rfl⟩ := List.mem_map.mp hy
        rw [q] at hx
        exact (mem_roots.mp hx).2 (look_vals (hg e (inD e he)))
      · rcases List.mem_append.mp hx with q | q
        · obtain ⟨a, b⟩ := mem_roots.mp q
          exact (hT x).mpr ⟨a, .inl b⟩
        · obtain ⟨e, he, rfl⟩ := List.mem_map.mp q
          refine (hT _).mpr ⟨?_, .inr ⟨e, inD e he, hg e (inD e he)⟩⟩
          exact (K.good e _ (hg e (inD e he))).2.2
    have h2 : T.length = (T.filter fun t => decide (t ∉ D)).length + (T.filter fun t => decide (t ∈ D)).length := by
      have := len_split (fun t => decide (t ∉ D)) T
      rw [this]
      congr 2
      refine List.filter_congr fun x _ => ?_
      simp
    have h3 : (T.filter fun t => decide (t ∈ D)).length ≤ D'.length := by
      refine len_le_of_sub (nd_filter _ (nd_filter _ List.nodup_range)) fun x hx => ?_
      have q := (List.mem_filter.mp hx).2
      have q : x ∈ D := by simpa using q
      exact List.mem_filter.mpr ⟨List.mem_range.mpr (ltD x q), by simpa using q⟩
    rw [List.length_append, List.length_map] at h1
    omega
  · have qi := (List.mem_filter.mp hi).2
    have qi : i ∉ D := by simpa using qi
    cases hB : B i j with
    | false => rfl
    | true => exact absurd (hNb j (List.mem_filter.mp hj).1 i hij hB) qi

/-! ### rows of places, one directly behind the other -/
def chain (m : Mt) : Nat → Nat → List Nat
  | 0, a => [a]
  | f + 1, a => match look m a with
    | none => [a]
    | some b => a :: chain m f b
theorem chain_some {m : Mt} {f a b : Nat} (h : look m a = some b) : chain m (f + 1) a = a :: chain m f b := by
  show (match look m a with | none => [a] | some b => a :: chain m f b) = _
  rw [h]
theorem chain_none {m : Mt} {f a : Nat} (h : look m a = none) : chain m f a = [a] := by
  cases f with
  | zero => rfl
  | succ f => unfold chain; rw [h]
theorem chain_self (m : Mt) (f a : Nat) : a ∈ chain m f a := by
  cases f with
  | zero => simp [chain]
  | succ f =>
    unfold chain
    cases look m a <;> simp
theorem chain_ge {m : Mt} (g : ∀ e b, look m e = some b → e < b) : ∀ {f a x : Nat}, x ∈ chain m f a → a ≤ x
  | 0, a, x, h => by
    have : x = a := by simpa [chain] using h
    omega
  | f + 1, a, x, h => by
    unfold chain at h
    cases k : look m a with
    | none =>
      rw [k] at h
      have : x = a := by simpa using h
      omega
    | some b =>
      rw [k] at h
      rcases List.mem_cons.mp h with q | q
      · omega
      · have := chain_ge g q
        have := g a b k
        omega
theorem chain_lt {n : Nat} {m : Mt} (g : ∀ e b, look m e = some b → b < n) : ∀ {f a x : Nat}, a < n → x ∈ chain m f a → x < n
  | 0, a, x, ha, h => by
    have : x = a := by simpa [chain] using h
    omega
  | f + 1, a, x, ha, h => by
    unfold chain at h
    cases k : look m a with
    | none =>
      rw [k] at h
      have : x = a := by simpa using h
      omega
    | some b =>
      rw [k] at h
      rcases List.mem_cons.mp h with q | q
      · omega
      · exact chain_lt g (g a b k) q
/-- it goes up -/
theorem chain_up {m : Mt} (g : ∀ e b, look m e = some b → e < b) : ∀ (f a : Nat), (chain m f a).Pairwise (· < ·)
  | 0, a => by simp [chain]
  | f + 1, a => by
    unfold chain
    cases k : look m a with
    | none => simp
    | some b =>
      refine List.pairwise_cons.mpr ⟨fun x hx => ?_, chain_up g f b⟩
      exact Nat.lt_of_lt_of_le (g a b k) (chain_ge g hx)
/-- with what stands behind its members -/
theorem chain_next {n : Nat} {m : Mt} (g : ∀ e b, look m e = some b → e < b ∧ b < n) : ∀ {f a e x : Nat}, n ≤ a + f → e ∈ chain m f a → look m e = some x → x ∈ chain m f a
  | 0, a, e, x, hn, h, k => by
    have : e = a := by simpa [chain] using h
    have := g e x k
    omega
  | f + 1, a, e, x, hn, h, k => by
    unfold chain at h ⊢
    cases q : look m a with
    | none =>
      rw [q] at h
      have : e = a := by simpa using h
      rw [this, q] at k; cases k
    | some b =>
      rw [q] at h
      have hb := g a b q
      rcases List.mem_cons.mp h with z | z
      · rw [z, q] at k
        cases k
        exact List.mem_cons_of_mem _ (chain_self m f x)
      · exact List.mem_cons_of_mem _ (chain_next g (by omega) z k)
/-- a member but the first stands behind a member -/
theorem chain_pred {m : Mt} : ∀ {f a x : Nat}, x ∈ chain m f a → x = a ∨ ∃ e ∈ chain m f a, look m e = some x
  | 0, a, x, h => .inl (by simpa [chain] using h)
  | f + 1, a, x, h => by
    unfold chain at h ⊢
    cases q : look m a with
    | none => rw [q] at h; exact .inl (by simpa using h)
    | some b =>
      rw [q] at h
      rcases List.mem_cons.mp h with z | z
      · exact .inl z
      · rcases chain_pred z with y | ⟨e, he, hl⟩
        · rw [y]
          exact .inr ⟨a, List.mem_cons_self, q⟩
        · exact .inr ⟨e, List.mem_cons_of_mem _ he, hl⟩
theorem chain_meet {m : Mt} (vnd : (vals m).Nodup) (g : ∀ e b, look m e = some b → e < b) {r r' : Nat} (hr : r ∉ vals m) (hr' : r' ∉ vals m) {f f' : Nat} : ∀ (x : Nat), x ∈ chain m f r → x ∈ chain m f' r' → r = r' := by
  intro x
  induction x using Nat.strongRecOn with
  | _ x ih =>
    intro h1 h2
    rcases chain_pred h1 with e1 | ⟨e, he, hl⟩
    · rcases chain_pred h2 with e2 | ⟨e, he, hl⟩
      · exact e1.symm.trans e2
      · exact absurd (e1 ▸ look_vals hl) hr
    · rcases chain_pred h2 with e2 | ⟨e', he', hl'⟩
      · exact absurd (e2 ▸ look_vals hl) hr'
      · have := look_inj vnd hl hl'
        subst this
        exact ih e (g e x hl) he he'
def rowsOf (n : Nat) (m : Mt) : List (List Nat) := (roots n m).map (chain m n)
theorem rows_perm {B : Nat → Nat → Bool} {n : Nat} {m : Mt} {D : List Nat} (K : Kept B n n m D) : (rowsOf n m).flatten.Perm (List.range n) := by
  have g1 : ∀ e b, look m e = some b → e < b := fun e b h => (K.good e b h).1
  have g2 : ∀ e b, look m e = some b → b < n := fun e b h => (K.good e b h).2.2
  refine perm_of_nodup ?_ List.nodup_range fun x => ?_
  · rw [List.nodup_iff_pairwise_ne, List.pairwise_flatten]
    refine ⟨fun l hl => ?_, ?_⟩
    · obtain ⟨r, _, rfl⟩ := List.mem_map.mp hl
      exact (chain_up g1 n r).imp fun h => Nat.ne_of_lt h
    · unfold rowsOf
      rw [List.pairwise_map]
      refine List.Pairwise.imp_of_mem (fun {r r'} hr hr' hne => ?_) (List.nodup_iff_pairwise_ne.mp (nd_filter _ List.nodup_range))
      intro x hx y hy q
      subst q
      exact hne (chain_meet K.vnd g1 (mem_roots.mp hr).2 (mem_roots.mp hr').2 x hx hy)
  · rw [List.mem_range, List.mem_flatten]
    constructor
    · rintro ⟨l, hl, hx⟩
      obtain ⟨r, hr, rfl⟩ := List.mem_map.mp hl
      exact chain_lt g2 (mem_roots.mp hr).1 hx
    · intro hx
      suffices h : ∀ x, x < n → ∃ r ∈ roots n m, x ∈ chain m n r by
        obtain ⟨r, hr, h⟩ := h x hx
        exact ⟨_, List.mem_map.mpr ⟨r, hr, rfl⟩, h⟩
      intro x
      induction x using Nat.strongRecOn with
      | _ x ih =>
        intro hx
        by_cases hv : x ∈ vals m
        · obtain ⟨p, hp, e⟩ := List.mem_map.mp hv
          have hl : look m p.1 = some x := mem_look K.nd (by rw [← e]; exact hp)
          have h1 := K.good _ _ hl
          obtain ⟨r, hr, he⟩ := ih p.1 h1.1 (by omega)
          exact ⟨r, hr, chain_next (n := n) (fun e b h => ⟨g1 e b h, g2 e b h⟩) (by omega) he hl⟩
        · exact ⟨x, mem_roots.mpr ⟨hx, hv⟩, chain_self m n x⟩

/-! ### along a list -/
def rises (W : Nat → Nat → Bool) (l : List Nat) : Bool := (l.zip (l.drop 1)).all fun p => W p.1 p.2
theorem rises_cons (W : Nat → Nat → Bool) (x y : Nat) (l : List Nat) : rises W (x :: y :: l) = (W x y && rises W (y :: l)) := by
  unfold rises
  rfl
theorem rises_nil (W : Nat → Nat → Bool) : rises W [] = true := rfl
theorem rises_one (W : Nat → Nat → Bool) (x : Nat) : rises W [x] = true := rfl
theorem rises_pair {W : Nat → Nat → Bool} (tr : ∀ i j k, W i j = true → W j k = true → W i k = true) : ∀ {l : List Nat}, rises W l = true → l.Pairwise fun i j => W i j = true
  | [], _ => .nil
  | [x], _ => by simp
  | x :: y :: l, h => by
    rw [rises_cons, Bool.and_eq_true] at h
    have ih := rises_pair tr (l := y :: l) h.2
    refine List.pairwise_cons.mpr ⟨fun z hz => ?_, ih⟩
    rcases List.mem_cons.mp hz with q | q
    · rw [q]; exact h.1
    · exact tr x y z h.1 ((List.pairwise_cons.mp ih).1 z q)
theorem rises_of {W : Nat → Nat → Bool} : ∀ {l : List Nat}, (l.Pairwise fun i j => W i j = true) → rises W l = true
  | [], _ => rfl
  | [x], _ => rfl
  | x :: y :: l, h => by
    have h' := List.pairwise_cons.mp h
    rw [rises_cons, h'.1 y List.mem_cons_self, rises_of h'.2]
    rfl
theorem rises_chain {W : Nat → Nat → Bool} {m : Mt} {o : Nat → Nat} (g : ∀ e b, look m e = some b → W (o e) (o b) = true) : ∀ (f a : Nat), rises W ((chain m f a).map o) = true
  | 0, a => rfl
  | f + 1, a => by
    unfold chain
    cases k : look m a with
    | none => rfl
    | some b =>
      have ih := rises_chain g f b
      have hh : ∃ t, chain m f b = b :: t := by
        cases f with
        | zero => exact ⟨[], rfl⟩
        | succ f =>
          unfold chain
          cases look m b with
          | none => exact ⟨[], rfl⟩
          | some c => exact ⟨chain m f c, rfl⟩
      obtain ⟨t, ht⟩ := hh
      show rises W ((a :: chain m f b).map o) = true
      rw [ht] at ih ⊢
      rw [List.map_cons, List.map_cons, rises_cons, g a b k]
      rw [List.map_cons] at ih
      rw [ih]
      rfl

/-! ### the rows of the table -/
/-- cross: neither below the other -/
def crs (W : Nat → Nat → Bool) (i j : Nat) : Bool := !W i j && !W j i
theorem crs_comm (W : Nat → Nat → Bool) (i j : Nat) : crs W i j = crs W j i := by unfold crs; rw [Bool.and_comm]
/-- what is asked of an order of the rows -/
structure Ord (W : Nat → Nat → Bool) (n : Nat) (o : List Nat) : Prop where
  perm : o.Perm (List.range n)
  topo : o.Pairwise fun i j => W j i = true → W i j = true
def posB (W : Nat → Nat → Bool) (o : List Nat) (e a : Nat) : Bool := W (o.getD e 0) (o.getD a 0)
def piecesOf (W : Nat → Nat → Bool) (f n : Nat) (o : List Nat) : List (List Nat) := (rowsOf n (kuhn (posB W o) f n)).map fun l => l.map fun i => o.getD i 0
theorem map_getD_range {o : List Nat} {n : Nat} (h : o.length = n) : (List.range n).map (fun i => o.getD i 0) = o := by
  subst h
  apply List.ext_getElem
  · simp
  · intro i h1 h2
    simp at h1
    simp [h1]
section
variable {W : Nat → Nat → Bool} {n f : Nat} {o : List Nat}
theorem Ord.len (h : Ord W n o) : o.length = n := by rw [h.perm.length_eq, List.length_range]
theorem Ord.nd (h : Ord W n o) : o.Nodup := h.perm.nodup_iff.mpr List.nodup_range
theorem flat_map {g : Nat → Nat} : ∀ (L : List (List Nat)), (L.map fun l => l.map g).flatten = L.flatten.map g
  | [] => rfl
  | l :: L => by rw [List.map_cons, List.flatten_cons, List.flatten_cons, List.map_append, flat_map L]
theorem pieces_perm (h : Ord W n o) (hf : n < f) : (piecesOf W f n o).flatten.Perm (List.range n) := by
  obtain ⟨D, K⟩ := kuhn_kept (B := posB W o) hf n (Nat.le_refl _)
  unfold piecesOf
  rw [flat_map]
  refine ((rows_perm K).map _).trans ?_
  rw [map_getD_range h.len]
  exact h.perm
theorem pieces_ne (p : List Nat) (hp : p ∈ piecesOf W f n o) : p ≠ [] := by
  obtain ⟨l, hl, rfl⟩ := List.mem_map.mp hp
  obtain ⟨r, hr, rfl⟩ := List.mem_map.mp hl
  intro q
  have := chain_self (kuhn (posB W o) f n) n r
  rw [List.map_eq_nil_iff.mp q] at this
  simp at this
theorem pieces_rise (hf : n < f) (p : List Nat) (hp : p ∈ piecesOf W f n o) : rises W p = true := by
  obtain ⟨D, K⟩ := kuhn_kept (B := posB W o) hf n (Nat.le_refl _)
  obtain ⟨l, hl, rfl⟩ := List.mem_map.mp hp
  obtain ⟨r, hr, rfl⟩ := List.mem_map.mp hl
  exact rises_chain (o := fun i => o.getD i 0) (fun e b k => (K.good e b k).2.1) n r
/-- no more rows that cross two by two than pieces -/
theorem cross_le (tr : ∀ i j k, W i j = true → W j k = true → W i k = true) : ∀ (P : List (List Nat)) (l : List Nat), (∀ p ∈ P, rises W p = true) → l.Nodup → (∀ x ∈ l, x ∈ P.flatten) → (l.Pairwise fun i j => crs W i j = true) → l.length ≤ P.length
  | [], l, _, _, hs, _ => by
    cases l with
    | nil => exact Nat.le_refl _
    | cons x r => exact absurd (hs x List.mem_cons_self) (by simp)
  | p :: P, l, hr, nd, hs, hc => by
    have h1 : (l.filter fun x => decide (x ∈ p)).length ≤ 1 := by
      have hpw := rises_pair tr (hr p List.mem_cons_self)
      have nd1 := nd_filter (fun x => decide (x ∈ p)) nd
      have hc1 := hc.sublist (List.filter_sublist (p := fun x => decide (x ∈ p)))
      have hm : ∀ x ∈ l.filter (fun x => decide (x ∈ p)), x ∈ p := fun x hx => by
        have := (List.mem_filter.mp hx).2
        simpa using this
      match q : l.filter (fun x => decide (x ∈ p)) with
      | [] => simp
      | [x] => simp
      | x :: y :: r =>
        rw [q] at nd1 hc1 hm
        have hx := hm x List.mem_cons_self
        have hy := hm y (List.mem_cons_of_mem _ List.mem_cons_self)
        have hxy : x ≠ y := fun e => (List.nodup_cons.mp nd1).1 (e ▸ List.mem_cons_self)
        have hcr := (List.pairwise_cons.mp hc1).1 y List.mem_cons_self
        obtain ⟨i, hi, ei⟩ := List.mem_iff_getElem.mp hx
        obtain ⟨j, hj, ej⟩ := List.mem_iff_getElem.mp hy
        have hij : i ≠ j := fun e => hxy (by subst e; rw [← ei, ← ej])
        have hw : W x y = true ∨ W y x = true := by
          rcases Nat.lt_or_gt_of_ne hij with z | z
          · left
            rw [← ei, ← ej]
            exact List.pairwise_iff_getElem.mp hpw i j hi hj z
          · right
            rw [← ei, ← ej]
            exact List.pairwise_iff_getElem.mp hpw j i hj hi z
        unfold crs at hcr
        simp only [Bool.and_eq_true, Bool.not_eq_true'] at hcr
        rcases hw with z | z
        · rw [hcr.1] at z; cases z
        · rw [hcr.2] at z; cases z
    have h2 := cross_le tr P (l.filter fun x => !decide (x ∈ p)) (fun q hq => hr q (List.mem_cons_of_mem _ hq)) (nd_filter _ nd) (fun x hx => by
      obtain ⟨a, b⟩ := List.mem_filter.mp hx
      have := hs x a
      rw [List.flatten_cons, List.mem_append] at this
      rcases this with z | z
      · simp [z] at b
      · exact z) (hc.sublist List.filter_sublist)
    have h3 := len_split (fun x => decide (x ∈ p)) l
    rw [List.length_cons]
    omega
/-- k is the greatest number of rows that cross two by two -/
structure Most (W : Nat → Nat → Bool) (n k : Nat) : Prop where
  has : ∃ l : List Nat, l.Sublist (List.range n) ∧ l.length = k ∧ l.Pairwise fun i j => crs W i j = true
  le : ∀ l : List Nat, l.Sublist (List.range n) → (l.Pairwise fun i j => crs W i j = true) → l.length ≤ k
theorem Most.uniq {k k' : Nat} (a : Most W n k) (b : Most W n k') : k = k' := by
  obtain ⟨l, h1, h2, h3⟩ := a.has
  obtain ⟨l', h1', h2', h3'⟩ := b.has
  have := a.le l' h1' h3'
  have := b.le l h1 h3
  omega
theorem getD_inj (h : o.Nodup) {i j : Nat} (hi : i < o.length) (hj : j < o.length) (e : o.getD i 0 = o.getD j 0) : i = j := by
  rw [List.getD_eq_getElem?_getD, List.getD_eq_getElem?_getD, List.getElem?_eq_getElem hi, List.getElem?_eq_getElem hj] at e
  exact (List.getElem_inj h).mp e
theorem getD_mem {i : Nat} (hi : i < o.length) : o.getD i 0 ∈ o := by
  rw [List.getD_eq_getElem?_getD, List.getElem?_eq_getElem hi]
  exact List.getElem_mem hi
theorem pieces_most (h : Ord W n o) (hf : n < f) (tr : ∀ i j k, W i j = true → W j k = true → W i k = true) : Most W n (piecesOf W f n o).length := by
  obtain ⟨D, K⟩ := kuhn_kept (B := posB W o) hf n (Nat.le_refl _)
  have hlen : (piecesOf W f n o).length = (roots n (kuhn (posB W o) f n)).length := by
    unfold piecesOf rowsOf
    rw [List.length_map, List.length_map]
  refine ⟨?_, fun l hs hc => cross_le tr _ l (pieces_rise hf) (List.nodup_range.sublist hs) (fun x hx => (pieces_perm h hf).mem_iff.mpr (hs.subset hx)) hc⟩
  obtain ⟨A, hA, hl, hB⟩ := anti K
  have ndA : A.Nodup := List.nodup_range.sublist hA
  have ltA : ∀ i ∈ A, i < o.length := fun i hi => by rw [h.len]; exact List.mem_range.mp (hA.subset hi)
  let M : List Nat := A.map fun i => o.getD i 0
  let L : List Nat := (List.range n).filter fun x => decide (x ∈ M)
  have hcr : ∀ i ∈ A, ∀ j ∈ A, i < j → crs W (o.getD i 0) (o.getD j 0) = true := fun i hi j hj hij => by
    have h1 : W (o.getD i 0) (o.getD j 0) = false := hB i hi j hj hij
    have h2 : W (o.getD j 0) (o.getD i 0) = false := by
      cases q : W (o.getD j 0) (o.getD i 0) with
      | false => rfl
      | true =>
        have := List.pairwise_iff_getElem.mp h.topo i j (ltA i hi) (ltA j hj) hij
        have ei : o.getD i 0 = o[i]'(ltA i hi) := by rw [List.getD_eq_getElem?_getD, List.getElem?_eq_getElem (ltA i hi)]; rfl
        have ej : o.getD j 0 = o[j]'(ltA j hj) := by rw [List.getD_eq_getElem?_getD, List.getElem?_eq_getElem (ltA j hj)]; rfl
        rw [ei, ej] at q h1
        rw [this q] at h1; cases h1
    unfold crs
    rw [h1, h2]; rfl
  have hM : ∀ x ∈ M, ∀ y ∈ M, x ≠ y → crs W x y = true := fun x hx y hy hne => by
    obtain ⟨i, hi, rfl⟩ := List.mem_map.mp hx
    obtain ⟨j, hj, rfl⟩ := List.mem_map.mp hy
    rcases Nat.lt_trichotomy i j with z | z | z
    · exact hcr i hi j hj z
    · exact absurd (by rw [z]) hne
    · rw [crs_comm]; exact hcr j hj i hi z
  have ndM : M.Nodup := by
    rw [List.nodup_iff_pairwise_ne, List.pairwise_map]
    refine List.Pairwise.imp_of_mem (fun {x y} hx hy hne => ?_) (List.nodup_iff_pairwise_ne.mp ndA)
    exact fun q => hne (getD_inj h.nd (ltA x hx) (ltA y hy) q)
  have hLM : A.length ≤ L.length := by
    have : M.length ≤ L.length := len_le_of_sub ndM fun x hx => by
      refine List.mem_filter.mpr ⟨?_, by simpa using hx⟩
      obtain ⟨i, hi, rfl⟩ := List.mem_map.mp hx
      exact h.perm.mem_iff.mp (getD_mem (ltA i hi))
    rw [List.length_map] at this
    exact this
  refine ⟨L.take (piecesOf W f n o).length, (List.take_sublist _ _).trans List.filter_sublist, ?_, ?_⟩
  · rw [List.length_take]; omega
  · refine List.Pairwise.sublist (List.take_sublist _ _) ?_
    refine List.Pairwise.imp_of_mem (fun {x y} hx hy hne => ?_) (List.nodup_iff_pairwise_ne.mp (nd_filter (fun x => decide (x ∈ M)) List.nodup_range))
    have mx : x ∈ M := by
      have := (List.mem_filter.mp hx).2
      simpa using this
    have my : y ∈ M := by
      have := (List.mem_filter.mp hy).2
      simpa using this
    exact hM x mx y my hne
end

/-! ### rows that cross two by two, by trying -/
def crossL (rec : List Nat → Option (List Nat)) (C : Nat → Nat → Bool) : List Nat → Option (List Nat)
  | [] => none
  | x :: r => match rec (r.filter (C x)) with
    | some l => some (x :: l)
    | none => crossL rec C r
def crossRows (C : Nat → Nat → Bool) : Nat → List Nat → Option (List Nat)
  | 0, _ => some []
  | k + 1, rows => crossL (crossRows C k) C rows
theorem crossL_right {C : Nat → Nat → Bool} {k : Nat} {rec : List Nat → Option (List Nat)}
    (h1 : ∀ rows l, rec rows = some l → l.Sublist rows ∧ l.length = k ∧ l.Pairwise fun i j => C i j = true) (h2 : ∀ rows (l : List Nat), l.Sublist rows → l.length = k → (l.Pairwise fun i j => C i j = true) → (rec rows).isSome = true) :
    ∀ (rows : List Nat), (∀ l, crossL rec C rows = some l → l.Sublist rows ∧ l.length = k + 1 ∧ l.Pairwise fun i j => C i j = true) ∧ (∀ l : List Nat, l.Sublist rows → l.length = k + 1 → (l.Pairwise fun i j => C i j = true) → (crossL rec C rows).isSome = true)
  | [] => ⟨fun l h => by simp [crossL] at h, fun l h1 h2 _ => by
      have : l = [] := List.sublist_nil.mp h1
      rw [this] at h2; simp at h2⟩
  | x :: r => by
    have ih := crossL_right h1 h2 r
    unfold crossL
    cases q : rec (r.filter (C x)) with
    | some l0 =>
      refine ⟨fun l h => ?_, fun l _ _ _ => rfl⟩
      obtain ⟨a, b, c⟩ := h1 _ _ q
      have : l = x :: l0 := (Option.some.inj h).symm
      subst this
      refine ⟨(a.trans List.filter_sublist).cons_cons x, by rw [List.length_cons, b], List.pairwise_cons.mpr ⟨fun y hy => ?_, c⟩⟩
      exact (List.mem_filter.mp (a.subset hy)).2
    | none =>
      refine ⟨fun l h => ?_, fun l hs hl hp => ?_⟩
      · obtain ⟨a, b, c⟩ := ih.1 l h
        exact ⟨a.cons x, b, c⟩
      · cases hs with
        | cons _ hs' => exact ih.2 l hs' hl hp
        | cons_cons _ hs' =>
          rename_i l'
          have hp' := List.pairwise_cons.mp hp
          have := h2 (r.filter (C x)) l' ?_ (by simpa using hl) hp'.2
          · rw [q] at this; cases this
          · have e : l'.filter (C x) = l' := List.filter_eq_self.mpr hp'.1
            rw [← e]
            exact hs'.filter _
theorem crossRows_right {C : Nat → Nat → Bool} : ∀ (k : Nat) (rows : List Nat), (∀ l, crossRows C k rows = some l → l.Sublist rows ∧ l.length = k ∧ l.Pairwise fun i j => C i j = true) ∧ (∀ l : List Nat, l.Sublist rows → l.length = k → (l.Pairwise fun i j => C i j = true) → (crossRows C k rows).isSome = true)
  | 0, rows => ⟨fun l h => by
      have : l = [] := (Option.some.inj h).symm
      subst this
      exact ⟨List.nil_sublist _, rfl, .nil⟩, fun _ _ _ _ => rfl⟩
  | k + 1, rows => crossL_right (fun r l h => (crossRows_right k r).1 l h) (fun r l => (crossRows_right k r).2 l) rows

/-! ### all sets of rows -/
def lots : Nat → List (List Nat)
  | 0 => [[]]
  | n + 1 => lots n ++ (lots n).map (· ++ [n])
theorem mem_lots {l : List Nat} : ∀ {n : Nat}, l ∈ lots n ↔ l.Sublist (List.range n)
  | 0 => by
    unfold lots
    rw [List.mem_singleton, List.range_zero, List.sublist_nil]
  | n + 1 => by
    unfold lots
    rw [List.mem_append, mem_lots (n := n), List.range_succ, List.sublist_append_iff]
    constructor
    · rintro (h | h)
      · exact ⟨l, [], by simp, h, List.nil_sublist _⟩
      · obtain ⟨l', h', rfl⟩ := List.mem_map.mp h
        exact ⟨l', [n], rfl, (mem_lots (n := n)).mp h', List.Sublist.refl _⟩
    · rintro ⟨l1, l2, rfl, h1, h2⟩
      cases h2 with
      | cons _ h2 =>
        have : l2 = [] := List.sublist_nil.mp h2
        subst this
        left; simpa using h1
      | cons_cons _ h2 =>
        rename_i l2'
        have : l2' = [] := List.sublist_nil.mp h2
        subst this
        right
        exact List.mem_map.mpr ⟨l1, (mem_lots (n := n)).mpr h1, rfl⟩
theorem lots_len : ∀ n : Nat, (lots n).length = 2 ^ n
  | 0 => rfl
  | n + 1 => by
    unfold lots
    rw [List.length_append, List.length_map, lots_len n, Nat.pow_succ]
    omega
/-- those of two rows for which C holds -/
def pairsOf (C : Nat → Nat → Bool) (n : Nat) : List (List Nat) := (lots n).filter fun l => decide (l.length = 2) && C (l.getD 0 0) (l.getD 1 0)
def countOf (C : Nat → Nat → Bool) : Nat → Nat
  | 0 => 0
  | n + 1 => countOf C n + ((List.range n).filter fun j => C n j).length
theorem lots_one : ∀ n : Nat, (lots n).filter (fun l => decide (l.length = 1)) = (List.range n).map fun i => [i]
  | 0 => rfl
  | n + 1 => by
    have h0 : ∀ n, (lots n).filter (fun l => decide (l.length = 0)) = [[]] := by
      intro n
      induction n with
      | zero => rfl
      | succ n ih =>
        unfold lots
        rw [List.filter_append, ih, List.filter_map]
        have : (lots n).filter ((fun l => decide (l.length = 0)) ∘ fun x => x ++ [n]) = [] := by
          rw [List.filter_eq_nil_iff]
          intro l _
          simp
        rw [this]; rfl
    unfold lots
    rw [List.filter_append, lots_one n, List.filter_map, List.range_succ, List.map_append]
    have : (lots n).filter ((fun l => decide (l.length = 1)) ∘ fun x => x ++ [n]) = (lots n).filter (fun l => decide (l.length = 0)) := by
      refine List.filter_congr fun l _ => ?_
      simp
    rw [this, h0]
    rfl
theorem pairs_count {C : Nat → Nat → Bool} (hc : ∀ i j, C i j = C j i) : ∀ n : Nat, (pairsOf C n).length = countOf C n
  | 0 => by simp [pairsOf, lots, countOf]
  | n + 1 => by
    have ih := pairs_count hc n
    unfold pairsOf at ih ⊢
    unfold lots countOf
    rw [List.filter_append, List.length_append, ih, List.filter_map, List.length_map]
    congr 1
    have h1 : (lots n).filter ((fun l => decide (l.length = 2) && C (l.getD 0 0) (l.getD 1 0)) ∘ fun x => x ++ [n]) = ((lots n).filter (fun l => decide (l.length = 1))).filter (fun l => C (l.getD 0 0) n) := by
      rw [List.filter_filter]
      refine List.filter_congr fun l _ => ?_
      show (decide ((l ++ [n]).length = 2) && C ((l ++ [n]).getD 0 0) ((l ++ [n]).getD 1 0)) = (C (l.getD 0 0) n && decide (l.length = 1))
      match l with
      | [] => simp
      | [x] => simp
      | x :: y :: r => simp
    rw [h1, lots_one, List.filter_map, List.length_map]
    congr 1
    refine List.filter_congr fun j _ => ?_
    show C j n = C n j
    exact hc j n
end Rs

set_option Elab.async false
set_option linter.all false
set_option maxRecDepth 100000
set_option maxHeartbeats 0
namespace RsH
open PySem PySem.Spec PyProof.Rows L2 He
/-! ### the text by places -/
def topS (i : Nat) : Stmt := PySem.Challenge.pw_runcolumns_k40_whole_rising.main.body.getD i (.Pass ⟨0, 0, 0, 0⟩)
abbrev inC (i j : Nat) : Stmt := inClass (topS i) j
/-- a def of the module; a class's -/
def dG (x : Str) (i : Nat) : DefD := ⟨(x, none), x, x, defArgs (topS i), defBody (topS i), defScope (topS i), [], []⟩
def dM (C m q : Str) (i j : Nat) : DefD := ⟨(C, some m), m, q, defArgs (inC i j), defBody (inC i j), defScope (inC i j), [], []⟩
def fn : List DefD := [dG "is_number" 11, dG "is_row" 12, dG "width_of" 13, dM "Table" "__init__" "Table.__init__" 14 0, dM "Table" "__len__" "Table.__len__" 14 2,
  dG "is_order" 15, dG "check_table" 16, dG "check_columns" 18,
  dM "Rising" "__init__" "Rising.__init__" 20 0, dM "Rising" "shows" "Rising.shows" 20 2,
  dM "Crossing" "__init__" "Crossing.__init__" 21 0, dM "Crossing" "__eq__" "Crossing.__eq__" 21 1, dM "Crossing" "shows" "Crossing.shows" 21 2,
  dM "Risen" "__init__" "Risen.__init__" 22 0, dM "Risen" "__eq__" "Risen.__eq__" 22 1, dM "Risen" "shows" "Risen.shows" 22 2,
  dG "check_told" 23, dG "is_below" 24, dG "cross" 25, dG "rises" 26, dG "by_sums" 27, dG "rise_together" 28, dG "count_crossing" 29, dG "lead" 30, dG "pieces_of" 31, dG "crossing_rows" 32, dG "cut_rising" 33, dG "fewest_rising" 34,
  dG "_law_number" 36, dG "_law_rows" 37, dG "_law_lots" 38, dG "_law_cross" 39, dG "_law_rise" 40, dG "_law_all_cross" 41, dG "_law_pieces_right" 42, dG "_law_wrong_right" 43, dG "_law_drawn_right" 44, dG "law" 45]
def fa : List Fa := [.glo "is_number", .glo "is_row", .glo "width_of", .glo "Table", .glo "is_order", .glo "check_table", .glo "check_columns", .glo "Rising", .glo "Crossing", .glo "Risen", .glo "check_told", .glo "is_below", .glo "cross", .glo "rises", .glo "by_sums",
  .glo "rise_together", .glo "count_crossing", .glo "lead", .glo "pieces_of", .glo "crossing_rows", .glo "cut_rising", .glo "fewest_rising", .glo "_law_number", .glo "_law_rows", .glo "_law_lots", .glo "_law_cross", .glo "_law_rise", .glo "_law_all_cross",
  .glo "_law_pieces_right", .glo "_law_wrong_right", .glo "_law_drawn_right", .glo "law",
  .free "isinstance", .free "int", .free "bool", .free "tuple", .free "list", .free "len", .free "all", .free "any", .free "sum", .free "sorted", .free "range", .free "zip", .free "enumerate", .free "min", .free "max", .free "set",
  .int "MOST_ROWS" 10, .int "MOST_COLUMNS" 4, .int "MOST_VALUE" 6,
  .cls "Table", .cls "Rising", .cls "Crossing", .cls "Risen",
  .noat "Table" "rows", .noat "Rising" "order", .noat "Crossing" "one", .noat "Crossing" "other", .noat "Risen" "pieces", .noat "Risen" "crossing",
  .meth "Table" "__len__", .meth "Rising" "shows", .meth "Crossing" "shows", .meth "Crossing" "__eq__", .meth "Risen" "shows", .meth "Risen" "__eq__",
  .mkr "Table", .mkr "Rising", .mkr "Crossing", .mkr "Risen"]
def tf : List Defn := [("by_sums", none), ("_law_drawn_right", none)]
/-- the property width: the object, its getter -/
def pw (K : PySem.W.Frag) : Addr := ma K (ga K "Table") "width"
def gw (K : PySem.W.Frag) : Addr := match PySem.W.recIn K (pw K) "property" with
  | some (.ref g :: _) => g
  | _ => 0
def kit (K : PySem.W.Frag) (x y : Str) (b : Bool) : Bool := decide (PySem.W.kitOne K (.ref (ga K x)) (.ref (ga K y)) = some b)
def clsB (K : PySem.W.Frag) (x : Str) : Bool := eqO (PySem.W.findIn K (.ref (ga K x)) "__class__") (some (some (.builtin "object.__class__"))) && decide (PySem.W.mroIn K (ga K x) (.type "object") = some true)
def ex (K : PySem.W.Frag) : Bool :=
  eqO (PySem.W.findIn K (.ref (ga K "Table")) "width") (some (some (.ref (pw K)))) && eqO (PySem.W.specialIn K (.ref (pw K)) "__get__") (some (some (.builtin "property.__get__"))) && decide (PySem.W.takesIn K (.ref (pw K)) = some true)
  && (match PySem.W.recIn K (pw K) "property" with
    | some (.ref _ :: _) => true
    | _ => false)
  && eqO (PySem.W.findIn K (.ref (ga K "Risen")) "__ne__") (some (some (.builtin "object.__ne__")))
  && kit K "Table" "Table" true && kit K "Rising" "Rising" true && kit K "Crossing" "Crossing" true && kit K "Risen" "Risen" true && kit K "Rising" "Crossing" false && kit K "Crossing" "Rising" false && kit K "Rising" "Risen" false
  && PySem.W.notFirst K (ga K "Risen") (.ref (ga K "Rising"))
  && eqO (PySem.W.specialIn K (.builtin "object.__class__") "__get__") (some (some (.builtin "getset_descriptor.__get__"))) && decide (PySem.W.takesIn K (.builtin "object.__class__") = some true)
  && clsB K "Table" && clsB K "Rising" && clsB K "Crossing" && clsB K "Risen"
/-- the getter of width -/
def fnP (K : PySem.W.Frag) : FnW := match K.lookup (gw K) with
  | some ⟨_, _, .func fd, _⟩ => some (fd.name, fd.qualname, fd.params, fd.body, fd.scope, fd.globals, fd.closure, fd.builtins)
  | _ => none
def dW : DefD := ⟨("width", none), "width", "Table.width", defArgs (inC 14 5), defBody (inC 14 5), defScope (inC 14 5), [], []⟩
def okW (K : PySem.W.Frag) : Bool := match K.lookup (gw K) with
  | some ⟨_, _, .func fd, _⟩ => PySem.W.codeIn K fd.code "Table.width" && (match fd.defaults with | .none => true | _ => false)
  | _ => false
def ex2 (K : PySem.W.Frag) : Bool := ex K && okW K && decide ((cT K ("by_sums", none)).2 ≠ (cT K ("_law_drawn_right", none)).2)
/-! ### the Hook -/
abbrev AlP : Type := AlX × FnW
def obsP (n : Nat) (g : Addr → Option Obj) : AlP := (obsX n fa fn [] tf ex2 g, fnP (frT g (asD g n)))
def hookP (n : Nat) : PySem.W.Hook where
  α := AlP
  obs := fun s => obsP n s.heap.get?
  val := fun w => (valX fn [] w, dW.val)
  says := fun w h => ∃ K : PySem.W.Frag, K.In h ∧ SaysX fa fn [] tf ex2 w h K ∧ fnP K = dW.val
  of := fun _ _ e => ⟨_, frT_in, saysX_of (congrArg (fun z : AlP => z.1) e), congrArg (fun z : AlP => z.2) e⟩
  keeps := fun _ _ _ ⟨K, hK, c, d⟩ k => ⟨K, PySem.W.Frag.In.keeps hK k, ⟨c.t, c.more, c.hd, c.out, fun p hp => k _ _ (c.empty p hp)⟩, d⟩
theorem obsP_eq {n : Nat} {g : Addr → Option Obj} {s : Shared} (h : ∀ a, g a = s.heap.get? a) : obsP n g = (hookP n).obs s := by
  have e : g = s.heap.get? := funext h
  rw [e] <;> rfl
abbrev R : PySem.W.OpenRow := PySem.W.OpenLaw.row PySem.Challenge.rw_runcolumns_k40_whole_rising
abbrev hk : PySem.W.Hook := hookP 5
def ob (s : PySem.W.SharedT) : AlP := obsP 5 (HandSHeadRun.getT s)
theorem ob_eq (s : PySem.W.SharedT) : ob s = hk.obs s.abs := obsP_eq (HandSHeadRun.getT_eq s)
def names : List PySem.Str := (["_wall", "ColumnError", "BadRows", "BadTable", "BadIndex", "BadColumn", "MOST_ROWS", "MOST_COLUMNS", "MOST_VALUE", "is_number", "is_row", "width_of", "Table", "is_order", "check_table", "check_column", "check_columns", "Rising", "Crossing", "Risen"] : List PySem.Str) ++
  (["check_told", "is_below", "cross", "rises", "by_sums", "rise_together", "count_crossing", "lead", "pieces_of", "crossing_rows", "cut_rising", "fewest_rising", "_law_number", "_law_rows", "_law_lots", "_law_cross", "_law_rise", "_law_all_cross", "_law_pieces_right", "_law_wrong_right", "_law_drawn_right"] : List PySem.Str)
theorem run (w : World) : HandSHeadRun.RunEq R (PySem.W.view R.prog [45]) hk ob 8000 names w := by
  intro os
  kernel_rfl
end RsH

set_option Elab.async false
set_option linter.all false
set_option maxRecDepth 100000
set_option maxHeartbeats 4000000
namespace Rs
open PySem PySem.Spec PyProof.Rows L2 He RsH
/-! ### what is known of the text behind its top -/
abbrev FnG (K : PySem.W.Frag) (x : Str) (st : Stmt) (fd : FuncData) : Prop := FunD K x x (defArgs st) (defBody st) (defScope st) [] [] (ga K x) fd
abbrev FnM (K : PySem.W.Frag) (C m q : Str) (st : Stmt) (fd : FuncData) : Prop := FunD K m q (defArgs st) (defBody st) (defScope st) [] [] (ma K (ga K C) m) fd
structure Txt (w : World) (K : PySem.W.Frag) (h : Heap) (mg : Str → Option Value) : Prop where
  X : K.In h
  G : h.Ns mainGlobals mg
  c : SaysX fa fn [] tf ex2 w h K
  g : fnP K = dW.val
section
variable {w : World} {K : PySem.W.Frag} {h : Heap} {mg : Str → Option Value}
theorem Txt.fact (T : Txt w K h mg) (i : Nat) {f : Fa} (hi : fa[i]? = some f := by rfl) : f.ok K = true := T.c.t.d.fact i hi
theorem Txt.g_is_number (T : Txt w K h mg) : mg "is_number" = some (.ref (ga K "is_number")) := glo_ok T.X T.G (T.fact 0 (f := .glo "is_number") rfl)
theorem Txt.g_is_row (T : Txt w K h mg) : mg "is_row" = some (.ref (ga K "is_row")) := glo_ok T.X T.G (T.fact 1 (f := .glo "is_row") rfl)
theorem Txt.g_width_of (T : Txt w K h mg) : mg "width_of" = some (.ref (ga K "width_of")) := glo_ok T.X T.G (T.fact 2 (f := .glo "width_of") rfl)
theorem Txt.g_Table (T : Txt w K h mg) : mg "Table" = some (.ref (ga K "Table")) := glo_ok T.X T.G (T.fact 3 (f := .glo "Table") rfl)
theorem Txt.g_is_order (T : Txt w K h mg) : mg "is_order" = some (.ref (ga K "is_order")) := glo_ok T.X T.G (T.fact 4 (f := .glo "is_order") rfl)
theorem Txt.g_check_table (T : Txt w K h mg) : mg "check_table" = some (.ref (ga K "check_table")) := glo_ok T.X T.G (T.fact 5 (f := .glo "check_table") rfl)
theorem Txt.g_check_columns (T : Txt w K h mg) : mg "check_columns" = some (.ref (ga K "check_columns")) := glo_ok T.X T.G (T.fact 6 (f := .glo "check_columns") rfl)
theorem Txt.g_Rising (T : Txt w K h mg) : mg "Rising" = some (.ref (ga K "Rising")) := glo_ok T.X T.G (T.fact 7 (f := .glo "Rising") rfl)
theorem Txt.g_Crossing (T : Txt w K h mg) : mg "Crossing" = some (.ref (ga K "Crossing")) := glo_ok T.X T.G (T.fact 8 (f := .glo "Crossing") rfl)
theorem Txt.g_Risen (T : Txt w K h mg) : mg "Risen" = some (.ref (ga K "Risen")) := glo_ok T.X T.G (T.fact 9 (f := .glo "Risen") rfl)
theorem Txt.g_check_told (T : Txt w K h mg) : mg "check_told" = some (.ref (ga K "check_told")) := glo_ok T.X T.G (T.fact 10 (f := .glo "check_told") rfl)
theorem Txt.g_is_below (T : Txt w K h mg) : mg "is_below" = some (.ref (ga K "is_below")) := glo_ok T.X T.G (T.fact 11 (f := .glo "is_below") rfl)
theorem Txt.g_cross (T : Txt w K h mg) : mg "cross" = some (.ref (ga K "cross")) := glo_ok T.X T.G (T.fact 12 (f := .glo "cross") rfl)
theorem Txt.g_rises (T : Txt w K h mg) : mg "rises" = some (.ref (ga K "rises")) := glo_ok T.X T.G (T.fact 13 (f := .glo "rises") rfl)
theorem Txt.g_by_sums (T : Txt w K h mg) : mg "by_sums" = some (.ref (ga K "by_sums")) := glo_ok T.X T.G (T.fact 14 (f := .glo "by_sums") rfl)
theorem Txt.g_rise_together (T : Txt w K h mg) : mg "rise_together" = some (.ref (ga K "rise_together")) := glo_ok T.X T.G (T.fact 15 (f := .glo "rise_together") rfl)
theorem Txt.g_count_crossing (T : Txt w K h mg) : mg "count_crossing" = some (.ref (ga K "count_crossing")) := glo_ok T.X T.G (T.fact 16 (f := .glo "count_crossing") rfl)
theorem Txt.g_lead (T : Txt w K h mg) : mg "lead" = some (.ref (ga K "lead")) := glo_ok T.X T.G (T.fact 17 (f := .glo "lead") rfl)
theorem Txt.g_pieces_of (T : Txt w K h mg) : mg "pieces_of" = some (.ref (ga K "pieces_of")) := glo_ok T.X T.G (T.fact 18 (f := .glo "pieces_of") rfl)
theorem Txt.g_crossing_rows (T : Txt w K h mg) : mg "crossing_rows" = some (.ref (ga K "crossing_rows")) := glo_ok T.X T.G (T.fact 19 (f := .glo "crossing_rows") rfl)
theorem Txt.g_cut_rising (T : Txt w K h mg) : mg "cut_rising" = some (.ref (ga K "cut_rising")) := glo_ok T.X T.G (T.fact 20 (f := .glo "cut_rising") rfl)
theorem Txt.g_fewest_rising (T : Txt w K h mg) : mg "fewest_rising" = some (.ref (ga K "fewest_rising")) := glo_ok T.X T.G (T.fact 21 (f := .glo "fewest_rising") rfl)
theorem Txt.g__law_number (T : Txt w K h mg) : mg "_law_number" = some (.ref (ga K "_law_number")) := glo_ok T.X T.G (T.fact 22 (f := .glo "_law_number") rfl)
theorem Txt.g__law_rows (T : Txt w K h mg) : mg "_law_rows" = some (.ref (ga K "_law_rows")) := glo_ok T.X T.G (T.fact 23 (f := .glo "_law_rows") rfl)
theorem Txt.g__law_lots (T : Txt w K h mg) : mg "_law_lots" = some (.ref (ga K "_law_lots")) := glo_ok T.X T.G (T.fact 24 (f := .glo "_law_lots") rfl)
theorem Txt.g__law_cross (T : Txt w K h mg) : mg "_law_cross" = some (.ref (ga K "_law_cross")) := glo_ok T.X T.G (T.fact 25 (f := .glo "_law_cross") rfl)
theorem Txt.g__law_rise (T : Txt w K h mg) : mg "_law_rise" = some (.ref (ga K "_law_rise")) := glo_ok T.X T.G (T.fact 26 (f := .glo "_law_rise") rfl)
theorem Txt.g__law_all_cross (T : Txt w K h mg) : mg "_law_all_cross" = some (.ref (ga K "_law_all_cross")) := glo_ok T.X T.G (T.fact 27 (f := .glo "_law_all_cross") rfl)
theorem Txt.g__law_pieces_right (T : Txt w K h mg) : mg "_law_pieces_right" = some (.ref (ga K "_law_pieces_right")) := glo_ok T.X T.G (T.fact 28 (f := .glo "_law_pieces_right") rfl)
theorem Txt.g__law_wrong_right (T : Txt w K h mg) : mg "_law_wrong_right" = some (.ref (ga K "_law_wrong_right")) := glo_ok T.X T.G (T.fact 29 (f := .glo "_law_wrong_right") rfl)
theorem Txt.g__law_drawn_right (T : Txt w K h mg) : mg "_law_drawn_right" = some (.ref (ga K "_law_drawn_right")) := glo_ok T.X T.G (T.fact 30 (f := .glo "_law_drawn_right") rfl)
theorem Txt.g_law (T : Txt w K h mg) : mg "law" = some (.ref (ga K "law")) := glo_ok T.X T.G (T.fact 31 (f := .glo "law") rfl)
theorem Txt.z_isinstance (T : Txt w K h mg) : mg "isinstance" = none := free_ok T.X T.G (T.fact 32 (f := .free "isinstance") rfl)
theorem Txt.z_int (T : Txt w K h mg) : mg "int" = none := free_ok T.X T.G (T.fact 33 (f := .free "int") rfl)
theorem Txt.z_bool (T : Txt w K h mg) : mg "bool" = none := free_ok T.X T.G (T.fact 34 (f := .free "bool") rfl)
theorem Txt.z_tuple (T : Txt w K h mg) : mg "tuple" = none := free_ok T.X T.G (T.fact 35 (f := .free "tuple") rfl)
theorem Txt.z_list (T : Txt w K h mg) : mg "list" = none := free_ok T.X T.G (T.fact 36 (f := .free "list") rfl)
theorem Txt.z_len (T : Txt w K h mg) : mg "len" = none := free_ok T.X T.G (T.fact 37 (f := .free "len") rfl)
theorem Txt.z_all (T : Txt w K h mg) : mg "all" = none := free_ok T.X T.G (T.fact 38 (f := .free "all") rfl)
theorem Txt.z_any (T : Txt w K h mg) : mg "any" = none := free_ok T.X T.G (T.fact 39 (f := .free "any") rfl)
theorem Txt.z_sum (T : Txt w K h mg) : mg "sum" = none := free_ok T.X T.G (T.fact 40 (f := .free "sum") rfl)
theorem Txt.z_sorted (T : Txt w K h mg) : mg "sorted" = none := free_ok T.X T.G (T.fact 41 (f := .free "sorted") rfl)
theorem Txt.z_range (T : Txt w K h mg) : mg "range" = none := free_ok T.X T.G (T.fact 42 (f := .free "range") rfl)
theorem Txt.z_zip (T : Txt w K h mg) : mg "zip" = none := free_ok T.X T.G (T.fact 43 (f := .free "zip") rfl)
theorem Txt.z_enumerate (T : Txt w K h mg) : mg "enumerate" = none := free_ok T.X T.G (T.fact 44 (f := .free "enumerate") rfl)
theorem Txt.z_min (T : Txt w K h mg) : mg "min" = none := free_ok T.X T.G (T.fact 45 (f := .free "min") rfl)
theorem Txt.z_max (T : Txt w K h mg) : mg "max" = none := free_ok T.X T.G (T.fact 46 (f := .free "max") rfl)
theorem Txt.z_set (T : Txt w K h mg) : mg "set" = none := free_ok T.X T.G (T.fact 47 (f := .free "set") rfl)
theorem Txt.i_MOST_ROWS (T : Txt w K h mg) : ∃ t, mg "MOST_ROWS" = some (.int 10 t) := int_ok T.X T.G (T.fact 48 (f := .int "MOST_ROWS" 10) rfl)
theorem Txt.i_MOST_COLUMNS (T : Txt w K h mg) : ∃ t, mg "MOST_COLUMNS" = some (.int 4 t) := int_ok T.X T.G (T.fact 49 (f := .int "MOST_COLUMNS" 4) rfl)
theorem Txt.i_MOST_VALUE (T : Txt w K h mg) : ∃ t, mg "MOST_VALUE" = some (.int 6 t) := int_ok T.X T.G (T.fact 50 (f := .int "MOST_VALUE" 6) rfl)
theorem Txt.c_Table (T : Txt w K h mg) : Cls K (ga K "Table") := cls_ok (T.fact 51 (f := .cls "Table") rfl)
theorem Txt.c_Rising (T : Txt w K h mg) : Cls K (ga K "Rising") := cls_ok (T.fact 52 (f := .cls "Rising") rfl)
theorem Txt.c_Crossing (T : Txt w K h mg) : Cls K (ga K "Crossing") := cls_ok (T.fact 53 (f := .cls "Crossing") rfl)
theorem Txt.c_Risen (T : Txt w K h mg) : Cls K (ga K "Risen") := cls_ok (T.fact 54 (f := .cls "Risen") rfl)
theorem Txt.n_Table_rows (T : Txt w K h mg) : NoAttr K (ga K "Table") "rows" := noat_ok (T.fact 55 (f := .noat "Table" "rows") rfl)
theorem Txt.n_Rising_order (T : Txt w K h mg) : NoAttr K (ga K "Rising") "order" := noat_ok (T.fact 56 (f := .noat "Rising" "order") rfl)
theorem Txt.n_Crossing_one (T : Txt w K h mg) : NoAttr K (ga K "Crossing") "one" := noat_ok (T.fact 57 (f := .noat "Crossing" "one") rfl)
theorem Txt.n_Crossing_other (T : Txt w K h mg) : NoAttr K (ga K "Crossing") "other" := noat_ok (T.fact 58 (f := .noat "Crossing" "other") rfl)
theorem Txt.n_Risen_pieces (T : Txt w K h mg) : NoAttr K (ga K "Risen") "pieces" := noat_ok (T.fact 59 (f := .noat "Risen" "pieces") rfl)
theorem Txt.n_Risen_crossing (T : Txt w K h mg) : NoAttr K (ga K "Risen") "crossing" := noat_ok (T.fact 60 (f := .noat "Risen" "crossing") rfl)
theorem Txt.m_Table_len (T : Txt w K h mg) : Meth K (ga K "Table") "__len__" (ma K (ga K "Table") "__len__") := meth_ok (T.fact 61 (f := .meth "Table" "__len__") rfl)
theorem Txt.m_Rising_shows (T : Txt w K h mg) : Meth K (ga K "Rising") "shows" (ma K (ga K "Rising") "shows") := meth_ok (T.fact 62 (f := .meth "Rising" "shows") rfl)
theorem Txt.m_Crossing_shows (T : Txt w K h mg) : Meth K (ga K "Crossing") "shows" (ma K (ga K "Crossing") "shows") := meth_ok (T.fact 63 (f := .meth "Crossing" "shows") rfl)
theorem Txt.m_Crossing_eq (T : Txt w K h mg) : Meth K (ga K "Crossing") "__eq__" (ma K (ga K "Crossing") "__eq__") := meth_ok (T.fact 64 (f := .meth "Crossing" "__eq__") rfl)
theorem Txt.m_Risen_shows (T : Txt w K h mg) : Meth K (ga K "Risen") "shows" (ma K (ga K "Risen") "shows") := meth_ok (T.fact 65 (f := .meth "Risen" "shows") rfl)
theorem Txt.m_Risen_eq (T : Txt w K h mg) : Meth K (ga K "Risen") "__eq__" (ma K (ga K "Risen") "__eq__") := meth_ok (T.fact 66 (f := .meth "Risen" "__eq__") rfl)
theorem Txt.k_Table (T : Txt w K h mg) : Mk K (ga K "Table") (ma K (ga K "Table") "__init__") := mkr_ok (T.fact 67 (f := .mkr "Table") rfl)
theorem Txt.k_Rising (T : Txt w K h mg) : Mk K (ga K "Rising") (ma K (ga K "Rising") "__init__") := mkr_ok (T.fact 68 (f := .mkr "Rising") rfl)
theorem Txt.k_Crossing (T : Txt w K h mg) : Mk K (ga K "Crossing") (ma K (ga K "Crossing") "__init__") := mkr_ok (T.fact 69 (f := .mkr "Crossing") rfl)
theorem Txt.k_Risen (T : Txt w K h mg) : Mk K (ga K "Risen") (ma K (ga K "Risen") "__init__") := mkr_ok (T.fact 70 (f := .mkr "Risen") rfl)
theorem Txt.f_is_number (T : Txt w K h mg) : ∃ fd, FnG K "is_number" (topS 11) fd := T.c.t.d.def_ 0 (d := dG "is_number" 11) rfl
theorem Txt.f_is_row (T : Txt w K h mg) : ∃ fd, FnG K "is_row" (topS 12) fd := T.c.t.d.def_ 1 (d := dG "is_row" 12) rfl
theorem Txt.f_width_of (T : Txt w K h mg) : ∃ fd, FnG K "width_of" (topS 13) fd := T.c.t.d.def_ 2 (d := dG "width_of" 13) rfl
theorem Txt.f_Table_init (T : Txt w K h mg) : ∃ fd, FnM K "Table" "__init__" "Table.__init__" (inC 14 0) fd := T.c.t.d.def_ 3 (d := dM "Table" "__init__" "Table.__init__" 14 0) rfl
theorem Txt.f_Table_len (T : Txt w K h mg) : ∃ fd, FnM K "Table" "__len__" "Table.__len__" (inC 14 2) fd := T.c.t.d.def_ 4 (d := dM "Table" "__len__" "Table.__len__" 14 2) rfl
theorem Txt.f_is_order (T : Txt w K h mg) : ∃ fd, FnG K "is_order" (topS 15) fd := T.c.t.d.def_ 5 (d := dG "is_order" 15) rfl
theorem Txt.f_check_table (T : Txt w K h mg) : ∃ fd, FnG K "check_table" (topS 16) fd := T.c.t.d.def_ 6 (d := dG "check_table" 16) rfl
theorem Txt.f_check_columns (T : Txt w K h mg) : ∃ fd, FnG K "check_columns" (topS 18) fd := T.c.t.d.def_ 7 (d := dG "check_columns" 18) rfl
theorem Txt.f_Rising_init (T : Txt w K h mg) : ∃ fd, FnM K "Rising" "__init__" "Rising.__init__" (inC 20 0) fd := T.c.t.d.def_ 8 (d := dM "Rising" "__init__" "Rising.__init__" 20 0) rfl
theorem Txt.f_Rising_shows (T : Txt w K h mg) : ∃ fd, FnM K "Rising" "shows" "Rising.shows" (inC 20 2) fd := T.c.t.d.def_ 9 (d := dM "Rising" "shows" "Rising.shows" 20 2) rfl
theorem Txt.f_Crossing_init (T : Txt w K h mg) : ∃ fd, FnM K "Crossing" "__init__" "Crossing.__init__" (inC 21 0) fd := T.c.t.d.def_ 10 (d := dM "Crossing" "__init__" "Crossing.__init__" 21 0) rfl
theorem Txt.f_Crossing_eq (T : Txt w K h mg) : ∃ fd, FnM K "Crossing" "__eq__" "Crossing.__eq__" (inC 21 1) fd := T.c.t.d.def_ 11 (d := dM "Crossing" "__eq__" "Crossing.__eq__" 21 1) rfl
theorem Txt.f_Crossing_shows (T : Txt w K h mg) : ∃ fd, FnM K "Crossing" "shows" "Crossing.shows" (inC 21 2) fd := T.c.t.d.def_ 12 (d := dM "Crossing" "shows" "Crossing.shows" 21 2) rfl
theorem Txt.f_Risen_init (T : Txt w K h mg) : ∃ fd, FnM K "Risen" "__init__" "Risen.__init__" (inC 22 0) fd := T.c.t.d.def_ 13 (d := dM "Risen" "__init__" "Risen.__init__" 22 0) rfl
theorem Txt.f_Risen_eq (T : Txt w K h mg) : ∃ fd, FnM K "Risen" "__eq__" "Risen.__eq__" (inC 22 1) fd := T.c.t.d.def_ 14 (d := dM "Risen" "__eq__" "Risen.__eq__" 22 1) rfl
theorem Txt.f_Risen_shows (T : Txt w K h mg) : ∃ fd, FnM K "Risen" "shows" "Risen.shows" (inC 22 2) fd := T.c.t.d.def_ 15 (d := dM "Risen" "shows" "Risen.shows" 22 2) rfl
theorem Txt.f_check_told (T : Txt w K h mg) : ∃ fd, FnG K "check_told" (topS 23) fd := T.c.t.d.def_ 16 (d := dG "check_told" 23) rfl
theorem Txt.f_is_below (T : Txt w K h mg) : ∃ fd, FnG K "is_below" (topS 24) fd := T.c.t.d.def_ 17 (d := dG "is_below" 24) rfl
theorem Txt.f_cross (T : Txt w K h mg) : ∃ fd, FnG K "cross" (topS 25) fd := T.c.t.d.def_ 18 (d := dG "cross" 25) rfl
theorem Txt.f_rises (T : Txt w K h mg) : ∃ fd, FnG K "rises" (topS 26) fd := T.c.t.d.def_ 19 (d := dG "rises" 26) rfl
theorem Txt.f_by_sums (T : Txt w K h mg) : ∃ fd, FnG K "by_sums" (topS 27) fd := T.c.t.d.def_ 20 (d := dG "by_sums" 27) rfl
theorem Txt.f_rise_together (T : Txt w K h mg) : ∃ fd, FnG K "rise_together" (topS 28) fd := T.c.t.d.def_ 21 (d := dG "rise_together" 28) rfl
theorem Txt.f_count_crossing (T : Txt w K h mg) : ∃ fd, FnG K "count_crossing" (topS 29) fd := T.c.t.d.def_ 22 (d := dG "count_crossing" 29) rfl
theorem Txt.f_lead (T : Txt w K h mg) : ∃ fd, FnG K "lead" (topS 30) fd := T.c.t.d.def_ 23 (d := dG "lead" 30) rfl
theorem Txt.f_pieces_of (T : Txt w K h mg) : ∃ fd, FnG K "pieces_of" (topS 31) fd := T.c.t.d.def_ 24 (d := dG "pieces_of" 31) rfl
theorem Txt.f_crossing_rows (T : Txt w K h mg) : ∃ fd, FnG K "crossing_rows" (topS 32) fd := T.c.t.d.def_ 25 (d := dG "crossing_rows" 32) rfl
theorem Txt.f_cut_rising (T : Txt w K h mg) : ∃ fd, FnG K "cut_rising" (topS 33) fd := T.c.t.d.def_ 26 (d := dG "cut_rising" 33) rfl
theorem Txt.f_fewest_rising (T : Txt w K h mg) : ∃ fd, FnG K "fewest_rising" (topS 34) fd := T.c.t.d.def_ 27 (d := dG "fewest_rising" 34) rfl
theorem Txt.f__law_number (T : Txt w K h mg) : ∃ fd, FnG K "_law_number" (topS 36) fd := T.c.t.d.def_ 28 (d := dG "_law_number" 36) rfl
theorem Txt.f__law_rows (T : Txt w K h mg) : ∃ fd, FnG K "_law_rows" (topS 37) fd := T.c.t.d.def_ 29 (d := dG "_law_rows" 37) rfl
theorem Txt.f__law_lots (T : Txt w K h mg) : ∃ fd, FnG K "_law_lots" (topS 38) fd := T.c.t.d.def_ 30 (d := dG "_law_lots" 38) rfl
theorem Txt.f__law_cross (T : Txt w K h mg) : ∃ fd, FnG K "_law_cross" (topS 39) fd := T.c.t.d.def_ 31 (d := dG "_law_cross" 39) rfl
theorem Txt.f__law_rise (T : Txt w K h mg) : ∃ fd, FnG K "_law_rise" (topS 40) fd := T.c.t.d.def_ 32 (d := dG "_law_rise" 40) rfl
theorem Txt.f__law_all_cross (T : Txt w K h mg) : ∃ fd, FnG K "_law_all_cross" (topS 41) fd := T.c.t.d.def_ 33 (d := dG "_law_all_cross" 41) rfl
theorem Txt.f__law_pieces_right (T : Txt w K h mg) : ∃ fd, FnG K "_law_pieces_right" (topS 42) fd := T.c.t.d.def_ 34 (d := dG "_law_pieces_right" 42) rfl
theorem Txt.f__law_wrong_right (T : Txt w K h mg) : ∃ fd, FnG K "_law_wrong_right" (topS 43) fd := T.c.t.d.def_ 35 (d := dG "_law_wrong_right" 43) rfl
theorem Txt.f__law_drawn_right (T : Txt w K h mg) : ∃ fd, FnG K "_law_drawn_right" (topS 44) fd := T.c.t.d.def_ 36 (d := dG "_law_drawn_right" 44) rfl
theorem Txt.f_law (T : Txt w K h mg) : ∃ fd, FnG K "law" (topS 45) fd := T.c.t.d.def_ 37 (d := dG "law" 45) rfl
end
/-! ### a def and its promise -/
section
variable {P : Program} {w : World} {K : PySem.W.Frag} {mg : Str → Option Value} {base : Heap}
abbrev Cal0 (P : Program) (w : World) (K : PySem.W.Frag) (mg : Str → Option Value) (base : Heap) (k : Nat) (x : Str) (sp : Sp) : Prop := C8.Cal P w K mg base k x sp []
abbrev Met0 (P : Program) (w : World) (K : PySem.W.Frag) (mg : Str → Option Value) (base : Heap) (k : Nat) (C m : Str) (sp : Sp) : Prop := C8.Met P w K mg base k (ga K C) m sp []
abbrev Mak0 (P : Program) (w : World) (K : PySem.W.Frag) (mg : Str → Option Value) (base : Heap) (k : Nat) (C : Str) (sp : Sp) : Prop := C8.Mak P w K mg base k C (ga K C) sp []
theorem fn_ok {x q : Str} {st : Stmt} {f : Addr} {fd : FuncData} {N ps : List Str} {k : Nat} {sp : Sp} (F : FunD K x q (defArgs st) (defBody st) (defScope st) [] [] f fd) (S : FnScope N ps (defScope st)) (len : ∀ vs H Q E, sp vs H Q E → vs.length = ps.length)
    (hbody : ∀ (cdv : Value) (A : Around) (outer : List Env) (s : Shared) (H : Hp) (vs : List V) (Q : VK) (E : XK), Room k (A.deeper (envOfC q (defScope st) s.heap.objs.size f cdv)) → sp vs H Q E →
      ∃ t, PSs (cxOf L2.CX0 P w K mg base N q (defScope st) f cdv A outer s H E).nox (defBody st) t ∧ t { nx := fun _ H' => Q .non H', rt := Q } (start N vs) H) : FnOk P w K mg base L2.CX0 (k + 1) f fd ps sp := by
  refine F.ok S len fun cdv A outer s H vs Q E hr h => ?_
  obtain ⟨t, a, b⟩ := hbody cdv A outer s H vs Q E hr h
  exact ⟨t, a.nox, b⟩
theorem cal_of {x : Str} {st : Stmt} {fd : FuncData} {N ps : List Str} {k : Nat} {sp : Sp} (F : FnG K x st fd) (hm : mg x = some (.ref (ga K x))) (S : FnScope N ps (defScope st)) (len : ∀ vs H Q E, sp vs H Q E → vs.length = ps.length)
    (hb : ∀ (kV doc pm : Value) (an : Option Addr) (cdv ct : Value) (us : List Value), us.length = ps.length → bindArgs (PySem.W.fnOf x x (defArgs st) (defBody st) (defScope st) .none kV doc pm an cdv ct) ⟨us, []⟩ = pure (ps.zip us))
    (hbody : ∀ (cdv : Value) (A : Around) (outer : List Env) (s : Shared) (H : Hp) (vs : List V) (Q : VK) (E : XK), Room k (A.deeper (envOfC x (defScope st) s.heap.objs.size (ga K x) cdv)) → sp vs H Q E →
      ∃ t, PSs (cxOf L2.CX0 P w K mg base N x (defScope st) (ga K x) cdv A outer s H E).nox (defBody st) t ∧ t { nx := fun _ H' => Q .non H', rt := Q } (start N vs) H) : Cal0 P w K mg base (k + 1) x sp :=
  ⟨_, fd, ps, [], fn_ok F S len hbody, hm, F.kp, F.bindsN hb, .nil⟩
theorem met_of {C m q : Str} {st : Stmt} {fd : FuncData} {N ps : List Str} {k : Nat} {sp : Sp} (F : FnM K C m q st fd) (c : Cls K (ga K C)) (me : Meth K (ga K C) m (ma K (ga K C) m)) (S : FnScope N ps (defScope st)) (len : ∀ vs H Q E, sp vs H Q E → vs.length = ps.length)
    (hb : ∀ (kV doc pm : Value) (an : Option Addr) (cdv ct : Value) (us : List Value), us.length = ps.length → bindArgs (PySem.W.fnOf m q (defArgs st) (defBody st) (defScope st) .none kV doc pm an cdv ct) ⟨us, []⟩ = pure (ps.zip us))
    (hbody : ∀ (cdv : Value) (A : Around) (outer : List Env) (s : Shared) (H : Hp) (vs : List V) (Q : VK) (E : XK), Room k (A.deeper (envOfC q (defScope st) s.heap.objs.size (ma K (ga K C) m) cdv)) → sp vs H Q E →
      ∃ t, PSs (cxOf L2.CX0 P w K mg base N q (defScope st) (ma K (ga K C) m) cdv A outer s H E).nox (defBody st) t ∧ t { nx := fun _ H' => Q .non H', rt := Q } (start N vs) H) : Met0 P w K mg base (k + 1) C m sp :=
  ⟨_, fd, ps, [], c, me, fn_ok F S len hbody, F.bindsN hb, .nil⟩
theorem mak_of {C q : Str} {st : Stmt} {fd : FuncData} {N ps : List Str} {k : Nat} {sp : Sp} (F : FnM K C "__init__" q st fd) (M : Mk K (ga K C) (ma K (ga K C) "__init__")) (hm : mg C = some (.ref (ga K C))) (S : FnScope N ps (defScope st)) (len : ∀ vs H Q E, sp vs H Q E → vs.length = ps.length)
    (hb : ∀ (kV doc pm : Value) (an : Option Addr) (cdv ct : Value) (us : List Value), us.length = ps.length → bindArgs (PySem.W.fnOf "__init__" q (defArgs st) (defBody st) (defScope st) .none kV doc pm an cdv ct) ⟨us, []⟩ = pure (ps.zip us))
    (hbody : ∀ (cdv : Value) (A : Around) (outer : List Env) (s : Shared) (H : Hp) (vs : List V) (Q : VK) (E : XK), Room k (A.deeper (envOfC q (defScope st) s.heap.objs.size (ma K (ga K C) "__init__") cdv)) → sp vs H Q E →
      ∃ t, PSs (cxOf L2.CX0 P w K mg base N q (defScope st) (ma K (ga K C) "__init__") cdv A outer s H E).nox (defBody st) t ∧ t { nx := fun _ H' => Q .non H', rt := Q } (start N vs) H) : Mak0 P w K mg base (k + 1) C sp :=
  ⟨_, fd, ps, [], M, fn_ok F S len hbody, hm, F.bindsN hb, .nil⟩
theorem cal_ofT {x : Str} {st : Stmt} {fd : FuncData} {N ps : List Str} {k : Nat} {sp : Sp} (F : FnG K x st fd) (hm : mg x = some (.ref (ga K x))) (S : FnScope N ps (defScope st)) (len : ∀ vs H Q E, sp vs H Q E → vs.length = ps.length)
    (hb : ∀ (kV doc pm : Value) (an : Option Addr) (cdv ct : Value) (us : List Value), us.length = ps.length → bindArgs (PySem.W.fnOf x x (defArgs st) (defBody st) (defScope st) .none kV doc pm an cdv ct) ⟨us, []⟩ = pure (ps.zip us))
    (hbody : ∀ (A : Around) (outer : List Env) (s : Shared) (H : Hp) (vs : List V) (Q : VK) (E : XK), Room k (A.deeper (envOfC x (defScope st) s.heap.objs.size (ga K x) (.ref (cT K (x, none)).1))) → sp vs H Q E →
      ∃ t, PSs (cxOf L2.CX0 P w K mg base N x (defScope st) (ga K x) (.ref (cT K (x, none)).1) A outer s H E).nox (defBody st) t ∧ t { nx := fun _ H' => Q .non H', rt := Q } (start N vs) H) : Cal0 P w K mg base (k + 1) x sp := by
  obtain ⟨oc, od, dV, kV, doc, pm, an, cdv, ct, osl, e, lk, hcd, _, _⟩ := id F.ex
  obtain ⟨c, rfl⟩ := codeIn_ref hcd
  have ec : (cT K (x, none)).1 = c := codeOf_eq (p := (x, none)) lk (by rw [e])
  refine ⟨_, fd, ps, [], ?_, hm, F.kp, F.bindsN hb, .nil⟩
  subst e
  refine fn_of lk hcd S len fun A outer s H vs Q E hr hsp => ?_
  rw [← ec] at hr ⊢
  obtain ⟨t, a, b⟩ := hbody A outer s H vs Q E hr hsp
  exact ⟨t, a.nox, b⟩
end
/-! ### .. and the tables of the two that make a lambda -/
structure TxtB (w : World) (K : PySem.W.Frag) (h : Heap) (mg : Str → Option Value) (base : Heap) : Prop where
  t : Txt w K h mg
  tb1 : LamX.TabB base mg (cT K ("by_sums", none)).1 (cT K ("by_sums", none)).2
  tb2 : LamX.TabB base mg (cT K ("_law_drawn_right", none)).1 (cT K ("_law_drawn_right", none)).2
/-- the tables -/
def Tl (K : PySem.W.Frag) : List (Addr × Str) := [((cT K ("by_sums", none)).2, "by_sums.<locals>.<lambda>"), ((cT K ("_law_drawn_right", none)).2, "_law_drawn_right.<locals>.<lambda>")]
theorem Txt.tne {w : World} {K : PySem.W.Frag} {h : Heap} {mg : Str → Option Value} (T : Txt w K h mg) : (cT K ("by_sums", none)).2 ≠ (cT K ("_law_drawn_right", none)).2 := by
  have q := T.c.more
  unfold ex2 at q
  exact of_decide_eq_true (Bool.and_eq_true_iff.mp q).2
theorem Txt.ex {w : World} {K : PySem.W.Frag} {h : Heap} {mg : Str → Option Value} (T : Txt w K h mg) : RsH.ex K = true := by
  have q := T.c.more
  unfold ex2 at q
  exact (Bool.and_eq_true_iff.mp (Bool.and_eq_true_iff.mp q).1).1
end Rs

set_option Elab.async false
set_option linter.all false
set_option maxRecDepth 100000
set_option maxHeartbeats 4000000
namespace Rs
open PySem PySem.Spec PyProof.Rows L2 He RsH
section
variable {P : Program} {w : World} {K : PySem.W.Frag} {mg : Str → Option Value} {base : Heap} {h0 : Heap}
/-! ### is_number -/
def spNum : Sp := fun vs H Q _ => ∃ i lo hi : Int, vs = [.int i, .int lo, .int hi] ∧ Q (.bl (decide (lo ≤ i) && decide (i ≤ hi))) H
theorem sc_num : FnScope ["thing", "least", "most"] ["thing", "least", "most"] (defScope (topS 11)) := ⟨rfl, rfl, rfl, by decide +kernel, rfl, by decide +kernel, by decide +kernel⟩
theorem ok_num (T : Txt w K h0 mg) : Cal0 P w K mg base 1 "is_number" spNum := by
  obtain ⟨fd, F⟩ := T.f_is_number
  refine cal_of F T.g_is_number sc_num (fun vs H Q E h => ?_) (fun _ _ _ _ _ _ us hl => match us, hl with | [_, _, _], _ => rfl) (fun cdv A outer s H vs Q E hr h => ?_)
  · obtain ⟨i, lo, hi, rfl, _⟩ := h
    rfl
  obtain ⟨i, lo, hi, rfl, q⟩ := h
  refine ⟨_, pss_one (ps_ret (pe_and (pe_callB call_isi (by rfl) T.z_isinstance (by decide +kernel) (pa_cons (pv 0) (pa_cons (pe_bltn (v := .ty "int") (by rfl) T.z_int (by decide +kernel) rfl) pa_nil)))
    (pe_and (pe_not (pe_callB call_isi (by rfl) T.z_isinstance (by decide +kernel) (pa_cons (pv 0) (pa_cons (pe_bltn (v := .ty "bool") (by rfl) T.z_bool (by decide +kernel) rfl) pa_nil))))
      (pe_one (pe_chain op_le op_le (pv 1) (pv 0) (pv 2)))))), ?_⟩
  refine ⟨_, rfl, .int i, .ty "int", .type "int", .type "int", true, rfl, .ty _, .base (.int _), kit_ty (by decide +kernel), true, rfl, ?_⟩
  refine iteT ⟨_, rfl, .int i, .ty "bool", .type "int", .type "bool", false, rfl, .ty _, .base (.int _), kit_ty (by decide +kernel), false, rfl, ?_⟩
  refine ⟨_, rfl, ?_⟩
  refine iteT ⟨_, rfl, _, rfl, lo, i, rfl, rfl, _, rfl, ?_⟩
  refine ite2 (fun c => ?_) (fun c => ?_)
  · refine ⟨_, rfl, i, hi, rfl, rfl, ?_⟩
    rw [of_decide_eq_true c |> decide_eq_true] at q
    exact q
  · have c' : ¬ lo ≤ i := of_decide_eq_false (Bool.eq_false_iff.mpr c)
    rw [decide_eq_false c'] at q
    exact q
end
end Rs

set_option Elab.async false
set_option linter.all false
set_option maxRecDepth 100000
set_option maxHeartbeats 4000000
namespace Rs
open PySem PySem.Spec PyProof.Rows L2 He RsH
/-! ### values -/
def nV (i : Nat) : V := V.int (i : Int)
def zs (l : List Nat) : List Int := l.map fun i => Int.ofNat i
theorem nV_map (l : List Nat) : l.map nV = (zs l).map V.int := by unfold zs; rw [List.map_map]; rfl
/-! ### heaps that grow; tables of code objects aside -/
abbrev Gr (H H' : Hp) : Prop := LamX.ExtN H H'
theorem Gr.rfl' {H : Hp} : Gr H H := LamX.ExtN.refl H
theorem Gr.of {H H' : Hp} (e : Same H H') : Gr H H' := LamX.ExtN.of e
theorem Gr.trans {H H1 H2 : Hp} (a : Gr H H1) (b : Gr H1 H2) : Gr H H2 := LamX.ExtN.trans a b
theorem same_new {H : Hp} {p : Addr} (h : H p = none) (o : HO) : Same H (upd H p o) := fun b u q => by rw [upd_ne (ne_of_none q h)]; exact q
theorem same_upd {H H' : Hp} {p : Addr} (e : Same H H') (h : H p = none) (o : HO) : Same H (upd H' p o) := fun b u q => by rw [upd_ne (ne_of_none q h)]; exact e _ _ q
theorem Gr.sqT {K : PySem.W.Frag} {H H' : Hp} {a : Addr} {xs : List V} (e : Gr H H') (h : SqT K H a xs) : SqT K H' a xs := by
  rcases h with (h | ⟨o, h⟩) | h
  · exact .inl (.inl (e _ _ h fun _ z => by cases z))
  · exact .inl (.inr ⟨o, e _ _ h fun _ z => by cases z⟩)
  · exact .inr h
theorem Gr.sqL {K : PySem.W.Frag} {H H' : Hp} {a : Addr} {xs : List V} (e : Gr H H') (h : SqL K H a xs) : SqL K H' a xs := by
  rcases h with (h | ⟨o, h⟩) | h
  · exact .inl (.inl (e _ _ h fun _ z => by cases z))
  · exact .inl (.inr ⟨o, e _ _ h fun _ z => by cases z⟩)
  · exact .inr h
theorem Gr.ins {H H' : Hp} {a C dx : Addr} {fs : List (Str × V)} (e : Gr H H') (h : H a = some (.ins C dx fs)) : H' a = some (.ins C dx fs) := e _ _ h fun _ z => by cases z
theorem Gr.lst {H H' : Hp} {a : Addr} {xs : List V} (e : Gr H H') (h : H a = some (.lst xs)) : H' a = some (.lst xs) := e _ _ h fun _ z => by cases z
theorem Gr.tup {H H' : Hp} {a : Addr} {xs : List V} (e : Gr H H') (h : H a = some (.tup xs)) : H' a = some (.tup xs) := e _ _ h fun _ z => by cases z
theorem SqT.of {K : PySem.W.Frag} {H : Hp} {a : Addr} {xs : List V} (h : H a = some (.tup xs)) : SqT K H a xs := .inl (.inl h)
/-! ### the table, the told columns -/
def val (rs : List (List Int)) (i p : Nat) : Int := (rs.getD i []).getD p 0
def below (rs : List (List Int)) (ps : List Nat) (i j : Nat) : Bool := ps.all fun p => decide (val rs i p ≤ val rs j p)
inductive Rows (K : PySem.W.Frag) (H : Hp) : List V → List (List Int) → Prop where
  | nil : Rows K H [] []
  | cons {a : Addr} {r : List Int} {xs : List V} {rs : List (List Int)} (h : SqT K H a (r.map V.int)) (t : Rows K H xs rs) : Rows K H (.ref a :: xs) (r :: rs)
theorem Rows.gr {K : PySem.W.Frag} {H H' : Hp} (e : Gr H H') : ∀ {xs : List V} {rs : List (List Int)}, Rows K H xs rs → Rows K H' xs rs
  | _, _, .nil => .nil
  | _, _, .cons h t => .cons (e.sqT h) (Rows.gr e t)
theorem Rows.len {K : PySem.W.Frag} {H : Hp} : ∀ {xs : List V} {rs : List (List Int)}, Rows K H xs rs → xs.length = rs.length
  | _, _, .nil => rfl
  | _, _, .cons h t => by rw [List.length_cons, List.length_cons, t.len]
theorem Rows.get {K : PySem.W.Frag} {H : Hp} : ∀ {xs : List V} {rs : List (List Int)} {i : Nat}, Rows K H xs rs → i < rs.length → ∃ a, xs[i]? = some (.ref a) ∧ SqT K H a ((rs.getD i []).map V.int)
  | _, _, _, .nil, h => absurd h (Nat.not_lt_zero _)
  | _, _, 0, .cons h t, _ => ⟨_, rfl, h⟩
  | _, _, i + 1, .cons h t, hi => by
    obtain ⟨a, e, q⟩ := t.get (i := i) (Nat.lt_of_succ_lt_succ hi)
    exact ⟨a, e, q⟩
/-- the shape of rows and told columns -/
structure Shape (rs : List (List Int)) (ps : List Nat) : Prop where
  n1 : 1 ≤ rs.length
  n10 : rs.length ≤ 10
  wid : ∃ c, 1 ≤ c ∧ c ≤ 4 ∧ (∀ r ∈ rs, r.length = c) ∧ ∀ p ∈ ps, p < c
  ne : ps ≠ []
  asc : ps.Pairwise (· < ·)
theorem Shape.lt {rs : List (List Int)} {ps : List Nat} (S : Shape rs ps) {i p : Nat} (hi : i < rs.length) (hp : p ∈ ps) : p < (rs.getD i []).length := by
  obtain ⟨c, _, _, h3, h4⟩ := S.wid
  have : rs.getD i [] ∈ rs := by
    rw [List.getD_eq_getElem?_getD, List.getElem?_eq_getElem hi]
    exact List.getElem_mem hi
  rw [h3 _ this]
  exact h4 p hp
theorem Shape.few {rs : List (List Int)} {ps : List Nat} (S : Shape rs ps) : ps.length ≤ 4 := by
  obtain ⟨c, _, h2, _, h4⟩ := S.wid
  have nd : ps.Nodup := S.asc.imp fun h => Nat.ne_of_lt h
  have := len_le_of_sub (l2 := List.range c) nd fun x hx => List.mem_range.mpr (h4 x hx)
  rw [List.length_range] at this
  omega
/-- a table at t with the rows rs -/
def TabAt (K : PySem.W.Frag) (H : Hp) (t : Addr) (rs : List (List Int)) : Prop :=
  ∃ (dx tr : Addr) (xs : List V), H t = some (.ins (ga K "Table") dx [("rows", .ref tr)]) ∧ SqT K H tr xs ∧ Rows K H xs rs
structure Told2 (K : PySem.W.Frag) (H : Hp) (t pl : Addr) (rs : List (List Int)) (ps : List Nat) : Prop where
  tab : TabAt K H t rs
  pls : SqT K H pl (ps.map nV)
  sh : Shape rs ps
theorem TabAt.gr {K : PySem.W.Frag} {H H' : Hp} {t : Addr} {rs : List (List Int)} (e : Gr H H') : TabAt K H t rs → TabAt K H' t rs := fun ⟨dx, tr, xs, h1, h2, h3⟩ => ⟨dx, tr, xs, e.ins h1, e.sqT h2, h3.gr e⟩
theorem Told2.gr {K : PySem.W.Frag} {H H' : Hp} {t pl : Addr} {rs : List (List Int)} {ps : List Nat} (h : Told2 K H t pl rs ps) (e : Gr H H') : Told2 K H' t pl rs ps := ⟨h.tab.gr e, e.sqT h.pls, h.sh⟩
theorem getD_at {l : List Int} {p : Nat} (h : p < l.length) : (l.map V.int)[p]? = some (.int (l.getD p 0)) := by
  rw [List.getElem?_map, List.getElem?_eq_getElem h, List.getD_eq_getElem?_getD, List.getElem?_eq_getElem h]
  rfl
/-- table.rows[i][p] -/
def tCell (K : PySem.W.Frag) (a b c : Nat) : TE := tOp (rIxT K) (tOp (rIxT K) (tFld K (tVar a) "rows") (tVar b)) (tVar c)
theorem rd_cell {w : World} {K : PySem.W.Frag} {h0 : Heap} {mg : Str → Option Value} (T : Txt w K h0 mg) {σ : L2.St} {H : Hp} {Q : VK} {a b c i p : Nat} {t : Addr} {rs : List (List Int)} (hT : TabAt K H t rs) (ha : σ[a]? = some (some (.ref t))) (hb : σ[b]? = some (some (nV i))) (hc : σ[c]? = some (some (nV p)))
    (hi : i < rs.length) (hp : p < (rs.getD i []).length) (q : Q (.int (val rs i p)) H) : tCell K a b c σ H Q := by
  obtain ⟨dx, tr, xs, h1, h2, h3⟩ := hT
  obtain ⟨r, e, hr⟩ := h3.get hi
  exact ⟨_, ha, t, _, dx, _, _, rfl, h1, T.c_Table, T.n_Table_rows, rfl, _, hb, tr, xs, _, _, rfl, rfl, h2, atI_nat e, _, hc, r, _, _, _, rfl, rfl, hr, atI_nat (getD_at hp), q⟩
/-- x.f, x a name -/
theorem pfd {X : Cx} (i : Nat) {x f : Str} {p pos : Pos} (hN : X.N[i]? = some x := by rfl) (hv : Vis X.env.scope x := by first | exact Or.inl rfl | exact Or.inr (Or.inl rfl) | exact Or.inr (Or.inr rfl)) (hd : (x == ("__debug__" : Str)) = false := by decide)
    (hcd : (x == ("__classdict__" : Str)) = false := by decide) (hb : attributeBase (.Name x p) f X.env (eval (.Name x p) X.env) = eval (.Name x p) X.env := by rfl) : PE X (.Attribute (.Name x p) f pos) (tFld X.K (tVar i) f) := pe_fld (pe_var hN hv hd hcd) hb
theorem pe_cell {X : Cx} (a b c : Nat) {x y z : Str} {p1 p2 p3 p4 p5 p6 : Pos} (hx : X.N[a]? = some x := by rfl) (vx : Vis X.env.scope x := by first | exact Or.inl rfl | exact Or.inr (Or.inl rfl) | exact Or.inr (Or.inr rfl))
    (hy : X.N[b]? = some y := by rfl) (vy : Vis X.env.scope y := by first | exact Or.inl rfl | exact Or.inr (Or.inl rfl) | exact Or.inr (Or.inr rfl))
    (hz : X.N[c]? = some z := by rfl) (vz : Vis X.env.scope z := by first | exact Or.inl rfl | exact Or.inr (Or.inl rfl) | exact Or.inr (Or.inr rfl))
    (d1 : (x == ("__debug__" : Str)) = false := by decide) (d2 : (x == ("__classdict__" : Str)) = false := by decide) (d3 : (y == ("__debug__" : Str)) = false := by decide) (d4 : (y == ("__classdict__" : Str)) = false := by decide)
    (d5 : (z == ("__debug__" : Str)) = false := by decide) (d6 : (z == ("__classdict__" : Str)) = false := by decide)
    (hb : attributeBase (.Name x p1) "rows" X.env (eval (.Name x p1) X.env) = eval (.Name x p1) X.env := by rfl) :
    PE X (.Subscript (.Subscript (.Attribute (.Name x p1) "rows" p2) (.Name y p3) p4) (.Name z p5) p6) (tCell X.K a b c) :=
  pe_ix ix_tup (pe_ix ix_tup (pe_fld (pe_var hx vx d1 d2) hb) (pe_var hy vy d3 d4) (fun _ _ => rfl)) (pe_var hz vz d5 d6) (fun _ _ => rfl)
/-! ### comprehensions, once for all -/
theorem walk_rangeA {n : Nat} {xs : List V} (hx : xs = (List.range n).map nV) : Walk (Itr 0 n) xs.length (fun _ => True) (YAt xs) := by
  have hl : xs.length = n := by rw [hx, List.length_map, List.length_range]
  rw [hl]
  refine walk_range.mono (fun _ h => h) fun i H x H' hi _ y => ⟨y.1, ?_⟩
  rw [hx, List.getElem?_map, List.getElem?_range hi, y.2]
  show some (nV i) = some (V.int (0 + (i : Int)))
  unfold nV
  exact congrArg (fun z => some (V.int z)) (Int.zero_add (i : Int)).symm
theorem fm_take {α β : Type} (f : α → Option β) (xs : List α) (k : Nat) {x : α} (h : xs[k]? = some x) : (xs.take (k + 1)).filterMap f = (xs.take k).filterMap f ++ (f x).toList := by
  rw [List.take_add_one, h, List.filterMap_append]
  cases e : f x <;> simp [e]
/-- [te for slot i in xs if tt]: f x is what an item gives, none: left out; all else only grows -/
theorem lc_vals {J : It} {G : Hp → Prop} {xs : List V} (wk : Walk J xs.length G (YAt xs)) {i : Nat} {tt : TT} {te : TE} {vs : List Nat} {σ : L2.St} {H1 : Hp} {D : Addr} {Qd : Hp → Prop} (f : V → Option V) (nD : H1 D = none) (hz : xs.length < sizeLine) (hG : ∀ H', Same H1 H' → G H')
    (hw : ∀ x, wipe ((wipe σ vs).set i (some x)) vs = wipe σ vs)
    (hs : ∀ (k : Nat) x H', xs[k]? = some x → Same H1 H' → ∀ R : Option V → Hp → Prop, (∀ H'', Same H' H'' → R (f x) H'') → tt ((wipe σ vs).set i (some x)) H' fun b H3 => if b = true then te ((wipe σ vs).set i (some x)) H3 fun y H4 => R (some y) H4 else R none H3)
    (hd : ∀ H', Same H1 H' → H' D = some (.lst (xs.filterMap f)) → Qd H') :
    ∃ W : Nat → Nat → Hp → Prop, (∃ m, W 0 m (upd H1 D (.lst []))) ∧ ∀ i' m H, W i' m H →
      (J.stop i' H ∧ Qd H) ∨ (J.go i' H ∧ ∃ Nx : Hp → Prop, (∀ H', Nx H' → ∃ m', m' < m ∧ W (i' + 1) m' H') ∧ ∀ x H', J.yld i' H x H' → gName i x (wipe σ vs) H' fun σ2 H2 => wipe σ2 vs = wipe σ vs ∧ tt σ2 H2 fun b H3 =>
        if b = true then te σ2 H3 fun y H4 => ∃ acc, H4 D = some (.lst acc) ∧ acc.length < sizeLine ∧ Nx (upd H4 D (.lst (acc ++ [y]))) else Nx H3) := by
  refine lc_it wk (fun k H' => Same H1 H' ∧ H' D = some (.lst ((xs.take k).filterMap f))) ⟨same_new nD _, upd_same⟩ (fun k H' _ p => hG H' p.1) (fun k x H' H'' hk p y => ?_) fun H' p => ?_
  · obtain ⟨rfl, hx⟩ := y
    refine ⟨hw x, ?_⟩
    have key := hs k x H'' hx p.1 (fun r H4 => match r with
      | some y => ∃ acc, H4 D = some (.lst acc) ∧ acc.length < sizeLine ∧ (Same H1 (upd H4 D (.lst (acc ++ [y]))) ∧ (upd H4 D (.lst (acc ++ [y]))) D = some (.lst ((xs.take (k + 1)).filterMap f)))
      | none => Same H1 H4 ∧ H4 D = some (.lst ((xs.take (k + 1)).filterMap f))) (fun H4 s4 => by
        have e4 : H4 D = some (.lst ((xs.take k).filterMap f)) := s4 _ _ p.2
        cases e : f x with
        | none =>
          refine ⟨p.1.trans s4, ?_⟩
          rw [fm_take f xs k hx, e]
          simpa using e4
        | some y =>
          refine ⟨_, e4, ?_, same_upd (p.1.trans s4) nD _, ?_⟩
          · have h1 := List.length_filterMap_le f (xs.take k)
            have h2 : (xs.take k).length ≤ xs.length := by rw [List.length_take]; omega
            omega
          · rw [upd_same, fm_take f xs k hx, e]; rfl)
    exact key
  · refine hd H' p.1 ?_
    rw [p.2, List.take_length]
theorem yes_rd {A N : Hp → Prop} {σ : L2.St} {H : Hp} (h : A H) : tYes σ H fun b H3 => if b = true then A H3 else N H3 := iteT (B := N H) h
/-- [te for slot i in xs] -/
theorem lc_map {J : It} {G : Hp → Prop} {xs : List V} (wk : Walk J xs.length G (YAt xs)) {i : Nat} {te : TE} {vs : List Nat} {σ : L2.St} {H1 : Hp} {D : Addr} {Qd : Hp → Prop} (f : V → V) (nD : H1 D = none) (hz : xs.length < sizeLine) (hG : ∀ H', Same H1 H' → G H')
    (hw : ∀ x, wipe ((wipe σ vs).set i (some x)) vs = wipe σ vs)
    (hs : ∀ (k : Nat) x H', xs[k]? = some x → Same H1 H' → ∀ R : VK, (∀ H'', Same H' H'' → R (f x) H'') → te ((wipe σ vs).set i (some x)) H' R)
    (hd : ∀ H', Same H1 H' → H' D = some (.lst (xs.map f)) → Qd H') :
    ∃ W : Nat → Nat → Hp → Prop, (∃ m, W 0 m (upd H1 D (.lst []))) ∧ ∀ i' m H, W i' m H →
      (J.stop i' H ∧ Qd H) ∨ (J.go i' H ∧ ∃ Nx : Hp → Prop, (∀ H', Nx H' → ∃ m', m' < m ∧ W (i' + 1) m' H') ∧ ∀ x H', J.yld i' H x H' → gName i x (wipe σ vs) H' fun σ2 H2 => wipe σ2 vs = wipe σ vs ∧ tYes σ2 H2 fun b H3 =>
        if b = true then te σ2 H3 fun y H4 => ∃ acc, H4 D = some (.lst acc) ∧ acc.length < sizeLine ∧ Nx (upd H4 D (.lst (acc ++ [y]))) else Nx H3) := by
  refine lc_it wk (fun k H' => Same H1 H' ∧ H' D = some (.lst ((xs.take k).map f))) ⟨same_new nD _, upd_same⟩ (fun k H' _ p => hG H' p.1) (fun k x H' H'' hk p y => ?_) fun H' p => ?_
  · obtain ⟨rfl, hx⟩ := y
    refine ⟨hw x, ?_⟩
    refine yes_rd (A := fun H3 => te ((wipe σ vs).set i (some x)) H3 fun y H4 => ∃ acc, H4 D = some (.lst acc) ∧ acc.length < sizeLine ∧ (Same H1 (upd H4 D (.lst (acc ++ [y]))) ∧ (upd H4 D (.lst (acc ++ [y]))) D = some (.lst ((xs.take (k + 1)).map f)))) ?_
    refine hs k x H'' hx p.1 _ fun H4 s4 => ⟨_, s4 _ _ p.2, ?_, same_upd (p.1.trans s4) nD _, ?_⟩
    · rw [List.length_map, List.length_take]; omega
    · rw [upd_same, List.take_add_one, hx, List.map_append]; rfl
  · refine hd H' p.1 ?_
    rw [p.2, List.take_length]
end Rs

set_option Elab.async false
set_option linter.all false
set_option maxRecDepth 100000
set_option maxHeartbeats 4000000
namespace Rs
open PySem PySem.Spec PyProof.Rows L2 He RsH
theorem small (n : Nat) (h : n ≤ 4000 := by omega) : n < sizeLine := Nat.lt_of_le_of_lt h (by decide)
/-! ### slices -/
theorem cut_from (xs : List V) (k : Nat) : cutV xs (some (k : Int)) none = xs.drop k := by
  unfold cutV
  rw [HT.sIx_nat, HT.sIx_none]
  by_cases h : k ≤ xs.length
  · rw [Nat.min_eq_left h, List.take_of_length_le (by rw [List.length_drop]; omega)]
  · rw [Nat.min_eq_right (by omega), Nat.sub_self, List.take_zero, List.drop_eq_nil_of_le (by omega)]
theorem cut_to (xs : List V) (k : Nat) : cutV xs none (some (k : Int)) = xs.take k := by
  unfold cutV
  rw [HT.sIx_nat, HT.sIx_none, List.drop_zero, Nat.sub_zero]
  by_cases h : k ≤ xs.length
  · rw [Nat.min_eq_left h]
  · rw [Nat.min_eq_right (by omega), List.take_of_length_le (by omega), List.take_of_length_le (by omega)]
/-- what a slice of a tuple gives: itself or a new one -/
theorem rd_slT {K : PySem.W.Frag} {H : Hp} {Q : VK} {a : Addr} {xs ys : List V} {lo hi : Option Int} (h : SqT K H a xs) (e : cutV xs lo hi = ys) (q : ∀ b H', Same H H' → SqT K H' b ys → Q (.ref b) H') : rSlA K (.ref a) lo hi H Q := by
  refine ⟨a, xs, rfl, h, fun c => ?_, fun c p hp => ?_⟩
  · refine q a H (Same.refl _) ?_
    have : ys = xs := by
      rw [← e]
      unfold cutV
      rw [c.1, c.2, List.drop_zero, Nat.sub_zero, List.take_length]
    rw [this]; exact h
  · rw [e]
    exact q p _ (same_new hp _) (.inl (.inl upd_same))
theorem rd_slL {K : PySem.W.Frag} {H : Hp} {Q : VK} {a : Addr} {xs ys : List V} {lo hi : Option Int} (h : SqL K H a xs) (e : cutV xs lo hi = ys) (q : ∀ b H', H b = none → Same H H' → H' b = some (.lst ys) → Q (.ref b) H') : rSlL K (.ref a) lo hi H Q := by
  refine ⟨a, xs, rfl, h, fun p hp => ?_⟩
  rw [e]
  exact q p _ hp (same_new hp _) upd_same
/-! ### zip -/
theorem walk_zipT {K : PySem.W.Frag} {a b : Addr} {xs ys : List V} {n : Nat} (hn : n = min xs.length ys.length) : Walk (RZ.ItzT K a b) n (fun H => SqT K H a xs ∧ SqT K H b ys) (YPair (fun i => xs[i]?) (fun i => ys[i]?)) := by
  subst hn
  refine ⟨fun i _ hi q => ?_, fun _ q => ⟨xs, ys, q.1, q.2, by omega⟩, fun i H v H' _ q y => ?_⟩
  · have h1 : i < xs.length := by omega
    have h2 : i < ys.length := by omega
    exact ⟨xs, ys, xs[i], ys[i], q.1, q.2, by simp [h1], by simp [h2]⟩
  · obtain ⟨T, x, z, h1, h2, h3, h4, h5⟩ := y
    exact ⟨T, x, z, h1, h2, h3, h4 xs q.1, h5 ys q.2⟩
theorem zip_at {α β : Type} {xs : List α} {ys : List β} {k : Nat} {x : α} {y : β} (h1 : xs[k]? = some x) (h2 : ys[k]? = some y) : (xs.zip ys)[k]? = some (x, y) := by
  rw [List.getElem?_zip_eq_some]; exact ⟨h1, h2⟩
abbrev g2 (K : PySem.W.Frag) (i j : Nat) : TG := gTup K 2 (gCons (gName i) (gCons (gName j) gNil))
/-- the two slots of a new pair -/
theorem rd_g2 {K : PySem.W.Frag} {i j : Nat} {x y : V} {σ : L2.St} {H : Hp} {T : Addr} {Q : L2.St → Hp → Prop} (h : SqT K H T [x, y]) (q : Q ((σ.set i (some x)).set j (some y)) H) : g2 K i j (.ref T) σ H Q :=
  ⟨T, _, rfl, h, rfl, _, _, rfl, _, _, rfl, rfl, q⟩
/-- [te for slots i, j in pairs] -/
theorem lc_pairs {J : It} {G : Hp → Prop} {K : PySem.W.Frag} {us vs' : Nat → Option V} {zs : List (V × V)} (wk : Walk J zs.length G (YPair us vs')) {i j : Nat} {te : TE} {vs : List Nat} {σ : L2.St} {H1 : Hp} {D : Addr} {Qd : Hp → Prop} (f : V × V → V) (nD : H1 D = none) (hz : zs.length < sizeLine)
    (hG : ∀ H', Same H1 H' → G H') (hat : ∀ (k : Nat) x y, us k = some x → vs' k = some y → zs[k]? = some (x, y)) (hw : ∀ x y, wipe (((wipe σ vs).set i (some x)).set j (some y)) vs = wipe σ vs)
    (hs : ∀ (k : Nat) x y H', zs[k]? = some (x, y) → Same H1 H' → ∀ R : VK, (∀ H'', Same H' H'' → R (f (x, y)) H'') → te (((wipe σ vs).set i (some x)).set j (some y)) H' R)
    (hd : ∀ H', Same H1 H' → H' D = some (.lst (zs.map f)) → Qd H') :
    ∃ W : Nat → Nat → Hp → Prop, (∃ m, W 0 m (upd H1 D (.lst []))) ∧ ∀ i' m H, W i' m H →
      (J.stop i' H ∧ Qd H) ∨ (J.go i' H ∧ ∃ Nx : Hp → Prop, (∀ H', Nx H' → ∃ m', m' < m ∧ W (i' + 1) m' H') ∧ ∀ x H', J.yld i' H x H' → g2 K i j x (wipe σ vs) H' fun σ2 H2 => wipe σ2 vs = wipe σ vs ∧ tYes σ2 H2 fun b H3 =>
        if b = true then te σ2 H3 fun y H4 => ∃ acc, H4 D = some (.lst acc) ∧ acc.length < sizeLine ∧ Nx (upd H4 D (.lst (acc ++ [y]))) else Nx H3) := by
  refine lc_it wk (fun k H' => Same H1 H' ∧ H' D = some (.lst ((zs.take k).map f))) ⟨same_new nD _, upd_same⟩ (fun k H' _ p => hG H' p.1) (fun k v H' H'' hk p y => ?_) fun H' p => ?_
  · obtain ⟨T, x, z, rfl, nT, rfl, h1, h2⟩ := y
    have hzk := hat k x z h1 h2
    have s2 : Same H' (upd H' T (.tup [x, z])) := same_new nT _
    refine rd_g2 (.inl (.inl upd_same)) ⟨hw x z, ?_⟩
    refine yes_rd (A := fun H3 => te (((wipe σ vs).set i (some x)).set j (some z)) H3 fun y H4 => ∃ acc, H4 D = some (.lst acc) ∧ acc.length < sizeLine ∧ (Same H1 (upd H4 D (.lst (acc ++ [y]))) ∧ (upd H4 D (.lst (acc ++ [y]))) D = some (.lst ((zs.take (k + 1)).map f)))) ?_
    refine hs k x z _ hzk (p.1.trans s2) _ fun H4 s4 => ⟨_, s4 _ _ (s2 _ _ p.2), ?_, same_upd ((p.1.trans s2).trans s4) nD _, ?_⟩
    · rw [List.length_map, List.length_take]; omega
    · rw [upd_same, List.take_add_one, hzk, List.map_append]; rfl
  · refine hd H' p.1 ?_
    rw [p.2, List.take_length]
/-- zip(l, l[1:]) -/
theorem zip_tail (l : List Nat) : ((l.map nV).zip ((l.map nV).drop 1)) = (l.zip (l.drop 1)).map fun p => (nV p.1, nV p.2) := by
  rw [← List.map_drop, List.zip_map]
  rfl
theorem zip_tail_len (xs : List V) : (xs.zip (xs.drop 1)).length = min xs.length (xs.drop 1).length := List.length_zip
end Rs

set_option Elab.async false
set_option linter.all false
set_option maxRecDepth 100000
set_option maxHeartbeats 4000000
/-! Rules of our own: len, ==, != of own instances. -/
namespace Rs
open PySem PySem.Spec PyProof.Rows L2 He RsH
section
variable {X : Cx} {n : Nat} {C f : Addr} {fd : FuncData} {ps : List Str} {sp : Sp}
/-- an own def called on these values, inside whatever stands around -/
theorem own_run {A : Around} {pins : List (Addr × Obj)} {s : Shared} {σ : L2.St} {H : Hp} {us : List Value} {vs : List V} {Q : VK} {R : Value → Shared → Prop} (F : FnOk X.prog X.w X.K X.mg X.base L2.CX0 n f fd ps sp) (hb : Binds X.K fd ps []) (hr : Room n A) (hf : A.frames = X.A.frames)
    (I : Inv X pins σ H s) (r : Vals vs us) (q : sp vs H Q E0) (h : ∀ v s', EP X pins σ Q v s' → R v s') : wpAny (model X.prog X.w) A (call (.ref f) us) R X.xe s := by
  have e := I.env0
  have e0 : Env0 X.prog X.w X.K X.mg X.base A X.stack s H := ⟨by rw [hf]; exact e.frames, e.mod, e.bs, e.bsz, e.funs, e.frf, e.hok, e.bare⟩
  have hl : (us ++ []).length = ps.length := by rw [List.append_nil, ← r.length]; exact F.len _ _ _ _ q
  have hbd := hb s us I.kIn hl
  rw [List.append_nil] at hbd
  refine wpAny_call (codeAny_mono (F.run A X.stack s H ⟨us, []⟩ us vs Q E0 hr e0 hbd r q) fun z s' hz => ?_)
  cases z with
  | error e => exact (show False from hz).elim
  | ok fl =>
    cases fl with
    | ret u => exact h u s' (I.after hz)
    | next => exact False.elim hz
    | brk => exact False.elim hz
    | cont => exact False.elim hz
/-- len(o), o an instance of a class with its own length -/
def rLenO (C : Addr) (sp : Sp) : List V → Hp → VK → Prop := fun xs H Q => ∃ a dx fs, xs = [.ref a] ∧ H a = some (.ins C dx fs) ∧ sp [.ref a] H (fun v H' => ∃ k : Int, v = .int k ∧ 0 ≤ k ∧ k < 2 ^ 63 ∧ Q (.int k) H') E0
theorem call_lenO (me : Meth X.K C "__len__" f) (F : FnOk X.prog X.w X.K X.mg X.base L2.CX0 n f fd ps sp) (hb : Binds X.K fd ps []) (hr : Room (n + 1) X.A) : CallR X (.builtin "len") (rLenO C sp) := by
  intro pins s σ H xs us Q I r h
  obtain ⟨a, dx, fs, rfl, ha, q⟩ := h
  obtain rfl := Vals.ref1 r
  obtain ⟨mA, O, _⟩ := ins_get I.hok ha
  obtain ⟨od, J, _⟩ := O.look
  obtain ⟨m, hF⟩ := I.fr
  refine PySem.W.len_K hF I.ok.mod.kin J me.1 me.2 (own_run (vs := [.ref a]) F hb hr.in1 rfl I (.cons rfl .nil) q fun v s' hv => ?_)
  obtain ⟨z, H', I', rz, k, rfl, h0, h1, qk⟩ := hv
  obtain ⟨t, rfl⟩ := rz
  exact ⟨⟨h0, h1⟩, .int k, H', I'.tok _, ⟨_, rfl⟩, qk⟩
/-- x == y, by the own def of x's class -/
def rEqO (K : PySem.W.Frag) (C : Addr) (sp : Sp) : R2 := fun x y H Q => ∃ a dx fs b C' dy gs, x = .ref a ∧ y = .ref b ∧ H a = some (.ins C dx fs) ∧ H b = some (.ins C' dy gs) ∧ PySem.W.notFirst K C (.ref C') = true ∧ sp [x, y] H (fun v H' => ∃ k, v = .bl k ∧ Q (.bl k) H') E0
theorem op_eqO (me : Meth X.K C "__eq__" f) (F : FnOk X.prog X.w X.K X.mg X.base L2.CX0 n f fd ps sp) (hb : Binds X.K fd ps []) (hr : Room n X.A) : OpR X (compareOp .Eq) (rEqO X.K C sp) := by
  intro pins s σ H x y v u Q I rx ry h
  obtain ⟨a, dx, fs, b, C', dy, gs, rfl, rfl, ha, hb', hn, q⟩ := h
  cases rx
  cases ry
  obtain ⟨mA, O, _⟩ := ins_get I.hok ha
  obtain ⟨od, J, _⟩ := O.look
  obtain ⟨mB, O', _⟩ := ins_get I.hok hb'
  obtain ⟨od', J', _⟩ := O'.look
  obtain ⟨m, hF⟩ := I.fr
  show wpAny _ _ (richCompare .Eq (.ref a) (.ref b)) _ _ _
  refine PySem.W.cmp_K (op := .Eq) (tb := .ref C') hr.units0 hF I.ok.mod.kin J J'.type hn me.1 me.2 (own_run (vs := [.ref a, .ref b]) F hb hr rfl I (.cons rfl (.cons rfl .nil)) q fun v s' hv => ?_)
  obtain ⟨z, H', I', rz, k, rfl, qk⟩ := hv
  cases rz
  exact ⟨.bl k, H', I', rfl, qk⟩
/-- x != y: object's own, which asks the own == -/
theorem op_neO (hne : PySem.W.findIn X.K (.ref C) "__ne__" = some (some (.builtin "object.__ne__"))) (hob : PySem.W.mroIn X.K C (.type "object") = some true) (me : Meth X.K C "__eq__" f)
    (F : FnOk X.prog X.w X.K X.mg X.base L2.CX0 n f fd ps sp) (hb : Binds X.K fd ps []) (hr : Room (n + 1) X.A) :
    OpR X (compareOp .NotEq) (fun x y H Q => rEqO X.K C sp x y H fun v H' => ∃ k, v = .bl k ∧ Q (.bl (!k)) H') := by
  intro pins s σ H x y v u Q I rx ry h
  obtain ⟨a, dx, fs, b, C', dy, gs, rfl, rfl, ha, hb', hn, q⟩ := h
  cases rx
  cases ry
  obtain ⟨mA, O, _⟩ := ins_get I.hok ha
  obtain ⟨od, J, _⟩ := O.look
  obtain ⟨mB, O', _⟩ := ins_get I.hok hb'
  obtain ⟨od', J', _⟩ := O'.look
  have XK := I.kIn
  have inst : PySem.W.Looks (model X.prog X.w) s.heap (isInstance (.ref a) (.type "object")) true := J.type.andThen (PySem.W.looks_mroIn XK hob)
  have eqs : wpAny (model X.prog X.w) X.A.in1 (callSpecialIfBound? (.ref a) "__eq__" [.ref b]) (fun r s' => ∃ k, r = some (.bool k) ∧ EP X pins σ Q (.bool (!k)) s') X.xe s := by
    refine PySem.W.ifBound_K XK J me.1 me.2 (own_run (vs := [.ref a, .ref b]) F hb hr.in1 rfl I (.cons rfl (.cons rfl .nil)) q fun v s' hv => ?_)
    obtain ⟨z, H', I', rz, k, rfl, k2, e2, qk⟩ := hv
    cases rz
    cases e2
    exact ⟨k, rfl, .bl (!k), H', I', rfl, qk⟩
  have one : wpAny (model X.prog X.w) X.A (tryCompare (.ref a) "__ne__" (.ref b)) (fun r s' => ∃ v, r = some v ∧ EP X pins σ Q v s') X.xe s := by
    unfold tryCompare
    simp only [callSpecialIfBound?, bindSpecialIfBound?]
    have fin : wpAny (model X.prog X.w) X.A (call (.builtin "object.__ne__") ([.ref a] ++ [.ref b])) (fun v s' => ∃ k, v = .bool k ∧ EP X pins σ Q v s') X.xe s := by
      refine wpAny_call (codeAny_call_builtin (by decide +kernel) PySem.F.entry_object_ne (PySem.W.check_slot (owner := "object") (n := "__ne__") (by decide +kernel) (by decide +kernel) inst (PySem.F.args_object_ne_2 _ _) ?_))
      unfold Builtin.«object.__ne__»
      refine wpAny_bind (m := slotArgs "__ne__" 1 _) (wpAny_pure ?_)
      refine wpAny_bind (wpAny_cRoomFor (hr.in1).units0 (wpAny_bind (wpAny_mono eqs (fun r s' hq => ?_) fun _ _ e => e)))
      obtain ⟨k, rfl, qk⟩ := hq
      exact wpAny_bind (wpAny_truthy_bool (wpAny_pure ⟨!k, rfl, qk⟩))
    refine wpAny_bind (wpAny_holding (wpAny_bind (wpAny_bind (wpAny_bind (J.type.here ((PySem.W.looks_findIn XK hne).here ?_))))))
    refine wpAny_bind (wpAny_askSetting (wpAny_ite ?_))
    have tail : ∀ {s1 : Shared}, s1 = s → wpAny (model X.prog X.w) X.A (call (.builtin "object.__ne__") ([.ref a] ++ [.ref b]) >>= fun v => pure (some v)) (fun r s' => wpAny (model X.prog X.w) X.A (match r with | some .notImplemented | none => pure none | some v => pure (some v)) (fun r s' => ∃ v, r = some v ∧ EP X pins σ Q v s') X.xe s') X.xe s1 := fun e => by
      rw [e]
      refine wpAny_bind (wpAny_mono fin (fun v s' hv => ?_) fun _ _ e => e)
      obtain ⟨k, rfl, qk⟩ := hv
      exact wpAny_pure (wpAny_pure ⟨_, rfl, qk⟩)
    simp only [PySem.F.slot_object_ne.bind]
    split
    · exact wpAny_bind (wpAny_pure (wpAny_pure (tail rfl)))
    · exact wpAny_tryCatch (wpAny_bind (wpAny_pure (wpAny_pure (tail rfl))))
  show wpAny _ _ (richCompare .NotEq (.ref a) (.ref b)) _ _ _
  unfold richCompare
  simp only [oneThing_ref]
  refine wpAny_holding (wpAny_bind (wpAny_cRoomFor hr.units0 (wpAny_bind (J.type.here (wpAny_bind (J'.type.here ?_))))))
  have done : ∀ {s1 : Shared}, s1 = s → wpAny (model X.prog X.w) X.A (tryCompare (.ref a) "__ne__" (.ref b)) (fun r s' => ∃ v, r = some v ∧ EP X pins σ Q v s') X.xe s1 := fun e => by rw [e]; exact one
  split
  · rename_i z
    have hs : PySem.W.subIn X.K (.ref C') (.ref C) = some false := by
      rcases Bool.or_eq_true_iff.mp hn with y | y
      · rw [beq_iff_eq.mp y] at z; simp at z
      · exact beq_iff_eq.mp y
    refine wpAny_bind ((PySem.W.looks_subIn XK hs).here ?_)
    simp only [Bool.false_eq_true, if_false]
    refine wpAny_bind (wpAny_mono (done rfl) (fun r s' hq => ?_) fun _ _ e => e)
    obtain ⟨v, rfl, hq⟩ := hq
    exact wpAny_pure hq
  · refine wpAny_bind (wpAny_pure ?_)
    simp only [Bool.false_eq_true, if_false]
    refine wpAny_bind (wpAny_mono (done rfl) (fun r s' hq => ?_) fun _ _ e => e)
    obtain ⟨v, rfl, hq⟩ := hq
    exact wpAny_pure hq
end
end Rs

set_option Elab.async false
set_option linter.all false
set_option maxRecDepth 100000
set_option maxHeartbeats 4000000
namespace Rs
open PySem PySem.Spec PyProof.Rows L2 He RsH
section
variable {P : Program} {w : World} {K : PySem.W.Frag} {mg : Str → Option Value} {base : Heap} {h0 : Heap}
/-! ### is_below -/
def spBelow (K : PySem.W.Frag) : Sp := fun vs H Q _ => ∃ (t pl : Addr) (rs : List (List Int)) (ps : List Nat) (i j : Nat), vs = [.ref t, nV i, nV j, .ref pl] ∧ Told2 K H t pl rs ps ∧ i < rs.length ∧ j < rs.length ∧ ∀ H', Same H H' → Q (.bl (below rs ps i j)) H'
theorem sc_below : FnScope ["table", "one", "other", "places", "place"] ["table", "one", "other", "places"] (defScope (topS 24)) := ⟨rfl, rfl, rfl, by decide +kernel, rfl, by decide +kernel, by decide +kernel⟩
theorem ok_below (T : Txt w K h0 mg) : Cal0 P w K mg base 1 "is_below" (spBelow K) := by
  obtain ⟨fd, F⟩ := T.f_is_below
  refine cal_of F T.g_is_below sc_below (fun vs H Q E h => ?_) (fun _ _ _ _ _ _ us hl => match us, hl with | [_, _, _, _], _ => rfl) (fun cdv A outer s H vs Q E hr h => ?_)
  · obtain ⟨t, pl, rs, ps, i, j, rfl, _⟩ := h
    rfl
  obtain ⟨t, pl, rs, ps, i, j, rfl, Td, hi, hj, q⟩ := h
  refine ⟨_, pss_one (ps_ret (pe_callB (cr_all rfl) (by rfl) T.z_all (by decide +kernel) (pa_cons (pe_lc (own := [("place", 4)]) (g := gName 4) (tt := tYes) (te := tOp (rI0 fun i j => .bl (decide (i ≤ j))) (tCell K 0 1 4) (tCell K 0 2 4)) rfl sc_below.nd (pi_tup (pv 3)) (blkOk_by (N := ["table", "one", "other", "places", "place"]) (sc := defScope (topS 24)) (by decide +kernel))
    (fun _ _ _ _ _ => pg_name (i := 4) sc_below.nd rfl (Or.inl rfl)) (fun _ _ _ _ _ => pts_nil) (fun _ _ _ _ _ => pe_cmpR op_le (pe_cell 0 1 4) (pe_cell 0 2 4) (nomark _))) pa_nil))), ?_⟩
  have few := Td.sh.few
  refine ⟨_, rfl, pl, rfl, ⟨_, Td.pls⟩, fun D nD => lc_map walk_tup (fun x => match x with | .int p => .bl (decide (val rs i p.toNat ≤ val rs j p.toNat)) | _ => .non) nD (small _ (by rw [List.length_map]; omega)) (fun H' e => (Gr.of e).sqT Td.pls) (fun _ => rfl) (fun k x H' hx e R hR => ?_) fun H' e hD => ?_⟩
  · rw [List.getElem?_map] at hx
    obtain ⟨p, hp, rfl⟩ := Option.map_eq_some_iff.mp hx
    have hm : p ∈ ps := List.mem_of_getElem? hp
    have Td' := Td.gr (Gr.of e)
    refine rd_cell T Td'.tab (i := i) (p := p) rfl rfl rfl hi (Td.sh.lt hi hm) (rd_cell T Td'.tab (i := j) (p := p) rfl rfl rfl hj (Td.sh.lt hj hm) ?_)
    exact ⟨_, _, rfl, rfl, hR _ (Same.refl _)⟩
  · refine ⟨D, ps.map fun p => decide (val rs i p ≤ val rs j p), rfl, SqL.of (by rw [hD, List.map_map, List.map_map]; rfl), ?_⟩
    have e2 : (ps.map fun p => decide (val rs i p ≤ val rs j p)).all id = below rs ps i j := by
      unfold below
      rw [List.all_map]
      rfl
    rw [e2]
    exact q _ e
end
end Rs

set_option Elab.async false
set_option linter.all false
set_option maxRecDepth 100000
set_option maxHeartbeats 4000000
/-! A lambda with one parameter (a cell or not) and captured names. -/
namespace Rs
open PySem PySem.Spec PyProof.Rows L2 He RsH
/-! ### the cells of its frame -/
theorem cf_old {y : Str} : ∀ (names : List (Str × NameKind)) (n : Nat) (acc : List (Str × Addr)), (∀ z ∈ names, z.2 = .cell → z.1 ≠ y) → (cellsFrom n names acc).lookup y = acc.lookup y
  | [], _, _, _ => rfl
  | (z, kd) :: r, n, acc, h => by
    unfold cellsFrom
    have hr : ∀ z ∈ r, z.2 = .cell → z.1 ≠ y := fun z hz => h z (List.mem_cons_of_mem _ hz)
    split
    · rename_i hk
      rw [cf_old r _ _ hr]
      have hne : z ≠ y := h (z, kd) List.mem_cons_self (beq_iff_eq.mp hk)
      rw [List.lookup_cons]
      have : (y == z) = false := by rw [beq_eq_false_iff_ne]; exact hne.symm
      rw [this]
    · exact cf_old r _ _ hr
theorem cf_new {y : Str} {c : Addr} : ∀ (names : List (Str × NameKind)) (h : Heap) (acc : List (Str × Addr)), (∀ c, acc.lookup y = some c → h.IsCell c none ∧ ∃ lo : Nat, lo ≤ c) → (cellsFrom h.objs.size names acc).lookup y = some c →
    (acc.lookup y = some c ∨ h.objs.size ≤ c) ∧ (pushCells h names).IsCell c none
  | [], h, acc, ha, e => ⟨.inl e, (ha c e).1⟩
  | (z, kd) :: r, h, acc, ha, e => by
    unfold cellsFrom at e
    unfold pushCells
    split at e
    · rename_i hk
      rw [if_pos hk]
      have sz : (h.push { cls := .type "cell", data := .cell none }).objs.size = h.objs.size + 1 := by rw [Heap.size_push]
      rw [← sz] at e
      have ha2 : ∀ c, ((z, h.objs.size) :: acc).lookup y = some c → (h.push { cls := .type "cell", data := .cell none }).IsCell c none ∧ ∃ lo : Nat, lo ≤ c := fun c' e' => by
        rw [List.lookup_cons] at e'
        split at e'
        · cases e'
          exact ⟨⟨_, Heap.get?_push_size _ rfl, rfl⟩, 0, Nat.zero_le _⟩
        · exact ⟨(ha c' e').1.keeps fun b o e => Heap.get?_push_of_some _ e, 0, Nat.zero_le _⟩
      obtain ⟨h1, h2⟩ := cf_new r _ _ ha2 e
      refine ⟨?_, h2⟩
      rcases h1 with h1 | h1
      · rw [List.lookup_cons] at h1
        split at h1
        · cases h1
          exact .inr (Nat.le_refl _)
        · exact .inl h1
      · rw [sz] at h1
        exact .inr (by omega)
    · rename_i hk
      rw [if_neg hk]
      exact cf_new r h acc ha e
/-! ### the names -/
/-- its names: the parameter x, the captured ones, locals of comprehensions -/
structure LScope (N : List Str) (x : Str) (fr : List Str) (sc : Scope) : Prop where
  kind : sc.kind = .function
  co : sc.isCoroutine = false
  gen : sc.isGenerator = false
  nd : N.Nodup
  pre : N.take (1 + fr.length) = x :: fr
  par : sc.names.lookup x = some .local ∨ sc.names.lookup x = some .cell
  cel : ∀ y ∈ sc.names, y.2 = .cell → y.1 = x ∧ sc.names.lookup x = some .cell
  free : ∀ y ∈ sc.names, y.2 = .free → y.1 ∈ fr
  frk : ∀ y ∈ fr, sc.names.lookup y = some .free
abbrev lCells (sc : Scope) (L : Addr) (cl : List (Str × Addr)) : List (Str × Addr) := cellsFrom (L + 1) sc.names cl
abbrev lEnv (q : Str) (sc : Scope) (L f c' : Addr) (cl : List (Str × Addr)) : Env := PySem.W.envX q sc L f (.ref c') (lCells sc L cl)
/-- the context of its body -/
def lcx (P : Program) (w : World) (K : PySem.W.Frag) (mg : Str → Option Value) (base : Heap) (N : List Str) (q : Str) (sc : Scope) (f c' : Addr) (cl : List (Str × Addr)) (A : Around) (outer : List Env) (s : Shared) (H : Hp) : Cx where
  prog := P
  w := w
  K := K
  mg := mg
  base := base
  A := A.deeper (lEnv q sc s.heap.objs.size f c' cl)
  N := N
  s_0 := s
  H_0 := H
  env := lEnv q sc s.heap.objs.size f c' cl
  outer := outer
  stack := lEnv q sc s.heap.objs.size f c' cl :: outer
  ex := []
  calm := true
  fn := fun _ => false
  pn := []
  xe := fun e s' => wpAny (model P w) (A.deeper (lEnv q sc s.heap.objs.size f c' cl)) (leaving (lEnv q sc s.heap.objs.size f c' cl) e) (fun _ s'' => L2.CX0 outer H s E0 e s'') (fun e' s'' => L2.CX0 outer H s E0 e' s'') s'
section
variable {P : Program} {w : World} {K : PySem.W.Frag} {mg : Str → Option Value} {base : Heap} {N fr : List Str} {x q : Str} {sc : Scope} {f c' : Addr} {cl : List (Str × Addr)} {A : Around} {outer : List Env} {s : Shared} {H : Hp} {v : V} {u : Value} {ws : List (Option V)}
theorem inv_startL {h₁ : Heap} {tk : Nat} {m : Str → Option Value} (S : LScope N x fr sc) (hd : A.handled = none) (e0 : Env0 P w K mg base A outer s H) (r : RelV v u) (C : NdefX.CellsAt cl fr ws s.heap H) (hx : cl.lookup x = none) (hns : h₁.Ns s.heap.objs.size m)
    (hm : sc.names.lookup x = some .local → m x = some u) (hc : sc.names.lookup x = some .cell → ∃ c, (lCells sc s.heap.objs.size cl).lookup x = some c ∧ s.heap.objs.size < c ∧ h₁.IsCell c (some u))
    (kp : ∀ b o, s.heap.get? b = some o → h₁.get? b = some o) : L2.Inv (lcx P w K mg base N q sc f c' cl A outer s H) [] (NdefX.startF N [v] ws) H { s with heap := h₁, toks := tk } := by
  have hpl : 1 + fr.length ≤ N.length := by
    have q := congrArg List.length S.pre
    rw [List.length_take, List.length_cons] at q
    omega
  have xfr : x ∉ fr := fun z => by
    have q := S.nd.sublist (List.take_sublist (1 + fr.length) N)
    rw [S.pre] at q
    exact (List.nodup_cons.mp q).1 z
  have noA : ∀ b : Addr, b ∉ (lcx P w K mg base N q sc f c' cl A outer s H).ex := fun b z => absurd (show b ∈ ([] : List Addr) from z) (by simp)
  have cellK : ∀ {c : Addr} {v : Option Value}, s.heap.IsCell c v → h₁.IsCell c v := fun {c v} ⟨o, ho, hd⟩ => ⟨o, kp _ _ ho, hd⟩
  have lo : ∀ {y : Str}, y ≠ x → (lCells sc s.heap.objs.size cl).lookup y = cl.lookup y := fun {y} hy => cf_old _ _ _ fun z hz k e => hy (e.symm.trans (S.cel z hz k).1)
  have lx : ∀ {c : Addr}, (lCells sc s.heap.objs.size cl).lookup x = some c → sc.names.lookup x = some .cell := fun {c} e => by
    rcases S.par with k | k
    · exfalso
      have e2 : (lCells sc s.heap.objs.size cl).lookup x = cl.lookup x := cf_old _ _ _ fun z hz kk _ => by
        have := (S.cel z hz kk).2
        rw [k] at this; cases this
      rw [e2, hx] at e; cases e
    · exact k
  have old : ∀ {y : Str} {c : Addr}, (lCells sc s.heap.objs.size cl).lookup y = some c → (y = x ∧ s.heap.objs.size < c ∧ h₁.IsCell c (some u)) ∨ (y ≠ x ∧ cl.lookup y = some c) := fun {y c} e => by
    by_cases hy : y = x
    · subst hy
      obtain ⟨c2, e2, e3, e4⟩ := hc (lx e)
      rw [e2] at e
      cases e
      exact .inl ⟨rfl, e3, e4⟩
    · rw [lo hy] at e
      exact .inr ⟨hy, e⟩
  have clt : ∀ {y : Str} {c : Addr}, cl.lookup y = some c → c < s.heap.objs.size := fun {y c} e => by
    obtain ⟨v, o, ho, _⟩ := (C.all y c e).2
    exact Heap.lt_size ho
  refine ⟨⟨e0.mod, S.kind, rfl, rfl, Nat.le_refl _, fun y z c e1 e2 => ?_, fun y hy => ?_, fun y c z _ => ?_, fun _ => hd, Around.frames_deeper e0.frames, .inr ⟨rfl, rfl⟩, fun b z => absurd z (noA b), e0.bs, e0.bsz, fun b _ _ => noA b,
      fun b z => absurd z (noA b), e0.funs, e0.frf⟩,
    rfl, e0.bare, Un.kept kp, ⟨_, hns, fun i y v' e1 e2 e3 => ?_⟩, fun y c e => ?_, e0.hok.fresh (Nat.le_refl _), fun y c e => ?_, fun q hq => absurd (show q ∈ ([] : List (Addr × Obj)) ++ [] from hq) (by simp), e0.hok.kept kp, ?_⟩
  · rcases old e1 with ⟨a1, a2, _⟩ | ⟨a1, a2⟩ <;> rcases old e2 with ⟨b1, b2, _⟩ | ⟨b1, b2⟩
    · rw [a1, b1]
    · exact absurd (clt b2) (Nat.not_lt.mpr (Nat.le_of_lt a2))
    · exact absurd (clt a2) (Nat.not_lt.mpr (Nat.le_of_lt b2))
    · exact C.inj y z c a2 b2
  · have hy : sc.names.lookup y = some .cell ∨ sc.names.lookup y = some .free := hy
    rcases hy with hy | hy
    · obtain ⟨e, k⟩ := S.cel _ (PySem.mem_of_lookup hy) rfl
      obtain ⟨c, e2, _⟩ := hc k
      exact ⟨c, by rw [show y = x from e]; exact e2⟩
    · obtain ⟨i, hi⟩ := List.mem_iff_getElem?.mp (S.free _ (PySem.mem_of_lookup hy) rfl)
      obtain ⟨c, hc, _⟩ := C.has i y hi
      exact ⟨c, (lo fun e => xfr (e ▸ List.mem_of_getElem? hi)).trans hc⟩
  · have z : false = true := z
    cases z
  · have e1 : N[i]? = some y := e1
    have clen := C.len
    unfold NdefX.startF at e2
    by_cases h1 : i < 1
    · obtain rfl : i = 0 := by omega
      have hq : (x :: fr)[0]? = some y := by
        rw [← S.pre, List.getElem?_take_of_lt (by omega)]
        exact e1
      obtain rfl : x = y := Option.some.inj hq
      have e2 : some (some v) = some (some v') := e2
      cases e2
      refine ⟨u, r, ?_⟩
      rcases S.par with k | k
      · exact .inl ⟨k, hm k⟩
      · obtain ⟨c, e, _, z⟩ := hc k
        exact .inr ⟨.inl k, c, e, z⟩
    · rw [List.getElem?_append_right (by simp; omega)] at e2
      have e2 : (ws ++ List.replicate (N.length - 1 - ws.length) none)[i - 1]? = some (some v') := e2
      by_cases h2 : i < 1 + fr.length
      · have hq : (x :: fr)[i]? = some y := by
          rw [← S.pre, List.getElem?_take_of_lt (by omega)]
          exact e1
        obtain ⟨j, rfl⟩ : ∃ j, i = j + 1 := ⟨i - 1, by omega⟩
        have hq : fr[j]? = some y := hq
        rw [List.getElem?_append_left (by omega)] at e2
        have e2 : ws[j]? = some (some v') := e2
        obtain ⟨c, hc, hv⟩ := C.has j y hq
        obtain ⟨u', ru, hu⟩ := hv v' e2
        exact ⟨u', ru, .inr ⟨.inr (S.frk y (List.mem_of_getElem? hq)), c, (lo fun e => xfr (e ▸ List.mem_of_getElem? hq)).trans hc, cellK hu⟩⟩
      · rw [List.getElem?_append_right (by omega), List.getElem?_replicate] at e2
        split at e2 <;> cases e2
  · rcases old e with ⟨_, _, z⟩ | ⟨_, e⟩
    · exact ⟨_, z⟩
    · obtain ⟨v, z⟩ := (C.all y c e).2
      exact ⟨v, cellK z⟩
  · rcases old e with ⟨_, z, _⟩ | ⟨_, e⟩
    · exact e0.hok.fresh (Nat.le_of_lt z)
    · exact (C.all y c e).1
  · have clen := C.len
    unfold NdefX.startF
    show _ = N.length
    rw [List.length_append, List.length_append, List.length_map, List.length_replicate, List.length_singleton]
    omega
end
/-! ### its frame is made -/
section
variable {M : Model} {A : Around} {E : Value → Shared → Prop} {s : Shared}
theorem new_env1 {sc : Scope} {cl : List (Str × Addr)} {x : Str} {u : Value} {qual : Str} {func : Option Addr} {code : Value} {Q : Env → Shared → Prop} (hk : sc.kind = .function) (hp : sc.names.lookup x = some .local ∨ sc.names.lookup x = some .cell) (hx : cl.lookup x = none)
    (hQ : ∀ (h₁ : Heap) (tk : Nat) (m : Str → Option Value), (∀ b o, s.heap.get? b = some o → h₁.get? b = some o) → h₁.Ns s.heap.objs.size m → (sc.names.lookup x = some .local → m x = some u) →
      (sc.names.lookup x = some .cell → ∃ c, (lCells sc s.heap.objs.size cl).lookup x = some c ∧ s.heap.objs.size < c ∧ h₁.IsCell c (some u)) →
      Q (newEnv sc s.heap.objs.size mainGlobals (lCells sc s.heap.objs.size cl) qual func code none builtinsNs) { s with heap := h₁, toks := tk }) :
    wpAny M A (newFunctionEnv sc mainGlobals cl [(x, u)] qual func code none builtinsNs) Q E s := by
  simp only [newFunctionEnv, Option.isSome_none, Bool.false_eq_true, if_false]
  refine wpAny_bind (wpAny_alloc ?_)
  refine wpAny_bind (wpAny_layCells _ (fun name kind cells => by cases hkc : kind == NameKind.cell <;> simp [hkc]) _ _ _ _ ?_)
  have sz : (s.heap.push { cls := .type "frame", data := .dict #[] }).objs.size = s.heap.objs.size + 1 := Heap.size_push ..
  rw [show ({ s with heap := s.heap.push { cls := .type "frame", data := .dict #[] } } : Shared).heap.objs.size = s.heap.objs.size + 1 from sz]
  have kp1 : ∀ b o, s.heap.get? b = some o → (pushCells (s.heap.push { cls := .type "frame", data := .dict #[] }) sc.names).get? b = some o := fun b o e => pushCells_keeps _ _ b o (Heap.get?_push_of_some _ e)
  have ns1 : (pushCells (s.heap.push { cls := .type "frame", data := .dict #[] }) sc.names).Ns s.heap.objs.size fun _ => none := (Heap.Ns.new s.heap (.type "frame")).keeps (pushCells_keeps _ _)
  have fin : ∀ {h₁ : Heap} {tk : Nat} {m : Str → Option Value}, (∀ b o, s.heap.get? b = some o → h₁.get? b = some o) → h₁.Ns s.heap.objs.size m → (sc.names.lookup x = some .local → m x = some u) →
      (sc.names.lookup x = some .cell → ∃ c, (lCells sc s.heap.objs.size cl).lookup x = some c ∧ s.heap.objs.size < c ∧ h₁.IsCell c (some u)) →
      Q { scope := sc, locals := s.heap.objs.size, globals := mainGlobals, cells := lCells sc s.heap.objs.size cl, qual, func, code, frame := some s.heap.objs.size, builtins := builtinsNs } { s with heap := h₁, toks := tk } := fun a b c d => hQ _ _ _ a b c d
  refine wpAny_bind ?_
  rw [List.forIn_cons]
  rcases hp with k | k
  · refine wpAny_bind (wpAny_bind (wpAny_storeName_local (m := fun _ => none) k ns1 (fun h' hn' hs' => wpAny_pure ?_) (by rw [hk]; rfl)))
    dsimp only
    rw [List.forIn_nil]
    refine wpAny_pure (wpAny_pure (fin (fun b o e => hs'.extBut b o (Nat.ne_of_lt (Heap.lt_size e)) (kp1 b o e)) hn' (fun _ => by simp) fun k2 => ?_))
    rw [k] at k2; cases k2
  · obtain ⟨c, hc⟩ := Option.isSome_iff_exists.mp (PySem.W.cellsFrom_some sc.names (s.heap.objs.size + 1) cl (.inl (show List.lookup x sc.names = some .cell from k)))
    have q := cf_new (y := x) (c := c) sc.names (s.heap.push { cls := .type "frame", data := .dict #[] }) cl (fun c e => by rw [hx] at e; cases e) (by rw [sz]; exact hc)
    have hlt : s.heap.objs.size < c := by
      rcases q.1 with z | z
      · rw [hx] at z; cases z
      · rw [sz] at z; omega
    refine wpAny_bind (wpAny_bind (wpAny_storeName_cell hk k hc q.2 fun h' hc' hs' => wpAny_pure ?_))
    dsimp only
    rw [List.forIn_nil]
    refine wpAny_pure (wpAny_pure (fin (tk := s.toks) (fun b o e => hs'.extBut b o (Nat.ne_of_lt (Nat.lt_trans (Heap.lt_size e) hlt)) (kp1 b o e)) (ns1.sameBut hs' (Nat.ne_of_lt hlt)) (fun k2 => ?_) fun _ => ⟨c, hc, hlt, hc'⟩))
    rw [k] at k2; cases k2
end
/-! ### it is called -/
section
variable {P : Program} {w : World} {K : PySem.W.Frag} {mg : Str → Option Value} {base : Heap} {N fr : List Str} {x q : Str} {sc : Scope} {f c' : Addr} {cl : List (Str × Addr)} {A : Around} {outer : List Env} {s : Shared} {H : Hp} {v : V} {u : Value} {ws : List (Option V)} {k : Nat}
theorem lam_run {params : Arguments} {body : Expr} {pm ctv : Value} {Q : VK} (S : LScope N x fr sc) (ho : s.heap.get? f = some (PySem.W.kla_obj "<lambda>" q params body sc cl pm c' ctv)) (hcd : s.heap.CodeRec (.ref c') q)
    (hb : bindArgs (PySem.W.kla_fn "<lambda>" q params body sc cl pm (.ref c') ctv) ⟨[u], []⟩ = pure [(x, u)]) (hr : Room (k + 1) A) (e0 : Env0 P w K mg base A outer s H) (C : NdefX.CellsAt cl fr ws s.heap H) (hx : cl.lookup x = none) (r : RelV v u)
    (hbody : Room k (A.deeper (lEnv q sc s.heap.objs.size f c' cl)) → ∃ tb, PE (lcx P w K mg base N q sc f c' cl A outer s H) body tb ∧ tb (NdefX.startF N [v] ws) H Q) :
    codeAny (model P w) A (.call (.ref f) ⟨[u], []⟩) (CR L2.CX0 outer P w H s Q E0) s := by
  have lim : s.heap.NoLimit := e0.mod.nolimit.keeps fun b o e => (e0.bs b o e).1
  refine PySem.W.kla_callFunE hr.depth ho rfl S.co S.gen rfl hcd ?_
  rw [hb]
  refine wpAny_pure (new_env1 S.kind S.par hx fun h₁ tk m kp hns hm hc => ⟨lim.keeps kp, ?_⟩)
  show codeAny _ _ (.expr body (lEnv q sc s.heap.objs.size f c' cl)) _ _
  obtain ⟨tb, ht, hq⟩ := hbody (hr.deeper _)
  have I : L2.Inv (lcx P w K mg base N q sc f c' cl A outer s H) [] (NdefX.startF N [v] ws) H { s with heap := h₁, toks := tk } := inv_startL S hr.hd e0 r C hx hns hm hc kp
  refine PySem.W.kla_codeExpr (wpAny_mono (ht.run [] _ _ H Q I hq) (fun v s' hs => ?_) fun e s' hs => hs)
  obtain ⟨w', H', J', rv, q⟩ := hs
  exact ⟨w', H', J'.os, J'.bare, J'.base, J'.hok, rv, q⟩
end
end Rs

set_option Elab.async false
set_option linter.all false
set_option maxRecDepth 100000
set_option maxHeartbeats 4000000
/-! sorted(range(n), key=f), f a function of the text. -/
namespace Rs
open PySem PySem.Spec PyProof.Rows L2 He RsH
/-! ### keys -/
inductive KV (H : Hp) : V → PyData → Prop where
  | int (i : Int) : KV H (.int i) (.int i)
  | pair {D : Addr} {a b : Int} (h : H D = some (.tup [.int a, .int b])) : KV H (.ref D) (.tuple [.int a, .int b])
theorem KV.same {H H' : Hp} {v : V} {d : PyData} (e : Same H H') : KV H v d → KV H' v d
  | .int i => .int i
  | .pair h => .pair (e _ _ h)
theorem KV.reads {P : Program} {w : World} {H : Hp} {h : Heap} {v : V} {d : PyData} {u : Value} (hok : HOk P w H h) (k : KV H v d) (r : RelV v u) : Reads h u d [] := by
  cases k with
  | int i =>
    obtain ⟨t, rfl⟩ := r
    exact .int _ _
  | pair hD =>
    cases r
    obtain ⟨_, its, r2, ob, ho, hc, n, hd⟩ := hok _ _ hD
    obtain ⟨u1, u2, rfl, ri, rj⟩ := vals2 r2
    obtain ⟨t1, rfl⟩ := ri
    obtain ⟨t2, rfl⟩ := rj
    exact .tuple ho hc hd (as := []) (.cons (as := []) (bs := []) (.int _ _) (.cons (as := []) (bs := []) (.int _ _) .nil))
section
variable {X : Cx} {pins : List (Addr × Obj)} {σ : L2.St} {H : Hp} {s : Shared}
/-- an object of ours is tracked from now on -/
theorem Inv.adopt {a : Addr} {xs : List V} (I : L2.Inv X pins σ H s) (hf : FpOk X pins H a) (new : ObjOk X.prog X.w (upd H a (.lst xs)) s.heap a (.lst xs)) : L2.Inv X pins σ (upd H a (.lst xs)) s := by
  have hn : H a = none := hf.1
  refine I.step (g' := s.gens) (t' := s.toks) (d' := s.drawn) (ch := [a]) (fun b hb => ?_) (fun b o _ _ _ e _ => e) (fun b o _ _ _ e _ => ⟨o.slots, e⟩) (fun b o hc e n => ?_) (fun b o _ e => ⟨o, e⟩) (fun b ys e => ?_) (fun b o u e => ?_) (fun b ps e => ⟨#[], ?_⟩)
    (fun m hm => hm) (fun b u e => ?_) I.bare
  · obtain rfl : b = a := by simpa using hb
    exact ⟨hf.2.2.2.1, hf.2.1, hf.2.2.2.2.1, hf.2.2.2.2.2⟩
  · rw [upd_ne (fun z => hc (by simp [z]))]; exact n
  · rw [upd_ne (ne_of_none e hn)]; exact e
  · rw [upd_ne (ne_of_none e hn)]; exact e
  · rw [upd_ne (ne_of_none e hn), e]; simp
  · by_cases hb : b = a
    · subst hb
      rw [upd_same] at e
      cases e
      exact new
    · rw [upd_ne hb] at e
      exact (I.hok b u e).stay (fun _ _ _ q => q) (fun d q => by rw [upd_ne (ne_of_none q hn)]; exact q) fun d ys q => by rw [upd_ne (ne_of_none q hn)]; exact q
/-- a new object that is ours alone -/
theorem fp_pin {b : Addr} {o : Obj} (hf : FpOk X pins H b) (ho : s.heap.get? b = some o) (hd : ∀ v, o.data ≠ .cell v) : s.heap.get? b = some o ∧ H b = none ∧ b ≠ X.env.locals ∧ b ∉ X.fs ∧ ∀ v, o.data ≠ .cell v := ⟨ho, hf.1, hf.2.1, hf.2.2.1, hd⟩
end
theorem each_take {α β : Type} {R : α → β → Prop} : ∀ {as : List α} {bs : List β} (_ : PySem.W.EachIs R as bs) {b : β}, ∀ {a : α}, R a b → PySem.W.EachIs R (as ++ [a]) (bs ++ [b])
  | _, _, .nil, _, _, h => .cons h .nil
  | _, _, .cons x r, _, _, h => .cons x (each_take r h)
theorem vals_map {u : Value} : ∀ {vs : List V} {us : List Value}, Vals vs us → ∀ {v : V}, RelV v u → Vals (vs ++ [v]) (us ++ [u])
  | _, _, .nil, _, h => .cons h .nil
  | _, _, .cons x r, _, h => .cons x (vals_map r h)
theorem ints_each : ∀ {us : List Value} {ks : List Nat}, PySem.W.EachIs (fun v (i : Nat) => ∃ t, v = Value.int (i : Int) t) us ks → Vals (ks.map nV) us
  | _, _, .nil => .nil
  | _, _, .cons ⟨t, h⟩ r => .cons ⟨t, h⟩ (ints_each r)
section
variable {X : Cx} {pins : List (Addr × Obj)} {σ : L2.St} {H : Hp} {s : Shared} {Q : VK}
theorem kv_reads {P : Program} {w : World} {H : Hp} {h : Heap} (hok : HOk P w H h) : ∀ {ks : List V} {us : List Value} {ds : List PyData}, Vals ks us → PySem.W.EachIs (KV H) ks ds → PySem.W.EachIs (fun v d => ∃ as, Reads h v d as) us ds
  | _, _, _, .nil, .nil => .nil
  | _, _, _, .cons r rr, .cons e ee => .cons ⟨[], e.reads hok r⟩ (kv_reads hok rr ee)
theorem range_vals {n : Nat} {acc : Array Value} (h : ItemsOf (fun i v => ∃ t, v = Value.int (0 + (i : Int) * 1) t) acc n) : PySem.W.EachIs (fun v (i : Nat) => ∃ t, v = Value.int (i : Int) t) acc.toList (List.range n) := by
  have key : ∀ (l : List Value) (k : Nat), (∀ j v, l[j]? = some v → ∃ t, v = Value.int ((k + j : Nat) : Int) t) → PySem.W.EachIs (fun v (i : Nat) => ∃ t, v = Value.int (i : Int) t) l (List.range' k l.length) := by
    intro l
    induction l with
    | nil => intro k _; exact .nil
    | cons v r ih =>
      intro k hk
      rw [List.length_cons, List.range'_succ]
      refine .cons (by simpa using hk 0 v rfl) (ih (k + 1) fun j v' e => ?_)
      obtain ⟨t, e2⟩ := hk (j + 1) v' (by simpa using e)
      exact ⟨t, by rw [e2]; congr 1; omega⟩
  have e : acc.toList.length = n := by rw [Array.length_toList]; exact h.1
  have q := key acc.toList 0 fun j v hj => by
    obtain ⟨t, e2⟩ := h.2 j v (by rw [← Array.getElem?_toList]; exact hj)
    exact ⟨t, by rw [e2]; congr 1; omega⟩
  rw [e] at q
  rw [List.range_eq_range']
  exact q
theorem sort_key {n : Nat} {f r : Addr} {fo : Obj} {key : Nat → PyData} (I : L2.Inv X pins σ H s) (hc : X.calm = true) (hr : Room 3 X.A) (hn : n ≤ 4000) (hrg : H r = some (.rng 0 n)) (hf : s.heap.get? f = some fo) (hfd : ∃ fd, fo.data = .func fd) (hfn : H f = none) (hfr : f ∉ frs X.stack)
    (hal : PySem.W.AllAlike ((List.range n).map key)) (hso : PySem.W.Sortable ((List.range n).map key)) (hdp : ∀ i, i < n → (key i).depth ≤ 1)
    (turn : ∀ (i : Nat), i < n → ∀ (pins' : List (Addr × Obj)) (s1 : Shared) (H1 : Hp) (u : Value), L2.Inv X pins' σ H1 s1 → Same H H1 → s1.heap.get? f = some fo → RelV (nV i) u →
      wpAny (model X.prog X.w) X.A.in1.in1 (call (.ref f) [u]) (EP X pins' σ fun v H2 => Same H1 H2 ∧ KV H2 v (key i)) (fun _ _ => False) s1)
    (q : ∀ (out : List Nat) (p : Addr) (H2 : Hp), out.Perm (List.range n) → out.Pairwise (fun i j => PySem.W.dataLe false key i j = true) → H p = none → Same H H2 → H2 p = some (.lst (out.map nV)) → Q (.ref p) H2) :
    wpAny (model X.prog X.w) X.A (call (.builtin "sorted") [.ref r] [(Str.ofString "key", .ref f)]) (EP X pins σ Q) X.xe s := by
  obtain ⟨t1, t2, t3, hrO⟩ := I.hok r _ hrg
  have hd : X.A.handled = none := hr.hd
  refine PyProof.Rows.call_function_entry_kw PyProof.Rows.kind_sorted PyProof.Rows.plain_sorted PyProof.Rows.entry_sorted (PyProof.Rows.ksk_s1 _ _) ?_
  unfold Builtin.«sorted»
  refine wpAny_bind (m := checkCount "sorted" 1 1 _) (wpAny_pure ?_)
  have hsm : Builtin.Range.small 0 n 1 = true := by
    have e1 : Builtin.Range.rangeSize 0 (n : Int) 1 = n := by unfold Builtin.Range.rangeSize; simp; omega
    unfold Builtin.Range.small Builtin.Range.rangeFitsLong
    rw [e1]
    simp
    omega
  have hrs : Builtin.Range.rangeSize 0 (n : Int) 1 = n := by unfold Builtin.Range.rangeSize; simp; omega
  refine wpAny_bind (collect_range (A := X.A.in1) hd hrO hsm hrs (by omega) fun h0 tk0 acc hk0 hacc => ?_)
  have hv := range_vals hacc
  have hlen : acc.toList.length = n := by rw [Array.length_toList]; exact hacc.1
  have hz : acc.toList.length ≤ sizeLine := by rw [hlen]; exact Nat.le_of_lt (small n hn)
  refine wpAny_bind (wpAny_newList ?_ hz)
  have I0 : L2.Inv X pins σ H { s with heap := h0, toks := tk0 } := I.kept hk0
  have hfo0 := hk0 _ _ hf
  generalize hvs : acc.toList = vs at *
  -- the new list
  have ha0 : (h0.push (seqObj "list" vs.toArray 0)).get? h0.objs.size = some (seqObj "list" vs.toArray 0) := Heap.get?_push_size _ rfl
  show wpAny _ _ _ _ _ { s with heap := h0.push (seqObj "list" vs.toArray 0), toks := tk0 }
  have kp0 : ∀ b o, h0.get? b = some o → (h0.push (seqObj "list" vs.toArray 0)).get? b = some o := fun b o e => Heap.get?_push_of_some _ e
  refine wpAny_bind (wpAny_holding (PyProof.Rows.wpAny_call_entry_kw PyProof.Rows.slot_list_sort ⟨_, ha0, rfl⟩ PyProof.Rows.entry_list_sort ?_ (PyProof.Rows.ksk_l1 _ _)))
  rw [PyProof.Rows.ksk_t1]
  generalize haE : h0.objs.size = a at *
  generalize hg1 : h0.push (seqObj "list" vs.toArray 0) = g1 at *
  have hsz1 : g1.objs.size = a + 1 := by rw [← hg1, size_push', haE]
  obtain ⟨e1, ho1⟩ : ∃ e1, (g1.update a (Obj.mapSeq fun _ => (#[] : Array Value))).get? a = some (seqObj "list" #[] e1) := ⟨_, get?_update_seq ha0 fun _ => #[]⟩
  have hkS : ((g1.update a (Obj.mapSeq fun _ => (#[] : Array Value))).push (seqObj "tuple" vs.toArray 0)).objs.size = a + 2 := by rw [size_push', Heap.size_update, hsz1]
  unfold PyProof.Rows.ksk_tree
  refine wpAny_bind (listItems_at ha0 rfl ?_)
  refine wpAny_bind (listUpdate_at ha0 rfl ?_ (by rw [List.size_toArray]; exact hz) (Nat.zero_le _))
  refine wpAny_bind (seqEpoch_at ho1 rfl ?_)
  refine wpAny_bind (wpAny_newTuple ?_ (by show vs.length ≤ _; exact hz))
  refine wpAny_bind (wpAny_newList ?_ (Nat.zero_le _))
  refine wpAny_holding ?_
  have kp2 : ∀ b o, h0.get? b = some o → (PySem.W.sortingHeap g1 a vs).get? b = some o := fun b o e => PySem.W.sortingHeap_old (by rw [← haE]; exact Nat.ne_of_lt (Heap.lt_size e)) (kp0 b o e)
  show wpAny _ _ _ _ _ { s with heap := PySem.W.sortingHeap g1 a vs, toks := tk0 }
  have I2 : L2.Inv X pins σ H { s with heap := PySem.W.sortingHeap g1 a vs, toks := tk0 } := I0.kept (t' := tk0) kp2
  rw [show ((g1.update a (Obj.mapSeq fun _ => (#[] : Array Value))).push { cls := .type "tuple", data := .seq vs.toArray }).objs.size = a + 2 from hkS]
  have hA2 : (PySem.W.sortingHeap g1 a vs).get? a = some (seqObj "list" #[] e1) := Heap.get?_push_of_some _ (Heap.get?_push_of_some _ ho1)
  have hK2 : (PySem.W.sortingHeap g1 a vs).get? (a + 2) = some (seqObj "list" #[] 0) := by
    unfold PySem.W.sortingHeap
    rw [← hkS]
    exact Heap.get?_push_size _ rfl
  have hfo2 : (PySem.W.sortingHeap g1 a vs).get? f = some fo := kp2 _ _ hfo0
  have fpA : FpOk X pins H a := I0.fpOk (by show h0.objs.size ≤ a; rw [haE]; exact Nat.le_refl _) (I0.hok.fresh (by show h0.objs.size ≤ a; rw [haE]; exact Nat.le_refl _))
  have fpK : FpOk X pins H (a + 2) := I0.fpOk (by show h0.objs.size ≤ a + 2; rw [haE]; omega) (I0.hok.fresh (by show h0.objs.size ≤ a + 2; rw [haE]; omega))
  obtain ⟨fd, hfd⟩ := hfd
  have fL : f ≠ X.env.locals := fun z => by
    obtain ⟨m, ⟨o, es, ep, ho, hd2, _⟩, _⟩ := I.loc
    rw [← z, hf] at ho
    cases ho
    rw [hfd] at hd2
    cases hd2
  have fF : f ∉ X.fs := fun z => hfr (by
    rcases I.ok.stk with e | ⟨e, hfm⟩
    · rw [e]; exact z
    · rw [e]
      unfold frs
      rw [List.filterMap_cons, hfm]
      exact List.mem_cons_of_mem _ z)
  have pf : ∀ {s1 : Shared} {H1 : Hp}, s1.heap.get? f = some fo → H1 f = none → s1.heap.get? f = some fo ∧ H1 f = none ∧ f ≠ X.env.locals ∧ f ∉ X.fs ∧ ∀ v, fo.data ≠ .cell v := fun a b => ⟨a, b, fL, fF, fun v z => by rw [hfd] at z; cases z⟩
  have naf : a ≠ f := fun z => by
    have := Heap.lt_size hfo0
    rw [haE, z] at this
    exact Nat.lt_irrefl _ this
  have nkf : a + 2 ≠ f := fun z => by
    have h2 : f < h0.objs.size := Heap.lt_size hfo0
    rw [haE, ← z] at h2
    exact absurd h2 (Nat.not_lt.mpr (Nat.le_add_right a 2))
  -- the loop
  let pA : Addr × Obj := (a, seqObj "list" #[] e1)
  let pF : Addr × Obj := (f, fo)
  have done : ∀ (s' : Shared), (∃ (Hj : Hp) (kA : Array Value) (e : Nat) (ks : List V), L2.Inv X (pins ++ [pA, pF]) σ Hj s' ∧ Same H Hj ∧ s'.heap.get? (a + 2) = some (seqObj "list" kA e) ∧ FpOk X (pins ++ [pA, pF]) Hj (a + 2) ∧ Vals ks kA.toList ∧ PySem.W.EachIs (KV Hj) ks (((List.range n).map key))) →
      wpAny (model X.prog X.w) X.A.in1.in1 (do let keys ← Builtin.List.listItems (.ref (a + 2)); PyProof.Rows.ksk_end a false vs.toArray e1 (.ref (a + 2)) keys)
        (fun fin s' => ∃ v, fin = .done (.ret v) ∧ wpAny (model X.prog X.w) X.A.in1 (ret (.ref a)) (fun fin s' => ∃ v, fin = .done (.ret v) ∧ EP X pins σ Q v s') X.xe s') X.xe s' := by
    rintro s' ⟨Hj, kA, e, ks, Ij, sj, hkj, fpj, vk, ek⟩
    refine wpAny_bind (listItems_at hkj rfl ?_)
    have aj := Ij.pin pA (by simp)
    have hl : kA.size = vs.length := by
      have h1 : ks.length = kA.size := by rw [← Array.length_toList]; exact vk.length
      have h2 : ks.length = n := by have h2 := ek.length; rw [List.length_map, List.length_range] at h2; exact h2
      rw [← h1, h2, ← hlen]
    have rd := kv_reads Ij.hok vk ek
    have key2 := PySem.W.SortsAt.data (prog := X.prog) (w := X.w) (A := X.A.in1.in1) (s := s') rd hal hso fun d hd => by
      obtain ⟨i, hi, rfl⟩ := List.mem_map.mp hd
      have h1 := hdp i (List.mem_range.mp hi)
      have h2 := hr.un
      show X.A.units + 1 + 1 + _ < _
      omega
    have kv : PySem.W.KeepsBut a (PySem.W.hideAll s'.heap [a + 2]) s'.heap := fun b o _ e => PySem.W.of_hideAll _ e
    refine PySem.W.keyH_end (h₁ := PySem.W.hideAll s'.heap [a + 2]) (vs := vs) kv (PySem.W.hideAll_none _ (by simp)) hkj aj.1 (fun z => absurd (show a + 2 = a from z) (by omega)) key2 hl hz fun h' tk c kh hh => ⟨_, rfl, ?_⟩
    refine wpAny_pure ⟨.ref a, rfl, ?_⟩
    -- the end's heap: all but a, kS kept
    have kall : ∀ b o, b ∉ [a, a + 2] → s'.heap.get? b = some o → h'.get? b = some o := fun b o hb e => by
      simp only [List.mem_cons, List.not_mem_nil, or_false, not_or] at hb
      exact kh b o hb.1 (PySem.W.hideAll_get _ e (by simp; exact hb.2))
    have Ip : L2.Inv X pins σ Hj s' := Ij.unpinned
    have fpA' : FpOk X pins Hj a := ⟨aj.2.1, fpA.2⟩
    have fpK' : FpOk X pins Hj (a + 2) := ⟨fpj.1, fpK.2⟩
    have I3 : L2.Inv X pins σ Hj { s' with heap := h', toks := tk } := Ip.turnedL kall fun b hb => by
      simp only [List.mem_cons, List.not_mem_nil, or_false] at hb
      rcases hb with rfl | rfl
      · exact fpA'
      · exact fpK'
    have eo : PySem.W.KeyedOut false ((List.range n).map key) vs (PySem.W.sortVals (PySem.W.dataKind s'.heap ((List.range n).map key)) false kA.toList vs) := ⟨s'.heap, kA.toList, hal, rfl, rd⟩
    have er := PySem.W.keyedOut_each key eo hv
    have hp : ((List.range n).mergeSort (PySem.W.dataLe false key)).Perm (List.range n) := List.mergeSort_perm _ _
    have hs : ((List.range n).mergeSort (PySem.W.dataLe false key)).Pairwise (fun i j => PySem.W.dataLe false key i j = true) :=
      have tl := PySem.W.sortLe_total (PyProof.Rows.listOrd PyProof.Rows.itemOrd) false fun b => PySem.W.keyToks (key b)
      List.pairwise_mergeSort (fun a b c => tl.trans a b c) (fun a b => Bool.or_eq_true_iff.mpr (tl.total a b)) _
    have I4 : L2.Inv X pins σ (upd Hj a (.lst (((List.range n).mergeSort (PySem.W.dataLe false key)).map nV))) { s' with heap := h', toks := tk } := Inv.adopt I3 fpA' ⟨by rw [List.length_map, hp.length_eq, List.length_range]; exact Nat.le_of_lt (small n hn), _, c, ints_each er, hh⟩
    exact ⟨.ref a, _, I4, rfl, q _ _ _ hp hs fpA.1 (same_upd sj fpA.1 _) upd_same⟩
  have Istart : L2.Inv X (pins ++ [pA, pF]) σ H { s with heap := PySem.W.sortingHeap g1 a vs, toks := tk0 } := I2.pins_of fun p hp => by
    rcases List.mem_append.mp hp with z | z
    · exact I2.pin p (List.mem_append_right _ z)
    · simp only [List.mem_cons, List.not_mem_nil, or_false] at z
      rcases z with rfl | rfl
      · exact fp_pin fpA hA2 (fun v z => by cases z)
      · exact pf hfo2 hfn
  unfold PyProof.Rows.ksk_rest
  refine wpAny_bind (wpAny_rule ?_)
  rw [List.forIn_toArray]
  refine wpAny_bind (PyProof.Rows.ksk_fold (fun i s' => ∃ (Hj : Hp) (kA : Array Value) (e : Nat) (ks : List V), L2.Inv X (pins ++ [pA, pF]) σ Hj s' ∧ Same H Hj ∧ s'.heap.get? (a + 2) = some (seqObj "list" kA e) ∧ FpOk X (pins ++ [pA, pF]) Hj (a + 2) ∧ Vals ks kA.toList ∧ PySem.W.EachIs (KV Hj) ks (((List.range n).map key).take i)) vs 0 _
    ⟨H, #[], 0, [], Istart, Same.refl _, hK2, ⟨fpK.1, fpK.2.1, fpK.2.2.1, fpK.2.2.2.1, fpK.2.2.2.2.1, fun p hp => ?_⟩, .nil, by rw [List.take_zero]; exact .nil⟩ ?step ?fin)
  · rw [← List.append_assoc] at hp
    rcases List.mem_append.mp hp with z | z
    · exact fpK.2.2.2.2.2 p z
    · simp only [List.mem_cons, List.not_mem_nil, or_false] at z
      rcases z with rfl | rfl
      · show a ≠ a + 2
        omega
      · exact Ne.symm nkf
  case step =>
    rintro j x s' hx ⟨Hj, kA, e, ks, Ij, sj, hkj, fpj, vk, ek⟩
    simp only [Nat.zero_add] at ek ⊢
    have hj : j < n := by
      have := (List.getElem?_eq_some_iff.mp hx).1
      omega
    have hxe : ∃ t, x = Value.int (j : Int) t := by
      have hz2 : (x, j) ∈ vs.zip (List.range n) := List.mem_of_getElem? (i := j) (by rw [List.getElem?_zip_eq_some]; exact ⟨hx, List.getElem?_range hj⟩)
      exact hv.zip _ hz2
    let pK : Addr × Obj := (a + 2, seqObj "list" kA e)
    have IjK : L2.Inv X (pins ++ [pA, pF] ++ [pK]) σ Hj s' := Ij.pins_of fun p hp => by
      rcases List.mem_append.mp hp with z | z
      · exact Ij.pin p (List.mem_append_right _ z)
      · obtain rfl : p = pK := by simpa using z
        exact fp_pin fpj hkj (fun v z => by cases z)
    have hfj := (Ij.pin pF (by simp)).1
    refine wpAny_bind (wpAny_attempt (wpAny_mono (turn j hj _ s' Hj x IjK sj hfj hxe) (fun u s'' he => ?_) fun _ _ hF => hF.elim))
    obtain ⟨v, H2, I2', rv, s2, kv⟩ := he
    have pk2 := I2'.pin pK (by simp)
    have hkz : kA.size ≤ n := by
      have h1 : ks.length = kA.size := by rw [← Array.length_toList]; exact vk.length
      have h2 := ek.length
      rw [List.length_take, List.length_map, List.length_range, h1] at h2
      rw [h2]
      exact Nat.min_le_right _ _
    have szl : sizeLine ≥ 4001 := by decide
    dsimp only
    refine wpAny_bind (listUpdate_at pk2.1 rfl ?_ (by omega) (by rw [Array.size_push]; omega))
    have sb := Heap.SameBut.update s''.heap (a + 2) (Obj.mapSeq (·.push u))
    obtain ⟨c2, hc2⟩ : ∃ c2, (s''.heap.update (a + 2) (Obj.mapSeq (·.push u))).get? (a + 2) = some (seqObj "list" (kA.push u) c2) := ⟨_, get?_update_seq pk2.1 (·.push u)⟩
    have I2p : L2.Inv X (pins ++ [pA, pF]) σ H2 s'' := I2'.unpinned
    have fp2 : FpOk X (pins ++ [pA, pF]) H2 (a + 2) := ⟨pk2.2.1, fpj.2⟩
    have I3 : L2.Inv X (pins ++ [pA, pF]) σ H2 { s'' with heap := s''.heap.update (a + 2) (Obj.mapSeq (·.push u)) } := I2p.turned (t' := s''.toks) (it := a + 2) (fun b o hb e => (sb.2 b hb).trans e) fp2.1 fp2.2.1 fp2.2.2.2.1 fp2.2.2.2.2.1 fp2.2.2.2.2.2
    refine wpAny_pure ⟨rfl, H2, kA.push u, c2, ks ++ [v], I3, sj.trans s2, hc2, fp2, ?_, ?_⟩
    · rw [Array.toList_push]
      exact vals_map vk rv
    · have ekk : ((List.range n).map key).take (j + 1) = ((List.range n).map key).take j ++ [key j] := by
        rw [List.take_add_one, List.getElem?_map, List.getElem?_range hj]
        rfl
      rw [ekk]
      exact each_take (ek.mono fun _ _ k => k.same s2) kv
  case fin =>
    intro s' hs
    rw [Nat.zero_add, List.take_of_length_le (by rw [List.length_map, List.length_range]; omega)] at hs
    exact done s' hs
end
end Rs

set_option Elab.async false
set_option linter.all false
set_option maxRecDepth 100000
set_option maxHeartbeats 4000000
/-! sorted(range(..), key=lambda x: ..). -/
namespace Rs
open PySem PySem.Spec PyProof.Rows L2 He RsH LamX
section
variable {X : Cx}
theorem cr_range1 : CallR X (.type "range") (fun vs H Q => ∃ j, vs = [V.int j] ∧ ∀ p, H p = none → Q (.ref p) (upd H p (.rng 0 j))) := by
  intro pins s σ H vs us Q I r h
  obtain ⟨j, rfl, q⟩ := h
  obtain ⟨u1, rfl, ri⟩ := vals1 r
  obtain ⟨t, rfl⟩ := ri
  refine call_range_1 ⟨.ref s.heap.objs.size, upd H s.heap.objs.size (.rng 0 j), I.laid (t' := s.toks + 1 + 1) (fun b o e => Heap.get?_push_of_some _ e) (Nat.le_refl _) ?_, rfl, q _ (I.hok.fresh (Nat.le_refl _))⟩
  exact ⟨_, _, _, Heap.get?_push_size _ rfl⟩
/-- the order that the keys give -/
def bSort (T : List (Addr × Str)) (N : List Str) (js : List Nat) (tb : TE) (σ : L2.St) (Q : VK) (v : V) (H1 : Hp) : Prop := ∃ (r : Addr) (n : Nat) (key : Nat → PyData), v = .ref r ∧ H1 r = some (.rng 0 n) ∧ n ≤ 4000 ∧ Tabs T H1 ∧
  PySem.W.AllAlike ((List.range n).map key) ∧ PySem.W.Sortable ((List.range n).map key) ∧ (∀ i, i < n → (key i).depth ≤ 1) ∧
  (∀ i, i < n → ∀ H2, Gr H1 H2 → ∀ R : VK, (∀ v H3, Same H2 H3 → KV H3 v (key i) → R v H3) → tb (NdefX.startF N [nV i] (js.map (NdefX.slotAt σ))) H2 R) ∧
  ∀ (out : List Nat) (p : Addr) (H2 : Hp), out.Perm (List.range n) → out.Pairwise (fun i j => PySem.W.dataLe false key i j = true) → Gr H1 H2 → Tabs T H2 → H2 p = some (.lst (out.map nV)) → Q (.ref p) H2
def oneV (B : V → Hp → Prop) : List V → Hp → Prop := fun vs H => match vs with
  | [v] => B v H
  | _ => False
def tSort (T : List (Addr × Str)) (N : List Str) (js : List Nat) (tr tb : TE) : TE := fun σ H Q => tr σ H (bSort T N js tb σ Q)
theorem Gr.tabs {T : List (Addr × Str)} {H H' : Hp} (e : Same H H') (t : Tabs T H) : Tabs T H' := t.ext e
theorem pe_sort {T : List (Addr × Str)} {N fr : List Str} {js : List Nat} {k : Nat} {x : Str} {params : Arguments} {body : Expr} {scope : Scope} {tr tb : TE} {re : Expr} {p pos lpos kpos : Pos} {c P : Addr} (hg : Gl X "sorted") (hm : X.mg "sorted" = none) (ha : PA X [re] (tCons tr tNil))
    (hc : X.calm = true) (hr : Room (k + 3) X.A) (TB : TabB X.base X.mg c P) (hcode : X.env.code = .ref c) (hmT : (P, X.env.qual ++ "<lambda>") ∈ T) (hu : ∀ p ∈ T, p.1 = P → p.2 = X.env.qual ++ "<lambda>") (hdef : defaultsOf params X.env = ([], []))
    (S : LScope N x fr scope) (hfree : ∀ y ∈ scope.names, y.2 = .free → X.env.scope.names.lookup y.1 = some .cell ∨ X.env.scope.names.lookup y.1 = some .free) (hfr : ∀ y ∈ fr, (y, NameKind.free) ∈ scope.names) (hjs : js.map (fun j => X.N[j]?) = fr.map some)
    (hbind : ∀ (q : Str) (cl : List (Str × Addr)) (pm cv ctv u : Value), bindArgs (PySem.W.kla_fn "<lambda>" q params body scope cl pm cv ctv) ⟨[u], []⟩ = pure [(x, u)])
    (hbody : ∀ (A : Around) (outer : List Env) (s : Shared) (H : Hp) (f c' : Addr), Room k (A.deeper (lEnv (X.env.qual ++ "<lambda>") scope s.heap.objs.size f c' (cloFrom X.env.cells scope.names []))) →
      PE (lcx X.prog X.w X.K X.mg X.base N (X.env.qual ++ "<lambda>") scope f c' (cloFrom X.env.cells scope.names []) A outer s H) body tb)
    (he : backTo pos (starEach [re] X.env) = (false, eval re X.env) :: backTo pos (starEach [] X.env) := by rfl) (hpl : (backTo pos (starEach [re] X.env)).any (·.1) = false := by rfl)
    :
    PE X (.Call (.Name "sorted" p) [re] [⟨some "key", .Lambda params body scope lpos, kpos⟩] pos) (tSort T N js tr tb) := by
  refine ⟨fun pins s σ H Q I h => ?_⟩
  refine wpAny_Call_Name_kw (ld_blt I hg hm (by rfl) ?_ (by decide))
  refine PyProof.Rows.callWith_kw (id := "sorted") (thn (ha.run pos pins s σ H (oneV (bSort T N js tb σ Q)) I h) fun us s1 ⟨vs, H1, I1, r1, q1⟩ => ?_) he hpl (by rfl) (by rfl)
  match vs, r1, q1 with
  | [v], .cons rv .nil, q1 =>
  obtain ⟨r, n, key, rfl, hrO, hn, hT, hal, hso, hdp, hturn, q⟩ := q1
  cases rv
  have hfc : ∀ y ∈ scope.names, y.2 = .free → ∃ c, X.env.cells.lookup y.1 = some c := fun y hy e => (hfree y hy e).elim (fun z => I.ok.has _ (.inl z)) fun z => I.ok.has _ (.inr z)
  have hx : (cloFrom X.env.cells scope.names []).lookup x = none := by
    cases e : (cloFrom X.env.cells scope.names []).lookup x with
    | none => rfl
    | some c =>
      exfalso
      rcases cloFrom_mem (PySem.mem_of_lookup e) with hm | ⟨h1, _⟩
      · cases hm
      · have k := S.frk x (S.free _ h1 rfl)
        rcases S.par with z | z <;> rw [k] at z <;> cases z
  show wpAny _ _ (evalAll ((do let v ← eval (.Lambda params body scope lpos) X.env; standAt pos; pure v) :: [])) _ _ s1
  refine wpAny_evalAll_cons (wpAny_bind (lam_make2 I1 TB hcode hmT hu hT hdef hfc fun f c' pm ctv H2 s2 I2 g2 T2 hfo hfn hfs hco => wpAny_bind (wpAny_standAt (wpAny_pure (wpAny_evalAll_nil ?_)))))
  show wpAny _ _ (call (.builtin "sorted") [.ref r] [(Str.ofString "key", .ref f)]) _ _ s2
  refine sort_key (key := key) I2 hc (hr.mono (by omega)) hn (g2 _ _ hrO (fun _ z => by cases z)) hfo ⟨_, rfl⟩ hfn hfs hal hso hdp (fun i hi pins' s3 H3 u I3 e3 hfo3 ru => ?_) fun out p H3 hp hs _ e3 hH3 => q out p H3 hp hs (g2.trans (Gr.of e3)) (T2.ext e3) hH3
  have cp : NdefX.Caps X (cloFrom X.env.cells scope.names []) fr js := NdefX.Caps.made I3.ok hfree hfr hjs
  have C := NdefX.cells_of I3 cp
  have e := I3.env0
  have e0 : Env0 X.prog X.w X.K X.mg X.base X.A.in1.in1 X.stack s3 H3 := ⟨e.frames, e.mod, e.bs, e.bsz, e.funs, e.frf, e.hok, e.bare⟩
  refine wpAny_call (codeAny_mono (lam_run (k := k) (Q := fun v H4 => Same H3 H4 ∧ KV H4 v (key i)) S hfo3 (NdefX.codeO_at I3.hok (e3 _ _ hco)) (hbind _ _ _ _ _ _) hr.in1.in1 e0 C hx ru fun hr' => ⟨tb, hbody _ _ _ _ _ _ hr', hturn i hi H3 (g2.trans (Gr.of e3)) _ fun v H4 e4 k4 => ⟨e4, k4⟩⟩) fun z s' hz => ?_)
  cases z with
  | error e => exact (show False from hz).elim
  | ok fl =>
    cases fl with
    | ret u => exact I3.after hz
    | next => exact False.elim hz
    | brk => exact False.elim hz
    | cont => exact False.elim hz
end
end Rs

set_option Elab.async false
set_option linter.all false
set_option maxRecDepth 100000
set_option maxHeartbeats 4000000
/-! Small rules: len of own instances by the methods' promises; a lambda's names by a check. -/
namespace Rs
open PySem PySem.Spec PyProof.Rows L2 He RsH LamX
def lscB (N : List Str) (x : Str) (fr : List Str) (sc : Scope) : Bool :=
  decide (sc.kind = .function) && !sc.isCoroutine && !sc.isGenerator && decide N.Nodup && decide (N.take (1 + fr.length) = x :: fr) && (decide (sc.names.lookup x = some .local) || decide (sc.names.lookup x = some .cell)) &&
  sc.names.all (fun y => !decide (y.2 = .cell) || (decide (y.1 = x) && decide (sc.names.lookup x = some .cell))) && sc.names.all (fun y => !decide (y.2 = .free) || decide (y.1 ∈ fr)) && fr.all (fun x => decide (sc.names.lookup x = some .free))
theorem lscope_by {N fr : List Str} {x : Str} {sc : Scope} (h : lscB N x fr sc = true) : LScope N x fr sc := by
  unfold lscB at h
  simp only [Bool.and_eq_true, Bool.not_eq_true', decide_eq_true_eq, List.all_eq_true, Bool.or_eq_true, decide_eq_false_iff_not] at h
  obtain ⟨⟨⟨⟨⟨⟨⟨⟨h1, h2⟩, h3⟩, h4⟩, h5⟩, h6⟩, h7⟩, h8⟩, h9⟩ := h
  exact ⟨h1, h2, h3, h4, h5, h6, fun y hy e => (h7 y hy).elim (fun z => absurd e z) id, fun y hy e => (h8 y hy).elim (fun z => absurd e z) id, h9⟩
section
variable {X : Cx} {k j : Nat} {C : Addr} {sp : Sp}
theorem len_o (c : C8.Met X.prog X.w X.K X.mg X.base k C "__len__" sp []) (hr : Room j X.A) (hk : k + 1 ≤ j) : CallR X (.builtin "len") (rLenO C sp) := by
  obtain ⟨f, fd, ps, ds, hc, hm, F, b, d⟩ := c.ex
  cases d
  exact call_lenO hm F b (hr.mono hk)
theorem eq_o (c : C8.Met X.prog X.w X.K X.mg X.base k C "__eq__" sp []) (hr : Room j X.A) (hk : k ≤ j) : OpR X (compareOp .Eq) (rEqO X.K C sp) := by
  obtain ⟨f, fd, ps, ds, hc, hm, F, b, d⟩ := c.ex
  cases d
  exact op_eqO hm F b (hr.mono hk)
theorem ne_o (hne : PySem.W.findIn X.K (.ref C) "__ne__" = some (some (.builtin "object.__ne__"))) (hob : PySem.W.mroIn X.K C (.type "object") = some true) (c : C8.Met X.prog X.w X.K X.mg X.base k C "__eq__" sp []) (hr : Room j X.A) (hk : k + 1 ≤ j) :
    OpR X (compareOp .NotEq) (fun x y H Q => rEqO X.K C sp x y H fun v H' => ∃ k, v = .bl k ∧ Q (.bl (!k)) H') := by
  obtain ⟨f, fd, ps, ds, hc, hm, F, b, d⟩ := c.ex
  cases d
  exact op_neO hne hob hm F b (hr.mono hk)
end
end Rs

set_option Elab.async false
set_option linter.all false
set_option maxRecDepth 100000
set_option maxHeartbeats 4000000
namespace Rs
open PySem PySem.Spec PyProof.Rows L2 He RsH LamX
section
variable {P : Program} {w : World} {K : PySem.W.Frag} {mg : Str → Option Value} {base : Heap} {h0 : Heap}
/-! ### Table.__len__ -/
def spTlen (K : PySem.W.Frag) : Sp := fun vs H Q _ => ∃ (t : Addr) (rs : List (List Int)), vs = [.ref t] ∧ TabAt K H t rs ∧ Q (.int (rs.length : Nat)) H
theorem sc_tlen : FnScope ["self"] ["self"] (defScope (inC 14 2)) := ⟨rfl, rfl, rfl, by decide +kernel, rfl, by decide +kernel, by decide +kernel⟩
theorem ok_tlen (T : Txt w K h0 mg) : Met0 P w K mg base 1 "Table" "__len__" (spTlen K) := by
  obtain ⟨fd, F⟩ := T.f_Table_len
  refine met_of F T.c_Table T.m_Table_len sc_tlen (fun vs H Q E h => ?_) (fun _ _ _ _ _ _ us hl => match us, hl with | [_], _ => rfl) (fun cdv A outer s H vs Q E hr h => ?_)
  · obtain ⟨t, rs, rfl, _⟩ := h
    rfl
  obtain ⟨t, rs, rfl, ⟨dx, tr, xs, h1, h2, h3⟩, q⟩ := h
  refine ⟨_, pss_one (ps_ret (pe_callB call_len_seq (by rfl) T.z_len (by decide +kernel) (pa_cons (pfd 0) pa_nil))), ?_⟩
  refine ⟨_, rfl, t, _, dx, _, _, rfl, h1, T.c_Table, T.n_Table_rows, rfl, tr, xs, rfl, .inr h2, ?_⟩
  rw [h3.len]
  exact q
/-- len(table) -/
abbrev rTlen (K : PySem.W.Frag) : List V → Hp → VK → Prop := rLenO (ga K "Table") (spTlen K)
theorem rd_tlen {H : Hp} {Q : VK} {t : Addr} {rs : List (List Int)} (hT : TabAt K H t rs) (hs : rs.length ≤ 4000) (q : Q (.int (rs.length : Nat)) H) : rTlen K [.ref t] H Q := by
  obtain ⟨dx, tr, xs, h1, h2, h3⟩ := id hT
  exact ⟨t, dx, _, rfl, h1, t, rs, rfl, hT, _, rfl, by omega, by omega, q⟩
/-! ### by_sums -/
def sumOf (rs : List (List Int)) (ps : List Nat) (i : Nat) : Int := (ps.map fun p => val rs i p).sum
def spSums (K : PySem.W.Frag) : Sp := fun vs H Q _ => ∃ (t pl : Addr) (rs : List (List Int)) (ps : List Nat), vs = [.ref t, .ref pl] ∧ Told2 K H t pl rs ps ∧ Tabs (Tl K) H ∧
  ∀ (o : List Nat) (p : Addr) (H2 : Hp), o.Perm (List.range rs.length) → o.Pairwise (fun i j => sumOf rs ps i < sumOf rs ps j ∨ (sumOf rs ps i = sumOf rs ps j ∧ i ≤ j)) → Gr H H2 → Tabs (Tl K) H2 → H2 p = some (.lst (o.map nV)) → Q (.ref p) H2
theorem sc_sums : FnScope ["table", "places"] ["table", "places"] (defScope (topS 27)) := ⟨rfl, rfl, rfl, by decide +kernel, rfl, by decide +kernel, by decide +kernel⟩
def lamE : Stmt → Expr
  | .Return (some (.Call _ _ [⟨_, e, _⟩] _)) _ => e
  | .Assign _ (.Call _ _ [⟨_, e, _⟩] _) _ => e
  | _ => .Name "" ⟨0, 0, 0, 0⟩
def lamS (st : Stmt) : Scope := match lamE st with
  | .Lambda _ _ sc _ => sc
  | _ => defScope (topS 27)
abbrev lsc1 : Scope := lamS ((defBody (topS 27)).getD 0 (.Pass ⟨0, 0, 0, 0⟩))
theorem ls1 : LScope ["index", "table", "places", "place"] "index" ["table", "places"] lsc1 := lscope_by (by decide +kernel)
theorem lf1 : NdefX.ndefB (defScope (topS 27)) lsc1 ["table", "places"] = true := by decide +kernel
theorem ok_sums (B : TxtB w K h0 mg base) : Cal0 P w K mg base 4 "by_sums" (spSums K) := by
  have T := B.t
  obtain ⟨fd, F⟩ := T.f_by_sums
  have mT : Met0 P w K mg base 1 "Table" "__len__" (spTlen K) := ok_tlen T
  refine cal_ofT F T.g_by_sums sc_sums (fun vs H Q E h => ?_) (fun _ _ _ _ _ _ us hl => match us, hl with | [_, _], _ => rfl) (fun A outer s H vs Q E hr h => ?_)
  · obtain ⟨t, pl, rs, ps, rfl, _⟩ := h
    rfl
  obtain ⟨t, pl, rs, ps, rfl, Td, hTl, q⟩ := h
  refine ⟨_, pss_one (ps_ret (pe_sort (T := Tl K) (N := ["index", "table", "places", "place"]) (fr := ["table", "places"]) (js := [0, 1]) (k := 0) (tb := tTup (tCons (tCB (rSum K) (tCons (tLc (iTup K (tVar 2)) (gName 3) tYes (tCell K 1 0 3) [3]) tNil)) (tCons (tVar 0) tNil))) (by rfl) T.z_sorted
    (pa_cons (pe_callTy cr_range1 (by rfl) T.z_range (by decide +kernel) (pa_cons (pe_callB (len_o mT hr (by decide)) (by rfl) T.z_len (by decide +kernel) (pa_cons (pv 0) pa_nil)) pa_nil)) pa_nil)
    rfl hr B.tb1 rfl (List.mem_cons_self) (fun p hp e => ?_) rfl ls1 (NdefX.ndef_free lf1) (NdefX.ndef_fr lf1) rfl (fun _ _ _ _ _ _ => rfl) (fun A outer s H f c' hr2 =>
      pe_tup (pa_cons (pe_callB (cr_sum rfl) (by rfl) T.z_sum (by decide +kernel) (pa_cons (pe_lc (own := [("place", 3)]) (g := gName 3) (tt := tYes) (te := tCell K 1 0 3) rfl ls1.nd (pi_tup (pv 2)) (blkOk_by (N := ["index", "table", "places", "place"]) (sc := lsc1) (by decide +kernel))
        (fun _ _ _ _ _ => pg_name (i := 3) ls1.nd rfl (Or.inl rfl)) (fun _ _ _ _ _ => pts_nil) (fun _ _ _ _ _ => pe_cell 1 0 3)) pa_nil)) (pa_cons (pv 0) pa_nil))))), ?_⟩
  · rcases List.mem_cons.mp hp with rfl | hp
    · rfl
    · rcases List.mem_cons.mp hp with rfl | hp
      · exact absurd e.symm T.tne
      · cases hp
  have n10 := Td.sh.n10
  have few := Td.sh.few
  obtain ⟨dx, tr, xs, h1, h2, h3⟩ := id Td.tab
  refine ⟨_, rfl, t, dx, _, rfl, h1, t, rs, rfl, Td.tab, _, rfl, by omega, by omega, ?_⟩
  refine ⟨_, rfl, fun p hp => ⟨p, rs.length, fun i => .tuple [.int (sumOf rs ps i), .int i], rfl, upd_same, by omega, hTl.ext (same_new hp _), fun d hd d' hd' => ?_, .inl fun d hd => ?_, fun i _ => ?_, fun i hi H2 g R hR => ?_, fun o b H2 h1 h2 g2 t2 h3 => ?_⟩⟩
  · obtain ⟨i, _, rfl⟩ := List.mem_map.mp hd
    obtain ⟨j, _, rfl⟩ := List.mem_map.mp hd'
    rfl
  · obtain ⟨i, _, rfl⟩ := List.mem_map.mp hd
    exact ⟨_, _, rfl⟩
  · show max 0 (max 0 0) + 1 ≤ 1
    decide
  · have Td2 := Td.gr ((Gr.of (same_new hp _)).trans g)
    refine ⟨_, rfl, pl, rfl, ⟨_, Td2.pls⟩, fun D nD => lc_map walk_tup (fun x => match x with | .int p => .int (val rs i p.toNat) | _ => .non) nD (small _ (by rw [List.length_map]; omega)) (fun H' e => (Gr.of e).sqT Td2.pls) (fun _ => rfl) (fun k x H' hx e R hR => ?_) fun H' e hD => ?_⟩
    · rw [List.getElem?_map] at hx
      obtain ⟨p, hp, rfl⟩ := Option.map_eq_some_iff.mp hx
      have hm : p ∈ ps := List.mem_of_getElem? hp
      have Td' := Td2.gr (Gr.of e)
      exact rd_cell T Td'.tab (i := i) (p := p) rfl rfl rfl hi (Td.sh.lt hi hm) (hR _ (Same.refl _))
    · refine ⟨D, ps.map fun p => val rs i p, rfl, SqL.of (by rw [hD, List.map_map, List.map_map]; rfl), ⟨_, rfl, show (2 : Nat) ≤ sizeLine by decide, fun a ha => hR _ _ (e.trans (same_new ha _)) (.pair ?_)⟩⟩
      rw [upd_same]
      rfl
  · refine q o b H2 h1 ?_ ((Gr.of (same_new hp _)).trans g2) t2 h3
    rw [PySem.W.dataLe_ii] at h2
    exact h2.imp fun z => by
      have z := of_decide_eq_true z
      omega
end
end Rs

set_option Elab.async false
set_option linter.all false
set_option maxRecDepth 100000
set_option maxHeartbeats 4000000
/-! enumerate(tuple), tuple[::-1], len(set(x)), sorted(tuple). -/
namespace Rs
open PySem PySem.Spec PyProof.Rows L2 He RsH LamX
/-! ### enumerate(tuple) -/
open AutoSeq1 (wpAny_loadPart') in
theorem meets_enumerate_newT (l : Addr) (items : Array Value) (n : Nat) (dct : Option Addr) (sl : Array (Option Value)) :
    Meets (Builtin.«enumerate.__new__» ⟨[.type "enumerate", .ref l], []⟩) (fun _ R s => s.heap.get? l = some { cls := .type "tuple", dict := dct, data := .seq items n, slots := sl } ∧
      R (.ok (.ret (.ref (s.heap.push { cls := .type "tuple_iterator", data := .fields #[.ref l, .int 0 0] }).objs.size)))
        { s with heap := (s.heap.push { cls := .type "tuple_iterator", data := .fields #[.ref l, .int 0 0] }).push { cls := .type "enumerate", data := .fields #[.none, .bool false, .ref s.heap.objs.size, rawInt 0, .none, .none] } }) :=
  .of_wp fun prog w A R s h => by
    obtain ⟨hp, g, d, tk, os⟩ := s; obtain ⟨hl, h⟩ := h
    have hsub := sub_enumerate
    have hL : Heap.IsTuple (Shared.heap ⟨hp, g, d, tk, os⟩) l items := ⟨_, hl, rfl, n, rfl⟩
    wp_walk using wpAny_loadPart' hl
    refine wpAny_stack_any fun st => wpAny_pure ?_
    split
    · rename_i c _ _ _ _ _
      cases (c == Value.type "enumerate")
      · wp_walk using wpAny_loadPart' hl, wpAny_pyIter_tuple hL
        exact ⟨_, rfl, h⟩
      · wp_walk using wpAny_loadPart' hl, wpAny_pyIter_tuple hL
        exact ⟨_, rfl, h⟩
    · wp_walk using wpAny_loadPart' hl, wpAny_pyIter_tuple hL
      exact ⟨_, rfl, h⟩
section
variable {prog : Program} {w : World} {A : Around} {E : Value → Shared → Prop} {s : Shared}
theorem call_enumerate_tuple {l : Addr} {items : Array Value} {Q : Value → Shared → Prop} (hL : s.heap.IsTuple l items)
    (h : ∀ h', IsEnum h' (s.heap.objs.size + 1) s.heap.objs.size 0 .none → h'.IsTupleIter s.heap.objs.size l 0 → h'.objs.size = s.heap.objs.size + 2 →
      (∀ b o, s.heap.get? b = some o → h'.get? b = some o) → Q (.ref (s.heap.objs.size + 1)) { s with heap := h' }) :
    wpAny (model prog w) A (call (.type "enumerate") [.ref l]) Q E s := by
  obtain ⟨⟨c, dct, dt, sl⟩, hl, hc, n, hd⟩ := hL
  replace hc : c = .type "tuple" := hc
  replace hd : dt = .seq items n := hd
  subst hc hd
  refine callType_new F.called_enumerate (by decide) (F.typeCall_enumerate_1 _) (F.newCall_enumerate_1 _) (fun obj => F.args_object_init_2 obj _) F.entry_enumerate_new
    (meets_enumerate_newT l items n dct sl) ⟨hl, ?_⟩
  have hz : (s.heap.push { cls := .type "tuple_iterator", data := .fields #[.ref l, .int 0 0] }).objs.size = s.heap.objs.size + 1 := Heap.size_push ..
  show _ ∧ _
  rw [hz]
  have he : IsEnum ((s.heap.push { cls := .type "tuple_iterator", data := .fields #[.ref l, .int 0 0] }).push
      { cls := .type "enumerate", data := .fields #[.none, .bool false, .ref s.heap.objs.size, rawInt 0, .none, .none] }) (s.heap.objs.size + 1) s.heap.objs.size 0 .none := by
    have := Heap.get?_push_size (s.heap.push { cls := .type "tuple_iterator", data := .fields #[.ref l, .int 0 0] })
      (o := { cls := .type "enumerate", data := .fields #[.none, .bool false, .ref s.heap.objs.size, rawInt 0, .none, .none] }) rfl
    rw [hz] at this; exact this
  refine ⟨⟨_, he, rfl⟩, h _ he ⟨_, Heap.get?_push_of_some _ (Heap.get?_push_size _ rfl), rfl, rfl⟩ (by rw [Heap.size_push, hz]) fun b o x => Heap.get?_push_of_some _ (Heap.get?_push_of_some _ x)⟩
end
/-- the tuple at a, each item in a new pair -/
def IteT (K : PySem.W.Frag) (a : Addr) : It :=
  ⟨fun i H => ∃ (xs : List V) (x : V), SqT K H a xs ∧ xs[i]? = some x, fun i H v H' => ∃ T x, v = .ref T ∧ H T = none ∧ H' = upd H T (.tup [.int (i : Nat), x]) ∧ ∀ xs, SqT K H a xs → xs[i]? = some x, fun i H => ∃ xs : List V, SqT K H a xs ∧ xs.length = i⟩
theorem walk_enumT {K : PySem.W.Frag} {a : Addr} {xs : List V} : Walk (IteT K a) xs.length (fun H => SqT K H a xs) (YPair (fun i => some (.int (i : Nat))) (fun i => xs[i]?)) := by
  refine ⟨fun i _ hi q => ⟨xs, xs[i], q, by simp [hi]⟩, fun _ q => ⟨xs, q, rfl⟩, fun i H v H' _ q y => ?_⟩
  obtain ⟨T, x, h1, h2, h3, h4⟩ := y
  exact ⟨T, .int (i : Nat), x, h1, h2, h3, rfl, h4 xs q⟩
theorem turn_enumT {P : Program} {w : World} {K : PySem.W.Frag} {elts : List Expr} {kk : Nat} {tpos : Pos} (a e it : Addr) :
    Turn P w K (.Tuple elts kk tpos) (IteT K a) [e, it] e (fun i h => (∃ old, IsEnum h e it ((i : Nat) : Int) old) ∧ h.IsTupleIter it a i ∧ e ≠ it ∧ a ≠ it ∧ a ≠ e) where
  mem := by simp
  obj := fun i h st b hb => by
    obtain ⟨⟨old, he⟩, ⟨o, ho, hc, hd⟩, _⟩ := st
    have e' : b = e ∨ b = it := by simpa using hb
    rcases e' with z | z
    · rw [z]; exact ⟨_, he, fun v q => nomatch q⟩
    · rw [z]; exact ⟨o, ho, fun v q => by rw [hd] at q; cases q⟩
  keep := fun i h h' st k => let ⟨⟨old, he⟩, hi, hne⟩ := st; ⟨⟨old, k e (by simp) _ he⟩, hi.at fun o q => k it (by simp) o q, hne⟩
  item := by
    intro X hP hw hK hc i pins s σ H E I hf st hg
    subst hP hw hK
    obtain ⟨⟨old, he⟩, hit, hne, hai, hae⟩ := st
    obtain ⟨xs, x, hq, hx⟩ := hg
    obtain ⟨its, rv, p, hz⟩ := I.tuple hq
    obtain ⟨u, hu, ru⟩ := rv.get hx
    have hel : e < s.heap.objs.size := Heap.lt_size he
    have hil : it < s.heap.objs.size := by obtain ⟨_, q, _⟩ := hit; exact Heap.lt_size q
    have hil2 : i < its.toArray.size := by rw [List.size_toArray]; exact (List.getElem?_eq_some_iff.mp hu).1
    have pT : s.heap.IsTuple a its.toArray := p
    refine wpAny_pyNext_enum_itemD (Draws.tuple (A := X.A.in1) (I.ok.hd hc) it a hai its.toArray) he ⟨hit, pT⟩ hil2 hne (by simp [hne, Ne.symm hae]) fun x2 h' tk hP2 ho hit' hT hsz hk => ?_
    have ex : x2 = u := by
      have hP2 : its.toArray[i]? = some x2 := hP2
      rw [List.getElem?_toArray, hu] at hP2
      exact (Option.some.inj hP2).symm
    subst ex
    refine ⟨_, rfl, wpAny_letOwnedTupleGo_enum (s := { s with heap := h', toks := tk + 1 }) ho fun h'' he' sb => ?_⟩
    have hT2 : h''.get? s.heap.objs.size = some { cls := .type "tuple", data := .seq #[.int i tk, x2] } := (sb.2 _ (Nat.ne_of_gt hel)).trans hT
    have new : ObjOk X.prog X.w (upd H s.heap.objs.size (.tup [.int (i : Nat), x])) h'' s.heap.objs.size (.tup [.int (i : Nat), x]) :=
      ⟨by show 2 ≤ sizeLine; decide, [.int i tk, x2], .cons ⟨_, rfl⟩ (.cons ru .nil), ⟨_, hT2, rfl, _, rfl⟩⟩
    have I1 : L2.Inv X pins σ (upd H s.heap.objs.size (.tup [.int (i : Nat), x])) { s with heap := h'', toks := tk + 1 } :=
      I.turnedNew (ch := [e, it]) (fun b ob hb q => (sb.2 b (fun z => hb (by simp [z]))).trans (hk b ob (fun z => hb (by simp [z])) (fun z => hb (by simp [z])) q)) hf (Nat.le_refl _) new
    refine ⟨.ref s.heap.objs.size, _, I1, rfl, ⟨_, x, rfl, I.hok.fresh (Nat.le_refl _), rfl, fun ys hy => by rw [I.tuple_inj hy hq]; exact hx⟩, ⟨⟨x2, ?_⟩, hit'.1.at fun o q => (sb.2 it (Ne.symm hne)).trans q, hne, hai, hae⟩, fun b hb => ?_⟩
    · have e1 : ((i + 1 : Nat) : Int) = (i : Int) + 1 := by omega
      rw [e1]; exact he'
    · have hb' : b < s.heap.objs.size := by
        have e' : b = e ∨ b = it := by simpa using hb
        rcases e' with z | z
        · rw [z]; exact hel
        · rw [z]; exact hil
      rw [upd_ne (Nat.ne_of_lt hb')]
      exact (hf b hb).1
  done := by
    intro X hP hw hK hc i pins s σ H E I hf st hg
    subst hP hw hK
    obtain ⟨⟨old, he⟩, hit, hne, hai, hae⟩ := st
    obtain ⟨xs, hq, hx⟩ := hg
    obtain ⟨its, rv, p, hz⟩ := I.tuple hq
    obtain ⟨f0, f1, f2, f3, f4, f5⟩ := hf it (by simp)
    have hl := rv.length
    have pT : s.heap.IsTuple a its.toArray := p
    have hn : i = its.toArray.size := by rw [List.size_toArray]; omega
    exact wpAny_pyNext_enum_endD (Draws.tuple (A := X.A.in1) (I.ok.hd hc) it a hai its.toArray) he ⟨by rw [← hn]; exact hit, pT⟩ fun h' eb => ⟨rfl, I.turned (t' := s.toks) (fun b o hb q => eb b o hb q) f0 f1 f3 f4 f5⟩
  self := fun A i s Q E st h => let ⟨⟨_, he⟩, _⟩ := st; wpAny_pyIter_enum he h
def iEnumT (K : PySem.W.Frag) (ta : TA) : TI := fun σ H R => ta σ H fun vs H1 => ∃ a xs, vs = [.ref a] ∧ SqT K H1 a xs ∧ R (IteT K a) H1
theorem pi_enumT {X : Cx} {e : Expr} {ta : TA} {p pos tpos : Pos} {elts : List Expr} {kk : Nat} (hg : Gl X "enumerate") (hm : X.mg "enumerate" = none) (ha : PA X [e] ta) (hs : starEach [e] X.env = [(false, eval e X.env)] := by rfl) :
    PI X (.Tuple elts kk tpos) (.Call (.Name "enumerate" p) [e] [] pos) (iEnumT X.K ta) := by
  refine ⟨fun pins s σ H R I h => ?_⟩
  refine Call_ (ld_blt I hg hm boot_enumerate (PyProof.Rows.callWith_type1 (thn (ha.run pos pins s σ H _ I h) fun us s1 ⟨vs, H1, I1, r1, q1⟩ => ?_) hs rfl))
  obtain ⟨a, xs, ex, hq, q⟩ := q1
  subst ex
  cases r1 with
  | cons r rr =>
    cases rr
    cases r
    obtain ⟨its, rv, p', hz⟩ := I1.tuple hq
    have pT : s1.heap.IsTuple a its.toArray := p'
    have al : a < s1.heap.objs.size := p'.lt
    refine call_enumerate_tuple pT fun h' he hit hsz hk => wpAny_pyIter_enum he ?_
    have I2 : L2.Inv X pins σ H1 { s1 with heap := h' } := I1.kept (t' := s1.toks) hk
    refine ⟨s1.heap.objs.size + 1, [s1.heap.objs.size + 1, s1.heap.objs.size], _, _, H1, rfl, I2, turn_enumT a (s1.heap.objs.size + 1) s1.heap.objs.size, ⟨⟨.none, he⟩, hit, Nat.succ_ne_self _, Nat.ne_of_lt al, Nat.ne_of_lt (Nat.lt_succ_of_lt al)⟩, fun b hb => ?_, q⟩
    have e' : b = s1.heap.objs.size + 1 ∨ b = s1.heap.objs.size := by simpa using hb
    have hle : s1.heap.objs.size ≤ b := by
      rcases e' with z | z
      · rw [z]; exact Nat.le_add_right _ _
      · rw [z]; exact Nat.le_refl _
    exact I1.fpOk hle (I1.hok.fresh hle)
/-! ### tuple[::-1] -/
theorem sliceApplied_rev {prog : Program} {w : World} {A : Around} {E : Value → Shared → Prop} {s : Shared} {sl : Addr} {vs : Value} {n : Nat} {Q : Int × Int × Nat → Shared → Prop} (hs : s.heap.IsSliceOf sl .none .none vs) (ps : IsPart vs (some (-1)))
    (h : Q ((n : Int) - 1, -1, n) s) : wpAny (model prog w) A (Builtin.Slice.sliceApplied (.ref sl) (pure (n : Int))) Q E s := by
  obtain ⟨os, hos, hcs, hds⟩ := id hs
  unfold Builtin.Slice.sliceApplied Builtin.Slice.sliceFields
  refine wpAny_bind (wpAny_bind (wpAny_field hos hds (x := .none) rfl (wpAny_bind (wpAny_field hos hds (x := .none) rfl (wpAny_bind (wpAny_field hos hds (x := vs) rfl (wpAny_pure ?_)))))))
  refine wpAny_bind (HT.slicePart_ ps ?_)
  show wpAny _ _ (if ((-1 : Int) == 0) = true then _ else _) _ _ s
  rw [if_neg (by decide)]
  refine wpAny_bind (PyProof.Rows.slicePart_none (wpAny_bind (PyProof.Rows.slicePart_none (wpAny_bind (wpAny_pure ?_)))))
  show wpAny _ _ (match Builtin.Slice.sliceAdjust none none (-1) (n : Int) with | (lo, hi) => pure (lo, (-1 : Int), Builtin.Slice.slicePlaces lo hi (-1))) _ _ s
  have e1 : Builtin.Slice.sliceAdjust none none (-1) (n : Int) = ((n : Int) - 1, -1) := rfl
  have e2 : Builtin.Slice.slicePlaces ((n : Int) - 1) (-1) (-1) = n := by
    unfold Builtin.Slice.slicePlaces
    rw [if_neg (by decide)]
    by_cases hn : n = 0
    · subst hn; rfl
    · rw [if_pos (by omega)]
      show (((n : Int) - 1 - -1 - 1) / 1 + 1).toNat = n
      rw [Int.ediv_one]
      omega
  rw [e1]
  show wpAny _ _ (pure ((n : Int) - 1, (-1 : Int), Builtin.Slice.slicePlaces ((n : Int) - 1) (-1) (-1))) _ _ s
  rw [e2]
  exact wpAny_pure h
theorem pick_rev (xs : Array Value) : ((List.range xs.size).filterMap fun (m : Nat) => xs[(((xs.size : Int) - 1) + (m : Int) * -1).toNat]?).toArray = xs.toList.reverse.toArray := by
  have e : ((List.range xs.size).filterMap fun (m : Nat) => xs[(((xs.size : Int) - 1) + (m : Int) * -1).toNat]?) = ((List.range xs.size).map fun k => xs.size - 1 - k).filterMap (xs[·]?) := by
    rw [List.filterMap_map]
    have key : ∀ l : List Nat, (∀ k ∈ l, k < xs.size) → l.filterMap (fun (m : Nat) => xs[(((xs.size : Int) - 1) + (m : Int) * -1).toNat]?) = l.filterMap ((xs[·]?) ∘ fun k => xs.size - 1 - k) := by
      intro l
      induction l with
      | nil => intro _; rfl
      | cons k r ih =>
        intro h
        have hk := h k List.mem_cons_self
        have e : (((xs.size : Int) - 1) + (k : Int) * -1).toNat = xs.size - 1 - k := by omega
        rw [List.filterMap_cons, List.filterMap_cons, e, ih fun j hj => h j (List.mem_cons_of_mem _ hj)]
        rfl
    exact key _ fun k hk => List.mem_range.mp hk
  rw [e, PySem.W.krv_range, List.filterMap_reverse, PySem.W.krv_all]
theorem getItem_tuple_rev {prog : Program} {w : World} {A : Around} {E : Value → Shared → Prop} {s : Shared} {t sl : Addr} {items : Array Value} {vs : Value} {Q : Value → Shared → Prop} (ht : IsTup s.heap t items) (hs : s.heap.IsSliceOf sl .none .none vs) (ps : IsPart vs (some (-1)))
    (h : Q (.ref s.heap.objs.size) { s with heap := s.heap.push { cls := .type "tuple", data := .seq items.toList.reverse.toArray } }) (hsz : items.size ≤ sizeLine) : wpAny (model prog w) A (getItem (.ref t) (.ref sl)) Q E s := by
  have htake : sizeOk (.seq items.toList.reverse.toArray) := by
    show items.toList.reverse.toArray.size ≤ sizeLine
    rw [List.size_toArray, List.length_reverse, Array.length_toList]
    exact hsz
  obtain ⟨os, hos, hcs, hds⟩ := id hs
  have hTs : s.TypeIs (.ref sl) "slice" := ⟨os, hos, hcs⟩
  unfold getItem
  try with_reducible refine wpAny_holding ?_
  first | refine wpAny_bind (wpAny_pure ?_) | skip
  refine wpAny_bind (wpAny_sequenceKey ht.typeIs (by decide) ?_)
  refine wpAny_bind (wpAny_callSpecial?_slot (name := Str.ofString "__getitem__") ht.typeIs PyProof.Rows.slot_tuple_getitem
    (wpAny_call_entry PyProof.Rows.slot_tuple_getitem ht.typeIs entry_tuple_getitem ?_ (args_tuple_getitem _ _)))
  show wpAny _ _ (Builtin.Tuple.tupleItemsOf (.ref t) >>= _) _ _ s
  refine wpAny_bind (tupleItemsOf_ ht ?_)
  refine wpAny_bind (wpAny_typeOf hTs ?_)
  rw [if_pos (by decide)]
  refine wpAny_bind (sliceApplied_rev (n := items.size) hs ps ?_)
  have hno : ¬ ((((items.size : Int) - 1) == 0 && (-1 : Int) == 1 && items.size == items.size) = true) := by
    intro q
    rw [Bool.and_eq_true, Bool.and_eq_true] at q
    exact absurd q.1.2 (by decide)
  show wpAny _ _ (if (((items.size : Int) - 1) == 0 && (-1 : Int) == 1 && items.size == items.size) = true then _ else _) _ _ s
  rw [if_neg hno, pick_rev]
  first
    | exact wpAny_bind (m := Builtin.Tuple.tupleExact _) (wpAny_newObj_type (wpAny_pure ⟨_, rfl, wpAny_pure h⟩) htake)
    | exact wpAny_bind (m := Builtin.Tuple.tupleExact _) (wpAny_newObj_type (wpAny_bind (wpAny_pure (wpAny_pure ⟨_, rfl, wpAny_pure h⟩))) htake)
    | exact wpAny_bind (wpAny_bind (m := Builtin.Tuple.tupleExact _) (wpAny_newObj_type (wpAny_pure (wpAny_pure ⟨_, rfl, wpAny_pure h⟩)) htake))
    | exact wpAny_bind (wpAny_bind (m := Builtin.Tuple.tupleExact _) (wpAny_newObj_type (wpAny_pure ⟨_, rfl, wpAny_pure h⟩) htake))
section
variable {X : Cx}
def tRevT (K : PySem.W.Frag) (te : TE) : TE := fun σ H Q => te σ H fun x H1 => ∃ a xs, x = .ref a ∧ SqT K H1 a xs ∧ ∀ p, H1 p = none → Q (.ref p) (upd H1 p (.tup xs.reverse))
theorem pe_revT {e : Expr} {te : TE} {k : Nat} {p1 p2 p3 pos : Pos} (he : PE X e te) : PE X (.Subscript e (.Slice none none (some (.UnaryOp .USub (.Constant (.int 1) k p1) p2)) p3) pos) (tRevT X.K te) := by
  refine ⟨fun pins s σ H Q I h => ?_⟩
  refine Subscript_ (thn (he.run pins s σ H _ I h) fun v s1 ⟨x, H1, I1, r1, q1⟩ => ?_)
  obtain ⟨a, xs, ex, hx, q⟩ := q1
  subst ex
  cases r1
  have hst : PO X (some (.UnaryOp .USub (.Constant (.int 1) k p1) p2)) (tPart (tUn (rU fun i => .int (-i)) (tC (.int 1)))) := po_some (pe_un un_neg pe_int)
  refine wpAny_Slice (thn (po_none.run pins s1 σ H1 (fun o H2 => o = none ∧ H2 = H1) I1 ⟨rfl, rfl⟩) fun vl s2 ⟨l, H2, I2, pl, el, e2⟩ => ?_)
  subst el e2
  refine thn (po_none.run pins s2 σ H2 (fun o H3 => o = none ∧ H3 = H2) I2 ⟨rfl, rfl⟩) fun vu s3 ⟨u, H3, I3, pu, eu, e3⟩ => ?_
  subst eu e3
  refine thn (hst.run pins s3 σ H3 (fun o H4 => o = some (-1) ∧ H4 = H3) I3 ⟨1, rfl, -1, rfl, rfl, rfl⟩) fun vs s4 ⟨o, H4, I4, ps, eo, e4⟩ => ?_
  subst eo e4
  have I5 : L2.Inv X pins σ H4 { s4 with heap := s4.heap.push { cls := .type "slice", data := .fields #[vl, vu, vs] } } := I4.kept (t' := s4.toks) fun b ob q => Heap.get?_push_of_some _ q
  obtain ⟨its, r, ht, hz⟩ := I5.tuple hx
  have hlen := r.length
  cases pl
  cases pu
  show wpAny (model X.prog X.w) X.A (subscriptTail e (.Slice none none (some (.UnaryOp .USub (.Constant (.int 1) k p1) p2)) p3) (.ref a) (.ref s4.heap.objs.size)) (EP X pins σ Q) X.xe { s4 with heap := s4.heap.push { cls := .type "slice", data := .fields #[.none, .none, vs] } }
  refine tail_any (ops := [.ref a, .ref s4.heap.objs.size]) ht.typeIs (PyProof.Rows.slot_tuple_getitem.lookup) ?_ (by with_unfolding_all rfl)
  refine getItem_tuple_rev ht (Heap.IsSliceOf.new _ .none .none vs) ps ?_ (by rw [List.size_toArray]; omega)
  refine ⟨.ref _, _, I5.laid (t' := s4.toks) (o := .tup xs.reverse) (fun b ob q => Heap.get?_push_of_some _ q) (Nat.le_refl _) ?_, rfl, q _ (I5.hok.fresh (Nat.le_refl _))⟩
  exact ⟨by rw [List.length_reverse]; exact hz, _, r.reverse, IsTup.new _ _⟩
/-! ### len(set(x)), x a list or a tuple of ints, no two alike -/
def tLenSet (K : PySem.W.Frag) (ta : TE) : TE := fun σ H Q => ta σ H fun x H1 => ∃ (l : Addr) (ns : List Int), x = .ref l ∧ (SqL K H1 l (ns.map V.int) ∨ SqT K H1 l (ns.map V.int)) ∧ ns.Nodup ∧ ns.length ≤ 4000 ∧ Q (.int (ns.length : Nat)) H1
theorem pe_lenSet {a : Expr} {ta : TE} {p p2 q pos : Pos} (hg : Gl X "len") (hm : X.mg "len" = none) (hg2 : Gl X "set") (hm2 : X.mg "set" = none) (ha : PE X a ta) (hc : X.calm = true := by rfl)
    (na : starEach [a] X.env = (false, eval a X.env) :: starEach [] X.env := by rfl) : PE X (.Call (.Name "len" p) [.Call (.Name "set" p2) [a] [] q] [] pos) (tLenSet X.K ta) := by
  refine ⟨fun pins s σ H Q I h => ?_⟩
  refine Call_ (ld_blt I hg hm boot_len ?_)
  refine PyProof.Rows.callWith_builtin1 (PyProof.Rows.args_cons ?_ rfl) rfl rfl
  refine Call_ (ld_blt I hg2 hm2 boot_set ?_)
  refine PyProof.Rows.callWith_type1 (PyProof.Rows.args_cons (thn (ha.run pins s σ H _ I h) fun v s1 ⟨x, H1, I1, r1, q1⟩ => PyProof.Rows.args_nil ?_) na) na rfl
  obtain ⟨l, ns, rfl, hq, hnd, hl, q1⟩ := q1
  cases r1
  rcases hq with hq | hq
  · obtain ⟨its, r, pl, hz⟩ := I1.list hq
    have hlen : its.toArray.size = ns.length := by rw [List.size_toArray, ← r.length, List.length_map]
    refine call_set_list (I1.ok.hd hc) pl.isList (by simpa using RZ.intsAre_vals r) (by rw [hlen]; unfold scanBound; omega) fun h' tk hS hk => ?_
    refine PyProof.Rows.args_nil ?_
    rw [hlen, RZ.firstMet_nodup hnd ns.length (Nat.le_refl _), List.take_length] at hS
    obtain ⟨o, es, ep, t, ho, hex, hd, _, _, _, hf, hn⟩ := hS
    have I2 : L2.Inv X pins σ H1 { s1 with heap := h', toks := tk } := I1.kept fun b o e => hk b o (Heap.lt_size e) e
    exact call_len_set ho hex hd hf (by rw [hn] <;> omega) ⟨.int ns.length, H1, I2.tok _, ⟨_, by rw [hn]⟩, q1⟩
  · obtain ⟨its, r, pl, hz⟩ := I1.tuple hq
    have pT : s1.heap.IsTuple l its.toArray := pl
    refine call_set_tupI ns (I1.ok.hd hc) pT (by simpa using RZ.intsAre_vals r) (by unfold scanBound; omega) fun h' tk c hS hcl hk => ?_
    refine PyProof.Rows.args_nil ?_
    obtain ⟨o, es, ep, t, ho, hex, hd, g, nd, hmem, hb, hf, hn, _⟩ := hS
    have hc2 : es.size = ns.length := by
      have hp : (es.toList.map L2.keyOf).Perm ns := (List.perm_ext_iff_of_nodup nd hnd).mpr fun k => by
        rw [← hmem k]
        exact decide_eq_true_iff
      have := hp.length_eq
      rw [List.length_map, Array.length_toList] at this
      exact this
    have I2 : L2.Inv X pins σ H1 { s1 with heap := h', toks := tk } := I1.kept hk
    exact call_len_set ho hex hd hf (by rw [hc2] <;> omega) ⟨.int ns.length, H1, I2.tok _, ⟨_, by rw [hc2]⟩, q1⟩
/-! ### sorted(x), x a tuple of ints -/
def rSortedT (K : PySem.W.Frag) : List V → Hp → VK → Prop := fun vs H Q => ∃ (a : Addr) (ns : List Int), vs = [V.ref a] ∧ SqT K H a (ns.map V.int) ∧ ∀ (ns' : List Int) (p : Addr), ns'.Perm ns → ns'.Pairwise (· ≤ ·) → H p = none → Q (.ref p) (upd H p (.lst (ns'.map V.int)))
theorem cr_sortedT : CallR X (.builtin "sorted") (rSortedT X.K) := by
  intro pins s σ H vs us Q I r h
  obtain ⟨a, ns, rfl, hs, q⟩ := h
  obtain ⟨its, rv, hl, hz⟩ := I.tuple hs
  rw [Vals.ref1 r]
  have hi := rv.ints
  obtain ⟨o, ho, hc, n, hd⟩ := hl
  have hz2 : its.length ≤ sizeLine := by rw [← rv.length]; exact hz
  refine Calls.call_function_entry PyProof.Rows.kind_sorted PyProof.Rows.plain_sorted PyProof.Rows.entry_sorted (PyProof.Rows.args_sorted1 _) ?_
  unfold Builtin.«sorted»
  refine wpAny_bind (m := checkCount "sorted" 1 1 _) (wpAny_pure ?_)
  refine wpAny_bind (wpAny_collect_seq a (.inr rfl) ho hc hd (fun h' hk => ?_) (by rw [List.size_toArray]; exact hz2))
  rw [List.toList_toArray]
  refine wpAny_bind (wpAny_newList ?_ hz2)
  have I1 : L2.Inv X pins σ H { s with heap := h' } := I.kept (t' := s.toks) hk
  have ha0 : (h'.push (seqObj "list" its.toArray 0)).get? h'.objs.size = some (seqObj "list" its.toArray 0) := Heap.get?_push_size _ rfl
  show wpAny _ _ _ _ _ { s with heap := h'.push (seqObj "list" its.toArray 0) }
  refine wpAny_bind (wpAny_holding (wpAny_call_entry PyProof.Rows.slot_list_sort ⟨_, ha0, rfl⟩ PyProof.Rows.entry_list_sort (SrtO.list_sort_ord SrtO.swo_int ha0 hz2 (fun h2 => SrtO.ints_sortable hi h2) fun out h1 h2 => ⟨_, rfl, ?_⟩) (PyProof.Rows.args_list_sort _)))
  obtain ⟨k1, k2, k3⟩ := SrtO.ints_out hi h1 h2
  obtain ⟨ep, he'⟩ := PyProof.Rows.sortedHeap_at (vs := its) (out := out.toArray) ha0
  have hlen : ((out.map SrtO.iv).map V.int).length ≤ sizeLine := by
    rw [List.length_map, k2.length_eq]
    rw [List.length_map] at hz
    exact hz
  refine wpAny_pure ⟨_, rfl, .ref h'.objs.size, upd H h'.objs.size (.lst ((out.map SrtO.iv).map V.int)), I1.laid (t' := s.toks) (fun b u hu => ?_) (Nat.le_refl _) ⟨hlen, out, ep, vals_of_ints k1, he'⟩, rfl, q _ _ k2 k3 (I1.hok.fresh (Nat.le_refl _))⟩
  have hlt : b < h'.objs.size := Heap.lt_size hu
  show (PyProof.Rows.sortedHeap (h'.push (seqObj "list" its.toArray 0)) h'.objs.size its out.toArray).get? b = some u
  rw [PyProof.Rows.sortedHeap_old (Nat.ne_of_lt hlt) (by rw [size_push']; exact Nat.lt_succ_of_lt hlt)]
  exact Heap.get?_push_of_some _ hu
end
end Rs

set_option Elab.async false
set_option linter.all false
set_option maxRecDepth 100000
set_option maxHeartbeats 4000000
/-! The text's facts by name: classes, the property. -/
namespace Rs
open PySem PySem.Spec PyProof.Rows L2 He RsH LamX
structure ClsO (K : PySem.W.Frag) (x : Str) : Prop where
  ha : PySem.W.findIn K (.ref (ga K x)) "__class__" = some (some (.builtin "object.__class__"))
  hm : PySem.W.mroIn K (ga K x) (.type "object") = some true
structure Ex (K : PySem.W.Frag) : Prop where
  wid : PropOf K (ga K "Table") "width" (pw K) (gw K)
  ne : PySem.W.findIn K (.ref (ga K "Risen")) "__ne__" = some (some (.builtin "object.__ne__"))
  tt : PySem.W.kitOne K (.ref (ga K "Table")) (.ref (ga K "Table")) = some true
  rr : PySem.W.kitOne K (.ref (ga K "Rising")) (.ref (ga K "Rising")) = some true
  cc : PySem.W.kitOne K (.ref (ga K "Crossing")) (.ref (ga K "Crossing")) = some true
  ss : PySem.W.kitOne K (.ref (ga K "Risen")) (.ref (ga K "Risen")) = some true
  rc : PySem.W.kitOne K (.ref (ga K "Rising")) (.ref (ga K "Crossing")) = some false
  cr : PySem.W.kitOne K (.ref (ga K "Crossing")) (.ref (ga K "Rising")) = some false
  rs : PySem.W.kitOne K (.ref (ga K "Rising")) (.ref (ga K "Risen")) = some false
  nf : PySem.W.notFirst K (ga K "Risen") (.ref (ga K "Rising")) = true
  hn : PySem.W.specialIn K (.builtin "object.__class__") "__get__" = some (some (.builtin "getset_descriptor.__get__"))
  tk : PySem.W.takesIn K (.builtin "object.__class__") = some true
  oT : ClsO K "Table"
  oR : ClsO K "Rising"
  oC : ClsO K "Crossing"
  oS : ClsO K "Risen"
theorem clsB_ok {K : PySem.W.Frag} {x : Str} (h : clsB K x = true) : ClsO K x := by
  unfold clsB at h
  obtain ⟨h1, h2⟩ := Bool.and_eq_true_iff.mp h
  exact ⟨eqO_ok h1, of_decide_eq_true h2⟩
theorem kit_ok {K : PySem.W.Frag} {x y : Str} {b : Bool} (h : kit K x y b = true) : PySem.W.kitOne K (.ref (ga K x)) (.ref (ga K y)) = some b := of_decide_eq_true h
theorem Txt.E {w : World} {K : PySem.W.Frag} {h : Heap} {mg : Str → Option Value} (T : Txt w K h mg) : Ex K := by
  have q := T.ex
  unfold RsH.ex at q
  simp only [Bool.and_eq_true] at q
  obtain ⟨⟨⟨⟨⟨⟨⟨⟨⟨⟨⟨⟨⟨⟨⟨⟨⟨⟨w1, w2⟩, w3⟩, w4⟩, ne⟩, tt⟩, rr⟩, cc⟩, ss⟩, rc⟩, cr⟩, rs⟩, nf⟩, hn⟩, tk⟩, oT⟩, oR⟩, oC⟩, oS⟩ := q
  refine ⟨⟨eqO_ok w1, eqO_ok w2, of_decide_eq_true w3, ?_⟩, eqO_ok ne, kit_ok tt, kit_ok rr, kit_ok cc, kit_ok ss, kit_ok rc, kit_ok cr, kit_ok rs, nf, eqO_ok hn, of_decide_eq_true tk, clsB_ok oT, clsB_ok oR, clsB_ok oC, clsB_ok oS⟩
  unfold gw
  cases e : PySem.W.recIn K (pw K) "property" with
  | none => rw [e] at w4; cases w4
  | some l =>
    rw [e] at w4
    cases l with
    | nil => cases w4
    | cons v r =>
      cases v with
      | ref g => exact ⟨r, rfl⟩
      | _ => cases w4
theorem ty_ins {K : PySem.W.Frag} {H : Hp} {a dx : Addr} {x : Str} {fs : List (Str × V)} (E : Ex K) (c : Cls K (ga K x)) (o : ClsO K x) (e : H a = some (.ins (ga K x) dx fs)) : TyX K H (.ref a) (.ref (ga K x)) := .base (.ins e c o.ha E.hn E.tk o.hm)
theorem ty_tup {K : PySem.W.Frag} {H : Hp} {a : Addr} {xs : List V} (h : SqT K H a xs) : TyX K H (.ref a) (.type "tuple") := by
  rcases h with (h | ⟨o, h⟩) | h
  · exact .base (.tup h)
  · exact .fTuple h
  · obtain ⟨o, its, n, h1, h2, _⟩ := h
    exact .kTuple h1 h2
theorem rdb {b : Bool} {A B : Prop} (h1 : b = true → A) (h2 : b = false → B) : if b = true then A else B := by
  cases b with
  | true => exact iteT (h1 rfl)
  | false => exact iteF (h2 rfl)
/-! ### neighbours -/
def adj (l : List Nat) : List (V × V) := (l.zip (l.drop 1)).map fun p => (nV p.1, nV p.2)
theorem adj_len (l : List Nat) : (adj l).length = min (l.map nV).length ((l.map nV).drop 1).length := by unfold adj; rw [← zip_tail, List.length_zip]
theorem adj_few {l : List Nat} (h : l.length ≤ 4000) : (adj l).length < sizeLine := small _ (by rw [adj_len, List.length_map]; omega)
theorem walk_adj {K : PySem.W.Frag} {a b : Addr} (l : List Nat) : Walk (RZ.ItzT K a b) (adj l).length (fun H => SqT K H a (l.map nV) ∧ SqT K H b ((l.map nV).drop 1)) (YPair (fun i => (l.map nV)[i]?) (fun i => ((l.map nV).drop 1)[i]?)) := by
  rw [adj_len]; exact walk_zipT rfl
theorem walk_adjL {K : PySem.W.Frag} {a b : Addr} (l : List Nat) : Walk (Itz K a b) (adj l).length (fun H => SqL K H a (l.map nV) ∧ SqL K H b ((l.map nV).drop 1)) (YPair (fun i => (l.map nV)[i]?) (fun i => ((l.map nV).drop 1)[i]?)) := by
  rw [adj_len]; exact walk_zip rfl
theorem adj_at {l : List Nat} {k : Nat} {x y : V} (h1 : (l.map nV)[k]? = some x) (h2 : ((l.map nV).drop 1)[k]? = some y) : (adj l)[k]? = some (x, y) := by unfold adj; rw [← zip_tail]; exact zip_at h1 h2
theorem adj_get {l : List Nat} {k : Nat} {x y : V} (h : (adj l)[k]? = some (x, y)) : ∃ i j, x = nV i ∧ y = nV j ∧ i ∈ l ∧ j ∈ l ∧ (l.zip (l.drop 1))[k]? = some (i, j) := by
  unfold adj at h
  rw [List.getElem?_map] at h
  obtain ⟨⟨i, j⟩, hp, e2⟩ := Option.map_eq_some_iff.mp h
  cases e2
  have hm := List.mem_of_getElem? hp
  exact ⟨i, j, rfl, rfl, (List.of_mem_zip hm).1, List.mem_of_mem_drop (List.of_mem_zip hm).2, hp⟩
end Rs

set_option Elab.async false
set_option linter.all false
set_option maxRecDepth 100000
set_option maxHeartbeats 4000000
namespace Rs
open PySem PySem.Spec PyProof.Rows L2 He RsH LamX
section
variable {P : Program} {w : World} {K : PySem.W.Frag} {mg : Str → Option Value} {base : Heap} {h0 : Heap}
/-! ### cross -/
def spCross (K : PySem.W.Frag) : Sp := fun vs H Q _ => ∃ (t pl : Addr) (rs : List (List Int)) (ps : List Nat) (i j : Nat), vs = [.ref t, nV i, nV j, .ref pl] ∧ Told2 K H t pl rs ps ∧ i < rs.length ∧ j < rs.length ∧ ∀ H', Same H H' → Q (.bl (crs (below rs ps) i j)) H'
theorem sc_cross : FnScope ["table", "one", "other", "places"] ["table", "one", "other", "places"] (defScope (topS 25)) := ⟨rfl, rfl, rfl, by decide +kernel, rfl, by decide +kernel, by decide +kernel⟩
theorem ok_cross (T : Txt w K h0 mg) : Cal0 P w K mg base 2 "cross" (spCross K) := by
  obtain ⟨fd, F⟩ := T.f_cross
  have cB : Cal0 P w K mg base 1 "is_below" (spBelow K) := ok_below T
  refine cal_of F T.g_cross sc_cross (fun vs H Q E h => ?_) (fun _ _ _ _ _ _ us hl => match us, hl with | [_, _, _, _], _ => rfl) (fun cdv A outer s H vs Q E hr h => ?_)
  · obtain ⟨t, pl, rs, ps, i, j, rfl, _⟩ := h
    rfl
  obtain ⟨t, pl, rs, ps, i, j, rfl, Td, hi, hj, q⟩ := h
  refine ⟨_, pss_one (ps_ret (pe_and (pe_not (C8.pe_c cB hr (by decide) (by rfl) (pa_cons (pv 0) (pa_cons (pv 1) (pa_cons (pv 2) (pa_cons (pv 3) pa_nil)))))) (pe_one (pe_not (C8.pe_c cB hr (by decide) (by rfl) (pa_cons (pv 0) (pa_cons (pv 2) (pa_cons (pv 1) (pa_cons (pv 3) pa_nil))))))))), ?_⟩
  refine ⟨_, rfl, _, rfl, _, rfl, _, rfl, t, pl, rs, ps, i, j, rfl, Td, hi, hj, fun H1 e1 => ⟨_, rfl, ?_⟩⟩
  refine ⟨_, rfl, rdb (fun c => ?_) (fun c => ?_)⟩
  · refine ⟨_, rfl, _, rfl, _, rfl, _, rfl, t, pl, rs, ps, j, i, rfl, Td.gr (Gr.of e1), hj, hi, fun H2 e2 => ⟨_, rfl, ?_⟩⟩
    have q2 := q H2 (e1.trans e2)
    unfold crs at q2
    rw [c, Bool.true_and] at q2
    exact q2
  · have q2 := q H1 e1
    unfold crs at q2
    rw [c, Bool.false_and] at q2
    exact q2
/-! ### rises -/
def spRises (K : PySem.W.Frag) : Sp := fun vs H Q _ => ∃ (t ol pl : Addr) (rs : List (List Int)) (ps : List Nat) (o : List Nat), vs = [.ref t, .ref ol, .ref pl] ∧ Told2 K H t pl rs ps ∧ SqT K H ol (o.map nV) ∧ (∀ i ∈ o, i < rs.length) ∧ o.length ≤ 4000 ∧
  ∀ H', Same H H' → Q (.bl (rises (below rs ps) o)) H'
theorem sc_rises : FnScope ["table", "order", "places", "one", "other"] ["table", "order", "places"] (defScope (topS 26)) := ⟨rfl, rfl, rfl, by decide +kernel, rfl, by decide +kernel, by decide +kernel⟩
theorem ok_rises (T : Txt w K h0 mg) : Cal0 P w K mg base 2 "rises" (spRises K) := by
  obtain ⟨fd, F⟩ := T.f_rises
  have cB : Cal0 P w K mg base 1 "is_below" (spBelow K) := ok_below T
  refine cal_of F T.g_rises sc_rises (fun vs H Q E h => ?_) (fun _ _ _ _ _ _ us hl => match us, hl with | [_, _, _], _ => rfl) (fun cdv A outer s H vs Q E hr h => ?_)
  · obtain ⟨t, ol, pl, rs, ps, o, rfl, _⟩ := h
    rfl
  obtain ⟨t, ol, pl, rs, ps, o, rfl, Td, hol, hin, hlen, q⟩ := h
  refine ⟨_, pss_one (ps_ret (pe_callB (cr_all rfl) (by rfl) T.z_all (by decide +kernel) (pa_cons (pe_lc (own := [("one", 3), ("other", 4)]) (g := g2 K 3 4) (tt := tYes) (te := tCall (spBelow K) [] E0 (tCons (tVar 0) (tCons (tVar 3) (tCons (tVar 4) (tCons (tVar 2) tNil))))) rfl sc_rises.nd
    (RZ.pi_zipA (by rfl) T.z_zip (pa_cons (pv 1) (pa_cons (pe_slice sl_tupA (pv 1) (po_some pe_int) po_none) pa_nil))) (blkOk_by (N := ["table", "order", "places", "one", "other"]) (sc := defScope (topS 26)) (by decide +kernel))
    (fun _ _ _ _ _ => pg_tup rfl (pgs_cons (pg_name (i := 3) sc_rises.nd rfl (Or.inl rfl)) (pgs_cons (pg_name (i := 4) sc_rises.nd rfl (Or.inl rfl)) pgs_nil))) (fun _ _ _ _ _ => pts_nil)
    (fun _ _ _ _ _ => C8.pe_c cB hr (by decide) (by rfl) (pa_cons (pv 0) (pa_cons (pv 3) (pa_cons (pv 4) (pa_cons (pv 2) pa_nil)))))) pa_nil))), ?_⟩
  refine ⟨_, rfl, _, rfl, 1, rfl, ?_⟩
  unfold tNoPart
  refine rd_slT hol (cut_from _ 1) fun b H1 e1 hb => ⟨ol, b, _, _, rfl, .inr ⟨(Gr.of e1).sqT hol, hb, fun D nD => ?_⟩⟩
  have Td1 := Td.gr (Gr.of e1)
  have hol1 := (Gr.of e1).sqT hol
  refine lc_pairs (walk_adj o) (fun p => match p with | (.int i, .int j) => .bl (below rs ps i.toNat j.toNat) | _ => .non) nD (adj_few hlen) (fun H' e => ⟨(Gr.of e).sqT hol1, (Gr.of e).sqT hb⟩)
    (fun k x y h1 h2 => adj_at h1 h2) (fun _ _ => rfl) (fun k x y H' hx e R hR => ?_) fun H' e hD => ?_
  · obtain ⟨i, j, rfl, rfl, h1, h2, _⟩ := adj_get hx
    exact ⟨_, rfl, _, rfl, _, rfl, _, rfl, t, pl, rs, ps, i, j, rfl, Td1.gr (Gr.of e), hin i h1, hin j h2, fun H'' e'' => hR H'' e''⟩
  · refine ⟨D, (o.zip (o.drop 1)).map fun p => below rs ps p.1 p.2, rfl, SqL.of (by rw [hD]; unfold adj; rw [List.map_map, List.map_map]; rfl), ?_⟩
    have e2 : ((o.zip (o.drop 1)).map fun p => below rs ps p.1 p.2).all id = rises (below rs ps) o := by
      unfold rises
      rw [List.all_map]
      rfl
    rw [e2]
    exact q _ (e1.trans e)
end
end Rs

set_option Elab.async false
set_option linter.all false
set_option maxRecDepth 100000
set_option maxHeartbeats 4000000
namespace Rs
open PySem PySem.Spec PyProof.Rows L2 He RsH LamX
section
variable {P : Program} {w : World} {K : PySem.W.Frag} {mg : Str → Option Value} {base : Heap} {h0 : Heap}
/-! ### Table.width -/
def spWid (K : PySem.W.Frag) : Sp := fun vs H Q _ => ∃ (t : Addr) (rs : List (List Int)), vs = [.ref t] ∧ TabAt K H t rs ∧ 1 ≤ rs.length ∧ Q (.int ((rs.getD 0 []).length : Nat)) H
theorem sc_wid : FnScope ["self"] ["self"] (defScope (inC 14 5)) := ⟨rfl, rfl, rfl, by decide +kernel, rfl, by decide +kernel, by decide +kernel⟩
theorem ok_wid (T : Txt w K h0 mg) : ∃ fd, FnOk P w K mg base L2.CX0 1 (gw K) fd ["self"] (spWid K) ∧ Binds K fd ["self"] [] := by
  have q := T.c.more
  unfold ex2 at q
  have q2 := (Bool.and_eq_true_iff.mp (Bool.and_eq_true_iff.mp q).1).2
  have e := T.g
  unfold okW at q2
  unfold fnP at e
  cases hl : K.lookup (gw K) with
  | none => rw [hl] at q2; cases q2
  | some o =>
    obtain ⟨oc, od, dt, osl⟩ := o
    rw [hl] at q2 e
    cases dt with
    | func fd =>
      obtain ⟨n1, n2, n3, n4, n5, n6, n7, n8, n9, n10, n11, n12, n13, n14, n15⟩ := fd
      have e2 : (some (n1, n2, n3, n4, n5, n6, n7, n15) : FnW) = some (dW.name, dW.qual, dW.params, .stmts dW.body, dW.scope, mainGlobals, [], builtinsNs) := e
      simp only [Option.some.injEq, Prod.mk.injEq] at e2
      obtain ⟨h1, h2, h3, h4, h5, h6, h7, h8⟩ := e2
      subst h1 h2 h3 h4 h5 h6 h7 h8
      obtain ⟨k1, k2⟩ := Bool.and_eq_true_iff.mp q2
      have k3 : n8 = .none := by
        cases n8 with
        | none => rfl
        | _ => cases k2
      subst k3
      refine ⟨_, fn_of (N := ["self"]) hl k1 sc_wid (fun vs H Q E h => ?_) (fun A outer s H vs Q E hr h => ?_), .all fun us hl => match us, hl with | [_], _ => rfl⟩
      · obtain ⟨t, rs, rfl, _⟩ := h
        rfl
      · obtain ⟨t, rs, rfl, ⟨dx, tr, xs, h1, h2, h3⟩, h4, q⟩ := h
        refine ⟨_, PSs.nox (pss_one (ps_ret (pe_callB call_len_seq (by rfl) T.z_len (by decide +kernel) (pa_cons (pe_ix ix_tup (pfd 0) pe_int (fun _ _ => rfl)) pa_nil)))), ?_⟩
        obtain ⟨r, er, hr2⟩ := h3.get (i := 0) h4
        refine ⟨_, rfl, t, _, dx, _, _, rfl, h1, T.c_Table, T.n_Table_rows, rfl, tr, xs, 0, _, rfl, rfl, h2, atI_nat er, r, _, rfl, .inr hr2, ?_⟩
        rw [List.length_map]
        exact q
    | _ => cases q2
/-! ### check_table -/
def spChkT (K : PySem.W.Frag) : Sp := fun vs H Q _ => ∃ (t : Addr) (rs : List (List Int)), vs = [.ref t] ∧ TabAt K H t rs ∧ Q .non H
theorem sc_chkT : FnScope ["table"] ["table"] (defScope (topS 16)) := ⟨rfl, rfl, rfl, by decide +kernel, rfl, by decide +kernel, by decide +kernel⟩
theorem ok_chkT (T : Txt w K h0 mg) : Cal0 P w K mg base 1 "check_table" (spChkT K) := by
  obtain ⟨fd, F⟩ := T.f_check_table
  refine cal_of F T.g_check_table sc_chkT (fun vs H Q E h => ?_) (fun _ _ _ _ _ _ us hl => match us, hl with | [_], _ => rfl) (fun cdv A outer s H vs Q E hr h => ?_)
  · obtain ⟨t, rs, rfl, _⟩ := h
    rfl
  obtain ⟨t, rs, rfl, ⟨dx, tr, xs, h1, h2, h3⟩, q⟩ := h
  refine ⟨_, pss_one (ps_if (pt_not (pt_val (pe_callB call_isi (by rfl) T.z_isinstance (by decide +kernel) (pa_cons (pv 0) (pa_cons (pe_glob (v := .ref (ga K "Table")) (by rfl) T.g_Table rfl) pa_nil))))) pss_never pss_nil), ?_⟩
  exact ⟨_, rfl, .ref t, .ref (ga K "Table"), _, _, true, rfl, .own _, ty_ins T.E T.c_Table T.E.oT h1, T.E.tt, true, rfl, iteF q⟩
/-! ### check_columns -/
def spChkC (K : PySem.W.Frag) : Sp := fun vs H Q _ => ∃ (t pl : Addr) (rs : List (List Int)) (ps : List Nat), vs = [.ref t, .ref pl] ∧ Told2 K H t pl rs ps ∧ ∀ H', Same H H' → Q .non H'
theorem sc_chkC : FnScope ["table", "places", "place", "one", "other"] ["table", "places"] (defScope (topS 18)) := ⟨rfl, rfl, rfl, by decide +kernel, rfl, by decide +kernel, by decide +kernel⟩
theorem zip_lt : ∀ {l : List Nat}, l.Pairwise (· < ·) → ∀ p ∈ l.zip (l.drop 1), p.1 < p.2
  | [], _, p, h => by cases h
  | [x], _, p, h => by cases h
  | x :: y :: l, hp, p, h => by
    obtain ⟨h1, h2⟩ := List.pairwise_cons.mp hp
    have h : p ∈ (x, y) :: (y :: l).zip ((y :: l).drop 1) := h
    rcases List.mem_cons.mp h with rfl | h
    · exact h1 y List.mem_cons_self
    · exact zip_lt h2 p h
theorem ok_chkC (T : Txt w K h0 mg) : Cal0 P w K mg base 3 "check_columns" (spChkC K) := by
  obtain ⟨fd, F⟩ := T.f_check_columns
  have cN : Cal0 P w K mg base 1 "is_number" spNum := ok_num T
  obtain ⟨fw, W, bW⟩ := ok_wid (P := P) (base := base) T
  refine cal_of F T.g_check_columns sc_chkC (fun vs H Q E h => ?_) (fun _ _ _ _ _ _ us hl => match us, hl with | [_, _], _ => rfl) (fun cdv A outer s H vs Q E hr h => ?_)
  · obtain ⟨t, pl, rs, ps, rfl, _⟩ := h
    rfl
  obtain ⟨t, pl, rs, ps, rfl, Td, q⟩ := h
  refine ⟨_, pss_cons (ps_if (PW.pt (pw_or (pt_not (pt_val (pe_callB call_isi (by rfl) T.z_isinstance (by decide +kernel) (pa_cons (pv 1) (pa_cons (pe_bltn (v := .ty "tuple") (by rfl) T.z_tuple (by decide +kernel) rfl) pa_nil)))))
    (pw_or1 (pt_not (pt_val (pe_callB (cr_all rfl) (by rfl) T.z_all (by decide +kernel) (pa_cons (pe_lc (own := [("place", 2)]) (g := gName 2) (tt := tYes) (te := tCall spNum [] E0 (tCons (tVar 2) (tCons (tC (.int 0)) (tCons (tOp (rI0 fun i j => .int (i - j)) (tProp (ga K "Table") (spWid K) [] E0 (tVar 0)) (tC (.int 1))) tNil)))) rfl sc_chkC.nd
      (pi_tup (pv 1)) (blkOk_by (N := ["table", "places", "place", "one", "other"]) (sc := defScope (topS 18)) (by decide +kernel)) (fun _ _ _ _ _ => pg_name (i := 2) sc_chkC.nd rfl (Or.inl rfl)) (fun _ _ _ _ _ => pts_nil)
      (fun _ _ _ _ _ => C8.pe_c cN hr (by decide) (by rfl) (pa_cons (pv 2) (pa_cons pe_int (pa_cons (pe_op op_sub (pe_prop (pv 0) T.c_Table T.E.wid W hr bW .nil pass0 rfl) pe_int) pa_nil))))) pa_nil))))))) pss_never pss_nil)
    (pss_one (ps_if (pt_not (pt_val (pe_callB (cr_all rfl) (by rfl) T.z_all (by decide +kernel) (pa_cons (pe_lc (own := [("one", 3), ("other", 4)]) (g := g2 K 3 4) (tt := tYes) (te := tOp (rI0 fun i j => .bl (decide (i < j))) (tVar 3) (tVar 4)) rfl sc_chkC.nd
      (RZ.pi_zipA (by rfl) T.z_zip (pa_cons (pv 1) (pa_cons (pe_slice sl_tupA (pv 1) (po_some pe_int) po_none) pa_nil))) (blkOk_by (N := ["table", "places", "place", "one", "other"]) (sc := defScope (topS 18)) (by decide +kernel))
      (fun _ _ _ _ _ => pg_tup rfl (pgs_cons (pg_name (i := 3) sc_chkC.nd rfl (Or.inl rfl)) (pgs_cons (pg_name (i := 4) sc_chkC.nd rfl (Or.inl rfl)) pgs_nil))) (fun _ _ _ _ _ => pts_nil)
      (fun _ _ _ _ _ => pe_cmpR op_lt (pv 3) (pv 4) (nomark _))) pa_nil)))) pss_never pss_nil)), ?_⟩
  have few := Td.sh.few
  refine ⟨_, rfl, .ref pl, .ty "tuple", _, _, true, rfl, .ty _, ty_tup Td.pls, kit_ty (by decide +kernel), true, rfl, iteF ?_⟩
  refine ⟨_, rfl, pl, rfl, ⟨_, Td.pls⟩, fun D nD => lc_map walk_tup (fun _ => .bl true) nD (small _ (by rw [List.length_map]; omega)) (fun H' e => (Gr.of e).sqT Td.pls) (fun _ => rfl) (fun k x H' hx e R hR => ?_) fun H1 e1 hD => ?_⟩
  · rw [List.getElem?_map] at hx
    obtain ⟨p, hp, rfl⟩ := Option.map_eq_some_iff.mp hx
    have hm : p ∈ ps := List.mem_of_getElem? hp
    have Td' := Td.gr (Gr.of e)
    obtain ⟨dx, tr, xs, h1, h2, h3⟩ := id Td'.tab
    refine ⟨_, rfl, _, rfl, t, dx, _, rfl, h1, t, rs, rfl, Td'.tab, Td.sh.n1, _, _, rfl, rfl, p, 0, _, rfl, ?_⟩
    have hlt := Td.sh.lt (i := 0) (by have := Td.sh.n1; omega) hm
    have e1 : (decide ((0 : Int) ≤ (p : Int)) && decide ((p : Int) ≤ ((rs.getD 0 []).length : Int) - 1)) = true := by
      rw [decide_eq_true (by omega), decide_eq_true (by omega)]
      rfl
    rw [e1]
    exact hR _ (Same.refl _)
  refine ⟨D, ps.map fun _ => true, rfl, SqL.of (by rw [hD, List.map_map, List.map_map]; rfl), true, ?_, iteF ?_⟩
  · have e : (ps.map fun _ => true).all id = true := by rw [List.all_map]; simp
    rw [e]
  have Td1 := Td.gr (Gr.of e1)
  refine ⟨_, rfl, _, rfl, 1, rfl, ?_⟩
  unfold tNoPart
  refine rd_slT Td1.pls (cut_from _ 1) fun b H2 e2 hb => ⟨pl, b, _, _, rfl, .inr ⟨(Gr.of e2).sqT Td1.pls, hb, fun D2 nD2 => ?_⟩⟩
  have pls2 := (Gr.of e2).sqT Td1.pls
  refine lc_pairs (walk_adj ps) (fun _ => .bl true) nD2 (adj_few (by omega)) (fun H' e => ⟨(Gr.of e).sqT pls2, (Gr.of e).sqT hb⟩)
    (fun k x y h1 h2 => adj_at h1 h2) (fun _ _ => rfl) (fun k x y H' hx e R hR => ?_) fun H' e hD2 => ?_
  · obtain ⟨i, j, rfl, rfl, h1, h2, hz⟩ := adj_get hx
    have hl := zip_lt Td.sh.asc _ (List.mem_of_getElem? hz)
    refine ⟨_, rfl, _, rfl, _, _, rfl, rfl, ?_⟩
    show R (.bl (decide ((i : Int) < (j : Int)))) H'
    rw [decide_eq_true (Int.ofNat_lt.mpr hl)]
    exact hR _ (Same.refl _)
  refine ⟨D2, (adj ps).map fun _ => true, rfl, SqL.of (by rw [hD2, List.map_map]; rfl), true, ?_, iteF (q _ (e1.trans (e2.trans e)))⟩
  have e : ((adj ps).map fun _ => true).all id = true := by rw [List.all_map]; simp
  rw [e]
end
end Rs

set_option Elab.async false
set_option linter.all false
set_option maxRecDepth 100000
set_option maxHeartbeats 4000000
/-! Data: lists and tuples of whole numbers, of such tuples. -/
namespace Rs
open PySem PySem.Spec PyProof.Rows L2 He RsH LamX
def dn (l : List Nat) : List PyData := l.map fun (i : Nat) => PyData.int (i : Int)
def dt (l : List (List Nat)) : List PyData := l.map fun r => PyData.tuple (dn r)
section
variable {K : PySem.W.Frag} {H : Hp}
theorem dp_nats : ∀ (l : List Nat), DpAll K H (l.map nV) (dn l)
  | [] => .nil
  | i :: l => .cons (.int _) (dp_nats l)
theorem dp_tup {a : Addr} {l : List Nat} (h : SqT K H a (l.map nV)) : Dp K H (.ref a) (.tuple (dn l)) := .tup h (dp_nats l)
theorem dp_lst {a : Addr} {l : List Nat} (h : SqL K H a (l.map nV)) : Dp K H (.ref a) (.list (dn l)) := .lst h (dp_nats l)
/-- a list of tuples -/
inductive Tps (K : PySem.W.Frag) (H : Hp) : List V → List (List Nat) → Prop where
  | nil : Tps K H [] []
  | cons {a : Addr} {r : List Nat} {xs : List V} {rs : List (List Nat)} (h : SqT K H a (r.map nV)) (t : Tps K H xs rs) : Tps K H (.ref a :: xs) (r :: rs)
theorem Tps.gr {H' : Hp} (e : Gr H H') : ∀ {xs : List V} {rs : List (List Nat)}, Tps K H xs rs → Tps K H' xs rs
  | _, _, .nil => .nil
  | _, _, .cons h t => .cons (e.sqT h) (Tps.gr e t)
theorem Tps.len : ∀ {xs : List V} {rs : List (List Nat)}, Tps K H xs rs → xs.length = rs.length
  | _, _, .nil => rfl
  | _, _, .cons h t => by rw [List.length_cons, List.length_cons, t.len]
theorem Tps.get : ∀ {xs : List V} {rs : List (List Nat)} {i : Nat} {x : V}, Tps K H xs rs → xs[i]? = some x → ∃ a r, x = .ref a ∧ rs[i]? = some r ∧ SqT K H a (r.map nV)
  | _, _, _, _, .nil, h => by cases h
  | _, _, 0, _, .cons h t, e => by cases e; exact ⟨_, _, rfl, rfl, h⟩
  | _, _, i + 1, _, .cons h t, e => t.get (i := i) e
theorem Tps.app : ∀ {xs ys : List V} {rs ss : List (List Nat)}, Tps K H xs rs → Tps K H ys ss → Tps K H (xs ++ ys) (rs ++ ss)
  | _, _, _, _, .nil, t => t
  | _, _, _, _, .cons h r, t => .cons h (r.app t)
theorem Tps.drop : ∀ {xs : List V} {rs : List (List Nat)} (k : Nat), Tps K H xs rs → Tps K H (xs.drop k) (rs.drop k)
  | _, _, 0, t => t
  | _, _, k + 1, .nil => .nil
  | _, _, k + 1, .cons h t => t.drop k
theorem Tps.dp : ∀ {xs : List V} {rs : List (List Nat)}, Tps K H xs rs → DpAll K H xs (dt rs)
  | _, _, .nil => .nil
  | _, _, .cons h t => .cons (dp_tup h) t.dp
end
theorem lay_nats : ∀ (l : List Nat), PyData.canLayAll0 (dn l) = true ∧ PyData.depthAll (dn l) = 0
  | [] => ⟨rfl, rfl⟩
  | i :: l => by
    obtain ⟨h1, h2⟩ := lay_nats l
    refine ⟨?_, ?_⟩
    · show (PyData.canLay0 (.int i) && PyData.canLayAll0 (dn l)) = true
      rw [h1]
      rfl
    · show max (PyData.depth (.int i)) (PyData.depthAll (dn l)) = 0
      rw [h2]
      rfl
theorem lay_tups : ∀ (l : List (List Nat)), PyData.canLayAll0 (dt l) = true ∧ PyData.depthAll (dt l) ≤ 1
  | [] => ⟨rfl, Nat.zero_le _⟩
  | i :: l => by
    obtain ⟨h1, h2⟩ := lay_tups l
    obtain ⟨h3, h4⟩ := lay_nats i
    refine ⟨?_, ?_⟩
    · show (PyData.canLayAll0 (dn i) && PyData.canLayAll0 (dt l)) = true
      rw [h1, h3]
      rfl
    · show max (PyData.depthAll (dn i) + 1) (PyData.depthAll (dt l)) ≤ 1
      rw [h4]
      omega
theorem sh_tup (l : List Nat) : SeqAt.shaped (.tuple (dn l)) = true := by
  obtain ⟨h3, h4⟩ := lay_nats l
  show (PyData.canLayAll0 (dn l) && decide (PyData.depthAll (dn l) + 1 ≤ 64)) = true
  rw [h3, h4]
  rfl
theorem sh_lst (l : List Nat) : SeqAt.shaped (.list (dn l)) = true := by
  obtain ⟨h3, h4⟩ := lay_nats l
  show (PyData.canLayAll0 (dn l) && decide (PyData.depthAll (dn l) + 1 ≤ 64)) = true
  rw [h3, h4]
  rfl
theorem sh_evid (l : List (List Nat)) (m : List Nat) : SeqAt.shaped (.tuple [.list (dt l), .tuple (dn m)]) = true := by
  obtain ⟨h1, h2⟩ := lay_tups l
  obtain ⟨h3, h4⟩ := lay_nats m
  show ((PyData.canLayAll0 (dt l) && (PyData.canLayAll0 (dn m) && true)) && decide (max (PyData.depthAll (dt l) + 1) (max (PyData.depthAll (dn m) + 1) 0) + 1 ≤ 64)) = true
  rw [h1, h3, h4, decide_eq_true (by omega)]
  rfl
theorem eqv_nats : ∀ (l m : List Nat), PyData.eqvAll (dn l) (dn m) = decide (l = m)
  | [], [] => by simp [dn, dt, PyData.eqvAll]
  | [], _ :: _ => by simp [dn, dt, PyData.eqvAll]
  | _ :: _, [] => by simp [dn, dt, PyData.eqvAll]
  | i :: l, j :: m => by
    show PyData.eqvAll (.int (i : Int) :: dn l) (.int (j : Int) :: dn m) = _
    rw [PyData.eqvAll, eqv_nats l m]
    have e : PyData.eqv (.int (i : Int)) (.int (j : Int)) = decide (i = j) := by
      rw [PyData.eqv, Bool.eq_iff_iff, beq_iff_eq, decide_eq_true_iff]
      exact Int.ofNat_inj
    rw [e, Bool.eq_iff_iff]
    simp
theorem eqv_tups : ∀ (l m : List (List Nat)), PyData.eqvAll (dt l) (dt m) = decide (l = m)
  | [], [] => by simp [dn, dt, PyData.eqvAll]
  | [], _ :: _ => by simp [dn, dt, PyData.eqvAll]
  | _ :: _, [] => by simp [dn, dt, PyData.eqvAll]
  | i :: l, j :: m => by
    show PyData.eqvAll (.tuple (dn i) :: dt l) (.tuple (dn j) :: dt m) = _
    rw [PyData.eqvAll, PyData.eqv, eqv_tups l m, eqv_nats, Bool.eq_iff_iff]
    simp
end Rs

set_option Elab.async false
set_option linter.all false
set_option maxRecDepth 100000
set_option maxHeartbeats 4000000
namespace Rs
open PySem PySem.Spec PyProof.Rows L2 He RsH LamX
section
variable {P : Program} {w : World} {K : PySem.W.Frag} {mg : Str → Option Value} {base : Heap} {h0 : Heap}
/-! ### check_told -/
def spTold (K : PySem.W.Frag) : Sp := fun vs H Q _ => ∃ (t pl : Addr) (rs : List (List Int)) (ps : List Nat), vs = [.ref t, .ref pl] ∧ Told2 K H t pl rs ps ∧ ∀ H', Same H H' → Q .non H'
theorem sc_told : FnScope ["table", "places"] ["table", "places"] (defScope (topS 23)) := ⟨rfl, rfl, rfl, by decide +kernel, rfl, by decide +kernel, by decide +kernel⟩
theorem ok_told (T : Txt w K h0 mg) : Cal0 P w K mg base 4 "check_told" (spTold K) := by
  obtain ⟨fd, F⟩ := T.f_check_told
  have c1 : Cal0 P w K mg base 1 "check_table" (spChkT K) := ok_chkT T
  have c2 : Cal0 P w K mg base 3 "check_columns" (spChkC K) := ok_chkC T
  refine cal_of F T.g_check_told sc_told (fun vs H Q E h => ?_) (fun _ _ _ _ _ _ us hl => match us, hl with | [_, _], _ => rfl) (fun cdv A outer s H vs Q E hr h => ?_)
  · obtain ⟨t, pl, rs, ps, rfl, _⟩ := h
    rfl
  obtain ⟨t, pl, rs, ps, rfl, Td, q⟩ := h
  refine ⟨_, pss_cons (ps_expr (C8.pe_c c1 hr (by decide) (by rfl) (pa_cons (pv 0) pa_nil))) (pss_cons (ps_expr (C8.pe_c c2 hr (by decide) (by rfl) (pa_cons (pv 0) (pa_cons (pv 1) pa_nil))))
    (pss_one (ps_if (pt_cmpR (op_eqD hr.units) (pv 1) (pe_tup pa_nil) (nomark _)) pss_never pss_nil))), ?_⟩
  refine ⟨_, rfl, t, rs, rfl, Td.tab, ?_⟩
  refine ⟨_, rfl, _, rfl, t, pl, rs, ps, rfl, Td, fun H1 e1 => ?_⟩
  have Td1 := Td.gr (Gr.of e1)
  refine ⟨_, rfl, show (0 : Nat) ≤ sizeLine by decide, fun p hp => ?_⟩
  have g2 : Same H1 (upd H1 p (.tup [])) := same_new hp _
  refine ⟨.tuple (dn ps), .tuple [], dp_tup ((Gr.of g2).sqT Td1.pls), .tup (SqT.of upd_same) .nil, sh_tup ps, rfl, false, ?_, iteF (q _ (e1.trans g2))⟩
  have e : PyData.eqv (.tuple (dn ps)) (.tuple (dn [])) = decide (ps = []) := by rw [PyData.eqv, eqv_nats]
  show V.bl (PyData.eqv (.tuple (dn ps)) (.tuple (dn []))) = _
  rw [e, decide_eq_false Td.sh.ne]
/-! ### is_order -/
def isOrd (l : List Nat) (n : Nat) : Bool := decide (l.length = n) && l.all fun i => decide (i < n)
def spOrder (K : PySem.W.Frag) : Sp := fun vs H Q _ => ∃ (a : Addr) (l : List Nat) (n : Nat), vs = [.ref a, nV n] ∧ (SqL K H a (l.map nV) ∨ SqT K H a (l.map nV)) ∧ l.length ≤ 4000 ∧ (isOrd l n = true → l.Nodup) ∧ ∀ H', Same H H' → Q (.bl (isOrd l n)) H'
theorem sc_order : FnScope ["thing", "many", "item"] ["thing", "many"] (defScope (topS 15)) := ⟨rfl, rfl, rfl, by decide +kernel, rfl, by decide +kernel, by decide +kernel⟩
theorem ok_order (T : Txt w K h0 mg) : Cal0 P w K mg base 2 "is_order" (spOrder K) := by
  obtain ⟨fd, F⟩ := T.f_is_order
  have cN : Cal0 P w K mg base 1 "is_number" spNum := ok_num T
  refine cal_of F T.g_is_order sc_order (fun vs H Q E h => ?_) (fun _ _ _ _ _ _ us hl => match us, hl with | [_, _], _ => rfl) (fun cdv A outer s H vs Q E hr h => ?_)
  · obtain ⟨a, l, n, rfl, _⟩ := h
    rfl
  obtain ⟨a, l, n, rfl, hs, hlen, hnd, q⟩ := h
  -- what stands behind the comprehension
  have tail : ∀ H1, Same H H1 → (l.length = n) → SqL K H1 a (l.map nV) ∨ SqT K H1 a (l.map nV) := fun H1 e1 _ => hs.imp (fun z => (Gr.of e1).sqL z) fun z => (Gr.of e1).sqT z
  have fin : ∀ (H1 : Hp) (D : Addr), Same H H1 → l.length = n → H1 D = some (.lst ((l.map fun i => decide (i < n)).map V.bl)) → (SqL K H1 D ((l.map fun i => decide (i < n)).map V.bl) ∧ (l.map fun i => decide (i < n)).all id = (l.all fun i => decide (i < n))) := fun H1 D e1 hl hD => ⟨SqL.of hD, by rw [List.all_map]; rfl⟩
  have step : ∀ (i : Nat) (hi : i ∈ l), (decide ((0 : Int) ≤ (i : Int)) && decide ((i : Int) ≤ (n : Int) - 1)) = decide (i < n) := fun i hi => by
    rw [decide_eq_true (by omega), Bool.true_and, Bool.eq_iff_iff]
    simp
    omega
  rcases hs with hs | hs
  · refine ⟨_, pss_cons (ps_if (PW.pt (pw_or (pt_cmpR op_ne (pe_callB call_len_seq (by rfl) T.z_len (by decide +kernel) (pa_cons (pv 0) pa_nil)) (pv 1) (nomark _))
      (pw_or1 (pt_not (pt_val (pe_callB (cr_all rfl) (by rfl) T.z_all (by decide +kernel) (pa_cons (pe_lc (own := [("item", 2)]) (g := gName 2) (tt := tYes) (te := tCall spNum [] E0 (tCons (tVar 2) (tCons (tC (.int 0)) (tCons (tOp (rI0 fun i j => .int (i - j)) (tVar 1) (tC (.int 1))) tNil)))) rfl sc_order.nd
        (pi_list (pv 0)) (blkOk_by (N := ["thing", "many", "item"]) (sc := defScope (topS 15)) (by decide +kernel)) (fun _ _ _ _ _ => pg_name (i := 2) sc_order.nd rfl (Or.inl rfl)) (fun _ _ _ _ _ => pts_nil)
        (fun _ _ _ _ _ => C8.pe_c cN hr (by decide) (by rfl) (pa_cons (pv 2) (pa_cons pe_int (pa_cons (pe_op op_sub (pv 1) pe_int) pa_nil))))) pa_nil))))))) (pss_one (ps_ret pe_bl)) pss_nil)
      (pss_one (ps_ret (pe_cmpR op_eq (pe_lenSet (by rfl) T.z_len (by rfl) T.z_set (pv 0)) (pv 1) (nomark _)))), ?_⟩
    refine ⟨_, rfl, a, _, rfl, Or.inl hs, _, rfl, rfl, _, rfl, rdb (fun c => ?_) (fun c => ?_)⟩
    · have hne : l.length ≠ n := fun z => by
        rw [List.length_map, z] at c
        simp [nV] at c
      refine iteT ?_
      have q2 := q H (Same.refl _)
      unfold isOrd at q2
      rw [decide_eq_false hne, Bool.false_and] at q2
      exact q2
    · have hl : l.length = n := by
        rw [List.length_map] at c
        simp [nV] at c
        omega
      refine ⟨_, rfl, a, rfl, ⟨_, hs⟩, fun D nD => lc_map walk_list (fun x => match x with | .int p => .bl (decide (p.toNat < n)) | _ => .non) nD (small _ (by rw [List.length_map]; exact hlen)) (fun H' e => (Gr.of e).sqL hs) (fun _ => rfl) (fun k x H' hx e R hR => ?_) fun H1 e1 hD => ?_⟩
      · rw [List.getElem?_map] at hx
        obtain ⟨i, hi, rfl⟩ := Option.map_eq_some_iff.mp hx
        have hm : i ∈ l := List.mem_of_getElem? hi
        refine ⟨_, rfl, _, rfl, _, _, rfl, rfl, i, 0, _, rfl, ?_⟩
        rw [step i hm]
        exact hR _ (Same.refl _)
      · obtain ⟨f1, f2⟩ := fin H1 D e1 hl (by rw [hD, List.map_map, List.map_map]; rfl)
        have q2 := q H1 e1
        unfold isOrd at q2 hnd
        rw [decide_eq_true hl, Bool.true_and] at q2 hnd
        refine ⟨D, _, rfl, f1, _, rfl, ?_⟩
        rw [f2]
        refine rdb (fun c2 => ?_) (fun c2 => ?_)
        · rw [Bool.not_eq_true'] at c2
          rw [c2] at q2
          exact q2
        · rw [Bool.not_eq_false'] at c2
          rw [c2] at q2 hnd
          have nd : (zs l).Nodup := List.pairwise_map.mpr ((hnd rfl).imp fun hne e => hne (Int.ofNat_inj.mp e))
          refine ⟨_, rfl, a, zs l, rfl, Or.inl (by rw [← nV_map]; exact (Gr.of e1).sqL hs), nd, by unfold zs; rw [List.length_map]; exact hlen, _, rfl, rfl, ?_⟩
          have e3 : decide (V.int ((zs l).length : Int) = nV n) = true := decide_eq_true (by unfold zs; rw [List.length_map, hl]; rfl)
          rw [e3]
          exact q2
  · refine ⟨_, pss_cons (ps_if (PW.pt (pw_or (pt_cmpR op_ne (pe_callB call_len_seq (by rfl) T.z_len (by decide +kernel) (pa_cons (pv 0) pa_nil)) (pv 1) (nomark _))
      (pw_or1 (pt_not (pt_val (pe_callB (cr_all rfl) (by rfl) T.z_all (by decide +kernel) (pa_cons (pe_lc (own := [("item", 2)]) (g := gName 2) (tt := tYes) (te := tCall spNum [] E0 (tCons (tVar 2) (tCons (tC (.int 0)) (tCons (tOp (rI0 fun i j => .int (i - j)) (tVar 1) (tC (.int 1))) tNil)))) rfl sc_order.nd
        (pi_tup (pv 0)) (blkOk_by (N := ["thing", "many", "item"]) (sc := defScope (topS 15)) (by decide +kernel)) (fun _ _ _ _ _ => pg_name (i := 2) sc_order.nd rfl (Or.inl rfl)) (fun _ _ _ _ _ => pts_nil)
        (fun _ _ _ _ _ => C8.pe_c cN hr (by decide) (by rfl) (pa_cons (pv 2) (pa_cons pe_int (pa_cons (pe_op op_sub (pv 1) pe_int) pa_nil))))) pa_nil))))))) (pss_one (ps_ret pe_bl)) pss_nil)
      (pss_one (ps_ret (pe_cmpR op_eq (pe_lenSet (by rfl) T.z_len (by rfl) T.z_set (pv 0)) (pv 1) (nomark _)))), ?_⟩
    refine ⟨_, rfl, a, _, rfl, Or.inr hs, _, rfl, rfl, _, rfl, rdb (fun c => ?_) (fun c => ?_)⟩
    · have hne : l.length ≠ n := fun z => by
        rw [List.length_map, z] at c
        simp [nV] at c
      refine iteT ?_
      have q2 := q H (Same.refl _)
      unfold isOrd at q2
      rw [decide_eq_false hne, Bool.false_and] at q2
      exact q2
    · have hl : l.length = n := by
        rw [List.length_map] at c
        simp [nV] at c
        omega
      refine ⟨_, rfl, a, rfl, ⟨_, hs⟩, fun D nD => lc_map walk_tup (fun x => match x with | .int p => .bl (decide (p.toNat < n)) | _ => .non) nD (small _ (by rw [List.length_map]; exact hlen)) (fun H' e => (Gr.of e).sqT hs) (fun _ => rfl) (fun k x H' hx e R hR => ?_) fun H1 e1 hD => ?_⟩
      · rw [List.getElem?_map] at hx
        obtain ⟨i, hi, rfl⟩ := Option.map_eq_some_iff.mp hx
        have hm : i ∈ l := List.mem_of_getElem? hi
        refine ⟨_, rfl, _, rfl, _, _, rfl, rfl, i, 0, _, rfl, ?_⟩
        rw [step i hm]
        exact hR _ (Same.refl _)
      · obtain ⟨f1, f2⟩ := fin H1 D e1 hl (by rw [hD, List.map_map, List.map_map]; rfl)
        have q2 := q H1 e1
        unfold isOrd at q2 hnd
        rw [decide_eq_true hl, Bool.true_and] at q2 hnd
        refine ⟨D, _, rfl, f1, _, rfl, ?_⟩
        rw [f2]
        refine rdb (fun c2 => ?_) (fun c2 => ?_)
        · rw [Bool.not_eq_true'] at c2
          rw [c2] at q2
          exact q2
        · rw [Bool.not_eq_false'] at c2
          rw [c2] at q2 hnd
          have nd : (zs l).Nodup := List.pairwise_map.mpr ((hnd rfl).imp fun hne e => hne (Int.ofNat_inj.mp e))
          refine ⟨_, rfl, a, zs l, rfl, Or.inr (by rw [← nV_map]; exact (Gr.of e1).sqT hs), nd, by unfold zs; rw [List.length_map]; exact hlen, _, rfl, rfl, ?_⟩
          have e3 : decide (V.int ((zs l).length : Int) = nV n) = true := decide_eq_true (by unfold zs; rw [List.length_map, hl]; rfl)
          rw [e3]
          exact q2
end
end Rs

set_option Elab.async false
set_option linter.all false
set_option maxRecDepth 100000
set_option maxHeartbeats 4000000
namespace Rs
open PySem PySem.Spec PyProof.Rows L2 He RsH LamX
section
variable {P : Program} {w : World} {K : PySem.W.Frag} {mg : Str → Option Value} {base : Heap} {h0 : Heap}
/-! ### is_row, width_of -/
def spRow (K : PySem.W.Frag) : Sp := fun vs H Q _ => ∃ (a : Addr) (r : List Int), vs = [.ref a, nV r.length] ∧ SqT K H a (r.map V.int) ∧ r.length ≤ 4 ∧ (∀ z ∈ r, 0 ≤ z ∧ z ≤ 6) ∧ ∀ H', Same H H' → Q (.bl true) H'
theorem sc_row : FnScope ["thing", "many", "value"] ["thing", "many"] (defScope (topS 12)) := ⟨rfl, rfl, rfl, by decide +kernel, rfl, by decide +kernel, by decide +kernel⟩
theorem ok_row (T : Txt w K h0 mg) : Cal0 P w K mg base 2 "is_row" (spRow K) := by
  obtain ⟨fd, F⟩ := T.f_is_row
  have cN : Cal0 P w K mg base 1 "is_number" spNum := ok_num T
  obtain ⟨tk, mv⟩ := T.i_MOST_VALUE
  refine cal_of F T.g_is_row sc_row (fun vs H Q E h => ?_) (fun _ _ _ _ _ _ us hl => match us, hl with | [_, _], _ => rfl) (fun cdv A outer s H vs Q E hr h => ?_)
  · obtain ⟨a, r, rfl, _⟩ := h
    rfl
  obtain ⟨a, r, rfl, hs, hlen, hv, q⟩ := h
  refine ⟨_, pss_cons (ps_if (PW.pt (pw_or (pt_not (pt_val (pe_callB call_isi (by rfl) T.z_isinstance (by decide +kernel) (pa_cons (pv 0) (pa_cons (pe_bltn (v := .ty "tuple") (by rfl) T.z_tuple (by decide +kernel) rfl) pa_nil)))))
      (pw_or1 (pt_cmpR op_ne (pe_callB call_len_seq (by rfl) T.z_len (by decide +kernel) (pa_cons (pv 0) pa_nil)) (pv 1) (nomark _))))) (pss_one (ps_ret pe_bl)) pss_nil)
    (pss_one (ps_ret (pe_callB (cr_all rfl) (by rfl) T.z_all (by decide +kernel) (pa_cons (pe_lc (own := [("value", 2)]) (g := gName 2) (tt := tYes) (te := tCall spNum [] E0 (tCons (tVar 2) (tCons (tC (.int 0)) (tCons (tC (.int 6)) tNil)))) rfl sc_row.nd
      (pi_tup (pv 0)) (blkOk_by (N := ["thing", "many", "value"]) (sc := defScope (topS 12)) (by decide +kernel)) (fun _ _ _ _ _ => pg_name (i := 2) sc_row.nd rfl (Or.inl rfl)) (fun _ _ _ _ _ => pts_nil)
      (fun _ _ _ _ _ => C8.pe_c cN hr (by decide) (by rfl) (pa_cons (pv 2) (pa_cons pe_int (pa_cons (pe_glob (v := .int 6) (by rfl) mv ⟨_, rfl⟩) pa_nil))))) pa_nil)))), ?_⟩
  refine ⟨_, rfl, .ref a, .ty "tuple", _, _, true, rfl, .ty _, ty_tup hs, kit_ty (by decide +kernel), true, rfl, iteF ?_⟩
  refine ⟨_, rfl, a, _, rfl, .inr hs, _, rfl, rfl, _, rfl, ?_⟩
  have e : (!decide (V.int ((r.map V.int).length : Int) = nV r.length)) = false := by rw [List.length_map]; simp [nV]
  rw [e]
  refine iteF ?_
  refine ⟨_, rfl, a, rfl, ⟨_, hs⟩, fun D nD => lc_map walk_tup (fun _ => .bl true) nD (small _ (by rw [List.length_map]; omega)) (fun H' e => (Gr.of e).sqT hs) (fun _ => rfl) (fun k x H' hx e R hR => ?_) fun H1 e1 hD => ?_⟩
  · rw [List.getElem?_map] at hx
    obtain ⟨z, hz, rfl⟩ := Option.map_eq_some_iff.mp hx
    obtain ⟨v1, v2⟩ := hv z (List.mem_of_getElem? hz)
    refine ⟨_, rfl, z, 0, 6, rfl, ?_⟩
    rw [decide_eq_true v1, decide_eq_true v2]
    exact hR _ (Same.refl _)
  · refine ⟨D, r.map fun _ => true, rfl, SqL.of (by rw [hD, List.map_map, List.map_map]; rfl), ?_⟩
    have e : (r.map fun _ => true).all id = true := by rw [List.all_map]; simp
    rw [e]
    exact q _ e1
def spWof (K : PySem.W.Frag) : Sp := fun vs H Q _ => ∃ (a : Addr) (r : List Int), vs = [.ref a] ∧ SqT K H a (r.map V.int) ∧ r.length ≤ 4 ∧ Q (nV r.length) H
theorem sc_wof : FnScope ["thing"] ["thing"] (defScope (topS 13)) := ⟨rfl, rfl, rfl, by decide +kernel, rfl, by decide +kernel, by decide +kernel⟩
theorem ok_wof (T : Txt w K h0 mg) : Cal0 P w K mg base 1 "width_of" (spWof K) := by
  obtain ⟨fd, F⟩ := T.f_width_of
  obtain ⟨tk, mv⟩ := T.i_MOST_COLUMNS
  refine cal_of F T.g_width_of sc_wof (fun vs H Q E h => ?_) (fun _ _ _ _ _ _ us hl => match us, hl with | [_], _ => rfl) (fun cdv A outer s H vs Q E hr h => ?_)
  · obtain ⟨a, r, rfl, _⟩ := h
    rfl
  obtain ⟨a, r, rfl, hs, hlen, q⟩ := h
  refine ⟨_, pss_one (ps_ret (pe_ifExp (PW.pt (pw_and (pt_val (pe_callB call_isi (by rfl) T.z_isinstance (by decide +kernel) (pa_cons (pv 0) (pa_cons (pe_bltn (v := .ty "tuple") (by rfl) T.z_tuple (by decide +kernel) rfl) pa_nil))))
      (pw_and1 (pt_cmpR op_le (pe_callB call_len_seq (by rfl) T.z_len (by decide +kernel) (pa_cons (pv 0) pa_nil)) (pe_glob (v := .int 4) (by rfl) mv ⟨_, rfl⟩) (nomark _)))))
    (pe_callB call_len_seq (by rfl) T.z_len (by decide +kernel) (pa_cons (pv 0) pa_nil)) pe_int)), ?_⟩
  refine ⟨_, rfl, .ref a, .ty "tuple", _, _, true, rfl, .ty _, ty_tup hs, kit_ty (by decide +kernel), true, rfl, iteT ?_⟩
  refine ⟨_, rfl, a, _, rfl, .inr hs, _, _, rfl, rfl, _, rfl, ?_⟩
  have e : decide (((r.map V.int).length : Int) ≤ 4) = true := decide_eq_true (by rw [List.length_map]; omega)
  rw [e]
  refine iteT ⟨_, rfl, a, _, rfl, .inr hs, ?_⟩
  rw [List.length_map]
  exact q
/-! ### Table.__init__ -/
def Kp (x : Addr) (H H' : Hp) : Prop := ∀ b o, b ≠ x → H b = some o → H' b = some o
structure RShape (rs : List (List Int)) : Prop where
  n1 : 1 ≤ rs.length
  n10 : rs.length ≤ 10
  wid : ∃ c, 1 ≤ c ∧ c ≤ 4 ∧ ∀ r ∈ rs, r.length = c
  vals : ∀ r ∈ rs, ∀ z ∈ r, 0 ≤ z ∧ z ≤ 6
def spTin (K : PySem.W.Frag) : Sp := fun vs H Q _ => ∃ (x rl dx : Addr) (xs : List V) (rs : List (List Int)), vs = [.ref x, .ref rl] ∧ H x = some (.ins (ga K "Table") dx []) ∧ SqL K H rl xs ∧ Rows K H xs rs ∧ RShape rs ∧
  ∀ H' tr, Kp x H H' → H' x = some (.ins (ga K "Table") dx [("rows", .ref tr)]) → H' tr = some (.tup xs) → Q .non H'
theorem sc_tin : FnScope ["self", "rows", "many", "index", "row"] ["self", "rows"] (defScope (inC 14 0)) := ⟨rfl, rfl, rfl, by decide +kernel, rfl, by decide +kernel, by decide +kernel⟩
theorem Rows.at_ {H : Hp} : ∀ {xs : List V} {rs : List (List Int)} {i : Nat} {x : V}, Rows K H xs rs → xs[i]? = some x → ∃ a r, x = .ref a ∧ rs[i]? = some r ∧ SqT K H a (r.map V.int)
  | _, _, _, _, .nil, h => by cases h
  | _, _, 0, _, .cons h t, e => by cases e; exact ⟨_, _, rfl, rfl, h⟩
  | _, _, i + 1, _, .cons h t, e => t.at_ (i := i) e
theorem ok_tin (T : Txt w K h0 mg) : Mak0 P w K mg base 3 "Table" (spTin K) := by
  obtain ⟨fd, F⟩ := T.f_Table_init
  have cR : Cal0 P w K mg base 2 "is_row" (spRow K) := ok_row T
  have cW : Cal0 P w K mg base 1 "width_of" (spWof K) := ok_wof T
  obtain ⟨tk, mv⟩ := T.i_MOST_ROWS
  refine mak_of F T.k_Table T.g_Table sc_tin (fun vs H Q E h => ?_) (fun _ _ _ _ _ _ us hl => match us, hl with | [_, _], _ => rfl) (fun cdv A outer s H vs Q E hr h => ?_)
  · obtain ⟨x, rl, dx, xs, rs, rfl, _⟩ := h
    rfl
  obtain ⟨x, rl, dx, xs, rs, rfl, hx, hs, hR, S, q⟩ := h
  refine ⟨_, pss_cons (ps_if (PW.pt (pw_or (pt_not (pt_val (pe_callB call_isiT (by rfl) T.z_isinstance (by decide +kernel) (pa_cons (pv 1) (pa_cons (pe_tup (pa_cons (pe_bltn (v := .ty "list") (by rfl) T.z_list (by decide +kernel) rfl) (pa_cons (pe_bltn (v := .ty "tuple") (by rfl) T.z_tuple (by decide +kernel) rfl) pa_nil))) pa_nil)))))
      (pw_or1 (pt_not (pt_chain op_le op_le pe_int (pe_callB call_len_seq (by rfl) T.z_len (by decide +kernel) (pa_cons (pv 1) pa_nil)) (pe_glob (v := .int 10) (by rfl) mv ⟨_, rfl⟩)))))) pss_never pss_nil)
    (pss_cons (ps_set (i := 2) sc_tin.nd rfl (Or.inl rfl) (C8.pe_c cW hr (by decide) (by rfl) (pa_cons (pe_ix ix_list (pv 1) pe_int (fun _ _ => rfl)) pa_nil)))
    (pss_cons (ps_for PassesOwn.never rfl (pi_enum (by rfl) T.z_enumerate (pa_cons (pv 1) pa_nil)) (pg_tup rfl (pgs_cons (pg_name (i := 3) sc_tin.nd rfl (Or.inl rfl)) (pgs_cons (pg_name (i := 4) sc_tin.nd rfl (Or.inl rfl)) pgs_nil)))
      (pss_one (ps_if (PW.pt (pw_or (pt_cmpR op_eq (pv 2) pe_int (nomark _)) (pw_or1 (pt_not (pt_val (C8.pe_c cR hr (by decide) (by rfl) (pa_cons (pv 4) (pa_cons (pv 2) pa_nil)))))))) pss_never pss_nil)))
    (pss_one (ps_fld (pv 0) (pe_tupleOf (by rfl) T.z_tuple (pv 1)) rfl)))), ?_⟩
  have n1 := S.n1
  have n10 := S.n10
  obtain ⟨c, c1, c4, hw⟩ := S.wid
  have hl := hR.len
  refine ⟨_, rfl, show (2 : Nat) ≤ sizeLine by decide, fun p hp => ?_⟩
  have e1 : Same H (upd H p (.tup [.ty "list", .ty "tuple"])) := same_new hp _
  have hs1 := (Gr.of e1).sqL hs
  have hty : TyX K (upd H p (.tup [.ty "list", .ty "tuple"])) (.ref rl) (.type "list") := by
    rcases hs1 with (h | ⟨o, h⟩) | h
    · exact .base (.lst h)
    · exact .base (.frz h)
    · obtain ⟨o, its, n, h1, h2, _⟩ := h
      exact .kList h1 h2
  refine ⟨.ref rl, p, [.ty "list", .ty "tuple"], _, [.type "list", .type "tuple"], true, rfl, upd_same, .cons (.ty _) (.cons (.ty _) .nil), hty, ?_, true, rfl, iteF ?_⟩
  · exact kitAny_cons (b := true) (kit_ty (by decide +kernel)) (fun z => by cases z) fun _ => rfl
  refine ⟨_, rfl, rl, _, rfl, .inl hs1, _, _, rfl, rfl, true, congrArg V.bl (decide_eq_true (by omega)), iteT ?_⟩
  refine ⟨_, _, rfl, rfl, true, congrArg V.bl (decide_eq_true (by omega)), iteF ?_⟩
  have hR1 := hR.gr (Gr.of e1)
  obtain ⟨r0, er, hr0⟩ := hR1.get (i := 0) (by omega)
  have hm0 : rs.getD 0 [] ∈ rs := by
    rw [List.getD_eq_getElem?_getD, List.getElem?_eq_getElem (show 0 < rs.length by omega)]
    exact List.getElem_mem _
  have hc0 := hw _ hm0
  refine ⟨_, rfl, rl, xs, 0, _, rfl, rfl, hs1, atI_nat er, r0, _, rfl, hr0, by omega, ?_⟩
  rw [hc0]
  refine ⟨_, rfl, rl, xs, rfl, hs1, for_it (walk_enum (xs := xs)) (fun i σ' H' => ∃ u v, σ' = [some (.ref x), some (.ref rl), some (nV c), u, v] ∧ Same (upd H p (.tup [.ty "list", .ty "tuple"])) H') ⟨none, none, rfl, Same.refl _⟩ (fun i σ' H' _ h => ?_) (fun i y σ' H1 H2 hi h hy => ?_) (fun σ' H' h => ?_)⟩
  · obtain ⟨u, v, rfl, e⟩ := h
    exact (Gr.of e).sqL hs1
  · obtain ⟨u, v, rfl, e⟩ := h
    obtain ⟨Tp, i', z, rfl, nT, rfl, h1, h2⟩ := hy
    cases h1
    obtain ⟨a, r, rfl, hrr, har⟩ := hR1.at_ h2
    have hm := List.mem_of_getElem? hrr
    have e2 : Same H1 (upd H1 Tp (.tup [.int (i : Nat), .ref a])) := same_new nT _
    refine rd_g2 (SqT.of upd_same) ?_
    refine ⟨_, rfl, rfl, false, congrArg V.bl ?_, iteF ?_⟩
    · exact decide_eq_false fun z => by
        have z2 := V.int.inj z
        omega
    have hcr : nV c = nV r.length := by rw [hw r hm]
    refine ⟨_, rfl, _, rfl, a, r, ?_, (Gr.of (e.trans e2)).sqT har, by rw [hw r hm]; omega, S.vals r hm, fun H3 e3 => ⟨true, rfl, iteF ⟨_, _, rfl, e.trans (e2.trans e3)⟩⟩⟩
    show [V.ref a, nV c] = _
    rw [hcr]
  · obtain ⟨u, v, rfl, e⟩ := h
    refine ⟨_, rfl, .inl ⟨rl, xs, rfl, (Gr.of e).sqL hs1, fun tq hq => ?_⟩⟩
    have e3 : Same H (upd H' tq (.tup xs)) := (e1.trans e).trans (same_new hq _)
    refine ⟨_, rfl, x, _, dx, [], rfl, e3 _ _ hx, T.c_Table, T.n_Table_rows, by decide, q _ tq (fun b o hb ho => ?_) upd_same ?_⟩
    · rw [upd_ne hb]; exact e3 _ _ ho
    · have hne : tq ≠ x := fun z => by
        have := e _ _ (e1 _ _ hx)
        rw [← z, hq] at this
        cases this
      rw [upd_ne hne, upd_same]
end
end Rs

set_option Elab.async false
set_option linter.all false
set_option maxRecDepth 100000
set_option maxHeartbeats 4000000
/-! A comprehension whose items are new objects; lists of lists or tuples. -/
namespace Rs
open PySem PySem.Spec PyProof.Rows L2 He RsH LamX
theorem lc_acc {J : It} {G : Hp → Prop} {xs : List V} (wk : Walk J xs.length G (YAt xs)) {i : Nat} {te : TE} {vs : List Nat} {σ : L2.St} {H1 : Hp} {D : Addr} {Qd : Hp → Prop} (A : Hp → List V → Nat → Prop) (nD : H1 D = none) (hz : xs.length < sizeLine) (hG : ∀ H', Same H1 H' → G H')
    (hw : ∀ x, wipe ((wipe σ vs).set i (some x)) vs = wipe σ vs) (hA0 : A (upd H1 D (.lst [])) [] 0) (hAs : ∀ H' ys k zs, H' D = some (.lst zs) → A H' ys k → ∀ acc, A (upd H' D (.lst acc)) ys k) (hAl : ∀ H' ys k, A H' ys k → ys.length ≤ k)
    (hs : ∀ (k : Nat) x H' ys, xs[k]? = some x → Same H1 H' → H' D = some (.lst ys) → A H' ys k → ∀ R : VK, (∀ y H'', Same H' H'' → A H'' (ys ++ [y]) (k + 1) → R y H'') → te ((wipe σ vs).set i (some x)) H' R)
    (hd : ∀ H' ys, Same H1 H' → A H' ys xs.length → H' D = some (.lst ys) → Qd H') :
    ∃ W : Nat → Nat → Hp → Prop, (∃ m, W 0 m (upd H1 D (.lst []))) ∧ ∀ i' m H, W i' m H →
      (J.stop i' H ∧ Qd H) ∨ (J.go i' H ∧ ∃ Nx : Hp → Prop, (∀ H', Nx H' → ∃ m', m' < m ∧ W (i' + 1) m' H') ∧ ∀ x H', J.yld i' H x H' → gName i x (wipe σ vs) H' fun σ2 H2 => wipe σ2 vs = wipe σ vs ∧ tYes σ2 H2 fun b H3 =>
        if b = true then te σ2 H3 fun y H4 => ∃ acc, H4 D = some (.lst acc) ∧ acc.length < sizeLine ∧ Nx (upd H4 D (.lst (acc ++ [y]))) else Nx H3) := by
  refine lc_it wk (fun k H' => Same H1 H' ∧ ∃ ys, H' D = some (.lst ys) ∧ A H' ys k) ⟨same_new nD _, [], upd_same, hA0⟩ (fun k H' _ p => hG H' p.1) (fun k x H' H'' hk p y => ?_) fun H' p => ?_
  · obtain ⟨rfl, hx⟩ := y
    obtain ⟨p1, ys, p2, p3⟩ := p
    refine ⟨hw x, ?_⟩
    refine yes_rd (A := fun H3 => te ((wipe σ vs).set i (some x)) H3 fun y H4 => ∃ acc, H4 D = some (.lst acc) ∧ acc.length < sizeLine ∧ (Same H1 (upd H4 D (.lst (acc ++ [y]))) ∧ ∃ ys, (upd H4 D (.lst (acc ++ [y]))) D = some (.lst ys) ∧ A (upd H4 D (.lst (acc ++ [y]))) ys (k + 1))) ?_
    refine hs k x H'' ys hx p1 p2 p3 _ fun y H4 s4 a4 => ⟨ys, s4 _ _ p2, ?_, same_upd (p1.trans s4) nD _, _, upd_same, hAs H4 _ _ ys (s4 _ _ p2) a4 _⟩
    have := hAl _ _ _ p3
    omega
  · obtain ⟨p1, ys, p2, p3⟩ := p
    exact hd H' ys p1 p3 p2
section
variable {K : PySem.W.Frag} {H : Hp}
theorem SqT.updL {a D : Addr} {xs zs acc : List V} (hD : H D = some (.lst zs)) (h : SqT K H a xs) : SqT K (upd H D (.lst acc)) a xs := by
  rcases h with (h | ⟨o, h⟩) | h
  · refine .inl (.inl ?_)
    show upd H D (.lst acc) a = _
    rw [upd_ne (fun z => by rw [z, hD] at h; cases h)]; exact h
  · refine .inl (.inr ⟨o, ?_⟩)
    rw [upd_ne (fun z => by rw [z, hD] at h; cases h)]; exact h
  · exact .inr h
theorem Tps.updL {D : Addr} {zs acc : List V} (hD : H D = some (.lst zs)) : ∀ {xs : List V} {rs : List (List Nat)}, Tps K H xs rs → Tps K (upd H D (.lst acc)) xs rs
  | _, _, .nil => .nil
  | _, _, .cons h t => .cons (SqT.updL hD h) (Tps.updL hD t)
theorem Tps.one {a : Addr} {r : List Nat} (h : SqT K H a (r.map nV)) : Tps K H [.ref a] [r] := .cons h .nil
/-- a list or a tuple -/
def SqA (K : PySem.W.Frag) (H : Hp) (a : Addr) (xs : List V) : Prop := SqL K H a xs ∨ SqT K H a xs
theorem Gr.sqA {H' : Hp} {a : Addr} {xs : List V} (e : Gr H H') (h : SqA K H a xs) : SqA K H' a xs := h.imp (e.sqL) (e.sqT)
/-- a list of such -/
inductive Its (K : PySem.W.Frag) (H : Hp) : List V → List (List Nat) → Prop where
  | nil : Its K H [] []
  | cons {a : Addr} {r : List Nat} {xs : List V} {rs : List (List Nat)} (h : SqA K H a (r.map nV)) (t : Its K H xs rs) : Its K H (.ref a :: xs) (r :: rs)
theorem Its.gr {H' : Hp} (e : Gr H H') : ∀ {xs : List V} {rs : List (List Nat)}, Its K H xs rs → Its K H' xs rs
  | _, _, .nil => .nil
  | _, _, .cons h t => .cons (e.sqA h) (Its.gr e t)
theorem Its.len : ∀ {xs : List V} {rs : List (List Nat)}, Its K H xs rs → xs.length = rs.length
  | _, _, .nil => rfl
  | _, _, .cons h t => by rw [List.length_cons, List.length_cons, t.len]
theorem Its.get : ∀ {xs : List V} {rs : List (List Nat)} {i : Nat} {x : V}, Its K H xs rs → xs[i]? = some x → ∃ a r, x = .ref a ∧ rs[i]? = some r ∧ SqA K H a (r.map nV)
  | _, _, _, _, .nil, h => by cases h
  | _, _, 0, _, .cons h t, e => by cases e; exact ⟨_, _, rfl, rfl, h⟩
  | _, _, i + 1, _, .cons h t, e => t.get (i := i) e
theorem Tps.its : ∀ {xs : List V} {rs : List (List Nat)}, Tps K H xs rs → Its K H xs rs
  | _, _, .nil => .nil
  | _, _, .cons h t => .cons (.inr h) t.its
theorem Its.app : ∀ {xs ys : List V} {rs ss : List (List Nat)}, Its K H xs rs → Its K H ys ss → Its K H (xs ++ ys) (rs ++ ss)
  | _, _, _, _, .nil, t => t
  | _, _, _, _, .cons h r, t => .cons h (r.app t)
/-- tuple(x), x a list or a tuple of whole numbers -/
theorem rd_tup {a : Addr} {xs : List V} {Q : VK} (h : SqA K H a xs) (q : ∀ b H', Same H H' → SqT K H' b xs → Q (.ref b) H') : kTup K (.ref a) H Q := by
  rcases h with h | h
  · exact .inl ⟨a, xs, rfl, h, fun b hb => q b _ (same_new hb _) (SqT.of upd_same)⟩
  · exact .inr ⟨a, xs, rfl, h, q a H (Same.refl _) h⟩
end
/-! ### evidence -/
section
variable {K : PySem.W.Frag}
def RisAt (K : PySem.W.Frag) (H : Hp) (a : Addr) (o : List Nat) : Prop := ∃ dx ol, H a = some (.ins (ga K "Rising") dx [("order", .ref ol)]) ∧ SqT K H ol (o.map nV)
def CroAt (K : PySem.W.Frag) (H : Hp) (a : Addr) (i j : Nat) : Prop := ∃ dx, H a = some (.ins (ga K "Crossing") dx [("one", nV i), ("other", nV j)])
def SenAt (K : PySem.W.Frag) (H : Hp) (a : Addr) (ps : List (List Nat)) (c : List Nat) : Prop := ∃ dx pl cl xs, H a = some (.ins (ga K "Risen") dx [("pieces", .ref pl), ("crossing", .ref cl)]) ∧ H pl = some (.lst xs) ∧ Tps K H xs ps ∧ SqT K H cl (c.map nV)
theorem RisAt.gr {H H' : Hp} (e : Gr H H') {a : Addr} {o : List Nat} : RisAt K H a o → RisAt K H' a o := fun ⟨dx, ol, h1, h2⟩ => ⟨dx, ol, e.ins h1, e.sqT h2⟩
theorem CroAt.gr {H H' : Hp} (e : Gr H H') {a : Addr} {i j : Nat} : CroAt K H a i j → CroAt K H' a i j := fun ⟨dx, h1⟩ => ⟨dx, e.ins h1⟩
theorem SenAt.gr {H H' : Hp} (e : Gr H H') {a : Addr} {ps : List (List Nat)} {c : List Nat} : SenAt K H a ps c → SenAt K H' a ps c := fun ⟨dx, pl, cl, xs, h1, h2, h3, h4⟩ => ⟨dx, pl, cl, xs, e.ins h1, e.lst h2, h3.gr e, e.sqT h4⟩
end
end Rs

set_option Elab.async false
set_option linter.all false
set_option maxRecDepth 100000
set_option maxHeartbeats 4000000
/-! Comprehensions with two for. -/
namespace Rs
open PySem PySem.Spec PyProof.Rows L2 He RsH LamX
theorem lc2_out {J : It} {n : Nat} {G : Hp → Prop} {Y : Nat → Hp → V → Hp → Prop} (w : Walk J n G Y) {D : Addr} {H1 : Hp} {Qd : Hp → Prop} {B : V → Hp → (Hp → Prop) → Prop} (Pv : Nat → Hp → Prop) (h0 : Pv 0 (upd H1 D (.lst []))) (hG : ∀ i H, i ≤ n → Pv i H → G H)
    (hs : ∀ i x H H', i < n → Pv i H → Y i H x H' → B x H' (Pv (i + 1))) (hd : ∀ H, Pv n H → Qd H) :
    ∃ W : Nat → Nat → Hp → Prop, (∃ m, W 0 m (upd H1 D (.lst []))) ∧ ∀ i m H, W i m H → (J.stop i H ∧ Qd H) ∨ (J.go i H ∧ ∃ Nx : Hp → Prop, (∀ H', Nx H' → ∃ m', m' < m ∧ W (i + 1) m' H') ∧ ∀ x H', J.yld i H x H' → B x H' Nx) := by
  refine ⟨fun i m H => m = n - i ∧ i ≤ n ∧ Pv i H, ⟨n, by simp, Nat.zero_le _, h0⟩, ?_⟩
  rintro i m H ⟨rfl, hi, p⟩
  have q := hG i H hi p
  by_cases hlt : i < n
  · exact .inr ⟨w.goes i H hlt q, Pv (i + 1), fun H' p' => ⟨n - (i + 1), by omega, rfl, hlt, p'⟩, fun x H' y => hs i x H H' hlt p (w.yields i H x H' hlt q y)⟩
  · have e : i = n := by omega
    subst e
    exact .inl ⟨w.stops H q, hd H p⟩
theorem lc2_in {J : It} {n : Nat} {G : Hp → Prop} {Y : Nat → Hp → V → Hp → Prop} (w : Walk J n G Y) {H4 : Hp} {Nx : Hp → Prop} {B : V → Hp → (Hp → Prop) → Prop} (P1 : Nat → Hp → Prop) (h0 : P1 0 H4) (hG : ∀ i H, i ≤ n → P1 i H → G H)
    (hs : ∀ i x H H', i < n → P1 i H → Y i H x H' → B x H' (P1 (i + 1))) (hd : ∀ H, P1 n H → Nx H) :
    ∃ W : Nat → Nat → Hp → Prop, (∃ m, W 0 m H4) ∧ ∀ i m H, W i m H → (J.stop i H ∧ Nx H) ∨ (J.go i H ∧ ∃ Nx1 : Hp → Prop, (∀ H', Nx1 H' → ∃ m', m' < m ∧ W (i + 1) m' H') ∧ ∀ x H', J.yld i H x H' → B x H' Nx1) := by
  refine ⟨fun i m H => m = n - i ∧ i ≤ n ∧ P1 i H, ⟨n, by simp, Nat.zero_le _, h0⟩, ?_⟩
  rintro i m H ⟨rfl, hi, p⟩
  have q := hG i H hi p
  by_cases hlt : i < n
  · exact .inr ⟨w.goes i H hlt q, P1 (i + 1), fun H' p' => ⟨n - (i + 1), by omega, rfl, hlt, p'⟩, fun x H' y => hs i x H H' hlt p (w.yields i H x H' hlt q y)⟩
  · have e : i = n := by omega
    subst e
    exact .inl ⟨w.stops H q, hd H p⟩
theorem lc2_vals {J : It} {G : Hp → Prop} {xs : List V} (wk : Walk J xs.length G (YAt xs)) {i i1 : Nat} {wi1 : TI} {tt1 : TT} {te : TE} {vs vs1 : List Nat} {σ : L2.St} {H1 : Hp} {D : Addr} {Qd : Hp → Prop} (inn : Nat → List V) (f : Nat → V → Option V) (nD : H1 D = none)
    (hz : ((List.range xs.length).flatMap fun k => (inn k).filterMap (f k)).length < sizeLine) (hG : ∀ H', Same H1 H' → G H') (hw : ∀ x, wipe ((wipe σ vs).set i (some x)) vs = wipe σ vs)
    (hi : ∀ (k : Nat) x H', xs[k]? = some x → Same H1 H' → ∀ R : It → Hp → Prop, (∀ J1 G1 H'', Same H' H'' → Walk J1 (inn k).length G1 (YAt (inn k)) → (∀ H3, (∀ b o, H'' b = some o → b ≠ D → H3 b = some o) → G1 H3) → R J1 H'') → wi1 ((wipe σ vs).set i (some x)) H' R)
    (hw1 : ∀ x y, wipe ((wipe ((wipe σ vs).set i (some x)) vs1).set i1 (some y)) vs1 = wipe ((wipe σ vs).set i (some x)) vs1)
    (hs : ∀ (k : Nat) x y H', xs[k]? = some x → y ∈ inn k → Same H1 H' → ∀ R : Option V → Hp → Prop, (∀ H'', Same H' H'' → R (f k y) H'') → tt1 ((wipe ((wipe σ vs).set i (some x)) vs1).set i1 (some y)) H' fun b H3 =>
      if b = true then te ((wipe ((wipe σ vs).set i (some x)) vs1).set i1 (some y)) H3 fun y H4 => R (some y) H4 else R none H3)
    (hd : ∀ H', Same H1 H' → H' D = some (.lst ((List.range xs.length).flatMap fun k => (inn k).filterMap (f k))) → Qd H') :
    ∃ W : Nat → Nat → Hp → Prop, (∃ m, W 0 m (upd H1 D (.lst []))) ∧ ∀ i' m H, W i' m H →
      (J.stop i' H ∧ Qd H) ∨ (J.go i' H ∧ ∃ Nx : Hp → Prop, (∀ H', Nx H' → ∃ m', m' < m ∧ W (i' + 1) m' H') ∧ ∀ x H', J.yld i' H x H' → gName i x (wipe σ vs) H' fun σ2 H2 => wipe σ2 vs = wipe σ vs ∧ tYes σ2 H2 fun b H3 =>
        if b = true then wi1 σ2 H3 fun J1 H4 => ∃ W1 : Nat → Nat → Hp → Prop, (∃ m, W1 0 m H4) ∧ ∀ j k H, W1 j k H →
          (J1.stop j H ∧ Nx H) ∨ (J1.go j H ∧ ∃ Nx1 : Hp → Prop, (∀ H', Nx1 H' → ∃ k', k' < k ∧ W1 (j + 1) k' H') ∧ ∀ x H', J1.yld j H x H' → gName i1 x (wipe σ2 vs1) H' fun σ3 H5 => wipe σ3 vs1 = wipe σ2 vs1 ∧ tt1 σ3 H5 fun b H6 =>
            if b = true then te σ3 H6 fun y H7 => ∃ acc, H7 D = some (.lst acc) ∧ acc.length < sizeLine ∧ Nx1 (upd H7 D (.lst (acc ++ [y]))) else Nx1 H6)
        else Nx H3) := by
  let gx := fun (k : Nat) => (inn k).filterMap (f k)
  refine lc2_out wk (B := fun x H' Nx => gName i x (wipe σ vs) H' fun σ2 H2 => wipe σ2 vs = wipe σ vs ∧ tYes σ2 H2 fun b H3 =>
        if b = true then wi1 σ2 H3 fun J1 H4 => ∃ W1 : Nat → Nat → Hp → Prop, (∃ m, W1 0 m H4) ∧ ∀ j k H, W1 j k H →
          (J1.stop j H ∧ Nx H) ∨ (J1.go j H ∧ ∃ Nx1 : Hp → Prop, (∀ H', Nx1 H' → ∃ k', k' < k ∧ W1 (j + 1) k' H') ∧ ∀ x H', J1.yld j H x H' → gName i1 x (wipe σ2 vs1) H' fun σ3 H5 => wipe σ3 vs1 = wipe σ2 vs1 ∧ tt1 σ3 H5 fun b H6 =>
            if b = true then te σ3 H6 fun y H7 => ∃ acc, H7 D = some (.lst acc) ∧ acc.length < sizeLine ∧ Nx1 (upd H7 D (.lst (acc ++ [y]))) else Nx1 H6)
        else Nx H3) (fun k H' => Same H1 H' ∧ H' D = some (.lst ((List.range k).flatMap gx))) ⟨same_new nD _, upd_same⟩ (fun k H' _ p => hG H' p.1) (fun k x H' H'' hk p y => ?_) fun H' p => ?_
  · obtain ⟨rfl, hx⟩ := y
    refine ⟨hw x, ?_⟩
    refine iteT (B := Same H1 H'' ∧ H'' D = some (.lst ((List.range (k + 1)).flatMap gx))) ?_
    refine hi k x H'' hx p.1 _ fun J1 G1 H4 s4 w1 hG1 => ?_
    have etake : (List.range (k + 1)).flatMap gx = (List.range k).flatMap gx ++ gx k := by
      rw [List.range_succ, List.flatMap_append]
      simp
    have hle : ((List.range k).flatMap gx).length + (gx k).length ≤ ((List.range xs.length).flatMap gx).length := by
      have e : (List.range xs.length).flatMap gx = (List.range (k + 1)).flatMap gx ++ ((List.range xs.length).drop (k + 1)).flatMap gx := by
        have e2 : (List.range xs.length).take (k + 1) = List.range (k + 1) := by rw [List.take_range, Nat.min_eq_left (by omega)]
        rw [← e2, ← List.flatMap_append, List.take_append_drop]
      rw [e, etake, List.length_append, List.length_append]
      omega
    have hz : ((List.range xs.length).flatMap gx).length < sizeLine := hz
    refine lc2_in w1 (B := fun x' H' Nx1 => gName i1 x' (wipe ((wipe σ vs).set i (some x)) vs1) H' fun σ3 H5 => wipe σ3 vs1 = wipe ((wipe σ vs).set i (some x)) vs1 ∧ tt1 σ3 H5 fun b H6 =>
            if b = true then te σ3 H6 fun y H7 => ∃ acc, H7 D = some (.lst acc) ∧ acc.length < sizeLine ∧ Nx1 (upd H7 D (.lst (acc ++ [y]))) else Nx1 H6)
      (fun j H5 => (Same H1 H5 ∧ H5 D = some (.lst ((List.range k).flatMap gx ++ ((inn k).take j).filterMap (f k)))) ∧ ∀ b o, H4 b = some o → b ≠ D → H5 b = some o) ⟨⟨p.1.trans s4, ?_⟩, fun b o e _ => e⟩ (fun j H5 _ q => ?_) (fun j y H5 H6 hj q hy => ?_) fun H5 q => ?_
    · rw [List.take_zero, List.filterMap_nil, List.append_nil]
      exact s4 _ _ p.2
    · exact hG1 H5 q.2
    · obtain ⟨rfl, hyx⟩ := hy
      refine ⟨hw1 x y, ?_⟩
      have key := hs k x y H6 hx (List.mem_of_getElem? hyx) q.1.1 (fun r H7 => match r with
        | some y => ∃ acc, H7 D = some (.lst acc) ∧ acc.length < sizeLine ∧ ((Same H1 (upd H7 D (.lst (acc ++ [y]))) ∧ (upd H7 D (.lst (acc ++ [y]))) D = some (.lst ((List.range k).flatMap gx ++ ((inn k).take (j + 1)).filterMap (f k)))) ∧ ∀ b o, H4 b = some o → b ≠ D → (upd H7 D (.lst (acc ++ [y]))) b = some o)
        | none => (Same H1 H7 ∧ H7 D = some (.lst ((List.range k).flatMap gx ++ ((inn k).take (j + 1)).filterMap (f k)))) ∧ ∀ b o, H4 b = some o → b ≠ D → H7 b = some o) (fun H7 s7 => by
          have e7 := s7 _ _ q.1.2
          have et := fm_take (f k) (inn k) j hyx
          cases e : f k y with
          | none =>
            rw [e] at et
            rw [et]
            refine ⟨⟨q.1.1.trans s7, by simpa using e7⟩, fun b o hb hn => s7 _ _ (q.2 b o hb hn)⟩
          | some z =>
            rw [e] at et
            rw [et]
            refine ⟨_, e7, ?_, ⟨same_upd (q.1.1.trans s7) nD _, by rw [upd_same, List.append_assoc]; rfl⟩, fun b o hb hn => by rw [upd_ne hn]; exact s7 _ _ (q.2 b o hb hn)⟩
            have h1 : (((inn k).take j).filterMap (f k)).length + 1 ≤ (gx k).length := by
              have e2 : gx k = ((inn k).take (j + 1)).filterMap (f k) ++ ((inn k).drop (j + 1)).filterMap (f k) := by
                show (inn k).filterMap (f k) = _
                rw [← List.filterMap_append, List.take_append_drop]
              rw [e2, et, List.length_append, List.length_append]
              simp only [Option.toList, List.length_cons, List.length_nil]
              omega
            rw [List.length_append]
            omega)
      exact key
    · obtain ⟨⟨q1, q2⟩, _⟩ := q
      refine ⟨q1, ?_⟩
      rw [List.take_length] at q2
      rw [etake]
      exact q2
  · exact hd H' p.1 p.2
def OptR {β : Type} (A : V → β → Prop) : Option V → Option β → Prop
  | some v, some b => A v b
  | none, none => True
  | _, _ => False
theorem lc2_rel {β : Type} {J : It} {G : Hp → Prop} {xs : List V} (wk : Walk J xs.length G (YAt xs)) {i i1 : Nat} {wi1 : TI} {tt1 : TT} {te : TE} {vs vs1 : List Nat} {σ : L2.St} {H1 : Hp} {D : Addr} {Qd : Hp → Prop} (inn : Nat → List V) (f : Nat → V → Option β) (A : Hp → V → β → Prop) (hA1 : ∀ H H' y b, Same H H' → A H y b → A H' y b) (hA2 : ∀ H y b zs acc, H D = some (.lst zs) → A H y b → A (upd H D (.lst acc)) y b) (nD : H1 D = none)
    (hz : ((List.range xs.length).flatMap fun k => (inn k).filterMap (f k)).length < sizeLine) (hG : ∀ H', Same H1 H' → G H') (hw : ∀ x, wipe ((wipe σ vs).set i (some x)) vs = wipe σ vs)
    (hi : ∀ (k : Nat) x H', xs[k]? = some x → Same H1 H' → ∀ R : It → Hp → Prop, (∀ J1 G1 H'', Same H' H'' → Walk J1 (inn k).length G1 (YAt (inn k)) → (∀ H3, (∀ b o, H'' b = some o → b ≠ D → H3 b = some o) → G1 H3) → R J1 H'') → wi1 ((wipe σ vs).set i (some x)) H' R)
    (hw1 : ∀ x y, wipe ((wipe ((wipe σ vs).set i (some x)) vs1).set i1 (some y)) vs1 = wipe ((wipe σ vs).set i (some x)) vs1)
    (hs : ∀ (k : Nat) x y H', xs[k]? = some x → y ∈ inn k → Same H1 H' → ∀ R : Option V → Hp → Prop, (∀ r H'', Same H' H'' → OptR (A H'') r (f k y) → R r H'') → tt1 ((wipe ((wipe σ vs).set i (some x)) vs1).set i1 (some y)) H' fun b H3 =>
      if b = true then te ((wipe ((wipe σ vs).set i (some x)) vs1).set i1 (some y)) H3 fun y H4 => R (some y) H4 else R none H3)
    (hd : ∀ H' ys, Same H1 H' → H' D = some (.lst ys) → PySem.W.EachIs (A H') ys ((List.range xs.length).flatMap fun k => (inn k).filterMap (f k)) → Qd H') :
    ∃ W : Nat → Nat → Hp → Prop, (∃ m, W 0 m (upd H1 D (.lst []))) ∧ ∀ i' m H, W i' m H →
      (J.stop i' H ∧ Qd H) ∨ (J.go i' H ∧ ∃ Nx : Hp → Prop, (∀ H', Nx H' → ∃ m', m' < m ∧ W (i' + 1) m' H') ∧ ∀ x H', J.yld i' H x H' → gName i x (wipe σ vs) H' fun σ2 H2 => wipe σ2 vs = wipe σ vs ∧ tYes σ2 H2 fun b H3 =>
        if b = true then wi1 σ2 H3 fun J1 H4 => ∃ W1 : Nat → Nat → Hp → Prop, (∃ m, W1 0 m H4) ∧ ∀ j k H, W1 j k H →
          (J1.stop j H ∧ Nx H) ∨ (J1.go j H ∧ ∃ Nx1 : Hp → Prop, (∀ H', Nx1 H' → ∃ k', k' < k ∧ W1 (j + 1) k' H') ∧ ∀ x H', J1.yld j H x H' → gName i1 x (wipe σ2 vs1) H' fun σ3 H5 => wipe σ3 vs1 = wipe σ2 vs1 ∧ tt1 σ3 H5 fun b H6 =>
            if b = true then te σ3 H6 fun y H7 => ∃ acc, H7 D = some (.lst acc) ∧ acc.length < sizeLine ∧ Nx1 (upd H7 D (.lst (acc ++ [y]))) else Nx1 H6)
        else Nx H3) := by
  let gx := fun (k : Nat) => (inn k).filterMap (f k)
  refine lc2_out wk (B := fun x H' Nx => gName i x (wipe σ vs) H' fun σ2 H2 => wipe σ2 vs = wipe σ vs ∧ tYes σ2 H2 fun b H3 =>
        if b = true then wi1 σ2 H3 fun J1 H4 => ∃ W1 : Nat → Nat → Hp → Prop, (∃ m, W1 0 m H4) ∧ ∀ j k H, W1 j k H →
          (J1.stop j H ∧ Nx H) ∨ (J1.go j H ∧ ∃ Nx1 : Hp → Prop, (∀ H', Nx1 H' → ∃ k', k' < k ∧ W1 (j + 1) k' H') ∧ ∀ x H', J1.yld j H x H' → gName i1 x (wipe σ2 vs1) H' fun σ3 H5 => wipe σ3 vs1 = wipe σ2 vs1 ∧ tt1 σ3 H5 fun b H6 =>
            if b = true then te σ3 H6 fun y H7 => ∃ acc, H7 D = some (.lst acc) ∧ acc.length < sizeLine ∧ Nx1 (upd H7 D (.lst (acc ++ [y]))) else Nx1 H6)
        else Nx H3) (fun k H' => Same H1 H' ∧ ∃ ys, H' D = some (.lst ys) ∧ PySem.W.EachIs (A H') ys ((List.range k).flatMap gx)) ⟨same_new nD _, [], upd_same, .nil⟩ (fun k H' _ p => hG H' p.1) (fun k x H' H'' hk p y => ?_) fun H' p => ?_
  · obtain ⟨rfl, hx⟩ := y
    obtain ⟨p1, ys0, p2, p3⟩ := p
    refine ⟨hw x, ?_⟩
    refine iteT (B := Same H1 H'' ∧ ∃ ys, H'' D = some (.lst ys) ∧ PySem.W.EachIs (A H'') ys ((List.range (k + 1)).flatMap gx)) ?_
    refine hi k x H'' hx p1 _ fun J1 G1 H4 s4 w1 hG1 => ?_
    have etake : (List.range (k + 1)).flatMap gx = (List.range k).flatMap gx ++ gx k := by
      rw [List.range_succ, List.flatMap_append]
      simp
    have hle : ((List.range k).flatMap gx).length + (gx k).length ≤ ((List.range xs.length).flatMap gx).length := by
      have e : (List.range xs.length).flatMap gx = (List.range (k + 1)).flatMap gx ++ ((List.range xs.length).drop (k + 1)).flatMap gx := by
        have e2 : (List.range xs.length).take (k + 1) = List.range (k + 1) := by rw [List.take_range, Nat.min_eq_left (by omega)]
        rw [← e2, ← List.flatMap_append, List.take_append_drop]
      rw [e, etake, List.length_append, List.length_append]
      omega
    have hz : ((List.range xs.length).flatMap gx).length < sizeLine := hz
    refine lc2_in w1 (B := fun x' H' Nx1 => gName i1 x' (wipe ((wipe σ vs).set i (some x)) vs1) H' fun σ3 H5 => wipe σ3 vs1 = wipe ((wipe σ vs).set i (some x)) vs1 ∧ tt1 σ3 H5 fun b H6 =>
            if b = true then te σ3 H6 fun y H7 => ∃ acc, H7 D = some (.lst acc) ∧ acc.length < sizeLine ∧ Nx1 (upd H7 D (.lst (acc ++ [y]))) else Nx1 H6)
      (fun j H5 => (Same H1 H5 ∧ ∃ ys, H5 D = some (.lst ys) ∧ PySem.W.EachIs (A H5) ys ((List.range k).flatMap gx ++ ((inn k).take j).filterMap (f k))) ∧ ∀ b o, H4 b = some o → b ≠ D → H5 b = some o) ⟨⟨p1.trans s4, ys0, s4 _ _ p2, ?_⟩, fun b o e _ => e⟩ (fun j H5 _ q => hG1 H5 q.2) (fun j y H5 H6 hj q hy => ?_) fun H5 q => ?_
    · rw [List.take_zero, List.filterMap_nil, List.append_nil]
      exact p3.mono fun _ _ h => hA1 _ _ _ _ s4 h
    · obtain ⟨rfl, hyx⟩ := hy
      refine ⟨hw1 x y, ?_⟩
      obtain ⟨⟨q1, ys, q2, q3⟩, q4⟩ := q
      have key := hs k x y H6 hx (List.mem_of_getElem? hyx) q1 (fun r H7 => match r with
        | some y => ∃ acc, H7 D = some (.lst acc) ∧ acc.length < sizeLine ∧ ((Same H1 (upd H7 D (.lst (acc ++ [y]))) ∧ ∃ ys, (upd H7 D (.lst (acc ++ [y]))) D = some (.lst ys) ∧ PySem.W.EachIs (A (upd H7 D (.lst (acc ++ [y])))) ys ((List.range k).flatMap gx ++ ((inn k).take (j + 1)).filterMap (f k))) ∧ ∀ b o, H4 b = some o → b ≠ D → (upd H7 D (.lst (acc ++ [y]))) b = some o)
        | none => (Same H1 H7 ∧ ∃ ys, H7 D = some (.lst ys) ∧ PySem.W.EachIs (A H7) ys ((List.range k).flatMap gx ++ ((inn k).take (j + 1)).filterMap (f k))) ∧ ∀ b o, H4 b = some o → b ≠ D → H7 b = some o) (fun r H7 s7 o7 => by
          have e7 := s7 _ _ q2
          have et := fm_take (f k) (inn k) j hyx
          cases e : f k y with
          | none =>
            rw [e] at et o7
            rw [et]
            cases r with
            | some v => exact o7.elim
            | none => exact ⟨⟨q1.trans s7, ys, e7, by simpa using q3.mono fun _ _ h => hA1 _ _ _ _ s7 h⟩, fun b o hb hn => s7 _ _ (q4 b o hb hn)⟩
          | some z =>
            rw [e] at et o7
            rw [et]
            cases r with
            | none => exact o7.elim
            | some v =>
              have h1 : (((inn k).take j).filterMap (f k)).length + 1 ≤ (gx k).length := by
                have e2 : gx k = ((inn k).take (j + 1)).filterMap (f k) ++ ((inn k).drop (j + 1)).filterMap (f k) := by
                  show (inn k).filterMap (f k) = _
                  rw [← List.filterMap_append, List.take_append_drop]
                rw [e2, et, List.length_append, List.length_append]
                simp only [Option.toList, List.length_cons, List.length_nil]
                omega
              refine ⟨ys, e7, ?_, ⟨same_upd (q1.trans s7) nD _, _, upd_same, ?_⟩, fun b o hb hn => by rw [upd_ne hn]; exact s7 _ _ (q4 b o hb hn)⟩
              · have := q3.length
                rw [List.length_append] at this
                omega
              · rw [← List.append_assoc]
                exact each_take (q3.mono fun _ _ h => hA2 _ _ _ _ _ e7 (hA1 _ _ _ _ s7 h)) (hA2 _ _ _ _ _ e7 o7))
      exact key
    · obtain ⟨⟨q1, ys, q2, q3⟩, _⟩ := q
      refine ⟨q1, ys, q2, ?_⟩
      rw [List.take_length] at q3
      rw [etake]
      exact q3
  · obtain ⟨p1, ys, p2, p3⟩ := p
    exact hd H' ys p1 p2 p3
theorem flat_range {α β : Type} (g : α → List β) (d : α) : ∀ (l : List α), (List.range l.length).flatMap (fun k => g (l.getD k d)) = l.flatMap g
  | [] => rfl
  | x :: l => by
    rw [List.length_cons, List.range_succ_eq_map, List.flatMap_cons, List.flatMap_map, List.flatMap_cons, ← flat_range g d l]
    rfl
section
variable {K : PySem.W.Frag} {H1 H2 H3 : Hp} {a D : Addr} {xs : List V}
theorem sqT_but (nD : H1 D = none) (h : SqT K H1 a xs) (e : Same H1 H2) (g : ∀ b o, H2 b = some o → b ≠ D → H3 b = some o) : SqT K H3 a xs := by
  rcases h with (h | ⟨o, h⟩) | h
  · exact .inl (.inl (g _ _ (e _ _ h) (ne_of_none h nD)))
  · exact .inl (.inr ⟨o, g _ _ (e _ _ h) (ne_of_none h nD)⟩)
  · exact .inr h
theorem sqL_but (nD : H1 D = none) (h : SqL K H1 a xs) (e : Same H1 H2) (g : ∀ b o, H2 b = some o → b ≠ D → H3 b = some o) : SqL K H3 a xs := by
  rcases h with (h | ⟨o, h⟩) | h
  · exact .inl (.inl (g _ _ (e _ _ h) (ne_of_none h nD)))
  · exact .inl (.inr ⟨o, g _ _ (e _ _ h) (ne_of_none h nD)⟩)
  · exact .inr h
end
/-- [te for g in xs], by places -/
theorem lc_mapg {J : It} {G : Hp → Prop} {xs : List V} (wk : Walk J xs.length G (YAt xs)) {g : TG} {te : TE} {vs : List Nat} {σ : L2.St} {H1 : Hp} {D : Addr} {Qd : Hp → Prop} (f : Nat → V) (nD : H1 D = none) (hz : xs.length < sizeLine) (hG : ∀ H', (∀ b o, H1 b = some o → H' b = some o) → G H')
    (hs : ∀ (k : Nat) x H', xs[k]? = some x → Same H1 H' → ∀ R : VK, (∀ H'', Same H' H'' → R (f k) H'') → g x (wipe σ vs) H' fun σ2 H2 => wipe σ2 vs = wipe σ vs ∧ te σ2 H2 R)
    (hd : ∀ H', Same H1 H' → H' D = some (.lst ((List.range xs.length).map f)) → Qd H') (gm : ∀ x H' (A B : L2.St → Hp → Prop), (∀ σ2 H2, A σ2 H2 → B σ2 H2) → g x (wipe σ vs) H' A → g x (wipe σ vs) H' B) :
    ∃ W : Nat → Nat → Hp → Prop, (∃ m, W 0 m (upd H1 D (.lst []))) ∧ ∀ i' m H, W i' m H →
      (J.stop i' H ∧ Qd H) ∨ (J.go i' H ∧ ∃ Nx : Hp → Prop, (∀ H', Nx H' → ∃ m', m' < m ∧ W (i' + 1) m' H') ∧ ∀ x H', J.yld i' H x H' → g x (wipe σ vs) H' fun σ2 H2 => wipe σ2 vs = wipe σ vs ∧ tYes σ2 H2 fun b H3 =>
        if b = true then te σ2 H3 fun y H4 => ∃ acc, H4 D = some (.lst acc) ∧ acc.length < sizeLine ∧ Nx (upd H4 D (.lst (acc ++ [y]))) else Nx H3) := by
  refine lc_it wk (fun k H' => Same H1 H' ∧ H' D = some (.lst ((List.range k).map f))) ⟨same_new nD _, upd_same⟩ (fun k H' _ p => hG H' p.1) (fun k x H' H'' hk p y => ?_) fun H' p => hd H' p.1 p.2
  obtain ⟨rfl, hx⟩ := y
  refine gm _ _ _ _ (fun σ2 H2 h => ⟨h.1, iteT (B := Same H1 H2 ∧ H2 D = some (.lst ((List.range (k + 1)).map f))) h.2⟩) (hs k x H'' hx p.1 (fun y H4 => ∃ acc, H4 D = some (.lst acc) ∧ acc.length < sizeLine ∧ (Same H1 (upd H4 D (.lst (acc ++ [y]))) ∧ (upd H4 D (.lst (acc ++ [y]))) D = some (.lst ((List.range (k + 1)).map f)))) fun H4 s4 => ⟨_, s4 _ _ p.2, ?_, same_upd (p.1.trans s4) nD _, ?_⟩)
  · rw [List.length_map, List.length_range]; omega
  · rw [upd_same, List.range_succ, List.map_append]; rfl
theorem g2_mono {K : PySem.W.Frag} {i j : Nat} {σ : L2.St} {x : V} {H' : Hp} {A B : L2.St → Hp → Prop} (h : ∀ σ2 H2, A σ2 H2 → B σ2 H2) (q : g2 K i j x σ H' A) : g2 K i j x σ H' B := by
  obtain ⟨T, xs, e1, e2, e3, q⟩ := q
  obtain ⟨y, ys, e4, q⟩ := q
  obtain ⟨z, zs, e5, q⟩ := q
  obtain ⟨e6, q⟩ := q
  exact ⟨T, xs, e1, e2, e3, y, ys, e4, z, zs, e5, e6, h _ _ q⟩
theorem un65 {k : Nat} {A : Around} (r : Room k A) : A.units + 65 < cLine := by have := r.un; omega
theorem map_range {α β : Type} (g : α → β) (d : α) : ∀ (l : List α), (List.range l.length).map (fun k => g (l.getD k d)) = l.map g
  | [] => rfl
  | x :: l => by
    rw [List.length_cons, List.range_succ_eq_map, List.map_cons, List.map_map, List.map_cons, ← map_range g d l]
    rfl
end Rs

set_option Elab.async false
set_option linter.all false
set_option maxRecDepth 100000
set_option maxHeartbeats 4000000
namespace Rs
open PySem PySem.Spec PyProof.Rows L2 He RsH LamX
section
variable {P : Program} {w : World} {K : PySem.W.Frag} {mg : Str → Option Value} {base : Heap} {h0 : Heap}
theorem kp_same {x : Addr} {H1 H2 H' : Hp} (nx : H1 x = none) (e : Same H1 H2) (k : Kp x H2 H') : Same H1 H' := fun b o h => k b o (ne_of_none h nx) (e _ _ h)
theorem new2 {x dx : Addr} {H1 : Hp} {o o' : HO} (nx : H1 x = none) (nd : H1 dx = none) : Same H1 (upd (upd H1 dx o) x o') := same_upd (same_new nd _) nx _
/-! ### the makers -/
def spRin (K : PySem.W.Frag) : Sp := fun vs H Q _ => ∃ (x a dx : Addr) (o : List Nat), vs = [.ref x, .ref a] ∧ H x = some (.ins (ga K "Rising") dx []) ∧ SqA K H a (o.map nV) ∧ ∀ H', Kp x H H' → RisAt K H' x o → Q .non H'
theorem sc_rin : FnScope ["self", "order"] ["self", "order"] (defScope (inC 20 0)) := ⟨rfl, rfl, rfl, by decide +kernel, rfl, by decide +kernel, by decide +kernel⟩
theorem ok_rin (T : Txt w K h0 mg) : Mak0 P w K mg base 1 "Rising" (spRin K) := by
  obtain ⟨fd, F⟩ := T.f_Rising_init
  refine mak_of F T.k_Rising T.g_Rising sc_rin (fun vs H Q E h => ?_) (fun _ _ _ _ _ _ us hl => match us, hl with | [_, _], _ => rfl) (fun cdv A outer s H vs Q E hr h => ?_)
  · obtain ⟨x, a, dx, o, rfl, _⟩ := h
    rfl
  obtain ⟨x, a, dx, o, rfl, hx, ha, q⟩ := h
  refine ⟨_, pss_one (ps_fld (pv 0) (pe_tupleOf (by rfl) T.z_tuple (pv 1)) rfl), ?_⟩
  refine ⟨_, rfl, rd_tup ha fun b H1 e1 hb => ⟨_, rfl, x, _, dx, [], rfl, e1 _ _ hx, T.c_Rising, T.n_Rising_order, by decide, q _ (fun c u hc hu => ?_) ⟨dx, b, upd_same, ?_⟩⟩⟩
  · rw [upd_ne hc]; exact e1 _ _ hu
  · rcases hb with (h | ⟨ob, h⟩) | h
    · refine .inl (.inl ?_)
      show upd H1 x _ b = _
      rw [upd_ne (fun z => by rw [z, e1 _ _ hx] at h; cases h)]; exact h
    · refine .inl (.inr ⟨ob, ?_⟩)
      rw [upd_ne (fun z => by rw [z, e1 _ _ hx] at h; cases h)]; exact h
    · exact .inr h
def spCin (K : PySem.W.Frag) : Sp := fun vs H Q _ => ∃ (x dx : Addr) (i j : Nat), vs = [.ref x, nV i, nV j] ∧ H x = some (.ins (ga K "Crossing") dx []) ∧ ∀ H', Kp x H H' → CroAt K H' x i j → Q .non H'
theorem sc_cin : FnScope ["self", "one", "other"] ["self", "one", "other"] (defScope (inC 21 0)) := ⟨rfl, rfl, rfl, by decide +kernel, rfl, by decide +kernel, by decide +kernel⟩
theorem ok_cin (T : Txt w K h0 mg) : Mak0 P w K mg base 1 "Crossing" (spCin K) := by
  obtain ⟨fd, F⟩ := T.f_Crossing_init
  refine mak_of F T.k_Crossing T.g_Crossing sc_cin (fun vs H Q E h => ?_) (fun _ _ _ _ _ _ us hl => match us, hl with | [_, _, _], _ => rfl) (fun cdv A outer s H vs Q E hr h => ?_)
  · obtain ⟨x, dx, i, j, rfl, _⟩ := h
    rfl
  obtain ⟨x, dx, i, j, rfl, hx, q⟩ := h
  refine ⟨_, pss_cons (ps_fld (pv 0) (pv 1) rfl) (pss_one (ps_fld (pv 0) (pv 2) rfl)), ?_⟩
  refine ⟨_, rfl, _, rfl, x, _, dx, [], rfl, hx, T.c_Crossing, T.n_Crossing_one, by decide, ?_⟩
  refine ⟨_, rfl, _, rfl, x, _, dx, _, rfl, upd_same, T.c_Crossing, T.n_Crossing_other, show (1 : Nat) < 1000 by decide, q _ (fun c u hc hu => ?_) ⟨dx, upd_same⟩⟩
  rw [upd_ne hc, upd_ne hc]; exact hu
def spSin (K : PySem.W.Frag) : Sp := fun vs H Q _ => ∃ (x a c dx : Addr) (xs : List V) (ps : List (List Nat)) (cr : List Nat), vs = [.ref x, .ref a, .ref c] ∧ H x = some (.ins (ga K "Risen") dx []) ∧ SqL K H a xs ∧ Its K H xs ps ∧ xs.length ≤ 4000 ∧ SqA K H c (cr.map nV) ∧
  ∀ H', Kp x H H' → SenAt K H' x ps cr → (∀ dx pl cl, H' x = some (.ins (ga K "Risen") dx [("pieces", .ref pl), ("crossing", .ref cl)]) → H pl = none) → Q .non H'
theorem sc_sin : FnScope ["self", "pieces", "crossing", "piece"] ["self", "pieces", "crossing"] (defScope (inC 22 0)) := ⟨rfl, rfl, rfl, by decide +kernel, rfl, by decide +kernel, by decide +kernel⟩
theorem SqT.updI {K : PySem.W.Frag} {H : Hp} {a x C dx : Addr} {fs : List (Str × V)} {xs : List V} {o : HO} (hx : H x = some (.ins C dx fs)) (h : SqT K H a xs) : SqT K (upd H x o) a xs := by
  rcases h with (h | ⟨ob, h⟩) | h
  · refine .inl (.inl ?_)
    show upd H x _ a = _
    rw [upd_ne (fun z => by rw [z, hx] at h; cases h)]; exact h
  · refine .inl (.inr ⟨ob, ?_⟩)
    rw [upd_ne (fun z => by rw [z, hx] at h; cases h)]; exact h
  · exact .inr h
theorem Tps.updI {K : PySem.W.Frag} {H : Hp} {x C dx : Addr} {fs : List (Str × V)} {o : HO} (hx : H x = some (.ins C dx fs)) : ∀ {xs : List V} {rs : List (List Nat)}, Tps K H xs rs → Tps K (upd H x o) xs rs
  | _, _, .nil => .nil
  | _, _, .cons h t => .cons (SqT.updI hx h) (Tps.updI hx t)
theorem ok_sin (T : Txt w K h0 mg) : Mak0 P w K mg base 1 "Risen" (spSin K) := by
  obtain ⟨fd, F⟩ := T.f_Risen_init
  refine mak_of F T.k_Risen T.g_Risen sc_sin (fun vs H Q E h => ?_) (fun _ _ _ _ _ _ us hl => match us, hl with | [_, _, _], _ => rfl) (fun cdv A outer s H vs Q E hr h => ?_)
  · obtain ⟨x, a, c, dx, xs, ps, cr, rfl, _⟩ := h
    rfl
  obtain ⟨x, a, c, dx, xs, ps, cr, rfl, hx, ha, hi, hl, hc, q⟩ := h
  refine ⟨_, pss_cons (ps_fld (pv 0) (pe_lc (own := [("piece", 3)]) (g := gName 3) (tt := tYes) (te := tThen (tVar 3) (kTup K)) rfl sc_sin.nd (pi_list (pv 1)) (blkOk_by (N := ["self", "pieces", "crossing", "piece"]) (sc := defScope (inC 22 0)) (by decide +kernel))
      (fun _ _ _ _ _ => pg_name (i := 3) sc_sin.nd rfl (Or.inl rfl)) (fun _ _ _ _ _ => pts_nil) (fun _ _ _ _ _ => pe_tupleOf (by rfl) T.z_tuple (pv 3))) rfl)
    (pss_one (ps_fld (pv 0) (pe_tupleOf (by rfl) T.z_tuple (pv 2)) rfl)), ?_⟩
  refine ⟨_, rfl, a, rfl, ⟨_, ha⟩, fun D nD => lc_acc walk_list (fun H' ys k => Tps K H' ys (ps.take k) ∧ ys.length ≤ k) nD (small _ hl) (fun H' e => (Gr.of e).sqL ha) (fun _ => rfl) ⟨.nil, Nat.le_refl _⟩ (fun H' ys k zs hD t acc => ⟨Tps.updL hD t.1, t.2⟩) (fun H' ys k t => t.2) (fun k y H' ys hk e hD t R hR => ?_) fun H1 ys e1 t1 hD => ?_⟩
  · obtain ⟨b, r, rfl, hr2, hb⟩ := hi.get hk
    refine ⟨_, rfl, rd_tup ((Gr.of e).sqA hb) fun b2 H2 e2 hb2 => hR _ H2 e2 ⟨?_, by rw [List.length_append, List.length_singleton]; omega⟩⟩
    rw [List.take_add_one, hr2]
    exact (Tps.gr (Gr.of e2) t.1).app (Tps.one hb2)
  · have hD2 := hD
    have t2 := t1.1
    rw [hi.len, List.take_length] at t2
    refine ⟨_, rfl, x, _, dx, [], rfl, e1 _ _ hx, T.c_Risen, T.n_Risen_pieces, by decide, ?_⟩
    have hDx : D ≠ x := fun z => by rw [z] at nD; rw [hx] at nD; cases nD
    have t3 := Tps.updI (o := .ins (ga K "Risen") dx [("pieces", .ref D)]) (e1 _ _ hx) t2
    have hc3 : SqA K (upd H1 x (.ins (ga K "Risen") dx [("pieces", .ref D)])) c (cr.map nV) := by
      rcases (Gr.of e1).sqA hc with h | h
      · refine .inl ?_
        rcases h with (h | ⟨ob, h⟩) | h
        · refine .inl (.inl ?_)
          show upd H1 x _ c = _
          rw [upd_ne (fun z => by rw [z, e1 _ _ hx] at h; cases h)]; exact h
        · refine .inl (.inr ⟨ob, ?_⟩)
          rw [upd_ne (fun z => by rw [z, e1 _ _ hx] at h; cases h)]; exact h
        · exact .inr h
      · exact .inr (SqT.updI (e1 _ _ hx) h)
    refine ⟨_, rfl, rd_tup hc3 fun b H2 e2 hb => ⟨_, rfl, x, _, dx, _, rfl, e2 _ _ upd_same, T.c_Risen, T.n_Risen_crossing, show (1 : Nat) < 1000 by decide, q _ (fun d u hd hu => ?_) ⟨dx, D, b, ys, upd_same, ?_, Tps.updI (e2 _ _ upd_same) (t3.gr (Gr.of e2)), SqT.updI (e2 _ _ upd_same) hb⟩ (fun dx' pl' cl' h => by rw [upd_same] at h; cases h; exact nD)⟩⟩
    · rw [upd_ne hd]
      exact e2 _ _ (by rw [upd_ne hd]; exact e1 _ _ hu)
    · rw [upd_ne hDx]
      exact e2 _ _ (by rw [upd_ne hDx]; exact hD)
end
end Rs

set_option Elab.async false
set_option linter.all false
set_option maxRecDepth 100000
set_option maxHeartbeats 4000000
namespace Rs
open PySem PySem.Spec PyProof.Rows L2 He RsH LamX
section
variable {P : Program} {w : World} {K : PySem.W.Frag} {mg : Str → Option Value} {base : Heap} {h0 : Heap}
/-! ### __eq__ -/
def spSeq (K : PySem.W.Frag) : Sp := fun vs H Q _ => ∃ (a b : Addr) (p : List (List Nat)) (c : List Nat), vs = [.ref a, .ref b] ∧ SenAt K H a p c ∧
  ((∃ p' c', SenAt K H b p' c' ∧ ∀ H', Same H H' → Q (.bl (decide (p = p') && decide (c = c'))) H') ∨ (∃ o, RisAt K H b o ∧ Q (.bl false) H))
theorem sc_seq : FnScope ["self", "other"] ["self", "other"] (defScope (inC 22 1)) := ⟨rfl, rfl, rfl, by decide +kernel, rfl, by decide +kernel, by decide +kernel⟩
theorem ok_seq (T : Txt w K h0 mg) : Met0 P w K mg base 1 "Risen" "__eq__" (spSeq K) := by
  obtain ⟨fd, F⟩ := T.f_Risen_eq
  refine met_of F T.c_Risen T.m_Risen_eq sc_seq (fun vs H Q E h => ?_) (fun _ _ _ _ _ _ us hl => match us, hl with | [_, _], _ => rfl) (fun cdv A outer s H vs Q E hr h => ?_)
  · obtain ⟨a, b, p, c, rfl, _⟩ := h
    rfl
  obtain ⟨a, b, p, c, rfl, ha, q⟩ := h
  refine ⟨_, pss_one (ps_ret (pe_and (pe_callB call_isi (by rfl) T.z_isinstance (by decide +kernel) (pa_cons (pv 1) (pa_cons (pe_glob (v := .ref (ga K "Risen")) (by rfl) T.g_Risen rfl) pa_nil)))
    (pe_one (pe_cmpR (op_eqD hr.units) (pe_tup (pa_cons (pfd 0) (pa_cons (pfd 0) pa_nil))) (pe_tup (pa_cons (pfd 1) (pa_cons (pfd 1) pa_nil))) (nomark _))))), ?_⟩
  obtain ⟨dx, pl, cl, xs, a1, a2, a3, a4⟩ := ha
  rcases q with ⟨p', c', ⟨dy, pl', cl', ys, b1, b2, b3, b4⟩, q⟩ | ⟨o, ⟨dy, ol, b1, b2⟩, q⟩
  · refine ⟨_, rfl, .ref b, .ref (ga K "Risen"), _, _, true, rfl, .own _, ty_ins T.E T.c_Risen T.E.oS b1, T.E.ss, true, rfl, iteT ?_⟩
    refine ⟨_, rfl, a, _, dx, _, _, rfl, a1, T.c_Risen, T.n_Risen_pieces, rfl, _, rfl, a, _, dx, _, _, rfl, a1, T.c_Risen, T.n_Risen_crossing, rfl, show (2 : Nat) ≤ sizeLine by decide, fun t1 h1 => ?_⟩
    have e1 : Same H (upd H t1 (.tup [.ref pl, .ref cl])) := same_new h1 _
    refine ⟨_, rfl, b, _, dy, _, _, rfl, e1 _ _ b1, T.c_Risen, T.n_Risen_pieces, rfl, _, rfl, b, _, dy, _, _, rfl, e1 _ _ b1, T.c_Risen, T.n_Risen_crossing, rfl, show (2 : Nat) ≤ sizeLine by decide, fun t2 h2 => ?_⟩
    have e2 : Same (upd H t1 (.tup [.ref pl, .ref cl])) (upd (upd H t1 (.tup [.ref pl, .ref cl])) t2 (.tup [.ref pl', .ref cl'])) := same_new h2 _
    have g := Gr.of (e1.trans e2)
    have d1 : Dp K (upd (upd H t1 (.tup [.ref pl, .ref cl])) t2 (.tup [.ref pl', .ref cl'])) (.ref t1) (.tuple [.list (dt p), .tuple (dn c)]) :=
      .tup (SqT.of (e2 _ _ upd_same)) (.cons (.lst (SqL.of (g.lst a2)) (a3.gr g).dp) (.cons (dp_tup (g.sqT a4)) .nil))
    have d2 : Dp K (upd (upd H t1 (.tup [.ref pl, .ref cl])) t2 (.tup [.ref pl', .ref cl'])) (.ref t2) (.tuple [.list (dt p'), .tuple (dn c')]) :=
      .tup (SqT.of upd_same) (.cons (.lst (SqL.of (g.lst b2)) (b3.gr g).dp) (.cons (dp_tup (g.sqT b4)) .nil))
    refine ⟨_, _, d1, d2, sh_evid p c, sh_evid p' c', ?_⟩
    have e : PyData.eqv (.tuple [.list (dt p), .tuple (dn c)]) (.tuple [.list (dt p'), .tuple (dn c')]) = (decide (p = p') && decide (c = c')) := by
      rw [PyData.eqv, PyData.eqvAll, PyData.eqvAll, PyData.eqv, PyData.eqv, eqv_tups, eqv_nats, PyData.eqvAll, Bool.and_true]
    rw [e]
    exact q _ (e1.trans e2)
  · refine ⟨_, rfl, .ref b, .ref (ga K "Risen"), _, _, false, rfl, .own _, ty_ins T.E T.c_Rising T.E.oR b1, T.E.rs, false, rfl, iteF q⟩
def spCeq (K : PySem.W.Frag) : Sp := fun vs H Q _ => ∃ (a b : Addr) (i j k l : Nat), vs = [.ref a, .ref b] ∧ CroAt K H a i j ∧ CroAt K H b k l ∧ ∀ H', Same H H' → Q (.bl (decide (i = k) && decide (j = l))) H'
theorem sc_ceq : FnScope ["self", "other"] ["self", "other"] (defScope (inC 21 1)) := ⟨rfl, rfl, rfl, by decide +kernel, rfl, by decide +kernel, by decide +kernel⟩
theorem ok_ceq (T : Txt w K h0 mg) : Met0 P w K mg base 1 "Crossing" "__eq__" (spCeq K) := by
  obtain ⟨fd, F⟩ := T.f_Crossing_eq
  refine met_of F T.c_Crossing T.m_Crossing_eq sc_ceq (fun vs H Q E h => ?_) (fun _ _ _ _ _ _ us hl => match us, hl with | [_, _], _ => rfl) (fun cdv A outer s H vs Q E hr h => ?_)
  · obtain ⟨a, b, i, j, k, l, rfl, _⟩ := h
    rfl
  obtain ⟨a, b, i, j, k, l, rfl, ⟨dx, a1⟩, ⟨dy, b1⟩, q⟩ := h
  refine ⟨_, pss_one (ps_ret (pe_and (pe_callB call_isi (by rfl) T.z_isinstance (by decide +kernel) (pa_cons (pv 1) (pa_cons (pe_glob (v := .ref (ga K "Crossing")) (by rfl) T.g_Crossing rfl) pa_nil)))
    (pe_one (pe_cmpR (op_eqD hr.units) (pe_tup (pa_cons (pfd 0) (pa_cons (pfd 0) pa_nil))) (pe_tup (pa_cons (pfd 1) (pa_cons (pfd 1) pa_nil))) (nomark _))))), ?_⟩
  refine ⟨_, rfl, .ref b, .ref (ga K "Crossing"), _, _, true, rfl, .own _, ty_ins T.E T.c_Crossing T.E.oC b1, T.E.cc, true, rfl, iteT ?_⟩
  refine ⟨_, rfl, a, _, dx, _, _, rfl, a1, T.c_Crossing, T.n_Crossing_one, rfl, _, rfl, a, _, dx, _, _, rfl, a1, T.c_Crossing, T.n_Crossing_other, rfl, show (2 : Nat) ≤ sizeLine by decide, fun t1 h1 => ?_⟩
  have e1 : Same H (upd H t1 (.tup [nV i, nV j])) := same_new h1 _
  refine ⟨_, rfl, b, _, dy, _, _, rfl, e1 _ _ b1, T.c_Crossing, T.n_Crossing_one, rfl, _, rfl, b, _, dy, _, _, rfl, e1 _ _ b1, T.c_Crossing, T.n_Crossing_other, rfl, show (2 : Nat) ≤ sizeLine by decide, fun t2 h2 => ?_⟩
  have e2 : Same (upd H t1 (.tup [nV i, nV j])) (upd (upd H t1 (.tup [nV i, nV j])) t2 (.tup [nV k, nV l])) := same_new h2 _
  have d1 : Dp K (upd (upd H t1 (.tup [nV i, nV j])) t2 (.tup [nV k, nV l])) (.ref t1) (.tuple (dn [i, j])) := dp_tup (l := [i, j]) (SqT.of (e2 _ _ upd_same))
  have d2 : Dp K (upd (upd H t1 (.tup [nV i, nV j])) t2 (.tup [nV k, nV l])) (.ref t2) (.tuple (dn [k, l])) := dp_tup (l := [k, l]) (SqT.of upd_same)
  refine ⟨_, _, d1, d2, sh_tup _, sh_tup _, ?_⟩
  have e : PyData.eqv (.tuple (dn [i, j])) (.tuple (dn [k, l])) = (decide (i = k) && decide (j = l)) := by
    rw [PyData.eqv, eqv_nats, Bool.eq_iff_iff]
    simp
  rw [e]
  exact q _ (e1.trans e2)
/-! ### shows -/
def spRsh (K : PySem.W.Frag) : Sp := fun vs H Q _ => ∃ (a t pl : Addr) (rs : List (List Int)) (ps o : List Nat), vs = [.ref a, .ref t, .ref pl] ∧ RisAt K H a o ∧ Told2 K H t pl rs ps ∧ o.length ≤ 4000 ∧ (isOrd o rs.length = true → o.Nodup) ∧
  ∀ H', Same H H' → Q (.bl (isOrd o rs.length && rises (below rs ps) o)) H'
theorem sc_rsh : FnScope ["self", "table", "places"] ["self", "table", "places"] (defScope (inC 20 2)) := ⟨rfl, rfl, rfl, by decide +kernel, rfl, by decide +kernel, by decide +kernel⟩
theorem isOrd_lt {o : List Nat} {n : Nat} (h : isOrd o n = true) : ∀ i ∈ o, i < n := fun i hi => by
  unfold isOrd at h
  exact of_decide_eq_true (List.all_eq_true.mp (Bool.and_eq_true_iff.mp h).2 i hi)
theorem ok_rsh (T : Txt w K h0 mg) : Met0 P w K mg base 5 "Rising" "shows" (spRsh K) := by
  obtain ⟨fd, F⟩ := T.f_Rising_shows
  have c1 : Cal0 P w K mg base 4 "check_told" (spTold K) := ok_told T
  have c2 : Cal0 P w K mg base 2 "is_order" (spOrder K) := ok_order T
  have c3 : Cal0 P w K mg base 2 "rises" (spRises K) := ok_rises T
  have mT : Met0 P w K mg base 1 "Table" "__len__" (spTlen K) := ok_tlen T
  refine met_of F T.c_Rising T.m_Rising_shows sc_rsh (fun vs H Q E h => ?_) (fun _ _ _ _ _ _ us hl => match us, hl with | [_, _, _], _ => rfl) (fun cdv A outer s H vs Q E hr h => ?_)
  · obtain ⟨a, t, pl, rs, ps, o, rfl, _⟩ := h
    rfl
  obtain ⟨a, t, pl, rs, ps, o, rfl, ha, Td, hl, hnd, q⟩ := h
  refine ⟨_, pss_cons (ps_expr (C8.pe_c c1 hr (by decide) (by rfl) (pa_cons (pv 1) (pa_cons (pv 2) pa_nil))))
    (pss_one (ps_ret (pe_and (C8.pe_c c2 hr (by decide) (by rfl) (pa_cons (pfd 0) (pa_cons (pe_callB (len_o mT hr (by decide)) (by rfl) T.z_len (by decide +kernel) (pa_cons (pv 1) pa_nil)) pa_nil)))
      (pe_one (C8.pe_c c3 hr (by decide) (by rfl) (pa_cons (pv 1) (pa_cons (pfd 0) (pa_cons (pv 2) pa_nil)))))))), ?_⟩
  refine ⟨_, rfl, _, rfl, t, pl, rs, ps, rfl, Td, fun H1 e1 => ?_⟩
  have Td1 := Td.gr (Gr.of e1)
  obtain ⟨dx, ol, h1, h2⟩ := ha.gr (Gr.of e1)
  obtain ⟨dt, tr, xs, g1, g2, g3⟩ := id Td1.tab
  have n10 := Td.sh.n10
  refine ⟨_, rfl, a, _, dx, _, _, rfl, h1, T.c_Rising, T.n_Rising_order, rfl, _, rfl, t, dt, _, rfl, g1, t, rs, rfl, Td1.tab, _, rfl, by omega, by omega, ol, o, rs.length, rfl, .inr h2, hl, hnd, fun H2 e2 => ⟨_, rfl, rdb (fun c => ?_) fun c => ?_⟩⟩
  · refine ⟨_, rfl, _, rfl, a, _, dx, _, _, rfl, (Gr.of e2).ins h1, T.c_Rising, T.n_Rising_order, rfl, _, rfl, t, ol, pl, rs, ps, o, rfl, Td1.gr (Gr.of e2), (Gr.of e2).sqT h2, isOrd_lt c, hl, fun H3 e3 => ?_⟩
    have q3 := q H3 (e1.trans (e2.trans e3))
    rw [c, Bool.true_and] at q3
    exact q3
  · have q3 := q H2 (e1.trans e2)
    rw [c, Bool.false_and] at q3
    exact q3
def spCsh (K : PySem.W.Frag) : Sp := fun vs H Q _ => ∃ (a t pl : Addr) (rs : List (List Int)) (ps : List Nat) (i j : Nat), vs = [.ref a, .ref t, .ref pl] ∧ CroAt K H a i j ∧ Told2 K H t pl rs ps ∧
  ∀ H', Same H H' → Q (.bl (decide (i < rs.length) && decide (j < rs.length) && crs (below rs ps) i j)) H'
theorem sc_csh : FnScope ["self", "table", "places"] ["self", "table", "places"] (defScope (inC 21 2)) := ⟨rfl, rfl, rfl, by decide +kernel, rfl, by decide +kernel, by decide +kernel⟩
theorem num_lt (i n : Nat) : (decide ((0 : Int) ≤ (i : Int)) && decide ((i : Int) ≤ (n : Int) - 1)) = decide (i < n) := by
  rw [decide_eq_true (by omega), Bool.true_and, Bool.eq_iff_iff]
  simp
  omega
theorem ok_csh (T : Txt w K h0 mg) : Met0 P w K mg base 5 "Crossing" "shows" (spCsh K) := by
  obtain ⟨fd, F⟩ := T.f_Crossing_shows
  have c1 : Cal0 P w K mg base 4 "check_told" (spTold K) := ok_told T
  have cN : Cal0 P w K mg base 1 "is_number" spNum := ok_num T
  have c3 : Cal0 P w K mg base 2 "cross" (spCross K) := ok_cross T
  have mT : Met0 P w K mg base 1 "Table" "__len__" (spTlen K) := ok_tlen T
  refine met_of F T.c_Crossing T.m_Crossing_shows sc_csh (fun vs H Q E h => ?_) (fun _ _ _ _ _ _ us hl => match us, hl with | [_, _, _], _ => rfl) (fun cdv A outer s H vs Q E hr h => ?_)
  · obtain ⟨a, t, pl, rs, ps, i, j, rfl, _⟩ := h
    rfl
  obtain ⟨a, t, pl, rs, ps, i, j, rfl, ha, Td, q⟩ := h
  refine ⟨_, pss_cons (ps_expr (C8.pe_c c1 hr (by decide) (by rfl) (pa_cons (pv 1) (pa_cons (pv 2) pa_nil))))
    (pss_cons (ps_if (PW.pt (pw_or (pt_not (pt_val (C8.pe_c cN hr (by decide) (by rfl) (pa_cons (pfd 0) (pa_cons pe_int (pa_cons (pe_op op_sub (pe_callB (len_o mT hr (by decide)) (by rfl) T.z_len (by decide +kernel) (pa_cons (pv 1) pa_nil)) pe_int) pa_nil))))))
      (pw_or1 (pt_not (pt_val (C8.pe_c cN hr (by decide) (by rfl) (pa_cons (pfd 0) (pa_cons pe_int (pa_cons (pe_op op_sub (pe_callB (len_o mT hr (by decide)) (by rfl) T.z_len (by decide +kernel) (pa_cons (pv 1) pa_nil)) pe_int) pa_nil))))))))) (pss_one (ps_ret pe_bl)) pss_nil)
      (pss_one (ps_ret (C8.pe_c c3 hr (by decide) (by rfl) (pa_cons (pv 1) (pa_cons (pfd 0) (pa_cons (pfd 0) (pa_cons (pv 2) pa_nil)))))))), ?_⟩
  refine ⟨_, rfl, _, rfl, t, pl, rs, ps, rfl, Td, fun H1 e1 => ?_⟩
  have Td1 := Td.gr (Gr.of e1)
  obtain ⟨dx, h1⟩ := ha.gr (Gr.of e1)
  obtain ⟨dt, tr, xs, g1, g2, g3⟩ := id Td1.tab
  have n10 := Td.sh.n10
  refine ⟨_, rfl, a, _, dx, _, _, rfl, h1, T.c_Crossing, T.n_Crossing_one, rfl, _, rfl, t, dt, _, rfl, g1, t, rs, rfl, Td1.tab, _, rfl, by omega, by omega, _, _, rfl, rfl, i, 0, _, rfl, _, rfl, ?_⟩
  rw [num_lt]
  have q1 := q H1 e1
  refine rdb (fun c => iteT ?_) (fun c => ?_)
  · rw [Bool.not_eq_true'] at c
    rw [c, Bool.false_and, Bool.false_and] at q1
    exact q1
  rw [Bool.not_eq_false'] at c
  refine ⟨_, rfl, a, _, dx, _, _, rfl, h1, T.c_Crossing, T.n_Crossing_other, rfl, _, rfl, t, dt, _, rfl, g1, t, rs, rfl, Td1.tab, _, rfl, by omega, by omega, _, _, rfl, rfl, j, 0, _, rfl, _, rfl, ?_⟩
  rw [num_lt]
  refine rdb (fun c2 => ?_) (fun c2 => ?_)
  · rw [Bool.not_eq_true'] at c2
    rw [c2, Bool.and_false, Bool.false_and] at q1
    exact q1
  rw [Bool.not_eq_false'] at c2
  refine ⟨_, rfl, _, rfl, a, _, dx, _, _, rfl, h1, T.c_Crossing, T.n_Crossing_one, rfl, _, rfl, a, _, dx, _, _, rfl, h1, T.c_Crossing, T.n_Crossing_other, rfl, _, rfl, t, pl, rs, ps, i, j, rfl, Td1, of_decide_eq_true c, of_decide_eq_true c2, fun H2 e2 => ?_⟩
  have q2 := q H2 (e1.trans e2)
  rw [c, c2, Bool.true_and, Bool.true_and] at q2
  exact q2
end
end Rs

set_option Elab.async false
set_option linter.all false
set_option maxRecDepth 100000
set_option maxHeartbeats 4000000
namespace Rs
open PySem PySem.Spec PyProof.Rows L2 He RsH LamX
section
variable {P : Program} {w : World} {K : PySem.W.Frag} {mg : Str → Option Value} {base : Heap} {h0 : Heap}
/-- the pairs a < b of c, in order -/
def prs (c : List Nat) : List (Nat × Nat) := c.flatMap fun a => c.filterMap fun b => if a < b then some (a, b) else none
/-- what Risen.shows answers -/
def senOk (W : Nat → Nat → Bool) (n : Nat) (p : List (List Nat)) (c : List Nat) : Bool :=
  isOrd p.flatten n && (p.all (rises W) && (!p.contains [] && (decide (p.length = c.length) && (c.all (fun i => decide (i < n)) && (rises (fun a b => decide (a < b)) c && (prs c).all fun x => crs W x.1 x.2)))))
def spSsh (K : PySem.W.Frag) : Sp := fun vs H Q _ => ∃ (a t pl : Addr) (rs : List (List Int)) (ps : List Nat) (p : List (List Nat)) (c : List Nat), vs = [.ref a, .ref t, .ref pl] ∧ SenAt K H a p c ∧ Told2 K H t pl rs ps ∧ p.length ≤ 60 ∧ p.flatten.length ≤ 4000 ∧ c.length ≤ 60 ∧
  (isOrd p.flatten rs.length = true → p.flatten.Nodup) ∧ ∀ H', Same H H' → Q (.bl (senOk (below rs ps) rs.length p c)) H'
abbrev nS : List Str := ["self", "table", "places", "every", "pairs", "index", "piece", "one", "other"]
theorem sc_ssh : FnScope nS ["self", "table", "places"] (defScope (inC 22 2)) := ⟨rfl, rfl, rfl, by decide +kernel, rfl, by decide +kernel, by decide +kernel⟩
theorem Tps.flat {H : Hp} : ∀ {xs : List V} {rs : List (List Nat)}, Tps K H xs rs → rs.length = xs.length := fun h => h.len.symm
theorem getD_of {α : Type} {l : List α} {k : Nat} {r d : α} (h : l[k]? = some r) : l.getD k d = r := by rw [List.getD_eq_getElem?_getD, h]; rfl
theorem dec_len (a b : Nat) : decide (V.int (a : Int) = V.int (b : Int)) = decide (a = b) := by
  rw [Bool.eq_iff_iff, decide_eq_true_iff, decide_eq_true_iff]
  exact ⟨fun h => Int.ofNat_inj.mp (V.int.inj h), fun h => by rw [h]⟩
theorem flat_maps (p : List (List Nat)) : (p.flatMap fun r => (r.map nV).filterMap fun y => some y) = p.flatten.map nV := by
  induction p with
  | nil => rfl
  | cons r p ih =>
    rw [List.flatMap_cons, ih, List.flatten_cons, List.map_append]
    congr 1
    exact List.filterMap_some
theorem contains_nil (p : List (List Nat)) : ((dt p).any fun z => PyData.eqv z (.tuple [])) = p.contains [] := by
  induction p with
  | nil => rfl
  | cons r p ih =>
    show (PyData.eqv (.tuple (dn r)) (.tuple (dn [])) || (dt p).any _) = _
    rw [ih, PyData.eqv, eqv_nats, Bool.eq_iff_iff]
    cases r <;> simp
theorem each_get {α β : Type} {R : α → β → Prop} : ∀ {as : List α} {bs : List β} {k : Nat} {a : α}, PySem.W.EachIs R as bs → as[k]? = some a → ∃ b, bs[k]? = some b ∧ R a b
  | _, _, _, _, .nil, h => by cases h
  | _, _, 0, _, .cons h t, e => by cases e; exact ⟨_, rfl, h⟩
  | _, _, k + 1, _, .cons h t, e => each_get (k := k) t e
theorem prs_eq (c : List Nat) : ((List.range (c.map nV).length).flatMap fun k => (c.map nV).filterMap fun y => match y with | .int b => if c.getD k 0 < b.toNat then some (c.getD k 0, b.toNat) else none | _ => none) = prs c := by
  rw [List.length_map]
  have e : ∀ a : Nat, ((c.map nV).filterMap fun y => match y with | .int b => if a < b.toNat then some (a, b.toNat) else none | _ => none) = c.filterMap fun b => if a < b then some (a, b) else none := fun a => by
    rw [List.filterMap_map]
    rfl
  have h := flat_range (fun a => (c.map nV).filterMap fun y => match y with | .int b => if a < b.toNat then some (a, b.toNat) else none | _ => none) 0 c
  refine h.trans ?_
  unfold prs
  congr 1
  funext a
  exact e a
/-- a pair of whole numbers -/
def PrAt (K : PySem.W.Frag) (H : Hp) (y : V) (b : Nat × Nat) : Prop := ∃ T, y = .ref T ∧ SqT K H T [nV b.1, nV b.2]
theorem prs_mem {c : List Nat} {x : Nat × Nat} (h : x ∈ prs c) : x.1 ∈ c ∧ x.2 ∈ c := by
  obtain ⟨a, ha, h⟩ := List.mem_flatMap.mp h
  obtain ⟨b, hb, h⟩ := List.mem_filterMap.mp h
  split at h
  · cases h; exact ⟨ha, hb⟩
  · cases h
theorem prs_len (c : List Nat) : (prs c).length ≤ c.length * c.length := by
  unfold prs
  have key : ∀ l : List Nat, (l.flatMap fun a => c.filterMap fun b => if a < b then some (a, b) else none).length ≤ l.length * c.length := by
    intro l
    induction l with
    | nil => simp
    | cons a l ih =>
      rw [List.flatMap_cons, List.length_append, List.length_cons, Nat.succ_mul]
      have := List.length_filterMap_le (fun b => if a < b then some (a, b) else none) c
      omega
  exact key c
theorem ok_ssh (T : Txt w K h0 mg) : Met0 P w K mg base 5 "Risen" "shows" (spSsh K) := by
  obtain ⟨fd, F⟩ := T.f_Risen_shows
  have c1 : Cal0 P w K mg base 4 "check_told" (spTold K) := ok_told T
  have cO : Cal0 P w K mg base 2 "is_order" (spOrder K) := ok_order T
  have cN : Cal0 P w K mg base 1 "is_number" spNum := ok_num T
  have cR : Cal0 P w K mg base 2 "rises" (spRises K) := ok_rises T
  have cC : Cal0 P w K mg base 2 "cross" (spCross K) := ok_cross T
  have mT : Met0 P w K mg base 1 "Table" "__len__" (spTlen K) := ok_tlen T
  refine met_of F T.c_Risen T.m_Risen_shows sc_ssh (fun vs H Q E h => ?_) (fun _ _ _ _ _ _ us hl => match us, hl with | [_, _, _], _ => rfl) (fun cdv A outer s H vs Q E hr h => ?_)
  · obtain ⟨a, t, pl, rs, ps, p, c, rfl, _⟩ := h
    rfl
  obtain ⟨a, t, pl, rs, ps, p, c, rfl, ha, Td, hp, hfl, hcl, hnd, q⟩ := h
  refine ⟨_, pss_cons (ps_expr (C8.pe_c c1 hr (by decide) (by rfl) (pa_cons (pv 1) (pa_cons (pv 2) pa_nil))))
    (pss_cons (ps_setLc2 (i := 3) (own := [("piece", 6), ("index", 5)]) (vs1 := [5]) (g := gName 6) (g1 := gName 5) (tt := tYes) (tt1 := tYes) (wi1 := iTup K (tVar 6)) (te := tVar 5) rfl sc_ssh.nd rfl rfl (by rfl) (pi_list (pfd 0)) (blkOk_by (N := nS) (sc := defScope (inC 22 2)) (by decide +kernel)) (by decide)
      (fun _ _ _ _ _ => pg_name (i := 6) sc_ssh.nd rfl (Or.inl rfl)) (fun _ _ _ _ _ => pts_nil) (fun _ _ _ _ _ => pi_tup (pv 6)) (fun _ _ _ _ _ => pg_name (i := 5) sc_ssh.nd rfl (Or.inl rfl)) (fun _ _ _ _ _ => pts_nil) (fun _ _ _ _ _ => pv 5))
    (pss_cons (ps_if (PW.pt (pw_or (pt_not (pt_val (C8.pe_c cO hr (by decide) (by rfl) (pa_cons (pv 3) (pa_cons (pe_callB (len_o mT hr (by decide)) (by rfl) T.z_len (by decide +kernel) (pa_cons (pv 1) pa_nil)) pa_nil)))))
        (pw_or1 (pt_not (pt_val (pe_callB (cr_all rfl) (by rfl) T.z_all (by decide +kernel) (pa_cons (pe_lc (own := [("piece", 6)]) (g := gName 6) (tt := tYes) (te := tCall (spRises K) [] E0 (tCons (tVar 1) (tCons (tVar 6) (tCons (tVar 2) tNil)))) rfl sc_ssh.nd (pi_list (pfd 0)) (blkOk_by (N := nS) (sc := defScope (inC 22 2)) (by decide +kernel))
          (fun _ _ _ _ _ => pg_name (i := 6) sc_ssh.nd rfl (Or.inl rfl)) (fun _ _ _ _ _ => pts_nil) (fun _ _ _ _ _ => C8.pe_c cR hr (by decide) (by rfl) (pa_cons (pv 1) (pa_cons (pv 6) (pa_cons (pv 2) pa_nil))))) pa_nil))))))) (pss_one (ps_ret pe_bl)) pss_nil)
    (pss_cons (ps_if (PW.pt (pw_or (pt_cmpR (op_inD (un65 hr)) (pe_tup pa_nil) (pfd 0) (by with_unfolding_all rfl)) (pw_or1 (pt_cmpR op_ne (pe_callB call_len_seq (by rfl) T.z_len (by decide +kernel) (pa_cons (pfd 0) pa_nil)) (pe_callB call_len_seq (by rfl) T.z_len (by decide +kernel) (pa_cons (pfd 0) pa_nil)) (nomark _))))) (pss_one (ps_ret pe_bl)) pss_nil)
    (pss_cons (ps_if (pt_not (pt_val (pe_callB (cr_all rfl) (by rfl) T.z_all (by decide +kernel) (pa_cons (pe_lc (own := [("index", 5)]) (g := gName 5) (tt := tYes) (te := tCall spNum [] E0 (tCons (tVar 5) (tCons (tC (.int 0)) (tCons (tOp (rI0 fun i j => .int (i - j)) (tCB (rTlen K) (tCons (tVar 1) tNil)) (tC (.int 1))) tNil)))) rfl sc_ssh.nd
          (pi_tup (pfd 0)) (blkOk_by (N := nS) (sc := defScope (inC 22 2)) (by decide +kernel)) (fun _ _ _ _ _ => pg_name (i := 5) sc_ssh.nd rfl (Or.inl rfl)) (fun _ _ _ _ _ => pts_nil)
          (fun _ _ _ _ _ => C8.pe_c cN hr (by decide) (by rfl) (pa_cons (pv 5) (pa_cons pe_int (pa_cons (pe_op op_sub (pe_callB (len_o mT hr (by decide)) (by rfl) T.z_len (by decide +kernel) (pa_cons (pv 1) pa_nil)) pe_int) pa_nil))))) pa_nil)))) (pss_one (ps_ret pe_bl)) pss_nil)
    (pss_cons (ps_if (pt_not (pt_val (pe_callB (cr_all rfl) (by rfl) T.z_all (by decide +kernel) (pa_cons (pe_lc (own := [("one", 7), ("other", 8)]) (g := g2 K 7 8) (tt := tYes) (te := tOp (rI0 fun i j => .bl (decide (i < j))) (tVar 7) (tVar 8)) rfl sc_ssh.nd
          (RZ.pi_zipA (by rfl) T.z_zip (pa_cons (pfd 0) (pa_cons (pe_slice sl_tupA (pfd 0) (po_some pe_int) po_none) pa_nil))) (blkOk_by (N := nS) (sc := defScope (inC 22 2)) (by decide +kernel))
          (fun _ _ _ _ _ => pg_tup rfl (pgs_cons (pg_name (i := 7) sc_ssh.nd rfl (Or.inl rfl)) (pgs_cons (pg_name (i := 8) sc_ssh.nd rfl (Or.inl rfl)) pgs_nil))) (fun _ _ _ _ _ => pts_nil) (fun _ _ _ _ _ => pe_cmpR op_lt (pv 7) (pv 8) (nomark _))) pa_nil)))) (pss_one (ps_ret pe_bl)) pss_nil)
    (pss_cons (ps_setLc2 (i := 4) (own := [("one", 7), ("other", 8)]) (vs1 := [8]) (g := gName 7) (g1 := gName 8) (tt := tYes) (tt1 := tTest (tOp (rI0 fun i j => .bl (decide (i < j))) (tVar 7) (tVar 8))) (wi1 := iTup K (tFld K (tVar 0) "crossing")) (te := tTup (tCons (tVar 7) (tCons (tVar 8) tNil))) rfl sc_ssh.nd rfl rfl (by rfl) (pi_tup (pfd 0)) (blkOk_by (N := nS) (sc := defScope (inC 22 2)) (by decide +kernel)) (by decide)
      (fun _ _ _ _ _ => pg_name (i := 7) sc_ssh.nd rfl (Or.inl rfl)) (fun _ _ _ _ _ => pts_nil) (fun _ _ _ _ _ => pi_tup (pfd 0)) (fun _ _ _ _ _ => pg_name (i := 8) sc_ssh.nd rfl (Or.inl rfl)) (fun _ _ _ _ _ => pts_one (pt_cmpR op_lt (pv 7) (pv 8) (nomark _))) (fun _ _ _ _ _ => pe_tup (pa_cons (pv 7) (pa_cons (pv 8) pa_nil))))
    (pss_one (ps_ret (pe_callB (cr_all rfl) (by rfl) T.z_all (by decide +kernel) (pa_cons (pe_lc (own := [("one", 7), ("other", 8)]) (g := g2 K 7 8) (tt := tYes) (te := tCall (spCross K) [] E0 (tCons (tVar 1) (tCons (tVar 7) (tCons (tVar 8) (tCons (tVar 2) tNil))))) rfl sc_ssh.nd
          (pi_list (pv 4)) (blkOk_by (N := nS) (sc := defScope (inC 22 2)) (by decide +kernel))
          (fun _ _ _ _ _ => pg_tup rfl (pgs_cons (pg_name (i := 7) sc_ssh.nd rfl (Or.inl rfl)) (pgs_cons (pg_name (i := 8) sc_ssh.nd rfl (Or.inl rfl)) pgs_nil))) (fun _ _ _ _ _ => pts_nil) (fun _ _ _ _ _ => C8.pe_c cC hr (by decide) (by rfl) (pa_cons (pv 1) (pa_cons (pv 7) (pa_cons (pv 8) (pa_cons (pv 2) pa_nil)))))) pa_nil)))))))))), ?_⟩
  refine ⟨_, rfl, _, rfl, t, pl, rs, ps, rfl, Td, fun H1 e1 => ?_⟩
  have Td1 := Td.gr (Gr.of e1)
  obtain ⟨dx, pl2, cl, xs, h1, h2, h3, h4⟩ := ha.gr (Gr.of e1)
  have n10 := Td.sh.n10
  have hlx : xs.length = p.length := h3.len
  have hev : ((List.range xs.length).flatMap fun k => ((p.getD k []).map nV).filterMap fun y => some y) = p.flatten.map nV := by
    rw [hlx, ← flat_maps]
    exact flat_range (fun r => (r.map nV).filterMap fun y => some y) [] p
  refine ⟨_, rfl, a, _, dx, _, _, rfl, h1, T.c_Risen, T.n_Risen_pieces, rfl, pl2, rfl, ⟨_, SqL.of h2⟩, fun D nD => lc2_vals walk_list (fun k => (p.getD k []).map nV) (fun _ y => some y) nD (by rw [hev, List.length_map]; exact small _ hfl) (fun H' e => (Gr.of e).sqL (SqL.of h2)) (fun _ => rfl)
    (fun k x H' hx e R hR => ?_) (fun _ _ => rfl) (fun k x y H' _ hy e R hR => iteT (B := R none H') ⟨_, rfl, hR _ (Same.refl _)⟩) fun H2 e2 hD => ?_⟩
  · obtain ⟨b, r, rfl, hr2, hb⟩ := h3.get hx
    have er : p.getD k [] = r := getD_of hr2
    refine ⟨_, rfl, b, rfl, ⟨_, (Gr.of e).sqT hb⟩, hR _ (fun H => SqT K H b ((p.getD k []).map nV)) H' (Same.refl _) walk_tup fun H3 g => ?_⟩
    rw [er]
    exact sqT_but nD hb e g
  rw [hev] at hD
  have E2 := Gr.of e2
  have Td2 := Td1.gr E2
  obtain ⟨dtb, tr, xt, g1, g2, g3⟩ := id Td2.tab
  refine ⟨_, rfl, _, rfl, t, dtb, _, rfl, g1, t, rs, rfl, Td2.tab, _, rfl, by omega, by omega, D, p.flatten, rs.length, rfl, .inl (SqL.of hD), hfl, hnd, fun H3 e3 => ⟨_, rfl, ?_⟩⟩
  have E3 := E2.trans (Gr.of e3)
  have q3 := fun H' (e : Same H3 H') => q H' (e1.trans (e2.trans (e3.trans e)))
  unfold senOk at q3
  refine rdb (fun z => iteT ?_) (fun z => ?_)
  · rw [Bool.not_eq_true'] at z
    have := q3 H3 (Same.refl _)
    rw [z, Bool.false_and] at this
    exact this
  rw [Bool.not_eq_false'] at z
  have hin := isOrd_lt z
  rw [z, Bool.true_and] at q3
  -- the pieces rise
  refine ⟨_, rfl, a, _, dx, _, _, rfl, E3.ins h1, T.c_Risen, T.n_Risen_pieces, rfl, pl2, rfl, ⟨_, SqL.of (E3.lst h2)⟩, fun D4 nD4 => lc_mapg walk_list (fun k => .bl (rises (below rs ps) (p.getD k []))) nD4 (small _ (by omega)) (fun H' e => (Gr.of e).sqL (SqL.of (E3.lst h2)))
    (fun k x H' hx e R hR => ⟨rfl, ?_⟩) (fun H4 e4 hD4 => ?_) (fun x H' A B h q => h _ _ q)⟩
  · obtain ⟨b, r, rfl, hr2, hb⟩ := h3.get hx
    have er : p.getD k [] = r := getD_of hr2
    have hm : r ∈ p := List.mem_of_getElem? hr2
    have g := E3.trans (Gr.of e)
    rw [er] at hR
    have hrl : r.length ≤ p.flatten.length := by
      obtain ⟨l1, l2, ee⟩ := List.append_of_mem hm
      rw [ee, List.flatten_append, List.flatten_cons, List.length_append, List.length_append]
      omega
    exact ⟨_, rfl, _, rfl, _, rfl, t, b, pl, rs, ps, r, rfl, Td1.gr g, g.sqT hb, fun i hi => hin i (List.mem_flatten.mpr ⟨r, hm, hi⟩), by omega, fun H'' e'' => hR H'' e''⟩
  have hD4' : H4 D4 = some (.lst ((p.map (rises (below rs ps))).map V.bl)) := by
    rw [hD4, hlx]
    rw [show (List.range p.length).map (fun k => V.bl (rises (below rs ps) (p.getD k []))) = p.map (fun r => V.bl (rises (below rs ps) r)) from map_range (fun r => V.bl (rises (below rs ps) r)) [] p, List.map_map]
    rfl
  refine ⟨D4, _, rfl, SqL.of hD4', _, rfl, ?_⟩
  have ea : (p.map (rises (below rs ps))).all id = p.all (rises (below rs ps)) := by rw [List.all_map]; rfl
  rw [ea]
  have E4 := E3.trans (Gr.of e4)
  have q4 := fun H' (e : Same H4 H') => q3 H' (e4.trans e)
  refine rdb (fun z => ?_) (fun z => ?_)
  · rw [Bool.not_eq_true'] at z
    have := q4 H4 (Same.refl _)
    rw [z, Bool.false_and] at this
    exact this
  rw [Bool.not_eq_false'] at z
  rw [z, Bool.true_and] at q4
  -- no empty piece, as many crossing rows
  refine ⟨show (0 : Nat) ≤ sizeLine by decide, fun p0 hp0 => ?_⟩
  have e5 : Same H4 (upd H4 p0 (.tup [])) := same_new hp0 _
  have E5 := E4.trans (Gr.of e5)
  have q5 := fun H' (e : Same (upd H4 p0 (.tup [])) H') => q4 H' (e5.trans e)
  refine ⟨_, rfl, a, _, dx, _, _, rfl, E5.ins h1, T.c_Risen, T.n_Risen_pieces, rfl, .tuple [], dt p, .tup (SqT.of upd_same) .nil, .lst (SqL.of (E5.lst h2)) (h3.gr E5).dp, rfl, ?_, _, rfl, ?_⟩
  · obtain ⟨l1, l2⟩ := lay_tups p
    show (PyData.canLayAll0 (dt p) && decide (PyData.depthAll (dt p) + 1 ≤ 64)) = true
    rw [l1, decide_eq_true (by omega)]
    rfl
  rw [contains_nil]
  refine rdb (fun z => iteT ?_) (fun z => ?_)
  · have := q5 _ (Same.refl _)
    rw [z] at this
    exact this
  rw [z, Bool.not_false, Bool.true_and] at q5
  refine ⟨_, rfl, a, _, dx, _, _, rfl, E5.ins h1, T.c_Risen, T.n_Risen_pieces, rfl, pl2, _, rfl, .inl (SqL.of (E5.lst h2)), _, rfl, a, _, dx, _, _, rfl, E5.ins h1, T.c_Risen, T.n_Risen_crossing, rfl, cl, _, rfl, .inr (E5.sqT h4), rfl, _, rfl, ?_⟩
  have el : (!decide (V.int (xs.length : Int) = V.int ((c.map nV).length : Int))) = !decide (p.length = c.length) := by
    rw [hlx, List.length_map, dec_len]
  rw [el]
  refine rdb (fun z => ?_) (fun z => ?_)
  · rw [Bool.not_eq_true'] at z
    have := q5 _ (Same.refl _)
    rw [z, Bool.false_and] at this
    exact this
  rw [Bool.not_eq_false'] at z
  rw [z, Bool.true_and] at q5
  -- the crossing rows are indices
  have hc5 := E5.sqT h4
  refine ⟨_, rfl, a, _, dx, _, _, rfl, E5.ins h1, T.c_Risen, T.n_Risen_crossing, rfl, cl, rfl, ⟨_, hc5⟩, fun D6 nD6 => lc_map walk_tup (fun x => match x with | .int i => .bl (decide (i.toNat < rs.length)) | _ => .non) nD6 (small _ (by rw [List.length_map]; omega)) (fun H' e => (Gr.of e).sqT hc5) (fun _ => rfl) (fun k x H' hx e R hR => ?_) fun H6 e6 hD6 => ?_⟩
  · rw [List.getElem?_map] at hx
    obtain ⟨i, hi, rfl⟩ := Option.map_eq_some_iff.mp hx
    have Tx := Td1.gr (E5.trans (Gr.of e))
    obtain ⟨dtb, tr, xt, g1, g2, g3⟩ := id Tx.tab
    refine ⟨_, rfl, _, rfl, t, dtb, _, rfl, g1, t, rs, rfl, Tx.tab, _, rfl, by omega, by omega, _, _, rfl, rfl, i, 0, _, rfl, ?_⟩
    rw [num_lt]
    exact hR _ (Same.refl _)
  refine ⟨D6, c.map fun i => decide (i < rs.length), rfl, SqL.of (by rw [hD6, List.map_map, List.map_map]; rfl), _, rfl, ?_⟩
  have ea : (c.map fun i => decide (i < rs.length)).all id = c.all fun i => decide (i < rs.length) := by rw [List.all_map]; rfl
  rw [ea]
  have E6 := E5.trans (Gr.of e6)
  have q6 := fun H' (e : Same H6 H') => q5 H' (e6.trans e)
  refine rdb (fun z => ?_) (fun z => ?_)
  · rw [Bool.not_eq_true'] at z
    have := q6 _ (Same.refl _)
    rw [z, Bool.false_and] at this
    exact this
  rw [Bool.not_eq_false'] at z
  rw [z, Bool.true_and] at q6
  have hlt : ∀ i ∈ c, i < rs.length := fun i hi => of_decide_eq_true (List.all_eq_true.mp z i hi)
  -- they ascend
  have hc6 := E6.sqT h4
  refine ⟨_, rfl, a, _, dx, _, _, rfl, E6.ins h1, T.c_Risen, T.n_Risen_crossing, rfl, _, rfl, a, _, dx, _, _, rfl, E6.ins h1, T.c_Risen, T.n_Risen_crossing, rfl, 1, rfl, ?_⟩
  unfold tNoPart
  refine rd_slT hc6 (cut_from _ 1) fun b7 H7 e7 hb7 => ⟨cl, b7, _, _, rfl, .inr ⟨(Gr.of e7).sqT hc6, hb7, fun D8 nD8 => ?_⟩⟩
  have hc7 := (Gr.of e7).sqT hc6
  refine lc_pairs (walk_adj c) (fun p => match p with | (.int i, .int j) => .bl (decide (i.toNat < j.toNat)) | _ => .non) nD8 (adj_few (by omega)) (fun H' e => ⟨(Gr.of e).sqT hc7, (Gr.of e).sqT hb7⟩) (fun k x y h1 h2 => adj_at h1 h2) (fun _ _ => rfl) (fun k x y H' hx e R hR => ?_) fun H8 e8 hD8 => ?_
  · obtain ⟨i, j, rfl, rfl, h1, h2, hz⟩ := adj_get hx
    refine ⟨_, rfl, _, rfl, _, _, rfl, rfl, ?_⟩
    have ed : decide ((i : Int) < (j : Int)) = decide (i < j) := by rw [Bool.eq_iff_iff]; simp
    show R (.bl (decide ((i : Int) < (j : Int)))) H'
    rw [ed]
    exact hR _ (Same.refl _)
  refine ⟨D8, (c.zip (c.drop 1)).map fun p => decide (p.1 < p.2), rfl, SqL.of (by rw [hD8]; unfold adj; rw [List.map_map, List.map_map]; rfl), _, rfl, ?_⟩
  have ea : ((c.zip (c.drop 1)).map fun p => decide (p.1 < p.2)).all id = rises (fun a b => decide (a < b)) c := by rw [List.all_map]; rfl
  rw [ea]
  have E8 := (E6.trans (Gr.of e7)).trans (Gr.of e8)
  have q8 := fun H' (e : Same H8 H') => q6 H' (e7.trans (e8.trans e))
  refine rdb (fun z => ?_) (fun z => ?_)
  · rw [Bool.not_eq_true'] at z
    have := q8 _ (Same.refl _)
    rw [z, Bool.false_and] at this
    exact this
  rw [Bool.not_eq_false'] at z
  rw [z, Bool.true_and] at q8
  -- the pairs
  have hc8 := E8.sqT h4
  refine ⟨_, rfl, a, _, dx, _, _, rfl, E8.ins h1, T.c_Risen, T.n_Risen_crossing, rfl, cl, rfl, ⟨_, hc8⟩, fun D9 nD9 => lc2_rel walk_tup (fun _ => c.map nV) (fun k y => match y with | .int b => if c.getD k 0 < b.toNat then some (c.getD k 0, b.toNat) else none | _ => none) (PrAt K)
    (fun H H' y b e h => by obtain ⟨T, e1, e2⟩ := h; exact ⟨T, e1, (Gr.of e).sqT e2⟩) (fun H y b zs acc hD h => by obtain ⟨T, e1, e2⟩ := h; exact ⟨T, e1, SqT.updL hD e2⟩) nD9 (by
      rw [prs_eq]
      refine small _ (Nat.le_trans (prs_len c) ?_)
      have := Nat.mul_le_mul hcl hcl
      omega) (fun H' e => (Gr.of e).sqT hc8) (fun _ => rfl)
    (fun k x H' hx e R hR => ⟨_, rfl, a, _, dx, _, _, rfl, (Gr.of e).ins (E8.ins h1), T.c_Risen, T.n_Risen_crossing, rfl, cl, rfl, ⟨_, (Gr.of e).sqT hc8⟩, hR _ (fun H => SqT K H cl (c.map nV)) H' (Same.refl _) walk_tup fun H3 g => sqT_but nD9 hc8 e g⟩) (fun _ _ => rfl) (fun k x y H' hx hy e R hR => ?_) fun H9 ys e9 hD9 hy9 => ?_⟩
  · rw [List.getElem?_map] at hx
    obtain ⟨i, hi, rfl⟩ := Option.map_eq_some_iff.mp hx
    obtain ⟨j, hj, rfl⟩ := List.mem_map.mp hy
    have ei : c.getD k 0 = i := getD_of hi
    rw [ei] at hR
    refine ⟨_, rfl, _, rfl, _, _, rfl, rfl, _, rfl, rdb (fun z => ?_) (fun z => ?_)⟩
    · have hij : i < j := Int.ofNat_lt.mp (of_decide_eq_true z)
      refine ⟨_, rfl, _, rfl, show (2 : Nat) ≤ sizeLine by decide, fun p hp => hR (some (.ref p)) _ (same_new hp _) ?_⟩
      show OptR _ _ (if i < j then some (i, j) else none)
      rw [if_pos hij]
      exact ⟨p, rfl, SqT.of upd_same⟩
    · have hij : ¬ i < j := fun q => by
        rw [decide_eq_true (Int.ofNat_lt.mpr q)] at z
        cases z
      refine hR none _ (Same.refl _) ?_
      show OptR _ _ (if i < j then some (i, j) else none)
      rw [if_neg hij]
      trivial
  rw [prs_eq] at hy9
  have E9 := E8.trans (Gr.of e9)
  have Td9 := Td1.gr E9
  have hlen : ys.length = (prs c).length := hy9.length
  refine ⟨_, rfl, D9, rfl, ⟨_, SqL.of hD9⟩, fun D10 nD10 => lc_mapg walk_list (fun k => .bl (crs (below rs ps) ((prs c).getD k (0, 0)).1 ((prs c).getD k (0, 0)).2)) nD10 (by
      rw [hlen]
      refine small _ (Nat.le_trans (prs_len c) ?_)
      have := Nat.mul_le_mul hcl hcl
      omega) (fun H' e => (Gr.of e).sqL (SqL.of hD9)) (fun k x H' hx e R hR => ?_) (fun H10 e10 hD10 => ?_) (fun x H' A B h q => g2_mono h q)⟩
  · obtain ⟨b, hb, Tt, rfl, hT⟩ := each_get hy9 hx
    have eb : (prs c).getD k (0, 0) = b := getD_of hb
    obtain ⟨m1, m2⟩ := prs_mem (List.mem_of_getElem? hb)
    rw [eb] at hR
    exact rd_g2 ((Gr.of e).sqT hT) ⟨rfl, _, rfl, _, rfl, _, rfl, _, rfl, t, pl, rs, ps, b.1, b.2, rfl, Td9.gr (Gr.of e), hlt _ m1, hlt _ m2, fun H'' e'' => hR H'' e''⟩
  · have hD' : H10 D10 = some (.lst (((prs c).map fun x => crs (below rs ps) x.1 x.2).map V.bl)) := by
      rw [hD10, hlen]
      rw [show (List.range (prs c).length).map (fun k => V.bl (crs (below rs ps) ((prs c).getD k (0, 0)).1 ((prs c).getD k (0, 0)).2)) = (prs c).map (fun x => V.bl (crs (below rs ps) x.1 x.2)) from map_range (fun x : Nat × Nat => V.bl (crs (below rs ps) x.1 x.2)) (0, 0) (prs c), List.map_map]
      rfl
    refine ⟨D10, _, rfl, SqL.of hD', ?_⟩
    have ea : ((prs c).map fun x => crs (below rs ps) x.1 x.2).all id = (prs c).all fun x => crs (below rs ps) x.1 x.2 := by rw [List.all_map]; rfl
    rw [ea]
    exact q8 _ (e9.trans e10)
end
end Rs

set_option Elab.async false
set_option linter.all false
/-! Plain facts of the order by sums. -/
namespace Rs
theorem below_trans {rs : List (List Int)} {ps : List Nat} (i j k : Nat) (h1 : below rs ps i j = true) (h2 : below rs ps j k = true) : below rs ps i k = true := by
  unfold below at h1 h2 ⊢
  rw [List.all_eq_true] at h1 h2 ⊢
  intro p hp
  have a := of_decide_eq_true (h1 p hp)
  have b := of_decide_eq_true (h2 p hp)
  exact decide_eq_true (by omega)
theorem sum_tight (f g : Nat → Int) : ∀ l : List Nat, (∀ p ∈ l, f p ≤ g p) → (l.map f).sum ≤ (l.map g).sum ∧ ((l.map g).sum ≤ (l.map f).sum → ∀ p ∈ l, g p ≤ f p)
  | [], _ => ⟨Int.le_refl _, fun _ p h => by cases h⟩
  | x :: l, h => by
    obtain ⟨h1, h2⟩ := sum_tight f g l fun p hp => h p (List.mem_cons_of_mem _ hp)
    have hx := h x List.mem_cons_self
    rw [List.map_cons, List.map_cons, List.sum_cons, List.sum_cons]
    refine ⟨by omega, fun hs p hp => ?_⟩
    rcases List.mem_cons.mp hp with rfl | hp
    · omega
    · exact h2 (by omega) p hp
theorem topo_of {rs : List (List Int)} {ps : List Nat} {i j : Nat} (hs : sumOf rs ps i ≤ sumOf rs ps j) (h : below rs ps j i = true) : below rs ps i j = true := by
  unfold below at h ⊢
  rw [List.all_eq_true] at h ⊢
  intro p hp
  exact decide_eq_true ((sum_tight (fun p => val rs j p) (fun p => val rs i p) ps fun p hp => of_decide_eq_true (h p hp)).2 hs p hp)
theorem ord_of {rs : List (List Int)} {ps : List Nat} {o : List Nat} {n : Nat} (h1 : o.Perm (List.range n)) (h2 : o.Pairwise fun i j => sumOf rs ps i < sumOf rs ps j ∨ (sumOf rs ps i = sumOf rs ps j ∧ i ≤ j)) : Ord (below rs ps) n o :=
  ⟨h1, h2.imp fun z => topo_of (by omega)⟩
end Rs

set_option Elab.async false
set_option linter.all false
set_option maxRecDepth 100000
set_option maxHeartbeats 4000000
namespace Rs
open PySem PySem.Spec PyProof.Rows L2 He RsH LamX
section
variable {P : Program} {w : World} {K : PySem.W.Frag} {mg : Str → Option Value} {base : Heap} {h0 : Heap}
/-! ### rise_together -/
def spTog (K : PySem.W.Frag) : Sp := fun vs H Q _ => ∃ (t pl : Addr) (rs : List (List Int)) (ps : List Nat), vs = [.ref t, .ref pl] ∧ Told2 K H t pl rs ps ∧ Tabs (Tl K) H ∧
  ∀ (a : Addr) (H' : Hp), Gr H H' → Tabs (Tl K) H' → ((∃ o, Ord (below rs ps) rs.length o ∧ RisAt K H' a o ∧ rises (below rs ps) o = true) ∨ (∃ i j, i < rs.length ∧ j < rs.length ∧ CroAt K H' a i j ∧ crs (below rs ps) i j = true)) → Q (.ref a) H'
theorem sc_tog : FnScope ["table", "places", "order", "one", "other"] ["table", "places"] (defScope (topS 28)) := ⟨rfl, rfl, rfl, by decide +kernel, rfl, by decide +kernel, by decide +kernel⟩
theorem tabs_new {T : List (Addr × Str)} {H H' : Hp} (e : Same H H') (t : Tabs T H) : Tabs T H' := t.ext e
theorem ok_tog (B : TxtB w K h0 mg base) : Cal0 P w K mg base 5 "rise_together" (spTog K) := by
  have T := B.t
  obtain ⟨fd, F⟩ := T.f_rise_together
  have c1 : Cal0 P w K mg base 4 "check_told" (spTold K) := ok_told T
  have cS : Cal0 P w K mg base 4 "by_sums" (spSums K) := ok_sums B
  have cB : Cal0 P w K mg base 1 "is_below" (spBelow K) := ok_below T
  have mC : Mak0 P w K mg base 1 "Crossing" (spCin K) := ok_cin T
  have mR : Mak0 P w K mg base 1 "Rising" (spRin K) := ok_rin T
  refine cal_of F T.g_rise_together sc_tog (fun vs H Q E h => ?_) (fun _ _ _ _ _ _ us hl => match us, hl with | [_, _], _ => rfl) (fun cdv A outer s H vs Q E hr h => ?_)
  · obtain ⟨t, pl, rs, ps, rfl, _⟩ := h
    rfl
  obtain ⟨t, pl, rs, ps, rfl, Td, hT, q⟩ := h
  refine ⟨_, pss_cons (ps_expr (C8.pe_c c1 hr (by decide) (by rfl) (pa_cons (pv 0) (pa_cons (pv 1) pa_nil))))
    (pss_cons (ps_set (i := 2) sc_tog.nd rfl (Or.inl rfl) (C8.pe_c cS hr (by decide) (by rfl) (pa_cons (pv 0) (pa_cons (pv 1) pa_nil))))
    (pss_cons (ps_for PassesOwn.never rfl (RZ.pi_zipA (by rfl) T.z_zip (pa_cons (pv 2) (pa_cons (pe_slice sl_list (pv 2) (po_some pe_int) po_none) pa_nil))) (pg_tup rfl (pgs_cons (pg_name (i := 3) sc_tog.nd rfl (Or.inl rfl)) (pgs_cons (pg_name (i := 4) sc_tog.nd rfl (Or.inl rfl)) pgs_nil)))
      (pss_one (ps_if (pt_not (pt_val (C8.pe_c cB hr (by decide) (by rfl) (pa_cons (pv 0) (pa_cons (pv 3) (pa_cons (pv 4) (pa_cons (pv 1) pa_nil))))))) (pss_one (ps_ret (C8.pe_mk mC hr (by decide) (by rfl) (pa_cons (pe_callB (call_min2 rfl) (by rfl) T.z_min (by decide +kernel) (pa_cons (pv 3) (pa_cons (pv 4) pa_nil))) (pa_cons (pe_callB (call_max2 rfl) (by rfl) T.z_max (by decide +kernel) (pa_cons (pv 3) (pa_cons (pv 4) pa_nil))) pa_nil))))) pss_nil)))
    (pss_one (ps_ret (C8.pe_mk mR hr (by decide) (by rfl) (pa_cons (pv 2) pa_nil)))))), ?_⟩
  refine ⟨_, rfl, _, rfl, t, pl, rs, ps, rfl, Td, fun H1 e1 => ?_⟩
  have Td1 := Td.gr (Gr.of e1)
  refine ⟨_, rfl, _, rfl, t, pl, rs, ps, rfl, Td1, hT.ext e1, fun o b H2 o1 o2 g2 T2 hb => ?_⟩
  have O := ord_of o1 o2
  have Td2 := Td1.gr g2
  have hol : o.length ≤ 4000 := by have := O.len; have := Td.sh.n10; omega
  refine ⟨_, rfl, _, rfl, 1, rfl, ?_⟩
  unfold tNoPart
  refine rd_slL (SqL.of hb) (cut_from _ 1) fun c H3 nc e3 hc => ⟨b, c, _, _, rfl, .inl ⟨SqL.of (e3 _ _ hb), SqL.of hc, ?_⟩⟩
  have hb3 := e3 _ _ hb
  refine for_it (walk_adjL o) (fun i σ' H' => ∃ u v, σ' = [some (.ref t), some (.ref pl), some (.ref b), u, v] ∧ Same H3 H' ∧ ∀ k, k < i → ∀ p, (o.zip (o.drop 1))[k]? = some p → below rs ps p.1 p.2 = true) ⟨none, none, rfl, Same.refl _, fun k hk => absurd hk (Nat.not_lt_zero _)⟩ (fun i σ' H' _ h => ?_) (fun i y σ' H4 H5 hi h hy => ?_) (fun σ' H' h => ?_)
  · obtain ⟨u, v, rfl, e, _⟩ := h
    exact ⟨(Gr.of e).sqL (SqL.of hb3), (Gr.of e).sqL (SqL.of hc)⟩
  · obtain ⟨u, v, rfl, e, hall⟩ := h
    obtain ⟨Tp, x, z, rfl, nT, rfl, h1, h2⟩ := hy
    obtain ⟨i', j', rfl, rfl, m1, m2, hz⟩ := adj_get (adj_at h1 h2)
    have e5 : Same H4 (upd H4 Tp (.tup [nV i', nV j'])) := same_new nT _
    have E5 := e.trans e5
    have G5 := (Gr.of e3).trans (Gr.of E5)
    have li : i' < rs.length := List.mem_range.mp (O.perm.mem_iff.mp m1)
    have lj : j' < rs.length := List.mem_range.mp (O.perm.mem_iff.mp m2)
    refine rd_g2 (SqT.of upd_same) ?_
    refine ⟨_, rfl, _, rfl, _, rfl, _, rfl, t, pl, rs, ps, i', j', rfl, Td2.gr G5, li, lj, fun H6 e6 => ⟨_, rfl, rdb (fun z => ?_) (fun z => ?_)⟩⟩
    · rw [Bool.not_eq_true'] at z
      have hlt : ∀ p ∈ o.zip (o.drop 1), p.1 ≠ p.2 ∧ (below rs ps p.2 p.1 = true → below rs ps p.1 p.2 = true) := by
        intro p hp
        obtain ⟨k, hk⟩ := List.mem_iff_getElem?.mp hp
        obtain ⟨k1, k2⟩ := List.getElem?_zip_eq_some.mp hk
        rw [List.getElem?_drop] at k2
        obtain ⟨a1, a2⟩ := List.getElem?_eq_some_iff.mp k1
        obtain ⟨b1, b2⟩ := List.getElem?_eq_some_iff.mp k2
        have n1 := List.pairwise_iff_getElem.mp O.nd k (1 + k) a1 b1 (by omega)
        have n2 := List.pairwise_iff_getElem.mp O.topo k (1 + k) a1 b1 (by omega)
        rw [a2, b2] at n1 n2
        exact ⟨n1, n2⟩
      obtain ⟨ne, tp⟩ := hlt _ (List.mem_of_getElem? hz)
      have hcr : crs (below rs ps) i' j' = true := by
        unfold crs
        rw [z, Bool.not_false, Bool.true_and, Bool.not_eq_true']
        cases q2 : below rs ps j' i' with
        | false => rfl
        | true => rw [tp q2] at z; cases z
      refine ⟨_, rfl, _, rfl, _, _, rfl, _, rfl, _, rfl, _, _, rfl, fun x dx nx nd ne2 => ?_⟩
      have G6 := (G5.trans (Gr.of e6))
      have n2 : Same H6 (upd (upd H6 dx (.own x)) x (.ins (ga K "Crossing") dx [])) := new2 nx nd
      by_cases hij : i' < j'
      · have p1 : ¬ ((j' : Int) < (i' : Int)) := by omega
        have p2 : (j' : Int) > (i' : Int) := by omega
        refine ⟨x, dx, i', j', ?_, upd_same, fun H7 k7 h7 => ⟨rfl, ?_⟩⟩
        · show [V.ref x, .int (if (j' : Int) < (i' : Int) then (j' : Int) else (i' : Int)), .int (if (j' : Int) > (i' : Int) then (j' : Int) else (i' : Int))] = _
          rw [if_neg p1, if_pos p2]
          rfl
        · have e7 := kp_same nx n2 k7
          exact q x H7 ((Gr.of e1).trans (g2.trans (G6.trans (Gr.of e7)))) (T2.ext (e3.trans (E5.trans (e6.trans e7)))) (.inr ⟨i', j', li, lj, h7, hcr⟩)
      · have p1 : ((j' : Int) < (i' : Int)) := by
          have : i' ≠ j' := ne
          omega
        have p2 : ¬ ((j' : Int) > (i' : Int)) := by omega
        refine ⟨x, dx, j', i', ?_, upd_same, fun H7 k7 h7 => ⟨rfl, ?_⟩⟩
        · show [V.ref x, .int (if (j' : Int) < (i' : Int) then (j' : Int) else (i' : Int)), .int (if (j' : Int) > (i' : Int) then (j' : Int) else (i' : Int))] = _
          rw [if_pos p1, if_neg p2]
          rfl
        · have e7 := kp_same nx n2 k7
          exact q x H7 ((Gr.of e1).trans (g2.trans (G6.trans (Gr.of e7)))) (T2.ext (e3.trans (E5.trans (e6.trans e7)))) (.inr ⟨j', i', lj, li, h7, by rw [crs_comm]; exact hcr⟩)
    · rw [Bool.not_eq_false'] at z
      refine ⟨_, _, rfl, E5.trans e6, fun k hk p hp => ?_⟩
      rcases Nat.lt_succ_iff_lt_or_eq.mp hk with hk | rfl
      · exact hall k hk p hp
      · rw [hz] at hp
        cases hp
        exact z
  · obtain ⟨u, v, rfl, e, hall⟩ := h
    have hris : rises (below rs ps) o = true := by
      unfold rises
      rw [List.all_eq_true]
      intro p hp
      obtain ⟨k, hk⟩ := List.mem_iff_getElem?.mp hp
      have hl := (List.getElem?_eq_some_iff.mp hk).1
      refine hall k ?_ p hk
      unfold adj
      rw [List.length_map]
      exact hl
    refine ⟨_, rfl, fun x dx nx nd ne2 => ?_⟩
    have n2 : Same H' (upd (upd H' dx (.own x)) x (.ins (ga K "Rising") dx [])) := new2 nx nd
    refine ⟨x, b, dx, o, rfl, upd_same, .inl (SqL.of (n2 _ _ (e _ _ hb3))), fun H7 k7 h7 => ⟨rfl, ?_⟩⟩
    have e7 := kp_same nx n2 k7
    exact q x H7 ((Gr.of e1).trans (g2.trans ((Gr.of e3).trans ((Gr.of e).trans (Gr.of e7))))) (T2.ext (e3.trans (e.trans e7))) (.inl ⟨o, O, h7, hris⟩)
end
end Rs

set_option Elab.async false
set_option linter.all false
set_option maxRecDepth 100000
set_option maxHeartbeats 4000000
namespace Rs
open PySem PySem.Spec PyProof.Rows L2 He RsH LamX
section
variable {P : Program} {w : World} {K : PySem.W.Frag} {mg : Str → Option Value} {base : Heap} {h0 : Heap}
/-! ### count_crossing -/
def spCnt (K : PySem.W.Frag) : Sp := fun vs H Q _ => ∃ (t pl : Addr) (rs : List (List Int)) (ps : List Nat), vs = [.ref t, .ref pl] ∧ Told2 K H t pl rs ps ∧ ∀ H', Same H H' → Q (nV (countOf (crs (below rs ps)) rs.length)) H'
theorem sc_cnt : FnScope ["table", "places", "many", "one", "other"] ["table", "places"] (defScope (topS 29)) := ⟨rfl, rfl, rfl, by decide +kernel, rfl, by decide +kernel, by decide +kernel⟩
theorem fm_len {α β : Type} (g : α → Option β) (c : α → Bool) (h : ∀ j, (g j).isSome = c j) : ∀ l : List α, (l.filterMap g).length = (l.filter c).length
  | [] => rfl
  | j :: l => by
    have hj := h j
    rw [List.filterMap_cons, List.filter_cons]
    cases e : g j with
    | none =>
      rw [e] at hj
      rw [show c j = false from hj.symm]
      exact fm_len g c h l
    | some b =>
      rw [e] at hj
      rw [show c j = true from hj.symm, if_pos rfl]
      show (b :: _).length = (j :: _).length
      rw [List.length_cons, List.length_cons, fm_len g c h l]
theorem count_len (C : Nat → Nat → Bool) : ∀ n : Nat, ((List.range n).flatMap fun k => ((List.range k).map nV).filterMap fun y => match y with | .int j => if C k j.toNat = true then some (nV k) else none | _ => none).length = countOf C n
  | 0 => rfl
  | n + 1 => by
    rw [List.range_succ, List.flatMap_append, List.length_append, count_len C n]
    rw [show countOf C (n + 1) = countOf C n + ((List.range n).filter fun j => C n j).length from rfl]
    congr 1
    rw [List.flatMap_singleton, List.filterMap_map]
    refine fm_len _ _ (fun j => ?_) _
    show (if C n j = true then some (nV n) else none).isSome = C n j
    by_cases h : C n j = true
    · rw [if_pos h, h]; rfl
    · rw [if_neg h, Bool.eq_false_iff.mpr h]; rfl
theorem countOf_le (C : Nat → Nat → Bool) : ∀ n : Nat, countOf C n ≤ n * n
  | 0 => Nat.le_refl _
  | n + 1 => by
    have h1 := countOf_le C n
    have h2 : ((List.range n).filter fun j => C n j).length ≤ n := by
      have := List.length_filter_le (fun j => C n j) (List.range n)
      rw [List.length_range] at this
      exact this
    unfold countOf
    rw [Nat.succ_mul, Nat.mul_succ]
    omega
theorem ok_cnt (T : Txt w K h0 mg) : Cal0 P w K mg base 5 "count_crossing" (spCnt K) := by
  obtain ⟨fd, F⟩ := T.f_count_crossing
  have c1 : Cal0 P w K mg base 4 "check_told" (spTold K) := ok_told T
  have cC : Cal0 P w K mg base 2 "cross" (spCross K) := ok_cross T
  have mT : Met0 P w K mg base 1 "Table" "__len__" (spTlen K) := ok_tlen T
  refine cal_of F T.g_count_crossing sc_cnt (fun vs H Q E h => ?_) (fun _ _ _ _ _ _ us hl => match us, hl with | [_, _], _ => rfl) (fun cdv A outer s H vs Q E hr h => ?_)
  · obtain ⟨t, pl, rs, ps, rfl, _⟩ := h
    rfl
  obtain ⟨t, pl, rs, ps, rfl, Td, q⟩ := h
  refine ⟨_, pss_cons (ps_expr (C8.pe_c c1 hr (by decide) (by rfl) (pa_cons (pv 0) (pa_cons (pv 1) pa_nil))))
    (pss_cons (ps_set (i := 2) sc_cnt.nd rfl (Or.inl rfl) (pe_callB (len_o mT hr (by decide)) (by rfl) T.z_len (by decide +kernel) (pa_cons (pv 0) pa_nil)))
    (pss_one (ps_ret (pe_callB call_len_seq (by rfl) T.z_len (by decide +kernel) (pa_cons (pe_lc2 (own := [("one", 3), ("other", 4)]) (vs1 := [4]) (g := gName 3) (g1 := gName 4) (tt := tYes) (tt1 := tB (tCall (spCross K) [] E0 (tCons (tVar 0) (tCons (tVar 3) (tCons (tVar 4) (tCons (tVar 1) tNil)))))) (wi1 := iRng1 (tCons (tVar 3) tNil)) (te := tVar 3) rfl sc_cnt.nd
      (pi_range1 (by rfl) T.z_range (pa_cons (pv 2) pa_nil)) (blkOk_by (N := ["table", "places", "many", "one", "other"]) (sc := defScope (topS 29)) (by decide +kernel)) (by decide)
      (fun _ _ _ _ _ => pg_name (i := 3) sc_cnt.nd rfl (Or.inl rfl)) (fun _ _ _ _ _ => pts_nil) (fun _ _ _ _ _ => pi_range1 (by rfl) T.z_range (pa_cons (pv 3) pa_nil)) (fun _ _ _ _ _ => pg_name (i := 4) sc_cnt.nd rfl (Or.inl rfl)) (fun _ _ _ _ _ => pts_one (pt_val (C8.pe_c cC hr (by decide) (by rfl) (pa_cons (pv 0) (pa_cons (pv 3) (pa_cons (pv 4) (pa_cons (pv 1) pa_nil))))))) (fun _ _ _ _ _ => pv 3)) pa_nil))))), ?_⟩
  refine ⟨_, rfl, _, rfl, t, pl, rs, ps, rfl, Td, fun H1 e1 => ?_⟩
  have Td1 := Td.gr (Gr.of e1)
  have n10 := Td.sh.n10
  obtain ⟨dtb, tr, xt, g1, g2, g3⟩ := id Td1.tab
  refine ⟨_, rfl, t, dtb, _, rfl, g1, t, rs, rfl, Td1.tab, _, rfl, by omega, by omega, ?_⟩
  have ez : (List.range ((List.range rs.length).map nV).length) = List.range rs.length := by rw [List.length_map, List.length_range]
  have ec := count_len (crs (below rs ps)) rs.length
  have sq : rs.length * rs.length ≤ 10 * 10 := Nat.mul_le_mul n10 n10
  refine ⟨_, rfl, _, rfl, by omega, by omega, fun D nD => lc2_vals (xs := (List.range rs.length).map nV) (walk_rangeA rfl) (fun k => (List.range k).map nV) (fun k y => match y with | .int j => if crs (below rs ps) k j.toNat = true then some (nV k) else none | _ => none) nD (by
      rw [ez, ec]
      exact small _ (by have := countOf_le (crs (below rs ps)) rs.length; omega)) (fun _ _ => trivial) (fun _ => rfl) (fun k x H' hx e R hR => ?_) (fun _ _ => rfl) (fun k x y H' hx hy e R hR => ?_) fun H2 e2 hD => ?_⟩
  · rw [List.getElem?_map] at hx
    obtain ⟨i, hi, rfl⟩ := Option.map_eq_some_iff.mp hx
    obtain ⟨h1, h2⟩ := List.getElem?_eq_some_iff.mp hi
    rw [List.length_range] at h1
    rw [List.getElem_range] at h2
    subst h2
    exact ⟨_, rfl, _, rfl, by omega, by omega, hR _ (fun _ => True) H' (Same.refl _) (walk_rangeA rfl) fun _ _ => trivial⟩
  · rw [List.getElem?_map] at hx
    obtain ⟨i, hi, rfl⟩ := Option.map_eq_some_iff.mp hx
    obtain ⟨h1, h2⟩ := List.getElem?_eq_some_iff.mp hi
    rw [List.length_range] at h1
    rw [List.getElem_range] at h2
    subst h2
    obtain ⟨j, hj, rfl⟩ := List.mem_map.mp hy
    have hj := List.mem_range.mp hj
    refine ⟨_, rfl, _, rfl, _, rfl, _, rfl, t, pl, rs, ps, k, j, rfl, Td1.gr (Gr.of e), h1, by omega, fun H'' e'' => ⟨_, rfl, ?_⟩⟩
    have hr2 := hR H'' e''
    refine rdb (fun z => ⟨_, rfl, ?_⟩) (fun z => ?_)
    · have e3 : (if crs (below rs ps) k ((j : Int)).toNat = true then some (nV k) else none) = some (nV k) := if_pos z
      exact (congrArg (fun r => R r H'') e3).mp hr2
    · have e3 : (if crs (below rs ps) k ((j : Int)).toNat = true then some (nV k) else none) = none := if_neg (by rw [show ((j : Int)).toNat = j from rfl, z]; decide)
      exact (congrArg (fun r => R r H'') e3).mp hr2
  · refine ⟨D, _, rfl, .inl (SqL.of hD), ?_⟩
    rw [ez, ec]
    exact q _ (e1.trans e2)
end
end Rs

set_option Elab.async false
set_option linter.all false
set_option maxRecDepth 100000
set_option maxHeartbeats 4000000
/-! The matching as a dict. -/
namespace Rs
open PySem PySem.Spec PyProof.Rows L2 He RsH LamX
def dkv (m : Mt) : List (Key × V) := m.map fun p => (Sum.inl (p.1 : Int), nV p.2)
theorem inl_eq {a b : Nat} : ((Sum.inl (a : Int) : Key) = Sum.inl (b : Int)) ↔ a = b := ⟨fun h => by injection h with h; exact Int.ofNat_inj.mp h, fun h => by rw [h]⟩
theorem dkv_look (m : Mt) (e : Nat) : valV (dkv m) (Sum.inl (e : Int)) = (look m e).map nV := by
  unfold valV look dkv
  induction m with
  | nil => rfl
  | cons p m ih =>
    rw [List.map_cons, List.find?_cons, List.find?_cons]
    by_cases h : p.1 = e
    · rw [decide_eq_true (inl_eq.mpr h), decide_eq_true h]
      rfl
    · rw [decide_eq_false (fun z => h (inl_eq.mp z)), decide_eq_false h]
      exact ih
theorem dkv_any (m : Mt) (e : Nat) : ((dkv m).any fun kv => decide (kv.1 = Sum.inl (e : Int))) = m.any fun p => decide (p.1 = e) := by
  unfold dkv
  induction m with
  | nil => rfl
  | cons p m ih =>
    rw [List.map_cons, List.any_cons, List.any_cons, ih]
    congr 1
    rw [Bool.eq_iff_iff, decide_eq_true_iff, decide_eq_true_iff]
    exact inl_eq
theorem dkv_put (m : Mt) (e a : Nat) : putK (dkv m) (Sum.inl (e : Int)) (nV a) = dkv (put m e a) := by
  unfold putK put
  rw [dkv_any]
  by_cases h : (m.any fun p => decide (p.1 = e)) = true
  · rw [if_pos h, if_pos h]
    unfold dkv
    rw [List.map_map, List.map_map]
    congr 1
    funext p
    show (if (Sum.inl (p.1 : Int) : Key) = Sum.inl (e : Int) then _ else _) = (Sum.inl _, _)
    by_cases hp : p.1 = e
    · rw [if_pos (inl_eq.mpr hp)]
      simp [hp]
    · rw [if_neg fun z => hp (inl_eq.mp z)]
      simp [hp]
  · rw [if_neg h, if_neg h]
    unfold dkv
    rw [List.map_append]
    rfl
theorem put_len (m : Mt) (e a : Nat) : (put m e a).length ≤ m.length + 1 := by
  unfold put
  split
  · rw [List.length_map]; omega
  · rw [List.length_append]; simp
theorem keys_few {B : Nat → Nat → Bool} {n : Nat} {m : Mt} (nd : (keys m).Nodup) (g : Good B n m) : m.length ≤ n := by
  have h : (keys m).length ≤ (List.range n).length := len_le_of_sub nd fun e he => by
    obtain ⟨p, hp, rfl⟩ := List.mem_map.mp he
    have hl := mem_look nd (show (p.1, p.2) ∈ m from hp)
    obtain ⟨h1, _, h3⟩ := g _ _ hl
    exact List.mem_range.mpr (by omega)
  rw [List.length_range] at h
  unfold keys at h
  rw [List.length_map] at h
  exact h
theorem inV_nats (e : Nat) : ∀ s : List Nat, inV (nV e) (s.map nV) = decide (e ∈ s)
  | [] => by simp [inV]
  | x :: s => by
    have ih := inV_nats e s
    unfold inV at ih ⊢
    have h : eqV (nV x) (nV e) = decide (e = x) := by
      rw [Bool.eq_iff_iff, decide_eq_true_iff]
      show ((x : Int) == (e : Int)) = true ↔ _
      rw [beq_iff_eq]
      omega
    rw [List.map_cons, List.any_cons, ih, h, Bool.eq_iff_iff]
    simp
theorem flat_nats : ∀ s : List Nat, (s.map nV).all flatV = true
  | [] => rfl
  | x :: s => by
    rw [List.map_cons, List.all_cons, flat_nats s]
    rfl
end Rs

set_option Elab.async false
set_option linter.all false
set_option maxRecDepth 100000
set_option maxHeartbeats 4000000
namespace Rs
open PySem PySem.Spec PyProof.Rows L2 He RsH LamX
section
variable {P : Program} {w : World} {K : PySem.W.Frag} {mg : Str → Option Value} {base : Heap} {h0 : Heap}
/-! ### lead -/
/-- all stays but the dict at d and the list at sl -/
def Kp2 (d sl : Addr) (H H' : Hp) : Prop := ∀ b o, b ≠ d → b ≠ sl → H b = some o → H' b = some o
theorem Kp2.refl {d sl : Addr} (H : Hp) : Kp2 d sl H H := fun _ _ _ _ h => h
theorem Kp2.trans {d sl : Addr} {H1 H2 H3 : Hp} (a : Kp2 d sl H1 H2) (b : Kp2 d sl H2 H3) : Kp2 d sl H1 H3 := fun c o h1 h2 h => b c o h1 h2 (a c o h1 h2 h)
theorem Kp2.of {d sl : Addr} {H1 H2 : Hp} (e : Same H1 H2) : Kp2 d sl H1 H2 := fun b o _ _ h => e b o h
theorem Kp2.sqT {d sl a : Addr} {H1 H2 : Hp} {xs ys : List V} {kvs : List (Key × V)} (k : Kp2 d sl H1 H2) (hd : H1 d = some (.dK kvs)) (hs : H1 sl = some (.lst ys)) (h : SqT K H1 a xs) : SqT K H2 a xs := by
  rcases h with (h | ⟨o, h⟩) | h
  · exact .inl (.inl (k _ _ (fun z => by rw [z, hd] at h; cases h) (fun z => by rw [z, hs] at h; cases h) h))
  · exact .inl (.inr ⟨o, k _ _ (fun z => by rw [z, hd] at h; cases h) (fun z => by rw [z, hs] at h; cases h) h⟩)
  · exact .inr h
theorem Kp2.rows {d sl : Addr} {H1 H2 : Hp} {ys : List V} {kvs : List (Key × V)} (k : Kp2 d sl H1 H2) (hd : H1 d = some (.dK kvs)) (hs : H1 sl = some (.lst ys)) : ∀ {xs : List V} {rs : List (List Int)}, Rows K H1 xs rs → Rows K H2 xs rs
  | _, _, .nil => .nil
  | _, _, .cons h t => .cons (k.sqT hd hs h) (k.rows hd hs t)
theorem Kp2.told {d sl t pl : Addr} {H1 H2 : Hp} {ys : List V} {kvs : List (Key × V)} {rs : List (List Int)} {ps : List Nat} (k : Kp2 d sl H1 H2) (hd : H1 d = some (.dK kvs)) (hs : H1 sl = some (.lst ys)) (T : Told2 K H1 t pl rs ps) : Told2 K H2 t pl rs ps := by
  obtain ⟨⟨dx, tr, xs, h1, h2, h3⟩, h4, h5⟩ := T
  exact ⟨⟨dx, tr, xs, k _ _ (fun z => by rw [z, hd] at h1; cases h1) (fun z => by rw [z, hs] at h1; cases h1) h1, k.sqT hd hs h2, k.rows hd hs h3⟩, k.sqT hd hs h4, h5⟩
/-- what a search finds -/
structure LeadAt (K : PySem.W.Frag) (H : Hp) (t pl ol d sl : Addr) (rs : List (List Int)) (ps o : List Nat) (m : Mt) (s : List Nat) : Prop where
  htd : Told2 K H t pl rs ps
  hol : H ol = some (.lst (o.map nV))
  hne : ol ≠ sl
  hd : H d = some (.dK (dkv m))
  hsl : H sl = some (.lst (s.map nV))
  hO : Ord (below rs ps) rs.length o
  hnd : (keys m).Nodup
  hgd : Good (posB (below rs ps) o) rs.length m
  hsf : s.length + unseen rs.length s ≤ rs.length
def spLead (K : PySem.W.Frag) (k : Nat) : Sp := fun vs H Q _ => ∃ (t pl ol d sl : Addr) (rs : List (List Int)) (ps o : List Nat) (m : Mt) (s : List Nat) (a : Nat), vs = [.ref t, .ref pl, .ref ol, nV a, .ref d, .ref sl] ∧ LeadAt K H t pl ol d sl rs ps o m s ∧ a < rs.length ∧ unseen rs.length s < k ∧
  ∀ H', Kp2 d sl H H' → LeadAt K H' t pl ol d sl rs ps o (lead (posB (below rs ps) o) k a m s).m (lead (posB (below rs ps) o) k a m s).s → Q (.bl (lead (posB (below rs ps) o) k a m s).ok) H'
abbrev nL : List Str := ["table", "places", "order", "at", "ahead", "seen", "early"]
theorem sc_lead : FnScope nL ["table", "places", "order", "at", "ahead", "seen"] (defScope (topS 30)) := ⟨rfl, rfl, rfl, by decide +kernel, rfl, by decide +kernel, by decide +kernel⟩
theorem unseen_step {n e : Nat} {s : List Nat} (he : e < n) (hs : e ∉ s) : (s ++ [e]).length + unseen n (s ++ [e]) ≤ s.length + unseen n s := by
  have := unseen_lt he hs
  rw [List.length_append, List.length_singleton]
  omega
theorem leadAt_step {H H' : Hp} {t pl ol d sl : Addr} {rs : List (List Int)} {ps o : List Nat} {m m' : Mt} {s s' : List Nat} (L : LeadAt K H t pl ol d sl rs ps o m s) (k : Kp2 d sl H H') (hd : H' d = some (.dK (dkv m'))) (hs : H' sl = some (.lst (s'.map nV)))
    (nd : (keys m').Nodup) (gd : Good (posB (below rs ps) o) rs.length m') (sf : s'.length + unseen rs.length s' ≤ rs.length) : LeadAt K H' t pl ol d sl rs ps o m' s' :=
  ⟨k.told L.hd L.hsl L.htd, k _ _ (fun z => by have h1 := L.hol; have h2 := L.hd; rw [z, h2] at h1; cases h1) L.hne L.hol, L.hne, hd, hs, L.hO, nd, gd, sf⟩
theorem getD_nV {o : List Nat} {i : Nat} (h : i < o.length) : (o.map nV)[i]? = some (nV (o.getD i 0)) := by
  rw [List.getElem?_map, List.getElem?_eq_getElem h, List.getD_eq_getElem?_getD, List.getElem?_eq_getElem h]
  rfl
theorem ord_lt {W : Nat → Nat → Bool} {n : Nat} {o : List Nat} (O : Ord W n o) {i : Nat} (h : i < n) : o.getD i 0 < n := List.mem_range.mp (O.perm.mem_iff.mp (getD_mem (by rw [O.len]; exact h)))
theorem ok_lead (T : Txt w K h0 mg) : ∀ k : Nat, Cal0 P w K mg base (k + 2) "lead" (spLead K k)
  | 0 => by
    obtain ⟨fd, F⟩ := T.f_lead
    refine cal_of F T.g_lead sc_lead (fun vs H Q E h => ?_) (fun _ _ _ _ _ _ us hl => match us, hl with | [_, _, _, _, _, _], _ => rfl) (fun cdv A outer s H vs Q E hr h => ?_)
    · obtain ⟨t, pl, ol, d, sl, rs, ps, o, m, s, a, _, _, _, h, _⟩ := h
      exact absurd h (Nat.not_lt_zero _)
    · obtain ⟨t, pl, ol, d, sl, rs, ps, o, m, s, a, _, _, _, h, _⟩ := h
      exact absurd h (Nat.not_lt_zero _)
  | k + 1 => by
    obtain ⟨fd, F⟩ := T.f_lead
    have cB : Cal0 P w K mg base 1 "is_below" (spBelow K) := ok_below T
    have cL : Cal0 P w K mg base (k + 2) "lead" (spLead K k) := ok_lead T k
    refine cal_of F T.g_lead sc_lead (fun vs H Q E h => ?_) (fun _ _ _ _ _ _ us hl => match us, hl with | [_, _, _, _, _, _], _ => rfl) (fun cdv A outer s H vs Q E hr h => ?_)
    · obtain ⟨t, pl, ol, d, sl, rs, ps, o, m, s, a, rfl, _⟩ := h
      rfl
    obtain ⟨t, pl, ol, d, sl, rs, ps, o, m, s, a, rfl, L, ha, hu, q⟩ := h
    have hu1 := hr.un
    refine ⟨_, pss_cons (ps_for PassesOwn.never rfl (pi_range1 (by rfl) T.z_range (pa_cons (pv 3) pa_nil)) (pg_name (i := 6) sc_lead.nd rfl (Or.inl rfl))
      (pss_one (ps_if (PW.pt (pw_and (pt_cmpR op_notIn_seq (pv 6) (pv 5) (by with_unfolding_all rfl)) (pw_and1 (pt_val (C8.pe_c cB hr (by omega) (by rfl) (pa_cons (pv 0) (pa_cons (pe_ix ix_list (pv 2) (pv 6) (fun _ _ => rfl)) (pa_cons (pe_ix ix_list (pv 2) (pv 3) (fun _ _ => rfl)) (pa_cons (pv 1) pa_nil)))))))))
        (pss_cons (ps_expr (pe_bm PySem.F.plainAttrs_list PySem.F.slot_list_append PySem.F.type_list_append mt_append (pv 5) (pa_cons (pv 6) pa_nil)))
        (pss_one (ps_if (PW.pt (pw_or (pt_cmp (pc_dnotin (Nat.lt_of_le_of_lt (Nat.add_le_add_left (by omega : 1 ≤ 64) _) hr.units) (pv 6) (pv 4)) (by with_unfolding_all rfl)) (pw_or1 (pt_val (C8.pe_c cL hr (Nat.le_refl _) (by rfl) (pa_cons (pv 0) (pa_cons (pv 1) (pa_cons (pv 2) (pa_cons (pe_dget (Nat.lt_of_le_of_lt (Nat.add_le_add_left (by omega : 1 ≤ 64) _) hr.units) (pv 4) (pv 6) (fun _ _ => rfl)) (pa_cons (pv 4) (pa_cons (pv 5) pa_nil))))))))))) 
          (pss_cons (ps_dput (Nat.lt_of_le_of_lt (Nat.add_le_add_left (by omega : 1 ≤ 64) _) hr.units) (pv 4) (pv 6) (pv 3) rfl) (pss_one (ps_ret pe_bl))) pss_nil))) pss_nil)))
      (pss_one (ps_ret pe_bl)), ?_⟩
    have On := L.hO.len
    have n10 := L.htd.sh.n10
    refine ⟨_, rfl, _, rfl, by omega, by omega, for_it (walk_rangeA (xs := (List.range a).map nV) rfl) (fun i σ' H' => ∃ u m' s', σ' = [some (.ref t), some (.ref pl), some (.ref ol), some (nV a), some (.ref d), some (.ref sl), u] ∧ Kp2 d sl H H' ∧ LeadAt K H' t pl ol d sl rs ps o m' s' ∧ unseen rs.length s' < k + 1 ∧
      leadL (posB (below rs ps) o) (lead (posB (below rs ps) o) k) a ((List.range a).drop i) m' s' = lead (posB (below rs ps) o) (k + 1) a m s) ⟨none, m, s, rfl, Kp2.refl H, L, hu, by rw [List.drop_zero]; rfl⟩ (fun _ _ _ _ _ => trivial) (fun i x σ' H1 H2 hi h hy => ?_) (fun σ' H' h => ?_)⟩
    · obtain ⟨u, m', s', rfl, kp, L1, hu1, he⟩ := h
      obtain ⟨rfl, hx⟩ := hy
      rw [List.length_map, List.length_range] at hi
      have ex : x = nV i := by
        rw [List.getElem?_map, List.getElem?_range hi] at hx
        exact (Option.some.inj hx).symm
      subst ex
      have edrop : (List.range a).drop i = i :: (List.range a).drop (i + 1) := by
        rw [List.drop_eq_getElem_cons (by rw [List.length_range]; exact hi), List.getElem_range]
      rw [edrop] at he
      unfold leadL at he
      have tl := lead_told (k + 1) a m s ha hu L.hnd L.hgd
      have hin : i < rs.length := by omega
      refine ⟨_, rfl, _, rfl, sl, _, rfl, .inl (SqL.of L1.hsl), rfl, flat_nats _, !decide (i ∈ s'), (show V.bl (!inV (nV i) (s'.map nV)) = _ by rw [inV_nats]), rdb (fun z1 => ?_) (fun z1 => ?_)⟩
      · have hns : i ∉ s' := by simpa using z1
        refine ⟨_, rfl, _, rfl, _, rfl, ol, _, _, _, rfl, rfl, SqL.of L1.hol, atI_nat (getD_nV (by omega)), _, rfl, _, rfl, ol, _, _, _, rfl, rfl, SqL.of L1.hol, atI_nat (getD_nV (by omega)), _, rfl, t, pl, rs, ps, o.getD i 0, o.getD a 0, rfl, L1.htd, ord_lt L.hO hin, ord_lt L.hO ha, fun H3 e3 => ⟨_, rfl, rdb (fun z2 => ?_) (fun z2 => ?_)⟩⟩
        · have hB : posB (below rs ps) o i a = true := z2
          rw [if_pos ⟨hns, hB⟩] at he
          have L3 := leadAt_step L1 (Kp2.of e3) (e3 _ _ L1.hd) (e3 _ _ L1.hsl) L1.hnd L1.hgd L1.hsf
          have hsf := unseen_step hin hns
          have hs1 := L1.hsf
          refine ⟨_, rfl, .inl ⟨rfl, _, SqL.of L3.hsl⟩, _, rfl, sl, _, _, rfl, rfl, L3.hsl, small _ (by rw [List.length_map]; omega), ?_⟩
          have hds : d ≠ sl := fun z => by have h1 := L3.hd; rw [z, L3.hsl] at h1; cases h1
          have k4 : Kp2 d sl H3 (upd H3 sl (.lst (s'.map nV ++ [nV i]))) := fun b ob h1 h2 hb => by rw [upd_ne h2]; exact hb
          have L4 : LeadAt K (upd H3 sl (.lst (s'.map nV ++ [nV i]))) t pl ol d sl rs ps o m' (s' ++ [i]) := leadAt_step L3 k4 (by rw [upd_ne hds]; exact L3.hd) (by rw [upd_same, List.map_append]; rfl) L3.hnd L3.hgd (by omega)
          have kp4 := (kp.trans (Kp2.of e3)).trans k4
          have fewm : (dkv m').length ≤ 4000 := by
            have := keys_few L1.hnd L1.hgd
            unfold dkv
            rw [List.length_map]
            omega
          cases hk : look m' i with
          | none =>
            rw [hk] at he
            dsimp only at he
            refine ⟨_, rfl, _, rfl, d, _, rfl, DGet.k (k := Sum.inl (i : Int)) L4.hd, true, (show V.bl (!(valV (dkv m') (Sum.inl (i : Int))).isSome) = _ by rw [dkv_look, hk]; rfl), iteT (iteT ?_)⟩
            refine ⟨_, rfl, _, rfl, _, rfl, d, _, rfl, DPut.k (k := Sum.inl (i : Int)) L4.hd (small _ fewm), ?_⟩
            have hq := q (upd (upd H3 sl (.lst (s'.map nV ++ [nV i]))) d (.dK (putK (dkv m') (Sum.inl (i : Int)) (nV a))))
            rw [← he] at hq tl
            have k5 : Kp2 d sl (upd H3 sl (.lst (s'.map nV ++ [nV i]))) (upd (upd H3 sl (.lst (s'.map nV ++ [nV i]))) d (.dK (putK (dkv m') (Sum.inl (i : Int)) (nV a)))) := fun b ob h1 h2 hb => by rw [upd_ne h1]; exact hb
            exact hq (kp4.trans k5) (leadAt_step L4 k5 (by rw [upd_same, dkv_put]) (by rw [upd_ne (Ne.symm hds)]; exact L4.hsl) tl.nd tl.good L4.hsf)
          | some b =>
            rw [hk] at he
            dsimp only at he
            have hb := L4.hgd i b hk
            have hu4 : unseen rs.length (s' ++ [i]) < k := by
              have := unseen_lt hin hns
              omega
            have tb := lead_told k b m' (s' ++ [i]) hb.2.2 hu4 L4.hnd L4.hgd
            refine ⟨_, rfl, _, rfl, d, _, rfl, DGet.k (k := Sum.inl (i : Int)) L4.hd, false, (show V.bl (!(valV (dkv m') (Sum.inl (i : Int))).isSome) = _ by rw [dkv_look, hk]; rfl), iteF ?_⟩
            refine ⟨_, rfl, _, rfl, _, rfl, _, rfl, _, rfl, d, nV b, rfl, (show DGet _ d (nV i) (some (nV b)) by have h := DGet.k (k := Sum.inl (i : Int)) L4.hd; rw [dkv_look, hk] at h; exact h), _, rfl, _, rfl, t, pl, ol, d, sl, rs, ps, o, m', s' ++ [i], b, rfl, L4, hb.2.2, hu4, fun H5 k5 L5 => ⟨_, rfl, rdb (fun z3 => ?_) (fun z3 => ?_)⟩⟩
            · rw [if_pos z3] at he
              have fewr : (dkv (lead (posB (below rs ps) o) k b m' (s' ++ [i])).m).length ≤ 4000 := by
                have := keys_few L5.hnd L5.hgd
                unfold dkv
                rw [List.length_map]
                omega
              refine ⟨_, rfl, _, rfl, _, rfl, d, _, rfl, DPut.k (k := Sum.inl (i : Int)) L5.hd (small _ fewr), ?_⟩
              have hq := q (upd H5 d (.dK (putK (dkv (lead (posB (below rs ps) o) k b m' (s' ++ [i])).m) (Sum.inl (i : Int)) (nV a))))
              rw [← he] at hq tl
              have k6 : Kp2 d sl H5 (upd H5 d (.dK (putK (dkv (lead (posB (below rs ps) o) k b m' (s' ++ [i])).m) (Sum.inl (i : Int)) (nV a)))) := fun b ob h1 h2 hb => by rw [upd_ne h1]; exact hb
              exact hq ((kp4.trans k5).trans k6) (leadAt_step L5 k6 (by rw [upd_same, dkv_put]) (by rw [upd_ne (Ne.symm hds)]; exact L5.hsl) tl.nd tl.good L5.hsf)
            · rw [if_neg (by rw [z3]; decide)] at he
              exact ⟨_, _, _, rfl, kp4.trans k5, L5, Nat.lt_of_le_of_lt (unseen_mono fun x hx => tb.sub x hx) (by omega), he⟩
        · have hB : ¬ (i ∉ s' ∧ posB (below rs ps) o i a = true) := fun h => by
            have h2 : below rs ps (o.getD i 0) (o.getD a 0) = true := h.2
            rw [z2] at h2
            cases h2
          rw [if_neg hB] at he
          exact ⟨_, m', s', rfl, kp.trans (Kp2.of e3), leadAt_step L1 (Kp2.of e3) (e3 _ _ L1.hd) (e3 _ _ L1.hsl) L1.hnd L1.hgd L1.hsf, hu1, he⟩
      · have hin2 : i ∈ s' := by simpa using z1
        rw [if_neg (fun h => h.1 hin2)] at he
        exact iteF ⟨_, m', s', rfl, kp, L1, hu1, he⟩
    · obtain ⟨u, m', s', rfl, kp, L1, hu1, he⟩ := h
      rw [List.drop_of_length_le (by rw [List.length_map]; exact Nat.le_refl _)] at he
      unfold leadL at he
      have hq := q H'
      rw [← he] at hq
      exact hq kp L1
end
end Rs

set_option Elab.async false
set_option linter.all false
set_option maxRecDepth 100000
set_option maxHeartbeats 4000000
namespace Rs
open PySem PySem.Spec PyProof.Rows L2 He RsH LamX
/-! ### plain -/
theorem vals_keys {m : Mt} (nd : (keys m).Nodup) : (keys m).map (fun e => (look m e).getD 0) = vals m := by
  unfold keys vals
  rw [List.map_map]
  refine List.map_congr_left fun p hp => ?_
  show (look m p.1).getD 0 = p.2
  rw [mem_look nd (show (p.1, p.2) ∈ m from hp)]
  rfl
section
variable {K : PySem.W.Frag}
/-- all stays but what is at d -/
theorem Kp.refl {d : Addr} (H : Hp) : Kp d H H := fun _ _ _ h => h
theorem Kp.trans {d : Addr} {H1 H2 H3 : Hp} (a : Kp d H1 H2) (b : Kp d H2 H3) : Kp d H1 H3 := fun c o h1 h => b c o h1 (a c o h1 h)
theorem Kp.of {d : Addr} {H1 H2 : Hp} (e : Same H1 H2) : Kp d H1 H2 := fun b o _ h => e b o h
theorem Kp.upd {d : Addr} {H1 : Hp} {o : HO} : Kp d H1 (upd H1 d o) := fun b u h e => by rw [upd_ne h]; exact e
def NotSeq (u : HO) : Prop := (∀ xs, u ≠ .tup xs) ∧ (∀ o xs, u ≠ .frz o (.tup xs)) ∧ ∀ C dx fs, u ≠ .ins C dx fs
theorem notSeq_dK {kvs : List (Key × V)} : NotSeq (.dK kvs) := ⟨fun _ h => (by cases h), fun _ _ h => (by cases h), fun _ _ _ h => (by cases h)⟩
theorem notSeq_lst {xs : List V} : NotSeq (.lst xs) := ⟨fun _ h => (by cases h), fun _ _ h => (by cases h), fun _ _ _ h => (by cases h)⟩
theorem Kp.sqT {d a : Addr} {H1 H2 : Hp} {xs : List V} {u : HO} (k : Kp d H1 H2) (hd : H1 d = some u) (n : NotSeq u) (h : SqT K H1 a xs) : SqT K H2 a xs := by
  rcases h with (h | ⟨o, h⟩) | h
  · exact .inl (.inl (k _ _ (fun z => by rw [z, hd] at h; exact n.1 _ (Option.some.inj h)) h))
  · exact .inl (.inr ⟨o, k _ _ (fun z => by rw [z, hd] at h; exact n.2.1 _ _ (Option.some.inj h)) h⟩)
  · exact .inr h
theorem Kp.rows {d : Addr} {H1 H2 : Hp} {u : HO} (k : Kp d H1 H2) (hd : H1 d = some u) (n : NotSeq u) : ∀ {xs : List V} {rs : List (List Int)}, Rows K H1 xs rs → Rows K H2 xs rs
  | _, _, .nil => .nil
  | _, _, .cons h t => .cons (k.sqT hd n h) (k.rows hd n t)
theorem Kp.tps {d : Addr} {H1 H2 : Hp} {u : HO} (k : Kp d H1 H2) (hd : H1 d = some u) (n : NotSeq u) : ∀ {xs : List V} {rs : List (List Nat)}, Tps K H1 xs rs → Tps K H2 xs rs
  | _, _, .nil => .nil
  | _, _, .cons h t => .cons (k.sqT hd n h) (k.tps hd n t)
theorem Kp.told {d t pl : Addr} {H1 H2 : Hp} {u : HO} {rs : List (List Int)} {ps : List Nat} (k : Kp d H1 H2) (hd : H1 d = some u) (n : NotSeq u) (T : Told2 K H1 t pl rs ps) : Told2 K H2 t pl rs ps := by
  obtain ⟨⟨dx, tr, xs, h1, h2, h3⟩, h4, h5⟩ := T
  exact ⟨⟨dx, tr, xs, k _ _ (fun z => by rw [z, hd] at h1; exact n.2.2 _ _ _ (Option.some.inj h1)) h1, k.sqT hd n h2, k.rows hd n h3⟩, k.sqT hd n h4, h5⟩
theorem kp_new {d : Addr} {H0 H1 H2 : Hp} (nd : H0 d = none) (e : Same H0 H1) (k : Kp d H1 H2) : Same H0 H2 := fun b o h => k b o (ne_of_none h nd) (e _ _ h)
end
section
variable {P : Program} {w : World} {K : PySem.W.Frag} {mg : Str → Option Value} {base : Heap} {h0 : Heap}
def spPieces (K : PySem.W.Frag) : Sp := fun vs H Q _ => ∃ (t pl : Addr) (rs : List (List Int)) (ps : List Nat), vs = [.ref t, .ref pl] ∧ Told2 K H t pl rs ps ∧ Tabs (Tl K) H ∧
  ∀ (o : List Nat) (fl : Addr) (ys : List V) (H' : Hp), Ord (below rs ps) rs.length o → Gr H H' → Tabs (Tl K) H' → H' fl = some (.lst ys) → Tps K H' ys (piecesOf (below rs ps) 11 rs.length o) → Q (.ref fl) H'
abbrev nP : List Str := ["table", "places", "order", "ahead", "at", "found", "late", "row", "early", "one"]
theorem sc_pieces : FnScope nP ["table", "places"] (defScope (topS 31)) := ⟨rfl, rfl, rfl, by decide +kernel, rfl, by decide +kernel, by decide +kernel⟩
theorem un1 {k : Nat} {A : Around} (r : Room k A) : A.units + 1 < cLine := by have := r.un; omega
theorem ok_pieces (B : TxtB w K h0 mg base) : Cal0 P w K mg base 14 "pieces_of" (spPieces K) := by
  have T := B.t
  obtain ⟨fd, F⟩ := T.f_pieces_of
  have cS : Cal0 P w K mg base 4 "by_sums" (spSums K) := ok_sums B
  have cL : Cal0 P w K mg base 13 "lead" (spLead K 11) := ok_lead T 11
  refine cal_of F T.g_pieces_of sc_pieces (fun vs H Q E h => ?_) (fun _ _ _ _ _ _ us hl => match us, hl with | [_, _], _ => rfl) (fun cdv A outer s H vs Q E hr h => ?_)
  · obtain ⟨t, pl, rs, ps, rfl, _⟩ := h
    rfl
  obtain ⟨t, pl, rs, ps, rfl, Td, hT, q⟩ := h
  refine ⟨_, pss_cons (ps_asg (pe_tup (pa_cons (C8.pe_c cS hr (by decide) (by rfl) (pa_cons (pv 0) (pa_cons (pv 1) pa_nil))) (pa_cons pe_dnewK pa_nil))) (pg_tup rfl (pgs_cons (pg_name (i := 2) sc_pieces.nd rfl (Or.inr rfl)) (pgs_cons (pg_name (i := 3) sc_pieces.nd rfl (Or.inr rfl)) pgs_nil))))
    (pss_cons (ps_for PassesOwn.never rfl (pi_range1 (by rfl) T.z_range (pa_cons (pe_callB call_len_seq (by rfl) T.z_len (by decide +kernel) (pa_cons (pv 2) pa_nil)) pa_nil)) (pg_name (i := 4) sc_pieces.nd rfl (Or.inl rfl))
      (pss_one (ps_expr (C8.pe_c cL hr (by decide) (by rfl) (pa_cons (pv 0) (pa_cons (pv 1) (pa_cons (pv 2) (pa_cons (pv 4) (pa_cons (pv 3) (pa_cons (pe_lst pa_nil) pa_nil)))))))))) 
    (pss_cons (ps_par (i := 5) (j := 6) rfl sc_pieces.nd rfl rfl (by decide) rfl rfl (pa_cons (pe_lst pa_nil) (pa_cons (pe_lock (pe_lc (own := [("early", 8)]) (g := gName 8) (tt := tYes) (te := tDGet (tVar 3) (tVar 8)) rfl sc_pieces.nd (pi_keys (pv 3)) (blkOk_by (N := nP) (sc := defScope (topS 31)) (by decide +kernel))
        (fun _ _ _ _ _ => pg_name (i := 8) sc_pieces.nd rfl (Or.inl rfl)) (fun _ _ _ _ _ => pts_nil) (fun _ _ _ _ _ => pe_dget (un1 hr) (pv 3) (pv 8) (fun _ _ => rfl)))) pa_nil)) (by rfl))
    (pss_cons (ps_for PassesOwn.never rfl (pi_range1 (by rfl) T.z_range (pa_cons (pe_callB call_len_seq (by rfl) T.z_len (by decide +kernel) (pa_cons (pv 2) pa_nil)) pa_nil)) (pg_name (i := 4) sc_pieces.nd rfl (Or.inl rfl))
      (pss_one (ps_if (pt_cmpR op_notIn_seq (pv 4) (pv 6) (by with_unfolding_all rfl))
        (pss_cons (ps_set (i := 7) sc_pieces.nd rfl (Or.inl rfl) (pe_lst (pa_cons (pv 4) pa_nil)))
        (pss_cons (ps_while PassesOwn.never (pt_cmp (pc_din (un1 hr) (pe_ix ix_list (pv 7) (pe_un un_neg pe_int) (fun _ _ => rfl)) (pv 3)) (by with_unfolding_all rfl)) (pss_one (ps_expr (pe_bm PySem.F.plainAttrs_list PySem.F.slot_list_append PySem.F.type_list_append mt_append (pv 7) (pa_cons (pe_dget (un1 hr) (pv 3) (pe_ix ix_list (pv 7) (pe_un un_neg pe_int) (fun _ _ => rfl)) (fun _ _ => rfl)) pa_nil)))))
        (pss_one (ps_expr (pe_bm PySem.F.plainAttrs_list PySem.F.slot_list_append PySem.F.type_list_append mt_append (pv 5) (pa_cons (pe_tupleOf (by rfl) T.z_tuple (pe_lc (own := [("one", 9)]) (g := gName 9) (tt := tYes) (te := tOp (rIxL K) (tVar 2) (tVar 9)) rfl sc_pieces.nd (pi_list (pv 7)) (blkOk_by (N := nP) (sc := defScope (topS 31)) (by decide +kernel))
          (fun _ _ _ _ _ => pg_name (i := 9) sc_pieces.nd rfl (Or.inl rfl)) (fun _ _ _ _ _ => pts_nil) (fun _ _ _ _ _ => pe_ix ix_list (pv 2) (pv 9) (fun _ _ => rfl)))) pa_nil)))))) pss_nil)))
    (pss_one (ps_ret (pv 5)))))), ?_⟩
  have n10 := Td.sh.n10
  refine ⟨_, rfl, _, rfl, t, pl, rs, ps, rfl, Td, hT, fun o b H1 o1 o2 g1 T1 hb => fun dd hdd => ?_⟩
  have O := ord_of o1 o2
  have On := O.len
  have ed : Same H1 (upd H1 dd (.dK [])) := same_new hdd _
  refine ⟨show (2 : Nat) ≤ sizeLine by decide, fun tp htp => ?_⟩
  have et : Same (upd H1 dd (.dK [])) (upd (upd H1 dd (.dK [])) tp (.tup [.ref b, .ref dd])) := same_new htp _
  generalize hH3 : upd (upd H1 dd (.dK [])) tp (.tup [.ref b, .ref dd]) = H3 at *
  have G3 : Gr H H3 := g1.trans (Gr.of (ed.trans et))
  have hd3 : H3 dd = some (.dK (dkv [])) := et _ _ upd_same
  have hb3 : H3 b = some (.lst (o.map nV)) := et _ _ (ed _ _ hb)
  have hbd : b ≠ dd := fun z => by rw [z, hdd] at hb; cases hb
  have Td3 := Td.gr G3
  refine rd_g2 (SqT.of (by rw [← hH3]; exact upd_same)) ?_
  -- the searches
  refine ⟨_, rfl, b, _, rfl, .inl (SqL.of hb3), _, rfl, by rw [List.length_map]; omega, by rw [List.length_map]; omega, for_it (walk_rangeA (xs := (List.range o.length).map nV) (by rw [List.length_map, Int.toNat_natCast])) (fun i σ' H' => ∃ u, σ' = [some (.ref t), some (.ref pl), some (.ref b), some (.ref dd), u, none, none, none, none, none] ∧ Kp dd H3 H' ∧ H' dd = some (.dK (dkv (kuhn (posB (below rs ps) o) 11 i))) ∧
    (keys (kuhn (posB (below rs ps) o) 11 i)).Nodup ∧ Good (posB (below rs ps) o) rs.length (kuhn (posB (below rs ps) o) 11 i)) ⟨none, rfl, Kp.refl _, hd3, List.nodup_nil, fun e b h => by cases h⟩ (fun _ _ _ _ _ => trivial) (fun i x σ' H4 H5 hi h hy => ?_) (fun σ' H4 h => ?_)⟩
  · obtain ⟨u, rfl, kp, hd4, nd4, gd4⟩ := h
    obtain ⟨rfl, hx⟩ := hy
    rw [List.length_map, List.length_range] at hi
    have ex : x = nV i := by
      rw [List.getElem?_map, List.getElem?_range hi] at hx
      exact (Option.some.inj hx).symm
    subst ex
    refine ⟨_, rfl, _, rfl, _, rfl, _, rfl, _, rfl, show (0 : Nat) ≤ sizeLine by decide, fun sl hsl => ?_⟩
    have es : Same H5 (upd H5 sl (.lst [])) := same_new hsl _
    have L : LeadAt K (upd H5 sl (.lst [])) t pl b dd sl rs ps o (kuhn (posB (below rs ps) o) 11 i) [] := by
      refine ⟨(kp.told hd3 notSeq_dK Td3).gr (Gr.of es), es _ _ (kp _ _ hbd hb3), fun z => ?_, es _ _ hd4, upd_same, O, nd4, gd4, ?_⟩
      · have h := kp _ _ hbd hb3
        rw [z, hsl] at h
        cases h
      · have := unseen_le rs.length []
        simpa using this
    have hu : unseen rs.length [] < 11 := Nat.lt_of_le_of_lt (unseen_le _ _) (by omega)
    refine ⟨t, pl, b, dd, sl, rs, ps, o, _, [], i, rfl, L, by omega, hu, fun H6 k6 L6 => ⟨_, rfl, fun c ob hc hob => ?_, L6.hd, L6.hnd, L6.hgd⟩⟩
    have h5 := kp c ob hc hob
    exact k6 c ob hc (ne_of_none h5 hsl) (es _ _ h5)
  obtain ⟨u, rfl, kp, hd4, nd4, gd4⟩ := h
  have elen : ((List.range o.length).map nV).length = rs.length := by rw [List.length_map, List.length_range, On]
  rw [elen] at hd4 nd4 gd4
  generalize hm : kuhn (posB (below rs ps) o) 11 rs.length = m at *
  have hb4 := kp _ _ hbd hb3
  have Td4 := kp.told hd3 notSeq_dK Td3
  have few := keys_few nd4 gd4
  have G4 : Gr H H4 := by
    refine g1.trans ?_
    refine Gr.of (fun c ob hob => kp c ob (ne_of_none hob hdd) (et _ _ (ed _ _ hob)))
  -- found, late
  refine ⟨show (0 : Nat) ≤ sizeLine by decide, fun fl hfl => ?_⟩
  have ef : Same H4 (upd H4 fl (.lst [])) := same_new hfl _
  have hd5 := ef _ _ hd4
  refine ⟨dd, _, hd5, trivial, fun od => ?_⟩
  generalize hH6 : upd (upd H4 fl (.lst [])) dd (.frz od (.dK (dkv m))) = H6 at *
  have hd6 : H6 dd = some (.frz od (.dK (dkv m))) := by rw [← hH6]; exact upd_same
  have wk : Walk (Itk dd od (dkv m)) ((keys m).map nV).length (fun H => H dd = some (.frz od (.dK (dkv m)))) (YAt ((keys m).map nV)) := by
    have e : ((keys m).map nV).length = (dkv m).length := by unfold keys dkv; rw [List.length_map, List.length_map, List.length_map]
    rw [e]
    refine walk_keys.mono (fun _ h => h) fun i H x H' hi _ y => ?_
    obtain ⟨e1, k, v, e2, e3⟩ := y
    refine ⟨e1, ?_⟩
    unfold dkv at e2
    unfold keys
    rw [List.getElem?_map] at e2
    obtain ⟨p, hp, e4⟩ := Option.map_eq_some_iff.mp e2
    cases e4
    rw [List.map_map, List.getElem?_map, hp, e3]
    rfl
  refine ⟨_, rfl, dd, od, rfl, .inl ⟨_, hd6, fun D nD => lc_map wk (fun x => match x with | .int e => nV ((look m e.toNat).getD 0) | _ => .non) nD (small _ (by unfold keys; rw [List.length_map, List.length_map]; omega)) (fun H' e => e _ _ hd6) (fun _ => rfl) (fun k x H' hx e R hR => ?_) fun H7 e7 hD7 => ⟨e7 _ _ hd6, ?_⟩⟩⟩
  · rw [List.getElem?_map] at hx
    obtain ⟨e', he', rfl⟩ := Option.map_eq_some_iff.mp hx
    have hmem : e' ∈ keys m := List.mem_of_getElem? he'
    cases hl : look m e' with
    | none => exact absurd hmem (look_none.mp hl)
    | some b' =>
      refine ⟨_, rfl, _, rfl, dd, nV b', rfl, .inl ⟨dkv m, Sum.inl (e' : Int), .inr ⟨od, e _ _ hd6⟩, rfl, by rw [dkv_look, hl]; rfl⟩, ?_⟩
      have h := hR H' (Same.refl _)
      have e2 : (look m ((e' : Int)).toNat).getD 0 = b' := by rw [Int.toNat_natCast, hl]; rfl
      have h : R (nV ((look m ((e' : Int)).toNat).getD 0)) H' := h
      rw [e2] at h
      exact h
  have hDm : H7 D = some (.lst ((vals m).map nV)) := by
    rw [hD7, List.map_map, ← vals_keys nd4, List.map_map]
    rfl
  have nDd : D ≠ dd := fun z => by rw [z, hd6] at nD; cases nD
  have nfd : fl ≠ dd := fun z => by rw [z, hd4] at hfl; cases hfl
  have nfD : fl ≠ D := fun z => by
    rw [← z, ← hH6, upd_ne nfd, upd_same] at nD
    cases nD
  generalize hH8 : upd H7 dd (.dK (dkv m)) = H8 at *
  have s8 : Same H4 H8 := fun c ob hob => by
    rw [← hH8]
    by_cases hc : c = dd
    · subst hc
      rw [hd4] at hob
      cases hob
      exact upd_same
    · rw [upd_ne hc]
      refine e7 _ _ ?_
      rw [← hH6, upd_ne hc]
      exact ef _ _ hob
  have hf8 : H8 fl = some (.lst []) := by
    rw [← hH8, upd_ne nfd]
    refine e7 _ _ ?_
    rw [← hH6, upd_ne nfd]
    exact upd_same
  have hD8 : H8 D = some (.lst ((vals m).map nV)) := by rw [← hH8, upd_ne nDd]; exact hDm
  have hb8 := s8 _ _ hb4
  have hd8 := s8 _ _ hd4
  have nfb : b ≠ fl := ne_of_none hb4 hfl
  have nfd2 : dd ≠ fl := fun z => nfd z.symm
  refine ⟨_, _, rfl, ?_⟩
  -- the rows
  let rw_ := fun (i : Nat) => ((List.range i).filter fun r => decide (r ∉ vals m)).map fun r => (chain m rs.length r).map fun i => o.getD i 0
  have rstep : ∀ i, rw_ (i + 1) = rw_ i ++ (if i ∉ vals m then [(chain m rs.length i).map fun i => o.getD i 0] else []) := fun i => by
    show ((List.range (i + 1)).filter fun r => decide (r ∉ vals m)).map _ = _
    rw [List.range_succ, List.filter_append, List.map_append]
    congr 1
    by_cases h : i ∉ vals m
    · rw [if_pos h, List.filter_cons, if_pos (decide_eq_true h)]
      rfl
    · rw [if_neg h, List.filter_cons, if_neg (by rw [decide_eq_false h]; decide)]
      rfl
  have rlen : ∀ i, (rw_ i).length ≤ i := fun i => by
    show (((List.range i).filter fun r => decide (r ∉ vals m)).map _).length ≤ i
    rw [List.length_map]
    have := List.length_filter_le (fun r => decide (r ∉ vals m)) (List.range i)
    rw [List.length_range] at this
    exact this
  refine ⟨_, rfl, b, _, rfl, .inl (SqL.of hb8), _, rfl, by rw [List.length_map]; omega, by rw [List.length_map]; omega, for_it (walk_rangeA (xs := (List.range o.length).map nV) (by rw [List.length_map, Int.toNat_natCast])) (fun i σ' H' => ∃ u rw, σ' = [some (.ref t), some (.ref pl), some (.ref b), some (.ref dd), u, some (.ref fl), some (.ref D), rw, none, none] ∧ Kp fl H8 H' ∧ ∃ ys, H' fl = some (.lst ys) ∧ Tps K H' ys (rw_ i)) ⟨_, _, rfl, Kp.refl _, [], hf8, .nil⟩ (fun _ _ _ _ _ => trivial) (fun i x σ' H9 H9' hi h hy => ?_) (fun σ' H9 h => ?_)⟩
  · obtain ⟨u, rw, rfl, kp9, ys, hf9, ty9⟩ := h
    obtain ⟨rfl, hx⟩ := hy
    rw [List.length_map, List.length_range] at hi
    have ex : x = nV i := by
      rw [List.getElem?_map, List.getElem?_range hi] at hx
      exact (Option.some.inj hx).symm
    subst ex
    have hD9 := kp9 _ _ (fun z => nfD z.symm) hD8
    have hb9 := kp9 _ _ nfb hb8
    have hd9 := kp9 _ _ nfd2 hd8
    refine ⟨_, rfl, _, rfl, D, _, rfl, .inl (SqL.of hD9), rfl, flat_nats _, !decide (i ∈ vals m), (show V.bl (!inV (nV i) ((vals m).map nV)) = _ by rw [inV_nats]), rdb (fun z1 => ?_) (fun z1 => ?_)⟩
    · have hns : i ∉ vals m := by simpa using z1
      have hst := rstep i
      rw [if_pos hns] at hst
      refine ⟨_, rfl, show (1 : Nat) ≤ sizeLine by decide, fun rp hrp => ?_⟩
      have er : Same H9' (upd H9' rp (.lst [nV i])) := same_new hrp _
      generalize hH10 : upd H9' rp (.lst [nV i]) = H10 at *
      have hr10 : H10 rp = some (.lst [nV i]) := by rw [← hH10]; exact upd_same
      have nrb : b ≠ rp := ne_of_none hb9 hrp
      have nrd : dd ≠ rp := ne_of_none hd9 hrp
      have nrf : fl ≠ rp := ne_of_none hf9 hrp
      refine while_by (fun σ' H' => σ' = [some (.ref t), some (.ref pl), some (.ref b), some (.ref dd), some (nV i), some (.ref fl), some (.ref D), some (.ref rp), none, none] ∧ Kp rp H10 H' ∧ ∃ pre x f, H' rp = some (.lst (pre.map nV ++ [nV x])) ∧ pre ++ chain m f x = chain m rs.length i ∧ rs.length ≤ x + f ∧ x < rs.length ∧ pre.length ≤ x)
        (fun _ H' => match H' rp with | some (.lst xs) => rs.length + 1 - xs.length | _ => 0) ⟨rfl, Kp.refl _, [], i, rs.length, hr10, rfl, by omega, by omega, Nat.zero_le _⟩ (fun σ' H' h => ?_) (fun σ H Q Q' hQ h => ?_)
      · obtain ⟨rfl, kp10, pre, x, f, hr, hch, hxf, hxn, hpl⟩ := h
        have hd10 := kp10 _ _ nrd (er _ _ hd9)
        have hb10 := kp10 _ _ nrb (er _ _ hb9)
        have hf10 := kp10 _ _ nrf (er _ _ hf9)
        refine ⟨_, rfl, 1, rfl, rp, _, -1, nV x, rfl, rfl, SqL.of hr, atI_last _ _, _, rfl, dd, (look m x).map nV, rfl, (show DGet _ dd (nV x) ((look m x).map nV) by have h := DGet.k (k := Sum.inl (x : Int)) hd10; rw [dkv_look] at h; exact h), _, rfl, rdb (fun z2 => ?_) (fun z2 => ?_)⟩
        · cases hl : look m x with
          | none => rw [hl] at z2; cases z2
          | some b' =>
            obtain ⟨hxb, _, hbn⟩ := gd4 x b' hl
            obtain ⟨f', rfl⟩ : ∃ f', f = f' + 1 := ⟨f - 1, by omega⟩
            rw [chain_some hl] at hch
            refine ⟨_, rfl, .inl ⟨rfl, _, SqL.of hr⟩, _, rfl, _, rfl, 1, rfl, rp, _, -1, nV x, rfl, rfl, SqL.of hr, atI_last _ _, dd, nV b', rfl, (show DGet _ dd (nV x) (some (nV b')) by have h := DGet.k (k := Sum.inl (x : Int)) hd10; rw [dkv_look, hl] at h; exact h), rp, _, nV b', rfl, rfl, hr, small _ (by rw [List.length_append, List.length_map, List.length_singleton]; omega), ?_⟩
            refine ⟨⟨rfl, kp10.trans Kp.upd, pre ++ [x], b', f', ?_, ?_, by omega, hbn, ?_⟩, ?_⟩
            · rw [upd_same, List.map_append]; rfl
            · rw [List.append_assoc]; exact hch
            · rw [List.length_append, List.length_singleton]; omega
            · rw [hr, upd_same]
              show rs.length + 1 - (pre.map nV ++ [nV x] ++ [nV b']).length < rs.length + 1 - (pre.map nV ++ [nV x]).length
              rw [List.length_append, List.length_append, List.length_map, List.length_singleton, List.length_singleton]
              omega
        · cases hl : look m x with
          | some b' => rw [hl] at z2; cases z2
          | none =>
            have hce : chain m f x = [x] := by
              cases f with
              | zero => rfl
              | succ f' => exact chain_none hl
            rw [hce] at hch
            have hrl : H' rp = some (.lst ((chain m rs.length i).map nV)) := by rw [hr, ← hch, List.map_append]; rfl
            have hclen : (chain m rs.length i).length ≤ rs.length := by rw [← hch, List.length_append, List.length_singleton]; omega
            have hclt : ∀ j ∈ chain m rs.length i, j < rs.length := fun j hj => chain_lt (fun e b h => (gd4 e b h).2.2) (by omega) hj
            refine ⟨_, rfl, .inl ⟨rfl, _, SqL.of hf10⟩, _, rfl, rp, rfl, ⟨_, SqL.of hrl⟩, fun D2 nD2 => lc_map walk_list (fun x => match x with | .int i => nV (o.getD i.toNat 0) | _ => .non) nD2 (small _ (by rw [List.length_map]; omega)) (fun H' e => (Gr.of e).sqL (SqL.of hrl)) (fun _ => rfl) (fun k x H'' hx e R hR => ?_) fun H12 e12 hD12 => ?_⟩
            · rw [List.getElem?_map] at hx
              obtain ⟨j, hj, rfl⟩ := Option.map_eq_some_iff.mp hx
              have hjn := hclt j (List.mem_of_getElem? hj)
              exact ⟨_, rfl, _, rfl, b, _, _, _, rfl, rfl, SqL.of (e _ _ hb10), atI_nat (getD_nV (by omega)), hR _ (Same.refl _)⟩
            · have hD12' : H12 D2 = some (.lst (((chain m rs.length i).map fun i => o.getD i 0).map nV)) := by rw [hD12, List.map_map, List.map_map]; rfl
              refine rd_tup (.inl (SqL.of hD12')) fun q0 H13 e13 hq0 => ?_
              have s13 : Same H' H13 := e12.trans e13
              have hf13 := s13 _ _ hf10
              have hyl := ty9.len
              have hrl2 := rlen i
              refine ⟨fl, ys, .ref q0, rfl, rfl, hf13, small _ (by omega), _, _, rfl, ?_, ys ++ [.ref q0], upd_same, ?_⟩
              · intro c ob hc hob
                rw [upd_ne hc]
                have h9 := kp9 c ob hc hob
                exact s13 _ _ (kp10 c ob (ne_of_none h9 hrp) (er _ _ h9))
              · rw [hst]
                have tyA : Tps K H13 ys (rw_ i) := ((Kp.tps kp10 hr10 notSeq_lst (ty9.gr (Gr.of er))).gr (Gr.of s13))
                exact Tps.updL hf13 (tyA.app (Tps.one hq0))
      · obtain ⟨v, e1, i0, e2, p0, xs0, i1, v0, e3, e4, e5, e6, v1, e7, a0, o0, e8, e9, c, e10, h⟩ := h
        exact ⟨v, e1, i0, e2, p0, xs0, i1, v0, e3, e4, e5, e6, v1, e7, a0, o0, e8, e9, c, e10, hQ _ _ h⟩
    · have hin : i ∈ vals m := by simpa using z1
      have hst := rstep i
      rw [if_neg (fun h => h hin), List.append_nil] at hst
      refine ⟨_, _, rfl, kp9, ys, hf9, ?_⟩
      rw [hst]
      exact ty9
  · obtain ⟨u, rw, rfl, kp9, ys, hf9, ty9⟩ := h
    have elen2 : ((List.range o.length).map nV).length = rs.length := by rw [List.length_map, List.length_range, On]
    rw [elen2] at ty9
    have s9 : Same H4 H9 := kp_new hfl s8 kp9
    refine ⟨_, rfl, q o fl ys H9 O (G4.trans (Gr.of s9)) ?_ hf9 ?_⟩
    · have s3 : Same H1 H4 := fun c ob hob => kp c ob (ne_of_none hob hdd) (et _ _ (ed _ _ hob))
      exact T1.ext (s3.trans s9)
    · unfold piecesOf rowsOf roots
      rw [hm, List.map_map]
      exact ty9
end
end Rs

set_option Elab.async false
set_option linter.all false
set_option maxRecDepth 100000
set_option maxHeartbeats 4000000
namespace Rs
open PySem PySem.Spec PyProof.Rows L2 He RsH LamX
section
variable {P : Program} {w : World} {K : PySem.W.Frag} {mg : Str → Option Value} {base : Heap} {h0 : Heap}
/-! ### crossing_rows -/
def OptL (H : Hp) (v : V) : Option (List Nat) → Prop
  | none => v = .non
  | some r => ∃ a, v = .ref a ∧ H a = some (.lst (r.map nV))
def spCr (K : PySem.W.Frag) (k : Nat) : Sp := fun vs H Q _ => ∃ (t pl rl : Addr) (rs : List (List Int)) (ps l : List Nat), vs = [.ref t, .ref pl, .ref rl, nV k] ∧ Told2 K H t pl rs ps ∧ SqL K H rl (l.map nV) ∧ (∀ i ∈ l, i < rs.length) ∧ l.length + k ≤ 4000 ∧
  ∀ v H', Same H H' → OptL H' v (crossRows (crs (below rs ps)) k l) → Q v H'
abbrev nR : List Str := ["table", "places", "rows", "many", "at", "one", "rest", "found", "other"]
theorem sc_crr : FnScope nR ["table", "places", "rows", "many"] (defScope (topS 32)) := ⟨rfl, rfl, rfl, by decide +kernel, rfl, by decide +kernel, by decide +kernel⟩
theorem fm_filter {β : Type} {g : Nat → Option β} {f : Nat → β} {p : Nat → Bool} (h : ∀ j, g j = if p j = true then some (f j) else none) : ∀ l : List Nat, l.filterMap g = (l.filter p).map f
  | [] => rfl
  | j :: l => by
    rw [List.filterMap_cons, List.filter_cons, h j]
    by_cases hp : p j = true
    · rw [if_pos hp, if_pos hp, List.map_cons, ← fm_filter h l]
    · rw [if_neg hp, if_neg hp, ← fm_filter h l]
theorem filter_fm {p : Nat → Bool} (l : List Nat) : ((l.map nV).filterMap fun x => match x with | .int j => if p j.toNat = true then some x else none | _ => none) = (l.filter p).map nV := by
  rw [List.filterMap_map]
  exact fm_filter (fun j => rfl) l
theorem crr_len (k : Nat) : ∀ vs H Q E, spCr K k vs H Q E → vs.length = ["table", "places", "rows", "many"].length := fun vs H Q E h => by
  obtain ⟨t, pl, rl, rs, ps, l, rfl, _⟩ := h
  rfl
theorem crr_body (T : Txt w K h0 mg) : ∀ (k j : Nat), k + 2 ≤ j → ∀ (cdv : Value) (A : Around) (outer : List Env) (s : Shared) (H : Hp) (vs : List V) (Q : VK) (E : XK), Room j (A.deeper (envOfC "crossing_rows" (defScope (topS 32)) s.heap.objs.size (ga K "crossing_rows") cdv)) → spCr K k vs H Q E →
    ∃ t, PSs (cxOf L2.CX0 P w K mg base nR "crossing_rows" (defScope (topS 32)) (ga K "crossing_rows") cdv A outer s H E).nox (defBody (topS 32)) t ∧ t { nx := fun _ H' => Q .non H', rt := Q } (start nR vs) H
  | 0, j, hj, cdv, A, outer, s, H, vs, Q, E, hr, h => by
    obtain ⟨t, pl, rl, rs, ps, l, rfl, Td, hl, hin, hlen, q⟩ := h
    refine ⟨_, pss_cons (ps_if (pt_cmpR op_eq (pv 3) pe_int (nomark _)) (pss_one (ps_ret (pe_lst pa_nil))) pss_nil) pss_never, ?_⟩
    refine ⟨_, rfl, rfl, true, rfl, iteT ⟨show (0 : Nat) ≤ sizeLine by decide, fun p hp => ?_⟩⟩
    exact q _ _ (same_new hp _) ⟨p, rfl, upd_same⟩
  | k + 1, j, hj, cdv, A, outer, s, H, vs, Q, E, hr, h => by
    obtain ⟨fd, F⟩ := T.f_crossing_rows
    have cC : Cal0 P w K mg base 2 "cross" (spCross K) := ok_cross T
    have cL : Cal0 P w K mg base (k + 3) "crossing_rows" (spCr K k) := cal_of F T.g_crossing_rows sc_crr (crr_len k) (fun _ _ _ _ _ _ us hl => match us, hl with | [_, _, _, _], _ => rfl) (crr_body T k (k + 2) (Nat.le_refl _))
    obtain ⟨t, pl, rl, rs, ps, l, rfl, Td, hl, hin, hlen, q⟩ := h
    refine ⟨_, pss_cons (ps_if (pt_cmpR op_eq (pv 3) pe_int (nomark _)) (pss_one (ps_ret (pe_lst pa_nil))) pss_nil)
      (pss_cons (ps_for PassesOwn.never rfl (pi_enum (by rfl) T.z_enumerate (pa_cons (pv 2) pa_nil)) (pg_tup rfl (pgs_cons (pg_name (i := 4) sc_crr.nd rfl (Or.inl rfl)) (pgs_cons (pg_name (i := 5) sc_crr.nd rfl (Or.inr rfl)) pgs_nil)))
        (pss_cons (ps_setLc (i := 6) (own := [("other", 8)]) (g := gName 8) (tt := tB (tCall (spCross K) [] E0 (tCons (tVar 0) (tCons (tVar 5) (tCons (tVar 8) (tCons (tVar 1) tNil)))))) (te := tVar 8) rfl sc_crr.nd rfl rfl (by rfl) (pi_list (pe_slice sl_list (pv 2) (po_some (pe_op op_add (pv 4) pe_int)) po_none)) (blkOk_by (N := nR) (sc := defScope (topS 32)) (by decide +kernel))
            (fun _ _ _ _ _ => pg_name (i := 8) sc_crr.nd rfl (Or.inl rfl)) (fun _ _ _ _ _ => pts_one (pt_val (C8.pe_c cC hr (by omega) (by rfl) (pa_cons (pv 0) (pa_cons (pv 5) (pa_cons (pv 8) (pa_cons (pv 1) pa_nil))))))) (fun _ _ _ _ _ => pv 8))
        (pss_cons (ps_set (i := 7) sc_crr.nd rfl (Or.inl rfl) (C8.pe_c cL hr (by omega) (by rfl) (pa_cons (pv 0) (pa_cons (pv 1) (pa_cons (pv 6) (pa_cons (pe_op op_sub (pv 3) pe_int) pa_nil))))))
        (pss_one (ps_if (pt_cmpR op_notN (pv 7) pe_non (nomark _)) (pss_one (ps_ret (pe_lst (pa_cons (pv 5) (StX.pa_star (pv 7) pa_nil))))) pss_nil)))))
      (pss_one (ps_ret pe_non))), ?_⟩
    refine ⟨_, rfl, rfl, false, ?_, iteF ?_⟩
    · exact congrArg V.bl (decide_eq_false fun z => by have z2 := V.int.inj z; omega)
    refine ⟨_, rfl, rl, _, rfl, hl, for_it (walk_enum (xs := l.map nV)) (fun i σ' H' => ∃ u v a b, σ' = [some (.ref t), some (.ref pl), some (.ref rl), some (nV (k + 1)), u, v, a, b, none] ∧ Same H H' ∧ crossL (crossRows (crs (below rs ps)) k) (crs (below rs ps)) (l.drop i) = crossRows (crs (below rs ps)) (k + 1) l) ⟨none, none, none, none, rfl, Same.refl _, rfl⟩ (fun i σ' H' _ h => ?_) (fun i x σ' H1 H2 hi h hy => ?_) (fun σ' H' h => ?_)⟩
    · obtain ⟨u, v, a, b, rfl, e, _⟩ := h
      exact (Gr.of e).sqL hl
    · obtain ⟨u, v, a, b, rfl, e, he⟩ := h
      obtain ⟨Tp, x1, x2, rfl, nT, rfl, y1, y2⟩ := hy
      cases y1
      have y2 : (l.map nV)[i]? = some x2 := y2
      rw [List.getElem?_map] at y2
      obtain ⟨one, hone, rfl⟩ := Option.map_eq_some_iff.mp y2
      obtain ⟨hil, hione⟩ := List.getElem?_eq_some_iff.mp hone
      have edrop : l.drop i = one :: l.drop (i + 1) := by rw [List.drop_eq_getElem_cons hil, hione]
      rw [edrop] at he
      unfold crossL at he
      have hon := hin one (List.mem_of_getElem? hone)
      have e2 : Same H1 (upd H1 Tp (.tup [.int (i : Nat), nV one])) := same_new nT _
      generalize hH3 : upd H1 Tp (.tup [.int (i : Nat), nV one]) = H3 at *
      have E3 := e.trans e2
      refine rd_g2 (SqT.of (by rw [← hH3]; exact upd_same)) ?_
      refine ⟨_, rfl, _, rfl, _, _, rfl, rfl, _, rfl, ?_⟩
      unfold tNoPart
      have hcut : cutV (l.map nV) (some ((i : Int) + 1)) none = (l.drop (i + 1)).map nV := by
        have h := cut_from (l.map nV) (i + 1)
        rw [← List.map_drop] at h
        exact h
      refine rd_slL ((Gr.of E3).sqL hl) hcut fun c H4 nc e4 hc => ⟨c, rfl, ⟨_, SqL.of hc⟩, fun D nD => lc_vals walk_list (fun x => match x with | .int j => if crs (below rs ps) one j.toNat = true then some x else none | _ => none) nD (small _ (by rw [List.length_map, List.length_drop]; omega)) (fun H' e => (Gr.of e).sqL (SqL.of hc)) (fun _ => rfl) (fun kk x H' hx e R hR => ?_) fun H5 e5 hD5 => ?_⟩
      · rw [List.getElem?_map] at hx
        obtain ⟨j, hj, rfl⟩ := Option.map_eq_some_iff.mp hx
        have hjm : j ∈ l := List.mem_of_mem_drop (List.mem_of_getElem? hj)
        refine ⟨_, rfl, _, rfl, _, rfl, _, rfl, t, pl, rs, ps, one, j, rfl, Td.gr (Gr.of (E3.trans (e4.trans e))), hon, hin j hjm, fun H'' e'' => ⟨_, rfl, ?_⟩⟩
        have hr2 := hR H'' e''
        refine rdb (fun z => ⟨_, rfl, ?_⟩) (fun z => ?_)
        · have e3 : (if crs (below rs ps) one ((j : Int)).toNat = true then some (nV j) else none) = some (nV j) := if_pos z
          exact (congrArg (fun r => R r H'') e3).mp hr2
        · have e3 : (if crs (below rs ps) one ((j : Int)).toNat = true then some (nV j) else none) = none := if_neg (by rw [Int.toNat_natCast, z]; decide)
          exact (congrArg (fun r => R r H'') e3).mp hr2
      rw [filter_fm] at hD5
      have E5 := E3.trans (e4.trans e5)
      have hfl := List.length_filter_le (crs (below rs ps) one) (l.drop (i + 1))
      rw [List.length_drop] at hfl
      refine ⟨_, rfl, _, rfl, _, rfl, _, rfl, _, _, rfl, rfl, t, pl, D, rs, ps, (l.drop (i + 1)).filter (crs (below rs ps) one), ?_, Td.gr (Gr.of E5), SqL.of hD5, fun j hj => hin j (List.mem_of_mem_drop (List.mem_filter.mp hj).1), by omega, fun v H6 e6 o6 => ?_⟩
      · show [V.ref t, V.ref pl, V.ref D, V.int (((k + 1 : Nat) : Int) - 1)] = [V.ref t, V.ref pl, V.ref D, nV k]
        have : (((k + 1 : Nat) : Int) - 1) = (k : Int) := by omega
        rw [this]
        rfl
      have E6 := E5.trans e6
      cases hc2 : crossRows (crs (below rs ps)) k ((l.drop (i + 1)).filter (crs (below rs ps) one)) with
      | none =>
        rw [hc2] at o6 he
        dsimp only at he
        have hv : v = .non := o6
        subst hv
        exact ⟨_, rfl, rfl, false, rfl, iteF ⟨_, _, _, _, rfl, E6, he⟩⟩
      | some r =>
        rw [hc2] at o6 he
        dsimp only at he
        obtain ⟨a6, rfl, h6⟩ := o6
        have hrl : r.length = k := ((crossRows_right k _).1 r hc2).2.1
        refine ⟨_, rfl, rfl, true, rfl, iteT ⟨_, rfl, _, rfl, a6, _, rfl, .inr (SqL.of h6), ?_, fun p hp => ?_⟩⟩
        · show (nV one :: (r.map nV ++ [])).length ≤ sizeLine
          rw [List.append_nil, List.length_cons, List.length_map]
          exact Nat.le_of_lt (small _ (by omega))
        · refine q _ _ (E6.trans (same_new hp _)) ?_
          rw [← he]
          refine ⟨p, rfl, ?_⟩
          rw [upd_same, List.append_nil]
          rfl
    · obtain ⟨u, v, a, b, rfl, e, he⟩ := h
      rw [List.drop_of_length_le (by rw [List.length_map]; exact Nat.le_refl _)] at he
      unfold crossL at he
      exact q _ _ e (by rw [← he]; rfl)
/-- for any number of rows up to 10 -/
def spCrA (K : PySem.W.Frag) : Sp := fun vs H Q E => ∃ k, k ≤ 10 ∧ spCr K k vs H Q E
theorem ok_crA (T : Txt w K h0 mg) : Cal0 P w K mg base 13 "crossing_rows" (spCrA K) := by
  obtain ⟨fd, F⟩ := T.f_crossing_rows
  refine cal_of F T.g_crossing_rows sc_crr (fun vs H Q E h => ?_) (fun _ _ _ _ _ _ us hl => match us, hl with | [_, _, _, _], _ => rfl) (fun cdv A outer s H vs Q E hr h => ?_)
  · obtain ⟨k, _, h⟩ := h
    exact crr_len k vs H Q E h
  · obtain ⟨k, hk, h⟩ := h
    exact crr_body T k 12 (by omega) cdv A outer s H vs Q E hr h
/-! ### cut_rising, fewest_rising -/
theorem rgV_nats (n : Nat) : rgV 0 (n : Int) = (List.range n).map nV := by
  unfold rgV
  rw [show ((n : Int) - 0).toNat = n by omega]
  refine List.map_congr_left fun i _ => ?_
  show V.int (0 + (i : Int)) = V.int (i : Int)
  rw [Int.zero_add]
def spCut (K : PySem.W.Frag) : Sp := fun vs H Q _ => ∃ (t pl : Addr) (rs : List (List Int)) (ps : List Nat), vs = [.ref t, .ref pl] ∧ Told2 K H t pl rs ps ∧ Tabs (Tl K) H ∧
  ∀ (o r : List Nat) (a : Addr) (H' : Hp), Ord (below rs ps) rs.length o → Gr H H' → Tabs (Tl K) H' → crossRows (crs (below rs ps)) (piecesOf (below rs ps) 11 rs.length o).length (List.range rs.length) = some r → SenAt K H' a (piecesOf (below rs ps) 11 rs.length o) r → Q (.ref a) H'
theorem sc_cut : FnScope ["table", "places", "pieces"] ["table", "places"] (defScope (topS 33)) := ⟨rfl, rfl, rfl, by decide +kernel, rfl, by decide +kernel, by decide +kernel⟩
theorem pieces_few {W : Nat → Nat → Bool} {n : Nat} {o : List Nat} (O : Ord W n o) (hn : n ≤ 10) : (piecesOf W 11 n o).length ≤ n := by
  unfold piecesOf rowsOf roots
  rw [List.length_map, List.length_map]
  have := List.length_filter_le (fun t => decide (t ∉ vals (kuhn (posB W o) 11 n))) (List.range n)
  rw [List.length_range] at this
  exact this
theorem ok_cut (B : TxtB w K h0 mg base) : Cal0 P w K mg base 15 "cut_rising" (spCut K) := by
  have T := B.t
  obtain ⟨fd, F⟩ := T.f_cut_rising
  have c1 : Cal0 P w K mg base 4 "check_told" (spTold K) := ok_told T
  have cP : Cal0 P w K mg base 14 "pieces_of" (spPieces K) := ok_pieces B
  have cR : Cal0 P w K mg base 13 "crossing_rows" (spCrA K) := ok_crA T
  have mS : Mak0 P w K mg base 1 "Risen" (spSin K) := ok_sin T
  have mT : Met0 P w K mg base 1 "Table" "__len__" (spTlen K) := ok_tlen T
  refine cal_of F T.g_cut_rising sc_cut (fun vs H Q E h => ?_) (fun _ _ _ _ _ _ us hl => match us, hl with | [_, _], _ => rfl) (fun cdv A outer s H vs Q E hr h => ?_)
  · obtain ⟨t, pl, rs, ps, rfl, _⟩ := h
    rfl
  obtain ⟨t, pl, rs, ps, rfl, Td, hT, q⟩ := h
  refine ⟨_, pss_cons (ps_expr (C8.pe_c c1 hr (by decide) (by rfl) (pa_cons (pv 0) (pa_cons (pv 1) pa_nil))))
    (pss_cons (ps_set (i := 2) sc_cut.nd rfl (Or.inl rfl) (C8.pe_c cP hr (by decide) (by rfl) (pa_cons (pv 0) (pa_cons (pv 1) pa_nil))))
    (pss_one (ps_ret (C8.pe_mk mS hr (by decide) (by rfl) (pa_cons (pv 2) (pa_cons (C8.pe_c cR hr (by decide) (by rfl) (pa_cons (pv 0) (pa_cons (pv 1) (pa_cons (pe_listRg rfl (by rfl) T.z_list (prg_1 (by rfl) T.z_range (pe_callB (len_o mT hr (by decide)) (by rfl) T.z_len (by decide +kernel) (pa_cons (pv 0) pa_nil))))
      (pa_cons (pe_callB call_len_seq (by rfl) T.z_len (by decide +kernel) (pa_cons (pv 2) pa_nil)) pa_nil))))) pa_nil)))))), ?_⟩
  refine ⟨_, rfl, _, rfl, t, pl, rs, ps, rfl, Td, fun H1 e1 => ?_⟩
  have Td1 := Td.gr (Gr.of e1)
  refine ⟨_, rfl, _, rfl, t, pl, rs, ps, rfl, Td1, hT.ext e1, fun o fl ys H2 O g2 T2 hf ty => ?_⟩
  have Td2 := Td1.gr g2
  have n10 := Td.sh.n10
  obtain ⟨dtb, tr, xt, k1, k2, k3⟩ := id Td2.tab
  have fewp := pieces_few O n10
  have hyl := ty.len
  refine ⟨_, rfl, _, rfl, _, rfl, _, rfl, t, dtb, _, rfl, k1, t, rs, rfl, Td2.tab, _, rfl, by omega, by omega, _, rfl, ⟨by omega, by omega, by omega⟩, fun rp hrp => ?_⟩
  have e3 : Same H2 (upd H2 rp (.lst (rgV 0 (rs.length : Int)))) := same_new hrp _
  have M := pieces_most O (show rs.length < 11 by omega) below_trans
  obtain ⟨l, m1, m2, m3⟩ := M.has
  have hsome := (crossRows_right _ (List.range rs.length)).2 l m1 m2 m3
  obtain ⟨r, hr2⟩ := Option.isSome_iff_exists.mp hsome
  refine ⟨_, rfl, fl, ys, rfl, .inl (SqL.of (e3 _ _ hf)), (piecesOf (below rs ps) 11 rs.length o).length, by omega, t, pl, rp, rs, ps, List.range rs.length, by rw [hyl]; rfl, Td2.gr (Gr.of e3), SqL.of (by rw [upd_same, rgV_nats]), fun i hi => List.mem_range.mp hi, by rw [List.length_range]; omega, fun v H4 e4 o4 => ?_⟩
  rw [hr2] at o4
  obtain ⟨a4, rfl, h4⟩ := o4
  have E4 := e3.trans e4
  intro x dx nx nd ne
  have n2 : Same H4 (upd (upd H4 dx (.own x)) x (.ins (ga K "Risen") dx [])) := new2 nx nd
  refine ⟨x, fl, a4, dx, ys, _, r, rfl, upd_same, SqL.of (n2 _ _ (E4 _ _ hf)), (ty.gr (Gr.of (E4.trans n2))).its, by omega, .inl (SqL.of (n2 _ _ h4)), fun H5 k5 h5 _ => ⟨rfl, ?_⟩⟩
  have e5 := kp_same nx n2 k5
  exact q o r x H5 O ((Gr.of e1).trans (g2.trans (Gr.of (E4.trans e5)))) (T2.ext (E4.trans e5)) hr2 h5
def spFew (K : PySem.W.Frag) : Sp := fun vs H Q _ => ∃ (t pl : Addr) (rs : List (List Int)) (ps : List Nat), vs = [.ref t, .ref pl] ∧ Told2 K H t pl rs ps ∧ Tabs (Tl K) H ∧
  ∀ (o : List Nat) (H' : Hp), Ord (below rs ps) rs.length o → Gr H H' → Tabs (Tl K) H' → Q (nV (piecesOf (below rs ps) 11 rs.length o).length) H'
theorem sc_few : FnScope ["table", "places"] ["table", "places"] (defScope (topS 34)) := ⟨rfl, rfl, rfl, by decide +kernel, rfl, by decide +kernel, by decide +kernel⟩
theorem ok_few (B : TxtB w K h0 mg base) : Cal0 P w K mg base 15 "fewest_rising" (spFew K) := by
  have T := B.t
  obtain ⟨fd, F⟩ := T.f_fewest_rising
  have c1 : Cal0 P w K mg base 4 "check_told" (spTold K) := ok_told T
  have cP : Cal0 P w K mg base 14 "pieces_of" (spPieces K) := ok_pieces B
  refine cal_of F T.g_fewest_rising sc_few (fun vs H Q E h => ?_) (fun _ _ _ _ _ _ us hl => match us, hl with | [_, _], _ => rfl) (fun cdv A outer s H vs Q E hr h => ?_)
  · obtain ⟨t, pl, rs, ps, rfl, _⟩ := h
    rfl
  obtain ⟨t, pl, rs, ps, rfl, Td, hT, q⟩ := h
  refine ⟨_, pss_cons (ps_expr (C8.pe_c c1 hr (by decide) (by rfl) (pa_cons (pv 0) (pa_cons (pv 1) pa_nil))))
    (pss_one (ps_ret (pe_callB call_len_seq (by rfl) T.z_len (by decide +kernel) (pa_cons (C8.pe_c cP hr (by decide) (by rfl) (pa_cons (pv 0) (pa_cons (pv 1) pa_nil))) pa_nil)))), ?_⟩
  refine ⟨_, rfl, _, rfl, t, pl, rs, ps, rfl, Td, fun H1 e1 => ?_⟩
  have Td1 := Td.gr (Gr.of e1)
  refine ⟨_, rfl, _, rfl, t, pl, rs, ps, rfl, Td1, hT.ext e1, fun o fl ys H2 O g2 T2 hf ty => ?_⟩
  refine ⟨fl, ys, rfl, .inl (SqL.of hf), ?_⟩
  rw [ty.len]
  exact q o H2 O ((Gr.of e1).trans g2) T2
end
end Rs

set_option Elab.async false
set_option linter.all false
set_option maxRecDepth 100000
set_option maxHeartbeats 4000000
namespace Rs
open PySem PySem.Spec PyProof.Rows L2 He RsH LamX
/-! ### plain -/
def cellsL (ns : List Int) : List Int := if ns = [] then [7] else ns.take 60
def numL (ns : List Int) (k : Nat) : Int :=
  let c := (cellsL ns).getD (k % (cellsL ns).length) 0 + 31 * ((k / (cellsL ns).length : Nat) : Int)
  ((c % 1000003 + 977 * (k : Int) + 13) * 48271 + c / 1000003 % 999983) % 2147483647 * 65537 % 4294967291
theorem numL_lo (ns : List Int) (k : Nat) : 0 ≤ numL ns k := Int.emod_nonneg _ (by decide)
theorem numL_hi (ns : List Int) (k : Nat) : numL ns k < 4294967291 := Int.emod_lt_of_pos _ (by decide)
theorem cells_len (ns : List Int) : 1 ≤ (cellsL ns).length ∧ (cellsL ns).length ≤ 60 := by
  unfold cellsL
  by_cases h : ns = []
  · rw [if_pos h]; decide
  · rw [if_neg h, List.length_take]
    have : 1 ≤ ns.length := List.length_pos_iff.mpr h
    omega
def di (l : List Int) : List PyData := l.map PyData.int
section
variable {K : PySem.W.Frag} {H : Hp}
theorem dp_ints : ∀ (l : List Int), DpAll K H (l.map V.int) (di l)
  | [] => .nil
  | i :: l => .cons (.int _) (dp_ints l)
end
theorem lay_ints : ∀ (l : List Int), PyData.canLayAll0 (di l) = true ∧ PyData.depthAll (di l) = 0
  | [] => ⟨rfl, rfl⟩
  | i :: l => by
    obtain ⟨h1, h2⟩ := lay_ints l
    refine ⟨?_, ?_⟩
    · show (PyData.canLay0 (.int i) && PyData.canLayAll0 (di l)) = true
      rw [h1]
      rfl
    · show max (PyData.depth (.int i)) (PyData.depthAll (di l)) = 0
      rw [h2]
      rfl
theorem sh_ints (l : List Int) : SeqAt.shaped (.list (di l)) = true := by
  obtain ⟨h3, h4⟩ := lay_ints l
  show (PyData.canLayAll0 (di l) && decide (PyData.depthAll (di l) + 1 ≤ 64)) = true
  rw [h3, h4]
  rfl
theorem eqv_ints : ∀ (l m : List Int), PyData.eqvAll (di l) (di m) = decide (l = m)
  | [], [] => by simp [di, PyData.eqvAll]
  | [], _ :: _ => by simp [di, PyData.eqvAll]
  | _ :: _, [] => by simp [di, PyData.eqvAll]
  | i :: l, j :: m => by
    show PyData.eqvAll (.int i :: di l) (.int j :: di m) = _
    rw [PyData.eqvAll, eqv_ints l m]
    have e : PyData.eqv (.int i) (.int j) = decide (i = j) := by
      rw [PyData.eqv, Bool.eq_iff_iff, beq_iff_eq, decide_eq_true_iff]
    rw [e, Bool.eq_iff_iff]
    simp
section
variable {P : Program} {w : World} {K : PySem.W.Frag} {mg : Str → Option Value} {base : Heap} {h0 : Heap}
def spLn (K : PySem.W.Frag) : Sp := fun vs H Q _ => ∃ (a : Addr) (ns : List Int) (k : Nat), vs = [.ref a, nV k] ∧ SqL K H a (ns.map V.int) ∧ ns.length ≤ 63 ∧ k ≤ 1000 ∧ ∀ H', Same H H' → Q (.int (numL ns k)) H'
abbrev nN : List Str := ["_law_script", "_law_at", "_law_cells", "_law_cell", "_law_mixed"]
theorem sc_ln : FnScope nN ["_law_script", "_law_at"] (defScope (topS 36)) := ⟨rfl, rfl, rfl, by decide +kernel, rfl, by decide +kernel, by decide +kernel⟩
theorem ok_ln (T : Txt w K h0 mg) : Cal0 P w K mg base 1 "_law_number" (spLn K) := by
  obtain ⟨fd, F⟩ := T.f__law_number
  refine cal_of F T.g__law_number sc_ln (fun vs H Q E h => ?_) (fun _ _ _ _ _ _ us hl => match us, hl with | [_, _], _ => rfl) (fun cdv A outer s H vs Q E hr h => ?_)
  · obtain ⟨a, ns, k, rfl, _⟩ := h
    rfl
  obtain ⟨a, ns, k, rfl, hs, hl, hk, q⟩ := h
  refine ⟨_, pss_cons (ps_set (i := 2) sc_ln.nd rfl (Or.inl rfl) (pe_ifExp (pt_cmpR (op_neD hr.units) (pv 0) (pe_lst pa_nil) (nomark _)) (pe_slice sl_list (pv 0) po_none (po_some pe_int)) (pe_lst (pa_cons pe_int pa_nil))))
    (pss_cons (ps_set (i := 3) sc_ln.nd rfl (Or.inl rfl) (pe_op op_add (pe_ix ix_list (pv 2) (pe_op op_mod (pv 1) (pe_callB call_len_seq (by rfl) T.z_len (by decide +kernel) (pa_cons (pv 2) pa_nil))) (fun _ _ => rfl)) (pe_op op_mul pe_int (pe_op op_fdiv (pv 1) (pe_callB call_len_seq (by rfl) T.z_len (by decide +kernel) (pa_cons (pv 2) pa_nil))))))
    (pss_cons (ps_set (i := 4) sc_ln.nd rfl (Or.inl rfl) (pe_op op_add (pe_op op_mul (pe_op op_add (pe_op op_add (pe_op op_mod (pe_callTy call_int1 (by rfl) T.z_int (by decide +kernel) (pa_cons (pv 3) pa_nil)) pe_int) (pe_op op_mul pe_int (pv 1))) pe_int) pe_int) (pe_op op_mod (pe_callTy call_int1 (by rfl) T.z_int (by decide +kernel) (pa_cons (pe_op op_fdiv (pv 3) pe_int) pa_nil)) pe_int)))
    (pss_one (ps_ret (pe_op op_mod (pe_op op_mul (pe_op op_mod (pv 4) pe_int) pe_int) pe_int))))), ?_⟩
  by_cases hn : ns = []
  · refine ⟨_, rfl, show (0 : Nat) ≤ sizeLine by decide, fun p hp => ⟨.list (di ns), .list (di []), .lst ((Gr.of (same_new hp _)).sqL hs) (dp_ints ns), .lst (SqL.of upd_same) .nil, sh_ints _, sh_ints _, false, ?_, iteF ⟨show (1 : Nat) ≤ sizeLine by decide, fun c hcn => ?_⟩⟩⟩
    · rw [show V.bl (!PyData.eqv (.list (di ns)) (.list (di []))) = V.bl (!decide (ns = [])) by rw [PyData.eqv, eqv_ints], decide_eq_true hn]
      rfl
    have e1 : Same H (upd (upd H p (.lst [])) c (.lst [.int 7])) := (same_new hp _).trans (same_new hcn _)
    have hc : SqL K (upd (upd H p (.lst [])) c (.lst [.int 7])) c ((cellsL ns).map V.int) := by
      unfold cellsL
      rw [if_pos hn]
      exact SqL.of upd_same
    generalize upd (upd H p (.lst [])) c (.lst [.int 7]) = H1 at *
    obtain ⟨l1, l2⟩ := cells_len ns
    have el : ((cellsL ns).map V.int).length = (cellsL ns).length := List.length_map _
    have hix : atI ((cellsL ns).map V.int) ((k : Int) % (((cellsL ns).map V.int).length : Int)) = some (V.int ((cellsL ns).getD (k % (cellsL ns).length) 0)) := by
      rw [el, ← Int.natCast_emod]
      exact atI_nat (getD_at (Nat.mod_lt _ (by omega)))
    have hk1 : ((k / (cellsL ns).length : Nat) : Int) = (k : Int) / (((cellsL ns).map V.int).length : Int) := by rw [el]; exact Int.natCast_ediv _ _
    have hk2 : 0 ≤ (k : Int) / (((cellsL ns).map V.int).length : Int) ∧ (k : Int) / (((cellsL ns).map V.int).length : Int) ≤ 1000 := by
      rw [← hk1]
      have h := Nat.div_le_self k (cellsL ns).length
      generalize k / (cellsL ns).length = d at *
      omega
    refine ⟨_, rfl, _, rfl, _, rfl, c, _, rfl, .inl hc, _, _, rfl, rfl, by rw [el]; omega, c, _, _, _, rfl, rfl, hc, hix, _, rfl, _, rfl, c, _, rfl, .inl hc, _, _, rfl, rfl, ⟨by rw [el]; omega, by rw [el]; omega⟩, _, _, rfl, rfl, .inl ⟨by decide, by decide⟩, _, _, rfl, rfl, ?_⟩
    refine ⟨_, rfl, .inl ⟨_, rfl, _, _, rfl, rfl, show (0 : Int) < 1000003 by decide, _, rfl, _, _, rfl, rfl, .inl ⟨by decide, by decide⟩, _, _, rfl, rfl, _, _, rfl, rfl, _, _, rfl, rfl, .inr ⟨by decide, by decide⟩, _, rfl, _, _, rfl, rfl, ⟨by decide, by decide⟩, .inl ⟨_, rfl, _, _, rfl, rfl, show (0 : Int) < 999983 by decide, _, _, rfl, rfl, ?_⟩⟩⟩
    refine ⟨_, rfl, _, _, rfl, rfl, show (0 : Int) < 2147483647 by decide, _, _, rfl, rfl, .inr ⟨by decide, by decide⟩, _, _, rfl, rfl, show (0 : Int) < 4294967291 by decide, ?_⟩
    refine (congrArg (fun z => Q (V.int z) H1) ?_).mpr (q H1 e1)
    unfold numL
    rw [hk1]
  · refine ⟨_, rfl, show (0 : Nat) ≤ sizeLine by decide, fun p hp => ⟨.list (di ns), .list (di []), .lst ((Gr.of (same_new hp _)).sqL hs) (dp_ints ns), .lst (SqL.of upd_same) .nil, sh_ints _, sh_ints _, true, ?_, iteT ?_⟩⟩
    · rw [show V.bl (!PyData.eqv (.list (di ns)) (.list (di []))) = V.bl (!decide (ns = [])) by rw [PyData.eqv, eqv_ints], decide_eq_false hn]
      rfl
    have e0 : Same H (upd H p (.lst [])) := same_new hp _
    refine ⟨_, rfl, ?_⟩
    unfold tNoPart
    refine ⟨60, rfl, rd_slL ((Gr.of e0).sqL hs) (cut_to _ 60) fun c H1 nc e2 hc0 => ?_⟩
    have e1 := e0.trans e2
    have hc : SqL K H1 c ((cellsL ns).map V.int) := by
      unfold cellsL
      rw [if_neg hn, List.map_take]
      exact SqL.of hc0
    obtain ⟨l1, l2⟩ := cells_len ns
    have el : ((cellsL ns).map V.int).length = (cellsL ns).length := List.length_map _
    have hix : atI ((cellsL ns).map V.int) ((k : Int) % (((cellsL ns).map V.int).length : Int)) = some (V.int ((cellsL ns).getD (k % (cellsL ns).length) 0)) := by
      rw [el, ← Int.natCast_emod]
      exact atI_nat (getD_at (Nat.mod_lt _ (by omega)))
    have hk1 : ((k / (cellsL ns).length : Nat) : Int) = (k : Int) / (((cellsL ns).map V.int).length : Int) := by rw [el]; exact Int.natCast_ediv _ _
    have hk2 : 0 ≤ (k : Int) / (((cellsL ns).map V.int).length : Int) ∧ (k : Int) / (((cellsL ns).map V.int).length : Int) ≤ 1000 := by
      rw [← hk1]
      have h := Nat.div_le_self k (cellsL ns).length
      generalize k / (cellsL ns).length = d at *
      omega
    refine ⟨_, rfl, _, rfl, _, rfl, c, _, rfl, .inl hc, _, _, rfl, rfl, by rw [el]; omega, c, _, _, _, rfl, rfl, hc, hix, _, rfl, _, rfl, c, _, rfl, .inl hc, _, _, rfl, rfl, ⟨by rw [el]; omega, by rw [el]; omega⟩, _, _, rfl, rfl, .inl ⟨by decide, by decide⟩, _, _, rfl, rfl, ?_⟩
    refine ⟨_, rfl, .inl ⟨_, rfl, _, _, rfl, rfl, show (0 : Int) < 1000003 by decide, _, rfl, _, _, rfl, rfl, .inl ⟨by decide, by decide⟩, _, _, rfl, rfl, _, _, rfl, rfl, _, _, rfl, rfl, .inr ⟨by decide, by decide⟩, _, rfl, _, _, rfl, rfl, ⟨by decide, by decide⟩, .inl ⟨_, rfl, _, _, rfl, rfl, show (0 : Int) < 999983 by decide, _, _, rfl, rfl, ?_⟩⟩⟩
    refine ⟨_, rfl, _, _, rfl, rfl, show (0 : Int) < 2147483647 by decide, _, _, rfl, rfl, .inr ⟨by decide, by decide⟩, _, _, rfl, rfl, show (0 : Int) < 4294967291 by decide, ?_⟩
    refine (congrArg (fun z => Q (V.int z) H1) ?_).mpr (q H1 e1)
    unfold numL
    rw [hk1]
end
end Rs

set_option Elab.async false
set_option linter.all false
set_option maxRecDepth 100000
set_option maxHeartbeats 4000000
namespace Rs
open PySem PySem.Spec PyProof.Rows L2 He RsH LamX
def dr (rs : List (List Int)) : List PyData := rs.map fun r => PyData.tuple (di r)
theorem Rows.dp {K : PySem.W.Frag} {H : Hp} : ∀ {xs : List V} {rs : List (List Int)}, Rows K H xs rs → DpAll K H xs (dr rs)
  | _, _, .nil => .nil
  | _, _, .cons h t => .cons (.tup h (dp_ints _)) t.dp
theorem lay_rows : ∀ (l : List (List Int)), PyData.canLayAll0 (dr l) = true ∧ PyData.depthAll (dr l) ≤ 1
  | [] => ⟨rfl, Nat.zero_le _⟩
  | i :: l => by
    obtain ⟨h1, h2⟩ := lay_rows l
    obtain ⟨h3, h4⟩ := lay_ints i
    refine ⟨?_, ?_⟩
    · show (PyData.canLayAll0 (di i) && PyData.canLayAll0 (dr l)) = true
      rw [h1, h3]
      rfl
    · show max (PyData.depthAll (di i) + 1) (PyData.depthAll (dr l)) ≤ 1
      rw [h4]
      omega
theorem sh_rows (l : List (List Int)) : SeqAt.shaped (.list (dr l)) = true := by
  obtain ⟨h3, h4⟩ := lay_rows l
  show (PyData.canLayAll0 (dr l) && decide (PyData.depthAll (dr l) + 1 ≤ 64)) = true
  rw [h3, decide_eq_true (by omega)]
  rfl
theorem eqv_rows (l : List (List Int)) : PyData.eqv (.list (dr l)) (.list []) = decide (l = []) := by
  cases l with
  | nil => simp [dr, PyData.eqv, PyData.eqvAll]
  | cons i l => simp [dr, PyData.eqv, PyData.eqvAll]
theorem Rows.app {K : PySem.W.Frag} {H : Hp} : ∀ {xs ys : List V} {rs ss : List (List Int)}, Rows K H xs rs → Rows K H ys ss → Rows K H (xs ++ ys) (rs ++ ss)
  | _, _, _, _, .nil, t => t
  | _, _, _, _, .cons h r, t => .cons h (r.app t)
theorem Rows.updL {K : PySem.W.Frag} {H : Hp} {D : Addr} {zs acc : List V} (hD : H D = some (.lst zs)) : ∀ {xs : List V} {rs : List (List Int)}, Rows K H xs rs → Rows K (upd H D (.lst acc)) xs rs
  | _, _, .nil => .nil
  | _, _, .cons h t => .cons (SqT.updL hD h) (Rows.updL hD t)
section
variable {P : Program} {w : World} {K : PySem.W.Frag} {mg : Str → Option Value} {base : Heap} {h0 : Heap}
/-! ### _law_rows -/
def spLr (K : PySem.W.Frag) : Sp := fun vs H Q _ => ∃ (a : Addr) (ns : List Int) (c v : Nat), vs = [.ref a, nV 1, nV 10, nV c, nV v] ∧ SqL K H a (ns.map V.int) ∧ ns.length ≤ 63 ∧ 1 ≤ c ∧ c ≤ 4 ∧ 1 ≤ v ∧ v ≤ 6 ∧
  ∀ (fl : Addr) (xs : List V) (rs : List (List Int)) (H' : Hp), Same H H' → H' fl = some (.lst xs) → Rows K H' xs rs → 1 ≤ rs.length → rs.length ≤ 10 → (∀ r ∈ rs, r.length = c ∧ ∀ z ∈ r, 0 ≤ z ∧ z ≤ 6) → Q (.ref fl) H'
abbrev nLr : List Str := ["_law_script", "_law_at", "_law_most", "_law_columns", "_law_values", "_law_many", "_law_found", "_law_row", "_law_drawn", "_law_new", "_law_place"]
theorem sc_lr : FnScope nLr ["_law_script", "_law_at", "_law_most", "_law_columns", "_law_values"] (defScope (topS 37)) := ⟨rfl, rfl, rfl, by decide +kernel, rfl, by decide +kernel, by decide +kernel⟩
abbrev rIntC : List V → Hp → VK → Prop := fun xs H Q => (∃ i, xs = [V.int i] ∧ Q (V.int i) H) ∨ ∃ k, xs = [V.bl k] ∧ Q (V.int (if k then 1 else 0)) H
theorem ok_lr (T : Txt w K h0 mg) : Cal0 P w K mg base 2 "_law_rows" (spLr K) := by
  obtain ⟨fd, F⟩ := T.f__law_rows
  have cN : Cal0 P w K mg base 1 "_law_number" (spLn K) := ok_ln T
  refine cal_of F T.g__law_rows sc_lr (fun vs H Q E h => ?_) (fun _ _ _ _ _ _ us hl => match us, hl with | [_, _, _, _, _], _ => rfl) (fun cdv A outer s H vs Q E hr h => ?_)
  · obtain ⟨a, ns, c, v, rfl, _⟩ := h
    rfl
  obtain ⟨a, ns, c, v, rfl, hs, hl, c1, c4, v1, v6, q⟩ := h
  refine ⟨_, pss_cons (ps_par (i := 5) (j := 6) rfl sc_lr.nd rfl rfl (by decide) rfl rfl (pa_cons (pe_op op_add pe_int (pe_op op_mod (pe_callTy call_int1 (by rfl) T.z_int (by decide +kernel) (pa_cons (C8.pe_c cN hr (by decide) (by rfl) (pa_cons (pv 0) (pa_cons (pv 1) pa_nil))) pa_nil)) (pv 2))) (pa_cons (pe_lst pa_nil) pa_nil)) (by rfl))
    (pss_cons (ps_for PassesOwn.never rfl (pi_range1 (by rfl) T.z_range (pa_cons (pv 5) pa_nil)) (pg_name (i := 7) sc_lr.nd rfl (Or.inr rfl))
      (pss_cons (ps_set (i := 8) sc_lr.nd rfl (Or.inr rfl) (pe_lc (own := [("_law_place", 10)]) (g := gName 10) (tt := tYes) (te := tCB rIntC (tCons (tCall (spLn K) [] E0 (tCons (tVar 0) (tCons (tOp (rI0 fun i j => .int (i + j)) (tOp (rI0 fun i j => .int (i + j)) (tOp (rI0 fun i j => .int (i + j)) (tVar 1) (tC (.int 1))) (tOp (rI CMul fun i j => .int (i * j)) (tVar 7) (tC (.int 5)))) (tVar 10)) tNil))) tNil)) rfl sc_lr.nd
          (pi_range1 (by rfl) T.z_range (pa_cons (pe_op op_add (pv 3) pe_int) pa_nil)) (blkOk_by (N := nLr) (sc := defScope (topS 37)) (by decide +kernel)) (fun _ _ _ _ _ => pg_name (i := 10) sc_lr.nd rfl (Or.inl rfl)) (fun _ _ _ _ _ => pts_nil)
          (fun _ _ _ _ _ => pe_callTy call_int1 (by rfl) T.z_int (by decide +kernel) (pa_cons (C8.pe_c cN hr (by decide) (by rfl) (pa_cons (pv 0) (pa_cons (pe_op op_add (pe_op op_add (pe_op op_add (pv 1) pe_int) (pe_op op_mul (pv 7) pe_int)) (pv 10)) pa_nil))) pa_nil))))
      (pss_cons (ps_set (i := 9) sc_lr.nd rfl (Or.inl rfl) (pe_tupleOf (by rfl) T.z_tuple (pe_lc (own := [("_law_place", 10)]) (g := gName 10) (tt := tYes) (te := tOp (rI (fun _ j => 0 < j) fun i j => .int (i % j)) (tOp (rIxL K) (tVar 8) (tVar 10)) (tVar 4)) rfl sc_lr.nd
          (pi_range1 (by rfl) T.z_range (pa_cons (pv 3) pa_nil)) (blkOk_by (N := nLr) (sc := defScope (topS 37)) (by decide +kernel)) (fun _ _ _ _ _ => pg_name (i := 10) sc_lr.nd rfl (Or.inl rfl)) (fun _ _ _ _ _ => pts_nil)
          (fun _ _ _ _ _ => pe_op op_mod (pe_ix ix_list (pv 8) (pv 10) (fun _ _ => rfl)) (pv 4)))))
      (pss_one (ps_expr (pe_bm PySem.F.plainAttrs_list PySem.F.slot_list_append PySem.F.type_list_append mt_append (pv 6) (pa_cons (pe_ifExp (PW.pt (pw_and (pt_cmpR (op_neD hr.units) (pv 6) (pe_lst pa_nil) (nomark _)) (pw_and1 (pt_cmpR op_eq (pe_op op_mod (pe_ix ix_list (pv 8) (pv 3) (fun _ _ => rfl)) pe_int) pe_int (nomark _)))))
          (pe_ix ix_list (pv 6) (pe_op op_mod (pe_ix ix_list (pv 8) (pv 3) (fun _ _ => rfl)) (pe_callB call_len_seq (by rfl) T.z_len (by decide +kernel) (pa_cons (pv 6) pa_nil))) (fun _ _ => rfl)) (pv 9)) pa_nil)))))))
    (pss_one (ps_ret (pv 6)))), ?_⟩
  have m0 := Int.emod_nonneg (numL ns 1) (show (10 : Int) ≠ 0 by decide)
  have m1 := Int.emod_lt_of_pos (numL ns 1) (show (0 : Int) < 10 by decide)
  refine ⟨_, rfl, _, rfl, a, ns, 1, rfl, hs, hl, by omega, fun H1 e1 => .inl ⟨_, rfl, _, rfl, _, _, rfl, rfl, show (0 : Int) < 10 by decide, _, _, rfl, rfl, show (0 : Nat) ≤ sizeLine by decide, fun fl hfl => ⟨_, _, rfl, ?_⟩⟩⟩
  have e2 : Same H1 (upd H1 fl (.lst [])) := same_new hfl _
  generalize hH2 : upd H1 fl (.lst []) = H2 at *
  have hf2 : H2 fl = some (.lst []) := by rw [← hH2]; exact upd_same
  have hs2 := (Gr.of (e1.trans e2)).sqL hs
  refine ⟨_, rfl, _, rfl, by omega, by omega, for_it (walk_rangeA (xs := (List.range (1 + numL ns 1 % 10).toNat).map nV) rfl) (fun i σ' H' => ∃ u1 u2 u3, σ' = [some (.ref a), some (nV 1), some (nV 10), some (nV c), some (nV v), some (.int (1 + numL ns 1 % 10)), some (.ref fl), u1, u2, u3, none] ∧ Kp fl H2 H' ∧
    ∃ xs rs, H' fl = some (.lst xs) ∧ Rows K H' xs rs ∧ rs.length = i ∧ ∀ r ∈ rs, r.length = c ∧ ∀ z ∈ r, 0 ≤ z ∧ z ≤ 6) ⟨none, none, none, rfl, Kp.refl _, [], [], hf2, .nil, rfl, fun r hr => by cases hr⟩ (fun _ _ _ _ _ => trivial) (fun i x σ' H3 H3' hi h hy => ?_) (fun σ' H3 h => ?_)⟩
  · obtain ⟨u1, u2, u3, rfl, kp, xs, rs, hf3, hR3, hrl, hrs⟩ := h
    obtain ⟨rfl, hx⟩ := hy
    rw [List.length_map, List.length_range] at hi
    have ex : x = nV i := by
      rw [List.getElem?_map, List.getElem?_range hi] at hx
      exact (Option.some.inj hx).symm
    subst ex
    have hi10 : i < 10 := by omega
    have hsK : ∀ H', Same H3' H' → SqL K H' a (ns.map V.int) := fun H' e => by
      rcases hs with (h | ⟨ob, h⟩) | h
      · have h2 := e2 _ _ (e1 _ _ h)
        exact .inl (.inl (e _ _ (kp _ _ (ne_of_none (e1 _ _ h) hfl) h2)))
      · have h2 := e2 _ _ (e1 _ _ h)
        exact .inl (.inr ⟨ob, e _ _ (kp _ _ (ne_of_none (e1 _ _ h) hfl) h2)⟩)
      · exact .inr h
    have hcast : ∀ p : Nat, ((1 : Int) + 1 + (i : Int) * 5 + (p : Int)) = ((1 + 1 + i * 5 + p : Nat) : Int) := fun p => by omega
    -- the numbers
    refine ⟨_, rfl, _, _, rfl, rfl, _, rfl, by omega, by omega, fun D nD => lc_map (walk_rangeA (xs := (List.range (c + 1)).map nV) rfl) (fun x => match x with | .int p => .int (numL ns (1 + 1 + i * 5 + p.toNat)) | _ => .non) nD (small _ (by rw [List.length_map, List.length_range]; omega)) (fun _ _ => trivial) (fun _ => rfl) (fun k x H' hx e R hR => ?_) fun H4 e4 hD4 => ?_⟩
    · rw [List.getElem?_map] at hx
      obtain ⟨p, hp, rfl⟩ := Option.map_eq_some_iff.mp hx
      have hp := List.mem_range.mp (List.mem_of_getElem? hp)
      exact ⟨_, rfl, _, rfl, _, _, rfl, rfl, _, rfl, _, _, rfl, rfl, .inr ⟨by decide, by decide⟩, _, _, rfl, rfl, _, rfl, _, _, rfl, rfl, a, ns, 1 + 1 + i * 5 + p, congrArg (fun z => [V.ref a, V.int z]) (hcast p), hsK H' e, hl, by omega, fun H'' e'' => .inl ⟨_, rfl, hR H'' e''⟩⟩
    have hD4' : H4 D = some (.lst (((List.range (c + 1)).map fun p => numL ns (1 + 1 + i * 5 + p)).map V.int)) := by rw [hD4, List.map_map, List.map_map]; rfl
    have hget : ∀ p, p < c + 1 → (((List.range (c + 1)).map fun p => numL ns (1 + 1 + i * 5 + p)).map V.int)[p]? = some (.int (numL ns (1 + 1 + i * 5 + p))) := fun p hp => by
      rw [List.getElem?_map, List.getElem?_map, List.getElem?_range hp]
      rfl
    -- the new row
    refine ⟨_, rfl, _, rfl, by omega, by omega, fun D2 nD2 => lc_map (walk_rangeA (xs := (List.range c).map nV) rfl) (fun x => match x with | .int p => .int (numL ns (1 + 1 + i * 5 + p.toNat) % (v : Int)) | _ => .non) nD2 (small _ (by rw [List.length_map, List.length_range]; omega)) (fun _ _ => trivial) (fun _ => rfl) (fun k x H' hx e R hR => ?_) fun H5 e5 hD5 => ?_⟩
    · rw [List.getElem?_map] at hx
      obtain ⟨p, hp, rfl⟩ := Option.map_eq_some_iff.mp hx
      have hp := List.mem_range.mp (List.mem_of_getElem? hp)
      exact ⟨_, rfl, _, rfl, D, _, _, _, rfl, rfl, SqL.of (e _ _ hD4'), atI_nat (hget p (by omega)), _, rfl, _, _, rfl, rfl, show (0 : Int) < (v : Int) by omega, hR _ (Same.refl _)⟩
    have hD5' : H5 D2 = some (.lst (((List.range c).map fun p => numL ns (1 + 1 + i * 5 + p) % (v : Int)).map V.int)) := by rw [hD5, List.map_map, List.map_map]; rfl
    refine rd_tup (.inl (SqL.of hD5')) fun q0 H6 e6 hq0 => ?_
    have E6 := e4.trans (e5.trans e6)
    have nr : ((List.range c).map fun p => numL ns (1 + 1 + i * 5 + p) % (v : Int)).length = c ∧ ∀ z ∈ ((List.range c).map fun p => numL ns (1 + 1 + i * 5 + p) % (v : Int)), 0 ≤ z ∧ z ≤ 6 := by
      refine ⟨by rw [List.length_map, List.length_range], fun z hz => ?_⟩
      obtain ⟨p, _, rfl⟩ := List.mem_map.mp hz
      have h1 := Int.emod_nonneg (numL ns (1 + 1 + i * 5 + p)) (show (v : Int) ≠ 0 by omega)
      have h2 := Int.emod_lt_of_pos (numL ns (1 + 1 + i * 5 + p)) (show (0 : Int) < (v : Int) by omega)
      omega
    generalize ((List.range c).map fun p => numL ns (1 + 1 + i * 5 + p) % (v : Int)) = r0 at *
    have hf6 := E6 _ _ hf3
    have hxl := hR3.len
    -- the row that is put in
    have fin : ∀ (H7 : Hp) (y : Addr) (r : List Int), Same H6 H7 → SqT K H7 y (r.map V.int) → (r.length = c ∧ ∀ z ∈ r, 0 ≤ z ∧ z ≤ 6) →
        (∃ u1 u2 u3, ([some (.ref a), some (nV 1), some (nV 10), some (nV c), some (nV v), some (.int (1 + numL ns 1 % 10)), some (.ref fl), some (nV i), some (.ref D), some (.ref q0), none] : L2.St) = [some (.ref a), some (nV 1), some (nV 10), some (nV c), some (nV v), some (.int (1 + numL ns 1 % 10)), some (.ref fl), u1, u2, u3, none] ∧ Kp fl H2 (upd H7 fl (.lst (xs ++ [.ref y]))) ∧
          ∃ xs' rs', (upd H7 fl (.lst (xs ++ [.ref y]))) fl = some (.lst xs') ∧ Rows K (upd H7 fl (.lst (xs ++ [.ref y]))) xs' rs' ∧ rs'.length = i + 1 ∧ ∀ r ∈ rs', r.length = c ∧ ∀ z ∈ r, 0 ≤ z ∧ z ≤ 6) := fun H7 y r e7 hy hr => by
      refine ⟨_, _, _, rfl, fun b ob hb hob => ?_, xs ++ [.ref y], rs ++ [r], upd_same, Rows.updL (e7 _ _ hf6) ((hR3.gr (Gr.of (E6.trans e7))).app (.cons hy .nil)), by rw [List.length_append, hrl]; rfl, fun r' hr' => ?_⟩
      · rw [upd_ne hb]
        exact e7 _ _ (E6 _ _ (kp b ob hb hob))
      · rcases List.mem_append.mp hr' with h | h
        · exact hrs r' h
        · rw [List.mem_singleton.mp h]
          exact hr
    refine ⟨_, rfl, .inl ⟨rfl, _, SqL.of hf6⟩, _, rfl, show (0 : Nat) ≤ sizeLine by decide, fun p hp => ?_⟩
    have e7 : Same H6 (upd H6 p (.lst [])) := same_new hp _
    refine ⟨.list (dr rs), .list [], .lst ((Gr.of e7).sqL (SqL.of hf6)) (Rows.dp (hR3.gr (Gr.of (E6.trans e7)))), .lst (SqL.of upd_same) .nil, sh_rows rs, rfl, !decide (rs = []), by rw [eqv_rows], rdb (fun z => ?_) (fun z => ?_)⟩
    · have hne : rs ≠ [] := by simpa using z
      have hrl1 : 1 ≤ rs.length := List.length_pos_iff.mpr hne
      have E7 := E6.trans e7
      have hDx := e7 _ _ (e6 _ _ (e5 _ _ hD4'))
      refine ⟨_, rfl, _, rfl, D, _, _, _, rfl, rfl, SqL.of hDx, atI_nat (hget c (by omega)), _, _, rfl, rfl, show (0 : Int) < 5 by decide, rfl, _, rfl, rdb (fun z2 => ?_) (fun z2 => ?_)⟩
      · have hmod : (numL ns (1 + 1 + i * 5 + c) % (xs.length : Int)) = ((numL ns (1 + 1 + i * 5 + c) % (xs.length : Int)).toNat : Int) := (Int.toNat_of_nonneg (Int.emod_nonneg _ (by omega))).symm
        have hlt : (numL ns (1 + 1 + i * 5 + c) % (xs.length : Int)).toNat < rs.length := by
          have := Int.emod_lt_of_pos (numL ns (1 + 1 + i * 5 + c)) (show (0 : Int) < (xs.length : Int) by omega)
          omega
        obtain ⟨y, hy1, hy2⟩ := (hR3.gr (Gr.of E7)).get hlt
        have hm : rs.getD (numL ns (1 + 1 + i * 5 + c) % (xs.length : Int)).toNat [] ∈ rs := by
          rw [List.getD_eq_getElem?_getD, List.getElem?_eq_getElem hlt]
          exact List.getElem_mem _
        refine ⟨_, rfl, _, rfl, _, rfl, D, _, _, _, rfl, rfl, SqL.of hDx, atI_nat (hget c (by omega)), _, rfl, fl, xs, rfl, .inl ((Gr.of e7).sqL (SqL.of hf6)), _, _, rfl, rfl, show (0 : Int) < (xs.length : Int) by omega, fl, xs, _, .ref y, rfl, rfl, (Gr.of e7).sqL (SqL.of hf6), (by rw [hmod]; exact atI_nat hy1), fl, xs, .ref y, rfl, rfl, e7 _ _ hf6, small _ (by omega), ?_⟩
        exact fin _ y _ e7 hy2 (hrs _ hm)
      · exact ⟨_, rfl, fl, xs, .ref q0, rfl, rfl, e7 _ _ hf6, small _ (by omega), fin _ q0 r0 e7 ((Gr.of e7).sqT hq0) nr⟩
    · exact iteF ⟨_, rfl, fl, xs, .ref q0, rfl, rfl, e7 _ _ hf6, small _ (by omega), fin _ q0 r0 e7 ((Gr.of e7).sqT hq0) nr⟩
  · obtain ⟨u1, u2, u3, rfl, kp, xs, rs, hf3, hR3, hrl, hrs⟩ := h
    rw [List.length_map, List.length_range] at hrl
    exact ⟨_, rfl, q fl xs rs H3 (e1.trans (kp_new hfl e2 kp)) hf3 hR3 (by omega) (by omega) hrs⟩
end
end Rs

set_option Elab.async false
set_option linter.all false
set_option maxRecDepth 100000
set_option maxHeartbeats 4000000
namespace Rs
open PySem PySem.Spec PyProof.Rows L2 He RsH LamX
section
variable {P : Program} {w : World} {K : PySem.W.Frag} {mg : Str → Option Value} {base : Heap} {h0 : Heap}
/-- tuple + tuple -/
theorem rd_cat {H : Hp} {Q : VK} {a b : Addr} {xs ys : List V} (ha : SqT K H a xs) (hb : SqT K H b ys) (hz : xs.length + ys.length ≤ 4000) (q : ∀ c H', Same H H' → SqT K H' c (xs ++ ys) → Q (.ref c) H') : rCatA K (.ref a) (.ref b) H Q := by
  refine ⟨a, b, xs, ys, rfl, rfl, ha, hb, Nat.le_of_lt (small _ hz), fun e => ?_, fun _ e => ?_, fun _ _ p hp => q p _ (same_new hp _) (SqT.of upd_same)⟩
  · refine q b H (Same.refl _) ?_
    rw [e]; exact hb
  · refine q a H (Same.refl _) ?_
    rw [e, List.append_nil]; exact ha
/-! ### _law_lots -/
def spLots (K : PySem.W.Frag) : Sp := fun vs H Q _ => ∃ n : Nat, vs = [nV n] ∧ n ≤ 10 ∧ ∀ (fl : Addr) (ys : List V) (H' : Hp), Same H H' → H' fl = some (.lst ys) → Tps K H' ys (lots n) → Q (.ref fl) H'
abbrev nLo : List Str := ["_law_many", "_law_found", "_law_at", "_law_lot"]
theorem sc_lots : FnScope nLo ["_law_many"] (defScope (topS 38)) := ⟨rfl, rfl, rfl, by decide +kernel, rfl, by decide +kernel, by decide +kernel⟩
theorem lots_mem_len {n : Nat} {l : List Nat} (h : l ∈ lots n) : l.length ≤ n := by
  have := (mem_lots.mp h).length_le
  rw [List.length_range] at this
  exact this
theorem ok_lots (T : Txt w K h0 mg) : Cal0 P w K mg base 1 "_law_lots" (spLots K) := by
  obtain ⟨fd, F⟩ := T.f__law_lots
  refine cal_of F T.g__law_lots sc_lots (fun vs H Q E h => ?_) (fun _ _ _ _ _ _ us hl => match us, hl with | [_], _ => rfl) (fun cdv A outer s H vs Q E hr h => ?_)
  · obtain ⟨n, rfl, _⟩ := h
    rfl
  obtain ⟨n, rfl, hn, q⟩ := h
  refine ⟨_, pss_cons (ps_set (i := 1) sc_lots.nd rfl (Or.inl rfl) (pe_lst (pa_cons (pe_tup pa_nil) pa_nil)))
    (pss_cons (ps_for PassesOwn.never rfl (pi_range1 (by rfl) T.z_range (pa_cons (pv 0) pa_nil)) (pg_name (i := 2) sc_lots.nd rfl (Or.inr rfl))
      (pss_one (ps_set (i := 1) sc_lots.nd rfl (Or.inl rfl) (pe_op op_cat (pv 1) (pe_lc (own := [("_law_lot", 3)]) (g := gName 3) (tt := tYes) (te := tOp (rCatA K) (tVar 3) (tTup (tCons (tVar 2) tNil))) rfl sc_lots.nd (pi_list (pv 1)) (blkOk_by (N := nLo) (sc := defScope (topS 38)) (by decide +kernel))
        (fun _ _ _ _ _ => pg_name (i := 3) sc_lots.nd rfl (Or.inl rfl)) (fun _ _ _ _ _ => pts_nil) (fun _ _ _ _ _ => pe_op op_catA (pv 3) (pe_tup (pa_cons (pv 2) pa_nil))))))))
    (pss_one (ps_ret (pv 1)))), ?_⟩
  refine ⟨show (0 : Nat) ≤ sizeLine by decide, fun p hp => ⟨show (1 : Nat) ≤ sizeLine by decide, fun f0 hf0 => ?_⟩⟩
  have e1 : Same H (upd (upd H p (.tup [])) f0 (.lst [.ref p])) := (same_new hp _).trans (same_new hf0 _)
  have hpf : p ≠ f0 := fun z => by rw [← z, upd_same] at hf0; cases hf0
  have t1 : Tps K (upd (upd H p (.tup [])) f0 (.lst [.ref p])) [.ref p] (lots 0) := .cons (SqT.of (by rw [upd_ne hpf, upd_same]; rfl)) .nil
  generalize hH1 : upd (upd H p (.tup [])) f0 (.lst [.ref p]) = H1 at *
  have hf1 : H1 f0 = some (.lst [.ref p]) := by rw [← hH1]; exact upd_same
  refine ⟨_, rfl, _, rfl, by omega, by omega, for_it (walk_rangeA (xs := (List.range n).map nV) rfl) (fun i σ' H' => ∃ u f ys, σ' = [some (nV n), some (.ref f), u, none] ∧ Same H1 H' ∧ H' f = some (.lst ys) ∧ Tps K H' ys (lots i)) ⟨none, f0, _, rfl, Same.refl _, hf1, t1⟩ (fun _ _ _ _ _ => trivial) (fun i x σ' H2 H2' hi h hy => ?_) (fun σ' H2 h => ?_)⟩
  · obtain ⟨u, f, ys, rfl, e2, hf2, t2⟩ := h
    obtain ⟨rfl, hx⟩ := hy
    rw [List.length_map, List.length_range] at hi
    have ex : x = nV i := by
      rw [List.getElem?_map, List.getElem?_range hi] at hx
      exact (Option.some.inj hx).symm
    subst ex
    have hyl := t2.len
    have hll := lots_len i
    have h2i : 2 ^ i ≤ 2 ^ 10 := Nat.pow_le_pow_right (by decide) (by omega)
    have h2v : (2 : Nat) ^ 10 = 1024 := by decide
    refine ⟨_, rfl, _, rfl, f, rfl, ⟨_, SqL.of hf2⟩, fun D nD => lc_acc walk_list (fun H' zs k => Tps K H' zs (((lots i).take k).map (· ++ [i])) ∧ zs.length ≤ k) nD (small _ (by omega)) (fun H' e => (Gr.of e).sqL (SqL.of hf2)) (fun _ => rfl) ⟨.nil, Nat.le_refl _⟩ (fun H' zs k ws hD t acc => ⟨Tps.updL hD t.1, t.2⟩) (fun H' zs k t => t.2) (fun k y H' zs hk e hD t R hR => ?_) fun H3 zs e3 t3 hD => ?_⟩
    · obtain ⟨b, r, rfl, hr2, hb⟩ := t2.get hk
      have hrm := lots_mem_len (List.mem_of_getElem? hr2)
      refine ⟨_, rfl, _, rfl, show (1 : Nat) ≤ sizeLine by decide, fun c hc => ?_⟩
      have ec : Same H' (upd H' c (.tup [nV i])) := same_new hc _
      refine rd_cat ((Gr.of (e.trans ec)).sqT hb) (SqT.of upd_same) (by rw [List.length_map]; simp only [List.length_cons, List.length_nil]; omega) fun g H4 e4 hg => hR _ H4 (ec.trans e4) ⟨?_, by rw [List.length_append, List.length_singleton]; omega⟩
      rw [List.take_add_one, hr2, List.map_append]
      refine (t.1.gr (Gr.of (ec.trans e4))).app (Tps.one (r := r ++ [i]) ?_)
      rw [List.map_append]
      exact hg
    · have t4 := t3.1
      rw [hyl, List.take_length] at t4
      have hz := t4.len
      rw [List.length_map] at hz
      refine ⟨f, D, ys, zs, rfl, rfl, e3 _ _ hf2, hD, Nat.le_of_lt (small _ (by omega)), fun g hg => ?_⟩
      have e4 : Same H3 (upd H3 g (.lst (ys ++ zs))) := same_new hg _
      refine ⟨_, g, ys ++ zs, rfl, e2.trans (e3.trans e4), upd_same, ?_⟩
      exact ((t2.gr (Gr.of e3)).app t4).gr (Gr.of e4)
  · obtain ⟨u, f, ys, rfl, e2, hf2, t2⟩ := h
    rw [List.length_map, List.length_range] at t2
    exact ⟨_, rfl, q f ys H2 (e1.trans e2) hf2 t2⟩
/-! ### _law_cross -/
def lx (r r' : List Int) (ps : List Nat) : Bool := (ps.any fun p => decide (r.getD p 0 < r'.getD p 0)) && ps.any fun p => decide (r'.getD p 0 < r.getD p 0)
theorem lx_crs (rs : List (List Int)) (ps : List Nat) (i j : Nat) : lx (rs.getD i []) (rs.getD j []) ps = crs (below rs ps) i j := by
  have key : ∀ i j, (ps.any fun p => decide ((rs.getD i []).getD p 0 < (rs.getD j []).getD p 0)) = !below rs ps j i := fun i j => by
    unfold below val
    rw [Bool.eq_iff_iff, List.any_eq_true, Bool.not_eq_true', List.all_eq_false]
    constructor
    · rintro ⟨p, hp, h⟩
      exact ⟨p, hp, fun q => absurd (of_decide_eq_true q) (Int.not_le.mpr (of_decide_eq_true h))⟩
    · rintro ⟨p, hp, h⟩
      exact ⟨p, hp, decide_eq_true (Int.not_le.mp fun q => h (decide_eq_true q))⟩
  unfold lx crs
  rw [key i j, key j i, Bool.and_comm]
def spLx (K : PySem.W.Frag) : Sp := fun vs H Q _ => ∃ (a b pl : Addr) (r r' : List Int) (ps : List Nat), vs = [.ref a, .ref b, .ref pl] ∧ SqT K H a (r.map V.int) ∧ SqT K H b (r'.map V.int) ∧ SqT K H pl (ps.map nV) ∧ (∀ p ∈ ps, p < r.length ∧ p < r'.length) ∧ ps.length ≤ 4 ∧
  ∀ H', Same H H' → Q (.bl (lx r r' ps)) H'
abbrev nLx : List Str := ["_law_one", "_law_other", "_law_places", "_law_less", "_law_place"]
theorem sc_lx : FnScope nLx ["_law_one", "_law_other", "_law_places"] (defScope (topS 39)) := ⟨rfl, rfl, rfl, by decide +kernel, rfl, by decide +kernel, by decide +kernel⟩
theorem filt_any (p : Nat → Bool) (l : List Nat) : (!decide (l.filter p = [])) = l.any p := by
  rw [Bool.eq_iff_iff]
  simp [List.filter_eq_nil_iff]
theorem ok_lx (T : Txt w K h0 mg) : Cal0 P w K mg base 1 "_law_cross" (spLx K) := by
  obtain ⟨fd, F⟩ := T.f__law_cross
  refine cal_of F T.g__law_cross sc_lx (fun vs H Q E h => ?_) (fun _ _ _ _ _ _ us hl => match us, hl with | [_, _, _], _ => rfl) (fun cdv A outer s H vs Q E hr h => ?_)
  · obtain ⟨a, b, pl, r, r', ps, rfl, _⟩ := h
    rfl
  obtain ⟨a, b, pl, r, r', ps, rfl, ha, hb, hp, hin, few, q⟩ := h
  refine ⟨_, pss_cons (ps_setLc (i := 3) (own := [("_law_place", 4)]) (g := gName 4) (tt := tTest (tOp (rI0 fun i j => .bl (decide (i < j))) (tOp (rIxT K) (tVar 0) (tVar 4)) (tOp (rIxT K) (tVar 1) (tVar 4)))) (te := tVar 4) rfl sc_lx.nd rfl rfl (by rfl) (pi_tup (pv 2)) (blkOk_by (N := nLx) (sc := defScope (topS 39)) (by decide +kernel))
      (fun _ _ _ _ _ => pg_name (i := 4) sc_lx.nd rfl (Or.inl rfl)) (fun _ _ _ _ _ => pts_one (pt_cmpR op_lt (pe_ix ix_tup (pv 0) (pv 4) (fun _ _ => rfl)) (pe_ix ix_tup (pv 1) (pv 4) (fun _ _ => rfl)) (nomark _))) (fun _ _ _ _ _ => pv 4))
    (pss_one (ps_ret (pe_and (pe_cmpR (op_neD hr.units) (pv 3) (pe_lst pa_nil) (nomark _)) (pe_one (pe_cmpR (op_neD hr.units) (pe_lc (own := [("_law_place", 4)]) (g := gName 4) (tt := tTest (tOp (rI0 fun i j => .bl (decide (j < i))) (tOp (rIxT K) (tVar 0) (tVar 4)) (tOp (rIxT K) (tVar 1) (tVar 4)))) (te := tVar 4) rfl sc_lx.nd (pi_tup (pv 2)) (blkOk_by (N := nLx) (sc := defScope (topS 39)) (by decide +kernel))
      (fun _ _ _ _ _ => pg_name (i := 4) sc_lx.nd rfl (Or.inl rfl)) (fun _ _ _ _ _ => pts_one (pt_cmpR op_gt (pe_ix ix_tup (pv 0) (pv 4) (fun _ _ => rfl)) (pe_ix ix_tup (pv 1) (pv 4) (fun _ _ => rfl)) (nomark _))) (fun _ _ _ _ _ => pv 4)) (pe_lst pa_nil) (nomark _)))))), ?_⟩
  have stp : ∀ (c : Nat → Bool) (p : Nat) (R : Option V → Hp → Prop) (H'' : Hp), R (if c ((p : Int)).toNat = true then some (nV p) else none) H'' → (if c p = true then R (some (nV p)) H'' else R none H'') := fun c p R H'' h => by
    rw [Int.toNat_natCast] at h
    by_cases hc : c p = true
    · rw [if_pos hc] at h ⊢
      exact h
    · rw [if_neg hc] at h ⊢
      exact h
  refine ⟨_, rfl, pl, rfl, ⟨_, hp⟩, fun D nD => lc_vals walk_tup (fun x => match x with | .int p => if decide (r.getD p.toNat 0 < r'.getD p.toNat 0) = true then some x else none | _ => none) nD (small _ (by rw [List.length_map]; omega)) (fun H' e => (Gr.of e).sqT hp) (fun _ => rfl) (fun k x H' hx e R hR => ?_) fun H1 e1 hD => ?_⟩
  · rw [List.getElem?_map] at hx
    obtain ⟨p, hpp, rfl⟩ := Option.map_eq_some_iff.mp hx
    obtain ⟨p1, p2⟩ := hin p (List.mem_of_getElem? hpp)
    refine ⟨_, rfl, _, rfl, a, _, _, _, rfl, rfl, (Gr.of e).sqT ha, atI_nat (getD_at p1), _, rfl, _, rfl, b, _, _, _, rfl, rfl, (Gr.of e).sqT hb, atI_nat (getD_at p2), _, _, rfl, rfl, _, rfl, ?_⟩
    have h := stp (fun p => decide (r.getD p 0 < r'.getD p 0)) p R H' (hR H' (Same.refl _))
    exact rdb (fun z => ⟨_, rfl, by rw [if_pos z] at h; exact h⟩) (fun z => by rw [if_neg (by rw [z]; decide)] at h; exact h)
  have hD' : H1 D = some (.lst ((ps.filter fun p => decide (r.getD p 0 < r'.getD p 0)).map nV)) := by
    rw [hD]
    exact congrArg (fun z => some (HO.lst z)) (filter_fm (p := fun p => decide (r.getD p 0 < r'.getD p 0)) ps)
  refine ⟨_, rfl, show (0 : Nat) ≤ sizeLine by decide, fun c hc => ?_⟩
  have e2 : Same H1 (upd H1 c (.lst [])) := same_new hc _
  refine ⟨.list (dn (ps.filter fun p => decide (r.getD p 0 < r'.getD p 0))), .list (dn []), dp_lst (SqL.of (e2 _ _ hD')), .lst (SqL.of upd_same) .nil, sh_lst _, sh_lst [], _, congrArg V.bl (show (!PyData.eqv (.list (dn (ps.filter fun p => decide (r.getD p 0 < r'.getD p 0)))) (.list (dn []))) = ps.any (fun p => decide (r.getD p 0 < r'.getD p 0)) by rw [PyData.eqv, eqv_nats, filt_any]), rdb (fun z => ?_) (fun z => ?_)⟩
  · have E2 := e1.trans e2
    have hp2 := (Gr.of E2).sqT hp
    refine ⟨_, rfl, pl, rfl, ⟨_, hp2⟩, fun D2 nD2 => lc_vals walk_tup (fun x => match x with | .int p => if decide (r'.getD p.toNat 0 < r.getD p.toNat 0) = true then some x else none | _ => none) nD2 (small _ (by rw [List.length_map]; omega)) (fun H' e => (Gr.of e).sqT hp2) (fun _ => rfl) (fun k x H' hx e R hR => ?_) fun H3 e3 hD3 => ?_⟩
    · rw [List.getElem?_map] at hx
      obtain ⟨p, hpp, rfl⟩ := Option.map_eq_some_iff.mp hx
      obtain ⟨p1, p2⟩ := hin p (List.mem_of_getElem? hpp)
      have E := Gr.of (E2.trans e)
      refine ⟨_, rfl, _, rfl, a, _, _, _, rfl, rfl, E.sqT ha, atI_nat (getD_at p1), _, rfl, _, rfl, b, _, _, _, rfl, rfl, E.sqT hb, atI_nat (getD_at p2), _, _, rfl, rfl, _, rfl, ?_⟩
      have h := stp (fun p => decide (r'.getD p 0 < r.getD p 0)) p R H' (hR H' (Same.refl _))
      exact rdb (fun z => ⟨_, rfl, by rw [if_pos z] at h; exact h⟩) (fun z => by rw [if_neg (by rw [z]; decide)] at h; exact h)
    have hD3' : H3 D2 = some (.lst ((ps.filter fun p => decide (r'.getD p 0 < r.getD p 0)).map nV)) := by
      rw [hD3]
      exact congrArg (fun z => some (HO.lst z)) (filter_fm (p := fun p => decide (r'.getD p 0 < r.getD p 0)) ps)
    refine ⟨show (0 : Nat) ≤ sizeLine by decide, fun c2 hc2 => ?_⟩
    have e4 : Same H3 (upd H3 c2 (.lst [])) := same_new hc2 _
    refine ⟨.list (dn (ps.filter fun p => decide (r'.getD p 0 < r.getD p 0))), .list (dn []), dp_lst (SqL.of (e4 _ _ hD3')), .lst (SqL.of upd_same) .nil, sh_lst _, sh_lst [], ?_⟩
    rw [PyData.eqv, eqv_nats, filt_any]
    have q4 := q _ (E2.trans (e3.trans e4))
    unfold lx at q4
    rw [z, Bool.true_and] at q4
    exact q4
  · have q4 := q _ (e1.trans e2)
    unfold lx at q4
    rw [z, Bool.false_and] at q4
    exact q4
end
end Rs

set_option Elab.async false
set_option linter.all false
set_option maxRecDepth 100000
set_option maxHeartbeats 4000000
namespace Rs
open PySem PySem.Spec PyProof.Rows L2 He RsH LamX
/-- the law's rows and told columns -/
structure Here (K : PySem.W.Frag) (H : Hp) (rl pl : Addr) (rs : List (List Int)) (ps : List Nat) : Prop where
  rows : ∃ xs, SqL K H rl xs ∧ Rows K H xs rs
  pls : SqT K H pl (ps.map nV)
  sh : Shape rs ps
theorem Here.gr {K : PySem.W.Frag} {H H' : Hp} {rl pl : Addr} {rs : List (List Int)} {ps : List Nat} (h : Here K H rl pl rs ps) (e : Gr H H') : Here K H' rl pl rs ps := by
  obtain ⟨⟨xs, h1, h2⟩, h3, h4⟩ := h
  exact ⟨⟨xs, e.sqL h1, h2.gr e⟩, e.sqT h3, h4⟩
section
variable {P : Program} {w : World} {K : PySem.W.Frag} {mg : Str → Option Value} {base : Heap} {h0 : Heap}
/-! ### _law_rise -/
def spLri (K : PySem.W.Frag) : Sp := fun vs H Q _ => ∃ (rl ol pl : Addr) (rs : List (List Int)) (ps o : List Nat), vs = [.ref rl, .ref ol, .ref pl] ∧ Here K H rl pl rs ps ∧ SqA K H ol (o.map nV) ∧ (∀ i ∈ o, i < rs.length) ∧ o.length ≤ 4000 ∧
  ∀ H', Same H H' → Q (.bl (rises (below rs ps) o)) H'
abbrev nLri : List Str := ["_law_rows_here", "_law_order", "_law_places", "_law_one", "_law_other", "_law_place"]
theorem sc_lri : FnScope nLri ["_law_rows_here", "_law_order", "_law_places"] (defScope (topS 40)) := ⟨rfl, rfl, rfl, by decide +kernel, rfl, by decide +kernel, by decide +kernel⟩
theorem not_below (rs : List (List Int)) (ps : List Nat) (i j : Nat) : (ps.any fun p => decide (val rs j p < val rs i p)) = !below rs ps i j := by
  unfold below
  rw [Bool.eq_iff_iff, List.any_eq_true, Bool.not_eq_true', List.all_eq_false]
  constructor
  · rintro ⟨p, hp, h⟩
    exact ⟨p, hp, fun q => absurd (of_decide_eq_true q) (Int.not_le.mpr (of_decide_eq_true h))⟩
  · rintro ⟨p, hp, h⟩
    exact ⟨p, hp, decide_eq_true (Int.not_le.mp fun q => h (decide_eq_true q))⟩
theorem zip_rises {W : Nat → Nat → Bool} {o : List Nat} (h : ∀ k, k < (adj o).length → ∀ p, (o.zip (o.drop 1))[k]? = some p → W p.1 p.2 = true) : rises W o = true := by
  unfold rises
  rw [List.all_eq_true]
  intro p hp
  obtain ⟨k, hk⟩ := List.mem_iff_getElem?.mp hp
  refine h k ?_ p hk
  unfold adj
  rw [List.length_map]
  exact (List.getElem?_eq_some_iff.mp hk).1
theorem zip_not {W : Nat → Nat → Bool} {o : List Nat} {k : Nat} {p : Nat × Nat} (h : (o.zip (o.drop 1))[k]? = some p) (hw : W p.1 p.2 = false) : rises W o = false := by
  unfold rises
  rw [List.all_eq_false]
  exact ⟨p, List.mem_of_getElem? h, by rw [hw]; decide⟩
theorem ok_lri (T : Txt w K h0 mg) : Cal0 P w K mg base 1 "_law_rise" (spLri K) := by
  obtain ⟨fd, F⟩ := T.f__law_rise
  refine cal_of F T.g__law_rise sc_lri (fun vs H Q E h => ?_) (fun _ _ _ _ _ _ us hl => match us, hl with | [_, _, _], _ => rfl) (fun cdv A outer s H vs Q E hr h => ?_)
  · obtain ⟨rl, ol, pl, rs, ps, o, rfl, _⟩ := h
    rfl
  obtain ⟨rl, ol, pl, rs, ps, o, rfl, Hr, ho, hin, hlen, q⟩ := h
  have few := Hr.sh.few
  -- one turn's test
  have step : ∀ (i j : Nat) (H1 : Hp) (σ : L2.St) (R : Bool → Hp → Prop), i < rs.length → j < rs.length → Gr H H1 → σ[0]? = some (some (.ref rl)) → σ[2]? = some (some (.ref pl)) → σ[3]? = some (some (nV i)) → σ[4]? = some (some (nV j)) → σ.length = 6 →
      (∀ H2, Same H1 H2 → R (!below rs ps i j) H2) → tB (tCB (rAny K) (tCons (tLc (iTup K (tVar 2)) (gName 5) tYes (tOp (rI0 fun i j => .bl (decide (j < i))) (tOp (rIxT K) (tOp (rIxL K) (tVar 0) (tVar 3)) (tVar 5)) (tOp (rIxT K) (tOp (rIxL K) (tVar 0) (tVar 4)) (tVar 5))) [5]) tNil)) σ H1 R := by
    intro i j H1 σ R hi hj g s0 s2 s3 s4 sl hR
    have H1r := Hr.gr g
    refine ⟨_, s2, pl, rfl, ⟨_, H1r.pls⟩, fun D nD => lc_map walk_tup (fun x => match x with | .int p => .bl (decide (val rs j p.toNat < val rs i p.toNat)) | _ => .non) nD (small _ (by rw [List.length_map]; omega)) (fun H' e => (Gr.of e).sqT H1r.pls) (fun x => ?_) (fun k x H' hx e R2 hR2 => ?_) fun H2 e2 hD => ?_⟩
    · obtain ⟨a0, a1, a2, a3, a4, a5, rfl⟩ : ∃ a0 a1 a2 a3 a4 a5, σ = [a0, a1, a2, a3, a4, a5] := by
        match σ, sl with
        | [a0, a1, a2, a3, a4, a5], _ => exact ⟨_, _, _, _, _, _, rfl⟩
      rfl
    · rw [List.getElem?_map] at hx
      obtain ⟨p, hp, rfl⟩ := Option.map_eq_some_iff.mp hx
      have hm : p ∈ ps := List.mem_of_getElem? hp
      obtain ⟨xs, x1, x2⟩ := (H1r.gr (Gr.of e)).rows
      obtain ⟨a, a1, a2⟩ := x2.get hi
      obtain ⟨b, b1, b2⟩ := x2.get hj
      obtain ⟨c0, c1, c2, c3, c4, c5, rfl⟩ : ∃ a0 a1 a2 a3 a4 a5, σ = [a0, a1, a2, a3, a4, a5] := by
        match σ, sl with
        | [a0, a1, a2, a3, a4, a5], _ => exact ⟨_, _, _, _, _, _, rfl⟩
      exact ⟨_, s0, _, s3, rl, xs, _, _, rfl, rfl, x1, atI_nat a1, _, rfl, a, _, _, _, rfl, rfl, a2, atI_nat (getD_at (Hr.sh.lt hi hm)), _, s0, _, s4, rl, xs, _, _, rfl, rfl, x1, atI_nat b1, _, rfl, b, _, _, _, rfl, rfl, b2, atI_nat (getD_at (Hr.sh.lt hj hm)), _, _, rfl, rfl, hR2 _ (Same.refl _)⟩
    · refine ⟨D, ps.map fun p => decide (val rs j p < val rs i p), rfl, SqL.of (by rw [hD, List.map_map, List.map_map]; rfl), _, rfl, ?_⟩
      have ea : (ps.map fun p => decide (val rs j p < val rs i p)).any id = !below rs ps i j := by
        rw [List.any_map, ← not_below]
        rfl
      rw [ea]
      exact hR _ e2
  rcases ho with ho | ho
  · refine ⟨_, pss_cons (ps_for PassesOwn.never rfl (RZ.pi_zipA (by rfl) T.z_zip (pa_cons (pv 1) (pa_cons (pe_slice sl_list (pv 1) (po_some pe_int) po_none) pa_nil))) (pg_tup rfl (pgs_cons (pg_name (i := 3) sc_lri.nd rfl (Or.inr rfl)) (pgs_cons (pg_name (i := 4) sc_lri.nd rfl (Or.inr rfl)) pgs_nil)))
      (pss_one (ps_if (pt_val (pe_callB (cr_any rfl) (by rfl) T.z_any (by decide +kernel) (pa_cons (pe_lc (own := [("_law_place", 5)]) (g := gName 5) (tt := tYes) (te := tOp (rI0 fun i j => .bl (decide (j < i))) (tOp (rIxT K) (tOp (rIxL K) (tVar 0) (tVar 3)) (tVar 5)) (tOp (rIxT K) (tOp (rIxL K) (tVar 0) (tVar 4)) (tVar 5))) rfl sc_lri.nd (pi_tup (pv 2)) (blkOk_by (N := nLri) (sc := defScope (topS 40)) (by decide +kernel))
          (fun _ _ _ _ _ => pg_name (i := 5) sc_lri.nd rfl (Or.inl rfl)) (fun _ _ _ _ _ => pts_nil) (fun _ _ _ _ _ => pe_cmpR op_gt (pe_ix ix_tup (pe_ix ix_list (pv 0) (pv 3) (fun _ _ => rfl)) (pv 5) (fun _ _ => rfl)) (pe_ix ix_tup (pe_ix ix_list (pv 0) (pv 4) (fun _ _ => rfl)) (pv 5) (fun _ _ => rfl)) (nomark _))) pa_nil)))
        (pss_one (ps_ret pe_bl)) pss_nil)))
      (pss_one (ps_ret pe_bl)), ?_⟩
    refine ⟨_, rfl, _, rfl, 1, rfl, ?_⟩
    unfold tNoPart
    refine rd_slL ho (cut_from _ 1) fun b H1 nc e1 hb => ⟨ol, b, _, _, rfl, .inl ⟨(Gr.of e1).sqL ho, SqL.of hb, ?_⟩⟩
    have ho1 := (Gr.of e1).sqL ho
    have hb1 : SqL K H1 b ((o.map nV).drop 1) := SqL.of hb
    refine for_it (walk_adjL o) (fun i σ' H' => ∃ u v, σ' = [some (.ref rl), some (.ref ol), some (.ref pl), u, v, none] ∧ Same H1 H' ∧ ∀ k, k < i → ∀ p, (o.zip (o.drop 1))[k]? = some p → below rs ps p.1 p.2 = true) ⟨none, none, rfl, Same.refl _, fun k hk => absurd hk (Nat.not_lt_zero _)⟩ (fun i σ' H' _ h => ?_) (fun i y σ' H4 H5 hi h hy => ?_) (fun σ' H' h => ?_)
    · obtain ⟨u, v, rfl, e, _⟩ := h
      exact ⟨(Gr.of e).sqL ho1, (Gr.of e).sqL hb1⟩
    · obtain ⟨u, v, rfl, e, hall⟩ := h
      obtain ⟨Tp, x, z, rfl, nT, rfl, h1, h2⟩ := hy
      obtain ⟨i', j', rfl, rfl, m1, m2, hz⟩ := adj_get (adj_at h1 h2)
      have e5 : Same H4 (upd H4 Tp (.tup [nV i', nV j'])) := same_new nT _
      have E5 := e1.trans (e.trans e5)
      refine rd_g2 (SqT.of upd_same) ?_
      refine step i' j' _ _ _ (hin i' m1) (hin j' m2) (Gr.of E5) rfl rfl rfl rfl rfl fun H6 e6 => rdb (fun z => ?_) (fun z => ?_)
      · rw [Bool.not_eq_true'] at z
        have hq := q H6 (E5.trans e6)
        rw [zip_not hz z] at hq
        exact hq
      · rw [Bool.not_eq_false'] at z
        refine ⟨_, _, rfl, e.trans (e5.trans e6), fun k hk p hp => ?_⟩
        rcases Nat.lt_succ_iff_lt_or_eq.mp hk with hk | rfl
        · exact hall k hk p hp
        · rw [hz] at hp
          cases hp
          exact z
    · obtain ⟨u, v, rfl, e, hall⟩ := h
      have hq := q H' (e1.trans e)
      rw [zip_rises hall] at hq
      exact hq
  · refine ⟨_, pss_cons (ps_for PassesOwn.never rfl (RZ.pi_zipA (by rfl) T.z_zip (pa_cons (pv 1) (pa_cons (pe_slice sl_tupA (pv 1) (po_some pe_int) po_none) pa_nil))) (pg_tup rfl (pgs_cons (pg_name (i := 3) sc_lri.nd rfl (Or.inr rfl)) (pgs_cons (pg_name (i := 4) sc_lri.nd rfl (Or.inr rfl)) pgs_nil)))
      (pss_one (ps_if (pt_val (pe_callB (cr_any rfl) (by rfl) T.z_any (by decide +kernel) (pa_cons (pe_lc (own := [("_law_place", 5)]) (g := gName 5) (tt := tYes) (te := tOp (rI0 fun i j => .bl (decide (j < i))) (tOp (rIxT K) (tOp (rIxL K) (tVar 0) (tVar 3)) (tVar 5)) (tOp (rIxT K) (tOp (rIxL K) (tVar 0) (tVar 4)) (tVar 5))) rfl sc_lri.nd (pi_tup (pv 2)) (blkOk_by (N := nLri) (sc := defScope (topS 40)) (by decide +kernel))
          (fun _ _ _ _ _ => pg_name (i := 5) sc_lri.nd rfl (Or.inl rfl)) (fun _ _ _ _ _ => pts_nil) (fun _ _ _ _ _ => pe_cmpR op_gt (pe_ix ix_tup (pe_ix ix_list (pv 0) (pv 3) (fun _ _ => rfl)) (pv 5) (fun _ _ => rfl)) (pe_ix ix_tup (pe_ix ix_list (pv 0) (pv 4) (fun _ _ => rfl)) (pv 5) (fun _ _ => rfl)) (nomark _))) pa_nil)))
        (pss_one (ps_ret pe_bl)) pss_nil)))
      (pss_one (ps_ret pe_bl)), ?_⟩
    refine ⟨_, rfl, _, rfl, 1, rfl, ?_⟩
    unfold tNoPart
    refine rd_slT ho (cut_from _ 1) fun b H1 e1 hb => ⟨ol, b, _, _, rfl, .inr ⟨(Gr.of e1).sqT ho, hb, ?_⟩⟩
    have ho1 := (Gr.of e1).sqT ho
    have hb1 := hb
    refine for_it (walk_adj o) (fun i σ' H' => ∃ u v, σ' = [some (.ref rl), some (.ref ol), some (.ref pl), u, v, none] ∧ Same H1 H' ∧ ∀ k, k < i → ∀ p, (o.zip (o.drop 1))[k]? = some p → below rs ps p.1 p.2 = true) ⟨none, none, rfl, Same.refl _, fun k hk => absurd hk (Nat.not_lt_zero _)⟩ (fun i σ' H' _ h => ?_) (fun i y σ' H4 H5 hi h hy => ?_) (fun σ' H' h => ?_)
    · obtain ⟨u, v, rfl, e, _⟩ := h
      exact ⟨(Gr.of e).sqT ho1, (Gr.of e).sqT hb1⟩
    · obtain ⟨u, v, rfl, e, hall⟩ := h
      obtain ⟨Tp, x, z, rfl, nT, rfl, h1, h2⟩ := hy
      obtain ⟨i', j', rfl, rfl, m1, m2, hz⟩ := adj_get (adj_at h1 h2)
      have e5 : Same H4 (upd H4 Tp (.tup [nV i', nV j'])) := same_new nT _
      have E5 := e1.trans (e.trans e5)
      refine rd_g2 (SqT.of upd_same) ?_
      refine step i' j' _ _ _ (hin i' m1) (hin j' m2) (Gr.of E5) rfl rfl rfl rfl rfl fun H6 e6 => rdb (fun z => ?_) (fun z => ?_)
      · rw [Bool.not_eq_true'] at z
        have hq := q H6 (E5.trans e6)
        rw [zip_not hz z] at hq
        exact hq
      · rw [Bool.not_eq_false'] at z
        refine ⟨_, _, rfl, e.trans (e5.trans e6), fun k hk p hp => ?_⟩
        rcases Nat.lt_succ_iff_lt_or_eq.mp hk with hk | rfl
        · exact hall k hk p hp
        · rw [hz] at hp
          cases hp
          exact z
    · obtain ⟨u, v, rfl, e, hall⟩ := h
      have hq := q H' (e1.trans e)
      rw [zip_rises hall] at hq
      exact hq
/-! ### _law_all_cross -/
/-- every row of l crosses those ahead of it -/
def allX (W : Nat → Nat → Bool) (l : List Nat) : Bool := (List.range l.length).all fun i => (l.take i).all fun y => crs W (l.getD i 0) y
theorem allX_pair (W : Nat → Nat → Bool) (l : List Nat) : allX W l = true ↔ l.Pairwise fun i j => crs W i j = true := by
  unfold allX
  rw [List.all_eq_true, List.pairwise_iff_getElem]
  constructor
  · intro h i j hi hj hij
    have h1 := h j (List.mem_range.mpr hj)
    rw [List.all_eq_true] at h1
    have h2 := h1 l[i] (by rw [List.mem_take_iff_getElem]; exact ⟨i, by omega, rfl⟩)
    rw [crs_comm] at h2
    rw [List.getD_eq_getElem?_getD, List.getElem?_eq_getElem hj] at h2
    exact h2
  · intro h j hj
    have hj := List.mem_range.mp hj
    rw [List.all_eq_true]
    intro y hy
    rw [List.mem_take_iff_getElem] at hy
    obtain ⟨i, hi, rfl⟩ := hy
    have h1 := h i j (by omega) hj (by omega)
    rw [crs_comm] at h1
    rw [List.getD_eq_getElem?_getD, List.getElem?_eq_getElem hj]
    exact h1
def spLax (K : PySem.W.Frag) : Sp := fun vs H Q _ => ∃ (rl ll pl : Addr) (rs : List (List Int)) (ps l : List Nat), vs = [.ref rl, .ref ll, .ref pl] ∧ Here K H rl pl rs ps ∧ SqT K H ll (l.map nV) ∧ (∀ i ∈ l, i < rs.length) ∧ l.length ≤ 4000 ∧
  ∀ H', Same H H' → Q (.bl (allX (below rs ps) l)) H'
abbrev nLax : List Str := ["_law_rows_here", "_law_lot", "_law_places", "_law_at", "_law_one", "_law_other"]
theorem sc_lax : FnScope nLax ["_law_rows_here", "_law_lot", "_law_places"] (defScope (topS 41)) := ⟨rfl, rfl, rfl, by decide +kernel, rfl, by decide +kernel, by decide +kernel⟩
theorem ok_lax (T : Txt w K h0 mg) : Cal0 P w K mg base 2 "_law_all_cross" (spLax K) := by
  obtain ⟨fd, F⟩ := T.f__law_all_cross
  have cX : Cal0 P w K mg base 1 "_law_cross" (spLx K) := ok_lx T
  refine cal_of F T.g__law_all_cross sc_lax (fun vs H Q E h => ?_) (fun _ _ _ _ _ _ us hl => match us, hl with | [_, _, _], _ => rfl) (fun cdv A outer s H vs Q E hr h => ?_)
  · obtain ⟨rl, ll, pl, rs, ps, l, rfl, _⟩ := h
    rfl
  obtain ⟨rl, ll, pl, rs, ps, l, rfl, Hr, hl, hin, hlen, q⟩ := h
  have few := Hr.sh.few
  refine ⟨_, pss_cons (ps_for PassesOwn.never rfl (pi_enumT (by rfl) T.z_enumerate (pa_cons (pv 1) pa_nil)) (pg_tup rfl (pgs_cons (pg_name (i := 3) sc_lax.nd rfl (Or.inl rfl)) (pgs_cons (pg_name (i := 4) sc_lax.nd rfl (Or.inr rfl)) pgs_nil)))
      (pss_one (ps_if (pt_val (pe_callB (cr_any rfl) (by rfl) T.z_any (by decide +kernel) (pa_cons (pe_lc (own := [("_law_other", 5)]) (g := gName 5) (tt := tYes) (te := tNotV (tCall (spLx K) [] E0 (tCons (tOp (rIxL K) (tVar 0) (tVar 4)) (tCons (tOp (rIxL K) (tVar 0) (tVar 5)) (tCons (tVar 2) tNil))))) rfl sc_lax.nd (pi_tup (pe_slice sl_tupA (pv 1) po_none (po_some (pv 3)))) (blkOk_by (N := nLax) (sc := defScope (topS 41)) (by decide +kernel))
          (fun _ _ _ _ _ => pg_name (i := 5) sc_lax.nd rfl (Or.inl rfl)) (fun _ _ _ _ _ => pts_nil) (fun _ _ _ _ _ => pe_not (C8.pe_c cX hr (by decide) (by rfl) (pa_cons (pe_ix ix_list (pv 0) (pv 4) (fun _ _ => rfl)) (pa_cons (pe_ix ix_list (pv 0) (pv 5) (fun _ _ => rfl)) (pa_cons (pv 2) pa_nil)))))) pa_nil)))
        (pss_one (ps_ret pe_bl)) pss_nil)))
      (pss_one (ps_ret pe_bl)), ?_⟩
  refine ⟨_, rfl, ll, _, rfl, hl, for_it (walk_enumT (xs := l.map nV)) (fun i σ' H' => ∃ u v, σ' = [some (.ref rl), some (.ref ll), some (.ref pl), u, v, none] ∧ Same H H' ∧ ∀ k, k < i → ((l.take k).all fun y => crs (below rs ps) (l.getD k 0) y) = true) ⟨none, none, rfl, Same.refl _, fun k hk => absurd hk (Nat.not_lt_zero _)⟩ (fun i σ' H' _ h => ?_) (fun i x σ' H1 H2 hi h hy => ?_) (fun σ' H' h => ?_)⟩
  · obtain ⟨u, v, rfl, e, _⟩ := h
    exact (Gr.of e).sqT hl
  · obtain ⟨u, v, rfl, e, hall⟩ := h
    obtain ⟨Tp, x1, x2, rfl, nT, rfl, y1, y2⟩ := hy
    cases y1
    have y2 : (l.map nV)[i]? = some x2 := y2
    rw [List.getElem?_map] at y2
    obtain ⟨one, hone, rfl⟩ := Option.map_eq_some_iff.mp y2
    have eone : l.getD i 0 = one := getD_of hone
    have hon := hin one (List.mem_of_getElem? hone)
    have hil := (List.getElem?_eq_some_iff.mp hone).1
    have e2 : Same H1 (upd H1 Tp (.tup [.int (i : Nat), nV one])) := same_new nT _
    have E2 := e.trans e2
    refine rd_g2 (SqT.of upd_same) ?_
    refine ⟨_, rfl, ?_⟩
    unfold tNoPart
    refine ⟨_, rfl, _, rfl, ?_⟩
    refine rd_slT ((Gr.of E2).sqT hl) (cut_to _ i) fun c H3 e3 hc => ⟨c, rfl, ⟨_, hc⟩, fun D nD => ?_⟩
    have E3 := E2.trans e3
    rw [← List.map_take] at hc
    refine lc_map walk_tup (fun x => match x with | .int j => .bl (!crs (below rs ps) one j.toNat) | _ => .non) nD (small _ (by rw [List.length_map, List.length_take]; omega)) (fun H' e => (Gr.of e).sqT hc) (fun _ => rfl) (fun k x H' hx e R hR => ?_) fun H4 e4 hD => ?_
    · rw [List.getElem?_map] at hx
      obtain ⟨j, hj, rfl⟩ := Option.map_eq_some_iff.mp hx
      have hjn := hin j (List.mem_of_mem_take (List.mem_of_getElem? hj))
      have Hx := Hr.gr (Gr.of (E3.trans e))
      obtain ⟨xs, x1, x2⟩ := Hx.rows
      obtain ⟨a, a1, a2⟩ := x2.get hon
      obtain ⟨b, b1, b2⟩ := x2.get hjn
      refine ⟨_, rfl, _, rfl, rl, xs, _, _, rfl, rfl, x1, atI_nat a1, _, rfl, _, rfl, rl, xs, _, _, rfl, rfl, x1, atI_nat b1, _, rfl, a, b, pl, _, _, ps, rfl, a2, b2, Hx.pls, fun p hp => ⟨Hr.sh.lt hon hp, Hr.sh.lt hjn hp⟩, few, fun H'' e'' => ⟨_, rfl, ?_⟩⟩
      rw [lx_crs]
      exact hR H'' e''
    · refine ⟨D, (l.take i).map fun j => !crs (below rs ps) one j, rfl, SqL.of (by rw [hD, List.map_map, List.map_map]; rfl), _, rfl, ?_⟩
      have ea : ((l.take i).map fun j => !crs (below rs ps) one j).any id = !((l.take i).all fun y => crs (below rs ps) (l.getD i 0) y) := by
        rw [List.any_map, eone, List.not_all_eq_any_not]
        rfl
      rw [ea]
      refine rdb (fun z => ?_) (fun z => ?_)
      · rw [Bool.not_eq_true'] at z
        have hq := q H4 (E3.trans e4)
        have hf : allX (below rs ps) l = false := by
          unfold allX
          rw [List.all_eq_false]
          exact ⟨i, List.mem_range.mpr hil, by rw [z]; decide⟩
        rw [hf] at hq
        exact hq
      · rw [Bool.not_eq_false'] at z
        refine ⟨_, _, rfl, E3.trans e4, fun k hk => ?_⟩
        rcases Nat.lt_succ_iff_lt_or_eq.mp hk with hk | rfl
        · exact hall k hk
        · exact z
  · obtain ⟨u, v, rfl, e, hall⟩ := h
    have hq := q H' e
    have ht : allX (below rs ps) l = true := by
      unfold allX
      rw [List.all_eq_true]
      intro k hk
      exact hall k (by rw [List.length_map]; exact List.mem_range.mp hk)
    rw [ht] at hq
    exact hq
/-! ### _law_pieces_right -/
def prR (W : Nat → Nat → Bool) (n : Nat) (p : List (List Nat)) : Bool := (p.all fun r => !decide (r = []) && rises W r) && p.flatten.isPerm (List.range n)
def spLpr (K : PySem.W.Frag) : Sp := fun vs H Q _ => ∃ (rl al pl : Addr) (rs : List (List Int)) (ps : List Nat) (xs : List V) (p : List (List Nat)), vs = [.ref rl, .ref al, .ref pl] ∧ Here K H rl pl rs ps ∧ SqL K H al xs ∧ Tps K H xs p ∧ p.length ≤ 60 ∧ p.flatten.length ≤ 4000 ∧ (∀ r ∈ p, ∀ i ∈ r, i < rs.length) ∧
  ∀ H', Same H H' → Q (.bl (prR (below rs ps) rs.length p)) H'
abbrev nLpr : List Str := ["_law_rows_here", "_law_pieces_now", "_law_places", "_law_every", "_law_piece"]
theorem sc_lpr : FnScope nLpr ["_law_rows_here", "_law_pieces_now", "_law_places"] (defScope (topS 42)) := ⟨rfl, rfl, rfl, by decide +kernel, rfl, by decide +kernel, by decide +kernel⟩
theorem sorted_uniq : ∀ {l m : List Int}, l.Perm m → l.Pairwise (· ≤ ·) → m.Pairwise (· ≤ ·) → l = m
  | [], m, h, _, _ => (List.nil_perm.mp h).symm
  | x :: l, [], h, _, _ => absurd (List.perm_nil.mp h) (by simp)
  | x :: l, y :: m, h, h1, h2 => by
    obtain ⟨a1, a2⟩ := List.pairwise_cons.mp h1
    obtain ⟨b1, b2⟩ := List.pairwise_cons.mp h2
    have e : x = y := by
      have hx : x ∈ y :: m := h.mem_iff.mp List.mem_cons_self
      have hy : y ∈ x :: l := h.mem_iff.mpr List.mem_cons_self
      rcases List.mem_cons.mp hx with rfl | hx
      · rfl
      · rcases List.mem_cons.mp hy with rfl | hy
        · rfl
        · have := a1 y hy
          have := b1 x hx
          omega
    subst e
    rw [sorted_uniq (h.cons_inv) a2 b2]
theorem range_sorted (n : Nat) : (zs (List.range n)).Pairwise (· ≤ ·) := by
  unfold zs
  refine List.pairwise_map.mpr ((List.pairwise_lt_range (n := n)).imp fun h => ?_)
  exact Int.ofNat_le.mpr (Nat.le_of_lt h)
theorem sorted_range {l : List Nat} {n : Nat} {ns : List Int} (h1 : ns.Perm (zs l)) (h2 : ns.Pairwise (· ≤ ·)) : decide (ns = zs (List.range n)) = l.isPerm (List.range n) := by
  rw [Bool.eq_iff_iff, decide_eq_true_iff, List.isPerm_iff]
  constructor
  · rintro rfl
    have h3 := h1.symm.map Int.toNat
    unfold zs at h3
    rw [List.map_map, List.map_map] at h3
    have e : ∀ m : List Nat, m.map (Int.toNat ∘ fun i => Int.ofNat i) = m := fun m => by
      induction m with
      | nil => rfl
      | cons a m ih => rw [List.map_cons, ih]; rfl
    rw [e, e] at h3
    exact h3
  · intro h
    refine sorted_uniq (h1.trans ?_) h2 (range_sorted n)
    exact h.map _
theorem ok_lpr (T : Txt w K h0 mg) : Cal0 P w K mg base 2 "_law_pieces_right" (spLpr K) := by
  obtain ⟨fd, F⟩ := T.f__law_pieces_right
  have cR : Cal0 P w K mg base 1 "_law_rise" (spLri K) := ok_lri T
  refine cal_of F T.g__law_pieces_right sc_lpr (fun vs H Q E h => ?_) (fun _ _ _ _ _ _ us hl => match us, hl with | [_, _, _], _ => rfl) (fun cdv A outer s H vs Q E hr h => ?_)
  · obtain ⟨rl, al, pl, rs, ps, xs, p, rfl, _⟩ := h
    rfl
  obtain ⟨rl, al, pl, rs, ps, xs, p, rfl, Hr, hal, hx, hp60, hfl, hin, q⟩ := h
  refine ⟨_, pss_cons (ps_set (i := 3) sc_lpr.nd rfl (Or.inl rfl) (pe_lst pa_nil))
    (pss_cons (ps_for PassesOwn.never rfl (pi_list (pv 1)) (pg_name (i := 4) sc_lpr.nd rfl (Or.inl rfl))
      (pss_cons (ps_set (i := 3) sc_lpr.nd rfl (Or.inl rfl) (pe_op op_cat (pv 3) (pe_callTy call_list_of (by rfl) T.z_list (by decide +kernel) (pa_cons (pv 4) pa_nil))))
      (pss_one (ps_if (PW.pt (pw_or (pt_cmpR op_eq (pe_callB call_len_seq (by rfl) T.z_len (by decide +kernel) (pa_cons (pv 4) pa_nil)) pe_int (nomark _)) (pw_or1 (pt_not (pt_val (C8.pe_c cR hr (by decide) (by rfl) (pa_cons (pv 0) (pa_cons (pv 4) (pa_cons (pv 2) pa_nil))))))))) (pss_one (ps_ret pe_bl)) pss_nil))))
    (pss_one (ps_ret (pe_cmpR (op_eqD hr.units) (pe_callB cr_sortedI (by rfl) T.z_sorted (by decide +kernel) (pa_cons (pv 3) pa_nil)) (pe_listRg rfl (by rfl) T.z_list (prg_1 (by rfl) T.z_range (pe_callB call_len_seq (by rfl) T.z_len (by decide +kernel) (pa_cons (pv 0) pa_nil)))) (nomark _))))), ?_⟩
  have n10 := Hr.sh.n10
  have hxl := hx.len
  refine ⟨show (0 : Nat) ≤ sizeLine by decide, fun ev hev => ?_⟩
  have e1 : Same H (upd H ev (.lst [])) := same_new hev _
  refine ⟨_, rfl, al, rfl, ⟨_, (Gr.of e1).sqL hal⟩, for_it (walk_list (xs := xs)) (fun i σ' H' => ∃ u ev', σ' = [some (.ref rl), some (.ref al), some (.ref pl), some (.ref ev'), u] ∧ Same H H' ∧ H' ev' = some (.lst ((p.take i).flatten.map nV)) ∧ ((p.take i).all fun r => !decide (r = []) && rises (below rs ps) r) = true) ⟨none, ev, rfl, e1, upd_same, rfl⟩ (fun i σ' H' _ h => ?_) (fun i x σ' H1 H2 hi h hy => ?_) (fun σ' H1 h => ?_)⟩
  · obtain ⟨u, ev', rfl, e, _⟩ := h
    exact (Gr.of e).sqL hal
  · obtain ⟨u, ev', rfl, e, hev', hall⟩ := h
    obtain ⟨rfl, hxi⟩ := hy
    obtain ⟨b, r, rfl, hr2, hb⟩ := hx.get hxi
    have hrm := List.mem_of_getElem? hr2
    have et : p.take (i + 1) = p.take i ++ [r] := by rw [List.take_add_one, hr2]; rfl
    have hfl2 : ((p.take (i + 1)).flatten).length ≤ p.flatten.length := by
      have e3 : p.flatten = (p.take (i + 1)).flatten ++ (p.drop (i + 1)).flatten := by rw [← List.flatten_append, List.take_append_drop]
      rw [e3, List.length_append]
      omega
    rw [et, List.flatten_append, List.length_append] at hfl2
    simp only [List.flatten_cons, List.flatten_nil, List.append_nil] at hfl2
    have hb1 := (Gr.of e).sqT hb
    refine ⟨_, rfl, _, rfl, b, _, rfl, .inr hb1, fun lp hlp => ?_⟩
    have e2 : Same H2 (upd H2 lp (.lst (r.map nV))) := same_new hlp _
    refine ⟨ev', lp, _, _, rfl, rfl, e2 _ _ hev', upd_same, Nat.le_of_lt (small _ (by rw [List.length_map, List.length_map]; omega)), fun cp hcp => ?_⟩
    have e3 : Same (upd H2 lp (.lst (r.map nV))) (upd (upd H2 lp (.lst (r.map nV))) cp (.lst ((p.take i).flatten.map nV ++ r.map nV))) := same_new hcp _
    have E3 := e.trans (e2.trans e3)
    refine ⟨_, rfl, b, _, rfl, .inr ((Gr.of E3).sqT hb), rfl, decide (r = []), ?_, ?_⟩
    · rw [List.length_map]
      refine congrArg V.bl ?_
      rw [Bool.eq_iff_iff, decide_eq_true_iff, decide_eq_true_iff]
      constructor
      · intro h
        have h2 : (r.length : Int) = 0 := V.int.inj h
        exact List.length_eq_zero_iff.mp (by omega)
      · rintro rfl
        rfl
    have hfalse : ∀ H', Same H H' → (!decide (r = []) && rises (below rs ps) r) = false → Q (.bl false) H' := fun H' e' hz => by
      have hq := q H' e'
      have hf : prR (below rs ps) rs.length p = false := by
        unfold prR
        rw [Bool.and_eq_false_iff]
        refine .inl (List.all_eq_false.mpr ⟨r, hrm, by rw [hz]; decide⟩)
      rw [hf] at hq
      exact hq
    refine rdb (fun z => iteT ?_) (fun z => ?_)
    · exact hfalse _ E3 (by rw [z]; rfl)
    refine ⟨_, rfl, _, rfl, _, rfl, rl, b, pl, rs, ps, r, rfl, Hr.gr (Gr.of E3), .inr ((Gr.of E3).sqT hb), hin r hrm, by omega, fun H4 e4 => ⟨_, rfl, rdb (fun z2 => ?_) (fun z2 => ?_)⟩⟩
    · rw [Bool.not_eq_true'] at z2
      exact hfalse _ (E3.trans e4) (by rw [z2, Bool.and_false])
    · rw [Bool.not_eq_false'] at z2
      refine ⟨_, _, rfl, E3.trans e4, ?_, ?_⟩
      · rw [et, List.flatten_append, List.map_append]
        simp only [List.flatten_cons, List.flatten_nil, List.append_nil]
        exact e4 _ _ upd_same
      · rw [et, List.all_append, hall, Bool.true_and, List.all_cons, List.all_nil, z, z2]
        rfl
  · obtain ⟨u, ev', rfl, e, hev', hall⟩ := h
    rw [hxl, List.take_length] at hev' hall
    obtain ⟨ys, y1, y2⟩ := (Hr.gr (Gr.of e)).rows
    have hyl := y2.len
    refine ⟨_, rfl, ev', zs p.flatten, rfl, SqL.of (by rw [← nV_map]; exact hev'), fun ns' sp h1 h2 hsp => ?_⟩
    have e2 : Same H1 (upd H1 sp (.lst (ns'.map V.int))) := same_new hsp _
    refine ⟨_, rfl, rl, ys, rfl, .inl ((Gr.of e2).sqL y1), _, rfl, ⟨by omega, by omega, by omega⟩, fun rp hrp => ?_⟩
    have e3 : Same (upd H1 sp (.lst (ns'.map V.int))) (upd (upd H1 sp (.lst (ns'.map V.int))) rp (.lst (rgV 0 (ys.length : Int)))) := same_new hrp _
    refine ⟨.list (di ns'), .list (di (zs (List.range rs.length))), .lst (SqL.of (e3 _ _ upd_same)) (dp_ints _), .lst (SqL.of (by rw [upd_same, hyl, rgV_nats, nV_map])) (dp_ints _), sh_ints _, sh_ints _, ?_⟩
    rw [PyData.eqv, eqv_ints, sorted_range h1 h2]
    have hq := q _ (e.trans (e2.trans e3))
    unfold prR at hq
    rw [hall, Bool.true_and] at hq
    exact hq
end
end Rs

set_option Elab.async false
set_option linter.all false
/-! Plain: the evidence, the changed evidence. -/
namespace Rs
structure Found (W : Nat → Nat → Bool) (n : Nat) (p : List (List Nat)) (c : List Nat) : Prop where
  perm : p.flatten.Perm (List.range n)
  ne : ∀ r ∈ p, r ≠ []
  ris : ∀ r ∈ p, rises W r = true
  sub : c.Sublist (List.range n)
  len : c.length = p.length
  cr : c.Pairwise fun i j => crs W i j = true
  n1 : 1 ≤ n
  n10 : n ≤ 10
def wrongs (n : Nat) (p : List (List Nat)) (c : List Nat) : List (List (List Nat) × List Nat) :=
  [(p.drop 1, c), (p, c.drop 1), (p ++ [[]], c ++ c.take 1), (p.map fun r => r ++ r.take 1, c), (p, n :: c.drop 1), if 1 < p.length then (List.replicate p.length (List.range n), c) else ([], [])]
theorem isOrd_len {l : List Nat} {n : Nat} (h : l.length ≠ n) : isOrd l n = false := by
  unfold isOrd
  rw [decide_eq_false h, Bool.false_and]
theorem isOrd_perm {l : List Nat} {n : Nat} (h : l.Perm (List.range n)) : isOrd l n = true := by
  unfold isOrd
  rw [decide_eq_true (by rw [h.length_eq, List.length_range]), Bool.true_and, List.all_eq_true]
  intro i hi
  exact decide_eq_true (List.mem_range.mp (h.mem_iff.mp hi))
theorem senOk_ord {W : Nat → Nat → Bool} {n : Nat} {p : List (List Nat)} {c : List Nat} (h : isOrd p.flatten n = false) : senOk W n p c = false := by
  unfold senOk
  rw [h, Bool.false_and]
theorem ne_len : ∀ {p : List (List Nat)}, (∀ r ∈ p, r ≠ []) → p.length ≤ p.flatten.length
  | [], _ => Nat.zero_le _
  | r :: p, h => by
    have h1 := ne_len fun r' hr => h r' (List.mem_cons_of_mem _ hr)
    have h2 := List.length_pos_iff.mpr (h r List.mem_cons_self)
    rw [List.flatten_cons, List.length_append, List.length_cons]
    omega
theorem dbl_len : ∀ {p : List (List Nat)}, (∀ r ∈ p, r ≠ []) → (p.map fun r => r ++ r.take 1).flatten.length = p.flatten.length + p.length
  | [], _ => rfl
  | r :: p, h => by
    have h1 := dbl_len fun r' hr => h r' (List.mem_cons_of_mem _ hr)
    have h2 := List.length_pos_iff.mpr (h r List.mem_cons_self)
    rw [List.map_cons, List.flatten_cons, List.flatten_cons, List.length_append, List.length_append, List.length_append, List.length_take, List.length_cons, h1]
    omega
theorem rep_len (l : List Nat) : ∀ k : Nat, (List.replicate k l).flatten.length = k * l.length
  | 0 => by simp
  | k + 1 => by rw [List.replicate_succ, List.flatten_cons, List.length_append, rep_len l k, Nat.succ_mul]; omega
theorem cross_mem {W : Nat → Nat → Bool} {c : List Nat} (h : c.Pairwise fun i j => crs W i j = true) {a b : Nat} (ha : a ∈ c) (hb : b ∈ c) (hab : a ≠ b) : crs W a b = true := by
  obtain ⟨i, hi, rfl⟩ := List.getElem_of_mem ha
  obtain ⟨j, hj, rfl⟩ := List.getElem_of_mem hb
  rcases Nat.lt_trichotomy i j with h1 | h1 | h1
  · exact List.pairwise_iff_getElem.mp h i j hi hj h1
  · subst h1; exact absurd rfl hab
  · rw [crs_comm]
    exact List.pairwise_iff_getElem.mp h j i hj hi h1
section
variable {W : Nat → Nat → Bool} {n : Nat} {p : List (List Nat)} {c : List Nat}
theorem Found.flat (F : Found W n p c) : p.flatten.length = n := by rw [F.perm.length_eq, List.length_range]
theorem Found.k1 (F : Found W n p c) : 1 ≤ p.length := by
  cases hp : p with
  | nil =>
    have := F.flat
    rw [hp] at this
    have := F.n1
    simp at *
    omega
  | cons r q => rw [List.length_cons]; omega
theorem Found.kn (F : Found W n p c) : p.length ≤ n := by rw [← F.flat]; exact ne_len F.ne
theorem Found.asc (F : Found W n p c) : c.Pairwise (· < ·) := List.pairwise_lt_range.sublist F.sub
theorem Found.lt (F : Found W n p c) : ∀ i ∈ c, i < n := fun i hi => List.mem_range.mp (F.sub.subset hi)
theorem Found.nd (F : Found W n p c) : p.flatten.Nodup := F.perm.nodup_iff.mpr List.nodup_range
theorem prs_lt {x : Nat × Nat} (h : x ∈ prs c) : x.1 < x.2 := by
  obtain ⟨a, ha, h⟩ := List.mem_flatMap.mp h
  obtain ⟨b, hb, h⟩ := List.mem_filterMap.mp h
  split at h
  · rename_i hab
    cases h
    exact hab
  · cases h
theorem Found.ok (F : Found W n p c) : senOk W n p c = true := by
  unfold senOk
  rw [isOrd_perm F.perm, Bool.true_and]
  have h1 : p.all (rises W) = true := List.all_eq_true.mpr F.ris
  have h2 : p.contains [] = false := by
    cases h : p.contains [] with
    | false => rfl
    | true => exact absurd rfl (F.ne _ (List.contains_iff_mem.mp h))
  have h3 : decide (p.length = c.length) = true := decide_eq_true F.len.symm
  have h4 : c.all (fun i => decide (i < n)) = true := List.all_eq_true.mpr fun i hi => decide_eq_true (F.lt i hi)
  have h5 : rises (fun a b => decide (a < b)) c = true := rises_of (F.asc.imp fun h => decide_eq_true h)
  have h6 : (prs c).all (fun x => crs W x.1 x.2) = true := List.all_eq_true.mpr fun x hx => by
    obtain ⟨m1, m2⟩ := prs_mem hx
    exact cross_mem F.cr m1 m2 (Nat.ne_of_lt (prs_lt hx))
  rw [h1, h2, h3, h4, h5, h6]
  rfl
theorem Found.rev (F : Found W n p c) (h : 1 < c.length) : senOk W n p c.reverse = false := by
  have h5 : rises (fun a b => decide (a < b)) c.reverse = false := by
    cases hr : rises (fun a b => decide (a < b)) c.reverse with
    | false => rfl
    | true =>
      exfalso
      have h1 := rises_pair (W := fun a b => decide (a < b)) (fun i j k a b => decide_eq_true (Nat.lt_trans (of_decide_eq_true a) (of_decide_eq_true b))) hr
      rw [List.pairwise_reverse] at h1
      have a := List.pairwise_iff_getElem.mp h1 0 1 (by omega) h (by omega)
      have b := List.pairwise_iff_getElem.mp F.asc 0 1 (by omega) h (by omega)
      have a := of_decide_eq_true a
      omega
  unfold senOk
  rw [h5, Bool.false_and, Bool.and_false, Bool.and_false, Bool.and_false, Bool.and_false, Bool.and_false]
theorem Found.wrong (F : Found W n p c) : ∀ w ∈ wrongs n p c, senOk W n w.1 w.2 = false ∧ (decide (w.1 = p) && decide (w.2 = c)) = false ∧ w.1.length ≤ 60 ∧ w.1.flatten.length ≤ 4000 ∧ w.2.length ≤ 60 ∧ (isOrd w.1.flatten n = true → w.1.flatten.Nodup) := by
  have hf := F.flat
  have k1 := F.k1
  have kn := F.kn
  have n1 := F.n1
  have n10 := F.n10
  have cl := F.len
  intro w hw
  have bad : ∀ (p' : List (List Nat)) (c' : List Nat), p'.flatten.length ≠ n → p'.length ≤ 60 → p'.flatten.length ≤ 4000 → c'.length ≤ 60 → senOk W n p' c' = false ∧ (decide (p' = p) && decide (c' = c)) = false ∧ p'.length ≤ 60 ∧ p'.flatten.length ≤ 4000 ∧ c'.length ≤ 60 ∧ (isOrd p'.flatten n = true → p'.flatten.Nodup) := fun p' c' h h1 h2 h3 =>
    ⟨senOk_ord (isOrd_len h), by rw [decide_eq_false (fun z => h (by rw [z]; exact hf)), Bool.false_and], h1, h2, h3, fun z => by rw [isOrd_len h] at z; cases z⟩
  unfold wrongs at hw
  rcases List.mem_cons.mp hw with rfl | hw
  · obtain ⟨r, q, rfl⟩ : ∃ r q, p = r :: q := by
      cases p with
      | nil => simp at k1
      | cons r q => exact ⟨r, q, rfl⟩
    have hr := List.length_pos_iff.mpr (F.ne r List.mem_cons_self)
    rw [List.flatten_cons, List.length_append] at hf
    rw [List.length_cons] at kn cl
    exact bad q c (by omega) (by omega) (by omega) (by rw [cl]; omega)
  rcases List.mem_cons.mp hw with rfl | hw
  · have hl : (c.drop 1).length = p.length - 1 := by rw [List.length_drop, cl]
    refine ⟨?_, ?_, (show p.length ≤ 60 by omega), (show p.flatten.length ≤ 4000 by omega), (show (c.drop 1).length ≤ 60 by omega), fun _ => F.nd⟩
    · unfold senOk
      rw [decide_eq_false (show ¬ p.length = (c.drop 1).length by omega), Bool.false_and, Bool.and_false, Bool.and_false, Bool.and_false]
    · rw [decide_eq_false (show ¬ c.drop 1 = c from fun z => by rw [z] at hl; omega), Bool.and_false]
  rcases List.mem_cons.mp hw with rfl | hw
  · have hfl : (p ++ [[]]).flatten = p.flatten := by rw [List.flatten_append]; simp
    refine ⟨?_, ?_, by show (p ++ [[]]).length ≤ 60; rw [List.length_append, List.length_singleton]; omega, by show (p ++ [[]]).flatten.length ≤ 4000; rw [hfl]; omega, by show (c ++ c.take 1).length ≤ 60; rw [List.length_append, List.length_take]; omega, fun _ => by rw [hfl]; exact F.nd⟩
    · unfold senOk
      have hc : (p ++ [[]]).contains [] = true := List.contains_iff_mem.mpr (List.mem_append_right _ List.mem_cons_self)
      rw [hc, Bool.not_true, Bool.false_and, Bool.and_false, Bool.and_false]
    · rw [decide_eq_false (show ¬ p ++ [[]] = p from fun z => by have := congrArg List.length z; rw [List.length_append, List.length_singleton] at this; omega), Bool.false_and]
  rcases List.mem_cons.mp hw with rfl | hw
  · have hd := dbl_len F.ne
    exact bad (p.map fun r => r ++ r.take 1) c (by omega) (by rw [List.length_map]; omega) (by omega) (by omega)
  rcases List.mem_cons.mp hw with rfl | hw
  · have hl : (n :: c.drop 1).length ≤ 60 := by rw [List.length_cons, List.length_drop]; omega
    refine ⟨?_, ?_, (show p.length ≤ 60 by omega), (show p.flatten.length ≤ 4000 by omega), hl, fun _ => F.nd⟩
    · unfold senOk
      have hc : (n :: c.drop 1).all (fun i => decide (i < n)) = false := by rw [List.all_cons, decide_eq_false (Nat.lt_irrefl n), Bool.false_and]
      rw [hc, Bool.false_and, Bool.and_false, Bool.and_false, Bool.and_false, Bool.and_false]
    · rw [decide_eq_false (show ¬ n :: c.drop 1 = c from fun z => ?_), Bool.and_false]
      have : n ∈ c := by rw [← z]; exact List.mem_cons_self
      exact absurd (F.lt n this) (Nat.lt_irrefl n)
  · obtain rfl := List.mem_singleton.mp hw
    by_cases h : 1 < p.length
    · rw [if_pos h]
      have hr := rep_len (List.range n) p.length
      rw [List.length_range] at hr
      have hm : p.length * n ≤ 10 * 10 := Nat.mul_le_mul (by omega) n10
      have hm2 : 2 * n ≤ p.length * n := Nat.mul_le_mul h (Nat.le_refl n)
      exact bad (List.replicate p.length (List.range n)) c (by omega) (by rw [List.length_replicate]; omega) (by omega) (by omega)
    · rw [if_neg h]
      exact bad [] [] (by simp; omega) (by simp) (by simp) (by simp)
end
end Rs

set_option Elab.async false
set_option linter.all false
set_option maxRecDepth 100000
set_option maxHeartbeats 4000000
namespace Rs
open PySem PySem.Spec PyProof.Rows L2 He RsH LamX
section
variable {P : Program} {w : World} {K : PySem.W.Frag} {mg : Str → Option Value} {base : Heap} {h0 : Heap}
/-! ### making evidence -/
theorem rd_senF {H : Hp} {a c : Addr} {xs : List V} {ps : List (List Nat)} {cr : List Nat} {R : Addr → Hp → Prop} {E : XK} (h1 : SqL K H a xs) (h2 : Its K H xs ps) (h3 : xs.length ≤ 4000) (h4 : SqA K H c (cr.map nV)) (q : ∀ x H', Same H H' → SenAt K H' x ps cr → (∀ dx pl cl, H' x = some (.ins (ga K "Risen") dx [("pieces", .ref pl), ("crossing", .ref cl)]) → H pl = none) → R x H') :
    ∀ x dx, H x = none → H dx = none → dx ≠ x → spSin K (.ref x :: ([.ref a, .ref c] ++ [])) (upd (upd H dx (.own x)) x (.ins (ga K "Risen") dx [])) (fun v H2 => v = .non ∧ R x H2) E := fun x dx nx nd ne => by
  have n2 : Same H (upd (upd H dx (.own x)) x (.ins (ga K "Risen") dx [])) := new2 nx nd
  exact ⟨x, a, c, dx, xs, ps, cr, rfl, upd_same, (Gr.of n2).sqL h1, h2.gr (Gr.of n2), h3, (Gr.of n2).sqA h4, fun H' k h f => ⟨rfl, q x H' (kp_same nx n2 k) h fun dx' pl cl h' => by
    have := f dx' pl cl h'
    cases hp : H pl with
    | none => rfl
    | some o => rw [n2 _ _ hp] at this; cases this⟩⟩
theorem rd_sen {H : Hp} {a c : Addr} {xs : List V} {ps : List (List Nat)} {cr : List Nat} {R : Addr → Hp → Prop} {E : XK} (h1 : SqL K H a xs) (h2 : Its K H xs ps) (h3 : xs.length ≤ 4000) (h4 : SqA K H c (cr.map nV)) (q : ∀ x H', Same H H' → SenAt K H' x ps cr → R x H') :
    ∀ x dx, H x = none → H dx = none → dx ≠ x → spSin K (.ref x :: ([.ref a, .ref c] ++ [])) (upd (upd H dx (.own x)) x (.ins (ga K "Risen") dx [])) (fun v H2 => v = .non ∧ R x H2) E :=
  rd_senF h1 h2 h3 h4 fun x H' e s _ => q x H' e s
theorem rd_ris {H : Hp} {a : Addr} {o : List Nat} {R : Addr → Hp → Prop} {E : XK} (h1 : SqA K H a (o.map nV)) (q : ∀ x H', Same H H' → RisAt K H' x o → R x H') :
    ∀ x dx, H x = none → H dx = none → dx ≠ x → spRin K (.ref x :: ([.ref a] ++ [])) (upd (upd H dx (.own x)) x (.ins (ga K "Rising") dx [])) (fun v H2 => v = .non ∧ R x H2) E := fun x dx nx nd ne => by
  have n2 : Same H (upd (upd H dx (.own x)) x (.ins (ga K "Rising") dx [])) := new2 nx nd
  exact ⟨x, a, dx, o, rfl, upd_same, (Gr.of n2).sqA h1, fun H' k h => ⟨rfl, q x H' (kp_same nx n2 k) h⟩⟩
theorem rd_cro {H : Hp} {i j : Nat} {R : Addr → Hp → Prop} {E : XK} (q : ∀ x H', Same H H' → CroAt K H' x i j → R x H') :
    ∀ x dx, H x = none → H dx = none → dx ≠ x → spCin K (.ref x :: ([nV i, nV j] ++ [])) (upd (upd H dx (.own x)) x (.ins (ga K "Crossing") dx [])) (fun v H2 => v = .non ∧ R x H2) E := fun x dx nx nd ne => by
  have n2 : Same H (upd (upd H dx (.own x)) x (.ins (ga K "Crossing") dx [])) := new2 nx nd
  exact ⟨x, dx, i, j, rfl, upd_same, fun H' k h => ⟨rfl, q x H' (kp_same nx n2 k) h⟩⟩
/-! ### _law_wrong_right -/
def spLwr (K : PySem.W.Frag) : Sp := fun vs H Q _ => ∃ (t rl pl fa : Addr) (rs : List (List Int)) (ps : List Nat) (p : List (List Nat)) (c : List Nat), vs = [.ref t, .ref rl, .ref pl, .ref fa] ∧ Told2 K H t pl rs ps ∧ Here K H rl pl rs ps ∧ SenAt K H fa p c ∧ Found (below rs ps) rs.length p c ∧ ∀ H', Same H H' → Q (.bl true) H'
abbrev nW : List Str := ["_law_table", "_law_rows_here", "_law_places", "_law_found", "_law_pieces_now", "_law_crossing", "_law_wrong", "_law_piece", "_law_some"]
theorem sc_lwr : FnScope nW ["_law_table", "_law_rows_here", "_law_places", "_law_found"] (defScope (topS 43)) := ⟨rfl, rfl, rfl, by decide +kernel, rfl, by decide +kernel, by decide +kernel⟩
theorem nf_self {C : Addr} : PySem.W.notFirst K C (.ref C) = true := by unfold PySem.W.notFirst; simp
theorem sen_ins {H : Hp} {a : Addr} {p : List (List Nat)} {c : List Nat} (h : SenAt K H a p c) : ∃ dx fs, H a = some (.ins (ga K "Risen") dx fs) ∧ fs.lookup ("shows" : Str) = none := by
  obtain ⟨dx, pl, cl, xs, h1, _⟩ := h
  exact ⟨dx, _, h1, rfl⟩
/-- the changed evidence that stands in the list wl -/
def SenW (K : PySem.W.Frag) (wl : Addr) (H : Hp) (a : Addr) (p : List (List Nat)) (c : List Nat) : Prop := ∃ dx pl cl xs, H a = some (.ins (ga K "Risen") dx [("pieces", .ref pl), ("crossing", .ref cl)]) ∧ H pl = some (.lst xs) ∧ Tps K H xs p ∧ SqT K H cl (c.map nV) ∧ pl ≠ wl
theorem SenW.at_ {wl : Addr} {H : Hp} {a : Addr} {p : List (List Nat)} {c : List Nat} : SenW K wl H a p c → SenAt K H a p c := fun ⟨dx, pl, cl, xs, h1, h2, h3, h4, _⟩ => ⟨dx, pl, cl, xs, h1, h2, h3, h4⟩
theorem SenW.gr {wl : Addr} {H H' : Hp} (e : Gr H H') {a : Addr} {p : List (List Nat)} {c : List Nat} : SenW K wl H a p c → SenW K wl H' a p c := fun ⟨dx, pl, cl, xs, h1, h2, h3, h4, h5⟩ => ⟨dx, pl, cl, xs, e.ins h1, e.lst h2, h3.gr e, e.sqT h4, h5⟩
theorem SenAt.wF {wl : Addr} {H : Hp} {a : Addr} {p : List (List Nat)} {c : List Nat} (h : SenAt K H a p c) (f : ∀ dx pl cl, H a = some (.ins (ga K "Risen") dx [("pieces", .ref pl), ("crossing", .ref cl)]) → pl ≠ wl) : SenW K wl H a p c := by
  obtain ⟨dx, pl, cl, xs, h1, h2, h3, h4⟩ := h
  exact ⟨dx, pl, cl, xs, h1, h2, h3, h4, f _ _ _ h1⟩
theorem SenAt.wN {wl : Addr} {H : Hp} {a : Addr} {p : List (List Nat)} {c : List Nat} (h : SenAt K H a p c) (n : H wl = none) : SenW K wl H a p c := by
  obtain ⟨dx, pl, cl, xs, h1, h2, h3, h4⟩ := h
  exact ⟨dx, pl, cl, xs, h1, h2, h3, h4, fun z => by rw [z, n] at h2; cases h2⟩
theorem SenW.upd {H : Hp} {a D : Addr} {zs acc : List V} {p : List (List Nat)} {c : List Nat} (hD : H D = some (.lst zs)) (h : SenW K D H a p c) : SenW K D (upd H D (.lst acc)) a p c := by
  obtain ⟨dx, pl, cl, xs, h1, h2, h3, h4, h5⟩ := h
  refine ⟨dx, pl, cl, xs, ?_, ?_, Tps.updL hD h3, SqT.updL hD h4, h5⟩
  · rw [upd_ne (fun z => by rw [z, hD] at h1; cases h1)]; exact h1
  · rw [upd_ne h5]; exact h2
def EvL (K : PySem.W.Frag) (wl : Addr) (H : Hp) (ys : List V) (ws : List (List (List Nat) × List Nat)) : Prop := PySem.W.EachIs (fun y w => ∃ a, y = .ref a ∧ SenW K wl H a w.1 w.2) ys ws
theorem EvL.gr {wl : Addr} {H H' : Hp} (e : Gr H H') {ys : List V} {ws : List (List (List Nat) × List Nat)} (h : EvL K wl H ys ws) : EvL K wl H' ys ws := h.mono fun y w ⟨a, h1, h2⟩ => ⟨a, h1, h2.gr e⟩
theorem EvL.upd {D : Addr} {H : Hp} {zs acc : List V} (hD : H D = some (.lst zs)) {ys : List V} {ws : List (List (List Nat) × List Nat)} (h : EvL K D H ys ws) : EvL K D (upd H D (.lst acc)) ys ws := h.mono fun y w ⟨a, h1, h2⟩ => ⟨a, h1, h2.upd hD⟩
theorem EvL.snoc {wl : Addr} {H : Hp} {x : Addr} {p : List (List Nat)} {c : List Nat} : ∀ {ys : List V} {ws : List (List (List Nat) × List Nat)}, EvL K wl H ys ws → SenW K wl H x p c → EvL K wl H (ys ++ [.ref x]) (ws ++ [(p, c)])
  | _, _, .nil, s => .cons ⟨x, rfl, s⟩ .nil
  | _, _, .cons h t, s => .cons h (EvL.snoc t s)
theorem Kp.senW {wl : Addr} {H H' : Hp} (k : Kp wl H H') {zs : List V} (hD : H wl = some (.lst zs)) {a : Addr} {p : List (List Nat)} {c : List Nat} : SenW K wl H a p c → SenW K wl H' a p c := fun ⟨dx, pl, cl, xs, h1, h2, h3, h4, h5⟩ =>
  ⟨dx, pl, cl, xs, k _ _ (fun z => by rw [z, hD] at h1; cases h1) h1, k _ _ h5 h2, Kp.tps k hD notSeq_lst h3, Kp.sqT k hD notSeq_lst h4, h5⟩
theorem len_flat {p : List (List Nat)} {r : List Nat} (h : r ∈ p) : r.length ≤ p.flatten.length := (List.sublist_flatten_of_mem h).length_le
theorem rep_tps {H : Hp} {a : Addr} {l : List Nat} (h : SqT K H a (l.map nV)) : ∀ k : Nat, Tps K H (List.replicate k [V.ref a]).flatten (List.replicate k l)
  | 0 => .nil
  | k + 1 => by
    rw [List.replicate_succ, List.flatten_cons, List.replicate_succ]
    exact .cons h (rep_tps h k)
def LsN (D : Addr) (H : Hp) (ys : List V) (rs : List (List Nat)) : Prop := PySem.W.EachIs (fun y r => ∃ a, y = .ref a ∧ H a = some (.lst (r.map nV)) ∧ a ≠ D) ys rs
theorem LsN.snoc {D : Addr} {H : Hp} {x : Addr} {r : List Nat} (h1 : H x = some (.lst (r.map nV))) (h2 : x ≠ D) : ∀ {ys : List V} {rs : List (List Nat)}, LsN D H ys rs → LsN D H (ys ++ [.ref x]) (rs ++ [r])
  | _, _, .nil => .cons ⟨x, rfl, h1, h2⟩ .nil
  | _, _, .cons h t => .cons h (LsN.snoc h1 h2 t)
theorem LsN.its {D : Addr} {H : Hp} : ∀ {ys : List V} {rs : List (List Nat)}, LsN D H ys rs → Its K H ys rs
  | _, _, .nil => .nil
  | _, _, .cons ⟨a, e, h, _⟩ t => by subst e; exact .cons (.inl (SqL.of h)) (LsN.its t)
theorem LsN.len {D : Addr} {H : Hp} : ∀ {ys : List V} {rs : List (List Nat)}, LsN D H ys rs → ys.length = rs.length
  | _, _, .nil => rfl
  | _, _, .cons _ t => by rw [List.length_cons, List.length_cons, LsN.len t]
theorem asc_zs {c : List Nat} (h : c.Pairwise (· < ·)) : (zs c).Pairwise (· ≤ ·) := by
  unfold zs
  exact List.pairwise_map.mpr (h.imp fun h => Int.ofNat_le.mpr (Nat.le_of_lt h))
theorem ok_lwr (T : Txt w K h0 mg) : Cal0 P w K mg base 6 "_law_wrong_right" (spLwr K) := by
  obtain ⟨fd, F⟩ := T.f__law_wrong_right
  have mS : Mak0 P w K mg base 1 "Risen" (spSin K) := ok_sin T
  have mR : Mak0 P w K mg base 1 "Rising" (spRin K) := ok_rin T
  have sS : Met0 P w K mg base 5 "Risen" "shows" (spSsh K) := ok_ssh T
  have eS : Met0 P w K mg base 1 "Risen" "__eq__" (spSeq K) := ok_seq T
  refine cal_of F T.g__law_wrong_right sc_lwr (fun vs H Q E h => ?_) (fun _ _ _ _ _ _ us hl => match us, hl with | [_, _, _, _], _ => rfl) (fun cdv A outer s H vs Q E hr h => ?_)
  · obtain ⟨t, rl, pl, fa, rs, ps, p, c, rfl, _⟩ := h
    rfl
  obtain ⟨t, rl, pl, fa, rs, ps, p, c, rfl, Td, Hr, hfa, Fd, q⟩ := h
  refine ⟨_, pss_cons (ps_par (i := 4) (j := 5) rfl sc_lwr.nd rfl rfl (by decide) rfl rfl (pa_cons (pfd 3) (pa_cons (pfd 3) pa_nil)) (by rfl))
    (pss_cons (ps_set (i := 6) sc_lwr.nd rfl (Or.inl rfl) (pe_lst (pa_cons (C8.pe_mk mS hr (by decide) (by rfl) (pa_cons (pe_slice sl_list (pv 4) (po_some pe_int) po_none) (pa_cons (pv 5) pa_nil)))
      (pa_cons (C8.pe_mk mS hr (by decide) (by rfl) (pa_cons (pv 4) (pa_cons (pe_slice sl_tupA (pv 5) (po_some pe_int) po_none) pa_nil)))
      (pa_cons (C8.pe_mk mS hr (by decide) (by rfl) (pa_cons (pe_op op_cat (pv 4) (pe_lst (pa_cons (pe_tup pa_nil) pa_nil))) (pa_cons (pe_op op_catA (pv 5) (pe_slice sl_tupA (pv 5) po_none (po_some pe_int))) pa_nil))) pa_nil)))))
    (pss_cons (ps_expr (pe_bm PySem.F.plainAttrs_list PySem.F.slot_list_append PySem.F.type_list_append mt_append (pv 6) (pa_cons (C8.pe_mk mS hr (by decide) (by rfl) (pa_cons (pe_lc (own := [("_law_piece", 7)]) (g := gName 7) (tt := tYes) (te := tOp (rCatA K) (tVar 7) (tSl (rSlA K) (tVar 7) tNoPart (tPart (tC (.int 1))))) rfl sc_lwr.nd (pi_list (pv 4)) (blkOk_by (N := nW) (sc := defScope (topS 43)) (by decide +kernel))
        (fun _ _ _ _ _ => pg_name (i := 7) sc_lwr.nd rfl (Or.inl rfl)) (fun _ _ _ _ _ => pts_nil) (fun _ _ _ _ _ => pe_op op_catA (pv 7) (pe_slice sl_tupA (pv 7) po_none (po_some pe_int)))) (pa_cons (pv 5) pa_nil))) pa_nil)))
    (pss_cons (ps_expr (pe_bm PySem.F.plainAttrs_list PySem.F.slot_list_append PySem.F.type_list_append mt_append (pv 6) (pa_cons (C8.pe_mk mS hr (by decide) (by rfl) (pa_cons (pv 4) (pa_cons (pe_op op_catA (pe_tup (pa_cons (pe_callB call_len_seq (by rfl) T.z_len (by decide +kernel) (pa_cons (pv 1) pa_nil)) pa_nil)) (pe_slice sl_tupA (pv 5) (po_some pe_int) po_none)) pa_nil))) pa_nil)))
    (pss_cons (ps_expr (pe_bm PySem.F.plainAttrs_list PySem.F.slot_list_append PySem.F.type_list_append mt_append (pv 6) (pa_cons (pe_ifExp (pt_cmpR op_gt (pe_callB call_len_seq (by rfl) T.z_len (by decide +kernel) (pa_cons (pv 4) pa_nil)) pe_int (nomark _))
        (C8.pe_mk mS hr (by decide) (by rfl) (pa_cons (pe_op op_rep (pe_lst (pa_cons (pe_tupRg rfl (by rfl) T.z_tuple (prg_1 (by rfl) T.z_range (pe_callB call_len_seq (by rfl) T.z_len (by decide +kernel) (pa_cons (pv 1) pa_nil)))) pa_nil)) (pe_callB call_len_seq (by rfl) T.z_len (by decide +kernel) (pa_cons (pv 4) pa_nil))) (pa_cons (pv 5) pa_nil)))
        (C8.pe_mk mS hr (by decide) (by rfl) (pa_cons (pe_lst pa_nil) (pa_cons (pe_tup pa_nil) pa_nil)))) pa_nil)))
    (pss_cons (ps_if (PW.pt (pw_or (pt_val (pe_callB (cr_any rfl) (by rfl) T.z_any (by decide +kernel) (pa_cons (pe_lc (own := [("_law_some", 8)]) (g := gName 8) (tt := tYes) (te := tMeth (ga K "Risen") "shows" (spSsh K) [] E0 (tVar 8) (tCons (tVar 0) (tCons (tVar 2) tNil))) rfl sc_lwr.nd (pi_list (pv 6)) (blkOk_by (N := nW) (sc := defScope (topS 43)) (by decide +kernel))
          (fun _ _ _ _ _ => pg_name (i := 8) sc_lwr.nd rfl (Or.inl rfl)) (fun _ _ _ _ _ => pts_nil) (fun _ _ _ _ _ => C8.pe_mt sS hr (by decide) (pv 8) (pa_cons (pv 0) (pa_cons (pv 2) pa_nil)))) pa_nil)))
        (pw_or1 (pt_val (pe_callB (cr_any rfl) (by rfl) T.z_any (by decide +kernel) (pa_cons (pe_lc (own := [("_law_some", 8)]) (g := gName 8) (tt := tYes) (te := tOp (rEqO K (ga K "Risen") (spSeq K)) (tVar 8) (tVar 3)) rfl sc_lwr.nd (pi_list (pv 6)) (blkOk_by (N := nW) (sc := defScope (topS 43)) (by decide +kernel))
          (fun _ _ _ _ _ => pg_name (i := 8) sc_lwr.nd rfl (Or.inl rfl)) (fun _ _ _ _ _ => pts_nil) (fun _ _ _ _ _ => pe_cmpR (eq_o eS hr (by decide)) (pv 8) (pv 3) (nomark _))) pa_nil)))))) (pss_one (ps_ret pe_bl)) pss_nil)
    (pss_cons (ps_if (PW.pt (pw_or (pt_cmpR (op_neD hr.units) (pe_callTy call_list_of (by rfl) T.z_list (by decide +kernel) (pa_cons (pv 5) pa_nil)) (pe_callB cr_sortedT (by rfl) T.z_sorted (by decide +kernel) (pa_cons (pv 5) pa_nil)) (nomark _))
        (pw_or1 (PW.pt (pw_and (pt_cmpR op_gt (pe_callB call_len_seq (by rfl) T.z_len (by decide +kernel) (pa_cons (pv 5) pa_nil)) pe_int (nomark _)) (pw_and1 (pt_val (C8.pe_mt sS hr (by decide) (C8.pe_mk mS hr (by decide) (by rfl) (pa_cons (pv 4) (pa_cons (pe_revT (pv 5)) pa_nil))) (pa_cons (pv 0) (pa_cons (pv 2) pa_nil)))))))))) (pss_one (ps_ret pe_bl)) pss_nil)
    (pss_one (ps_ret (pe_and (pe_cmpR (eq_o eS hr (by decide)) (C8.pe_mk mS hr (by decide) (by rfl) (pa_cons (pe_lc (own := [("_law_piece", 7)]) (g := gName 7) (tt := tYes) (te := tCB (fun xs H Q => ∃ p ys, xs = [V.ref p] ∧ (SqL K H p ys ∨ SqT K H p ys) ∧ ∀ l, H l = none → Q (.ref l) (upd H l (.lst ys))) (tCons (tVar 7) tNil)) rfl sc_lwr.nd (pi_list (pv 4)) (blkOk_by (N := nW) (sc := defScope (topS 43)) (by decide +kernel))
          (fun _ _ _ _ _ => pg_name (i := 7) sc_lwr.nd rfl (Or.inl rfl)) (fun _ _ _ _ _ => pts_nil) (fun _ _ _ _ _ => pe_callTy call_list_of (by rfl) T.z_list (by decide +kernel) (pa_cons (pv 7) pa_nil))) (pa_cons (pe_callTy call_list_of (by rfl) T.z_list (by decide +kernel) (pa_cons (pv 5) pa_nil)) pa_nil))) (pv 3) (nomark _))
      (pe_one (pe_cmpR (ne_o T.E.ne T.E.oS.hm eS hr (by decide)) (pv 3) (C8.pe_mk mR hr (by decide) (by rfl) (pa_cons (pe_tup pa_nil) pa_nil)) (nomark _)))))))))))), ?_⟩
  obtain ⟨dx0, pl0, cl0, xs, a1, a2, a3, a4⟩ := id hfa
  have n10 := Fd.n10
  have n1 := Fd.n1
  have k1 := Fd.k1
  have kn := Fd.kn
  have cl := Fd.len
  have hxl := a3.len
  refine ⟨_, rfl, fa, _, dx0, _, _, rfl, a1, T.c_Risen, T.n_Risen_pieces, rfl, _, rfl, fa, _, dx0, _, _, rfl, a1, T.c_Risen, T.n_Risen_crossing, rfl, _, _, rfl, ?_⟩
  -- the first three
  refine ⟨_, rfl, 1, rfl, ?_⟩
  unfold tNoPart
  refine rd_slL (SqL.of a2) (cut_from _ 1) fun b1 H1 nb1 e1 h1 => ⟨_, rfl, ?_⟩
  refine rd_sen (ps := p.drop 1) (cr := c) (SqL.of h1) ((a3.gr (Gr.of e1)).drop 1).its (by rw [List.length_drop]; omega) (.inr ((Gr.of e1).sqT a4)) fun x1 H2 e2 s1 => ?_
  have E2 := e1.trans e2
  refine ⟨_, rfl, _, rfl, 1, rfl, ?_⟩
  refine rd_slT ((Gr.of E2).sqT a4) (cut_from _ 1) fun b2 H3 e3 h2 => ?_
  have E3 := E2.trans e3
  refine rd_sen (ps := p) (cr := c.drop 1) (SqL.of (E3 _ _ a2)) (a3.gr (Gr.of E3)).its (by omega) (.inr (by rw [List.map_drop]; exact h2)) fun x2 H4 e4 s2 => ?_
  have E4 := E3.trans e4
  refine ⟨_, rfl, show (0 : Nat) ≤ sizeLine by decide, fun tp htp => ⟨show (1 : Nat) ≤ sizeLine by decide, fun lp hlp => ?_⟩⟩
  have e5 : Same H4 (upd H4 tp (.tup [])) := same_new htp _
  have e6 : Same (upd H4 tp (.tup [])) (upd (upd H4 tp (.tup [])) lp (.lst [.ref tp])) := same_new hlp _
  have ht6 : SqT K (upd (upd H4 tp (.tup [])) lp (.lst [.ref tp])) tp (([] : List Nat).map nV) := (Gr.of e6).sqT (SqT.of upd_same)
  have hl6 : upd (upd H4 tp (.tup [])) lp (.lst [.ref tp]) lp = some (.lst [.ref tp]) := upd_same
  generalize upd (upd H4 tp (.tup [])) lp (.lst [.ref tp]) = H6 at *
  have E6 := E4.trans (e5.trans e6)
  refine ⟨pl0, lp, xs, [.ref tp], rfl, rfl, E6 _ _ a2, hl6, Nat.le_of_lt (small _ (by rw [List.length_singleton]; omega)), fun cp hcp => ?_⟩
  have e7 : Same H6 (upd H6 cp (.lst (xs ++ [.ref tp]))) := same_new hcp _
  have hc7 : upd H6 cp (.lst (xs ++ [.ref tp])) cp = some (.lst (xs ++ [.ref tp])) := upd_same
  generalize upd H6 cp (.lst (xs ++ [.ref tp])) = H7 at *
  have E7 := E6.trans e7
  refine ⟨_, rfl, _, rfl, 1, rfl, ?_⟩
  refine rd_slT ((Gr.of E7).sqT a4) (cut_to _ 1) fun b3 H8 e8 h3 => ?_
  have E8 := E7.trans e8
  refine rd_cat ((Gr.of E8).sqT a4) h3 (by rw [List.length_take, List.length_map]; omega) fun b4 H9 e9 h4 => ?_
  have E9 := E8.trans e9
  refine rd_sen (ps := p ++ [[]]) (cr := c ++ c.take 1) (SqL.of ((e8.trans e9) _ _ hc7)) (((a3.gr (Gr.of E9)).app (Tps.one ((Gr.of (e7.trans (e8.trans e9))).sqT ht6))).its) (by rw [List.length_append, List.length_singleton]; omega) (.inr (by rw [List.map_append, List.map_take]; exact h4)) fun x3 H10 e10 s3 => ?_
  have E10 := E9.trans e10
  refine ⟨show (3 : Nat) ≤ sizeLine by decide, fun wl hwl => ?_⟩
  have e11 : Same H10 (upd H10 wl (.lst [.ref x1, .ref x2, .ref x3])) := same_new hwl _
  have hw11 : upd H10 wl (.lst [.ref x1, .ref x2, .ref x3]) wl = some (.lst [.ref x1, .ref x2, .ref x3]) := upd_same
  have hwk : Kp wl H10 (upd H10 wl (.lst [.ref x1, .ref x2, .ref x3])) := Kp.upd
  have s1b : SenW K wl (upd H10 wl (.lst [.ref x1, .ref x2, .ref x3])) x1 (p.drop 1) c := ((s1.gr (Gr.of (e3.trans (e4.trans (e5.trans (e6.trans (e7.trans (e8.trans (e9.trans e10))))))))).wN hwl).gr (Gr.of e11)
  have s2b : SenW K wl (upd H10 wl (.lst [.ref x1, .ref x2, .ref x3])) x2 p (c.drop 1) := ((s2.gr (Gr.of (e5.trans (e6.trans (e7.trans (e8.trans (e9.trans e10))))))).wN hwl).gr (Gr.of e11)
  have s3b : SenW K wl (upd H10 wl (.lst [.ref x1, .ref x2, .ref x3])) x3 (p ++ [[]]) (c ++ c.take 1) := (s3.wN hwl).gr (Gr.of e11)
  have ev11 : EvL K wl (upd H10 wl (.lst [.ref x1, .ref x2, .ref x3])) [.ref x1, .ref x2, .ref x3] [(p.drop 1, c), (p, c.drop 1), (p ++ [[]], c ++ c.take 1)] :=
    .cons ⟨x1, rfl, s1b⟩ (.cons ⟨x2, rfl, s2b⟩ (.cons ⟨x3, rfl, s3b⟩ .nil))
  have fw : SenW K wl (upd H10 wl (.lst [.ref x1, .ref x2, .ref x3])) fa p c := ((hfa.gr (Gr.of E10)).wN hwl).gr (Gr.of e11)
  have E11 := E10.trans e11
  have tn10 : Told2 K (upd H10 wl (.lst [.ref x1, .ref x2, .ref x3])) t pl rs ps := Td.gr (Gr.of E11)
  generalize hH11 : upd H10 wl (.lst [.ref x1, .ref x2, .ref x3]) = H11 at *
  -- the fourth
  refine ⟨_, rfl, .inl ⟨rfl, _, SqL.of hw11⟩, _, rfl, pl0, rfl, ⟨_, SqL.of (E11 _ _ a2)⟩, fun D2 nD2 => ?_⟩
  refine lc_acc walk_list (fun H' ys k => Tps K H' ys ((p.take k).map fun r => r ++ r.take 1) ∧ ys.length ≤ k) nD2 (small _ (by omega)) (fun H' e => (Gr.of e).sqL (SqL.of (E11 _ _ a2))) (fun _ => rfl) ⟨.nil, Nat.le_refl _⟩ (fun H' ys k zs hD t acc => ⟨Tps.updL hD t.1, t.2⟩) (fun H' ys k t => t.2) (fun k y H' ys hk e hD t R hR => ?_) fun H12 y12 e12 t12 hD12 => ?_
  · obtain ⟨b, r, rfl, hr2, hb⟩ := (a3.gr (Gr.of (E11.trans e))).get hk
    have hrl : r.length ≤ p.flatten.length := len_flat (List.mem_of_getElem? hr2)
    have hfl := Fd.flat
    refine ⟨_, rfl, _, rfl, 1, rfl, ?_⟩
    refine rd_slT hb (cut_to _ 1) fun b2 H2 e2 h2 => ?_
    refine rd_cat ((Gr.of e2).sqT hb) h2 (by rw [List.length_take, List.length_map]; omega) fun b3 H3 e3 h3 => hR _ H3 (e2.trans e3) ⟨?_, by rw [List.length_append, List.length_singleton]; exact Nat.succ_le_succ t.2⟩
    rw [List.take_add_one, hr2, List.map_append]
    exact (Tps.gr (Gr.of (e2.trans e3)) t.1).app (Tps.one (by rw [List.map_append, List.map_take]; exact h3))
  obtain ⟨t12, _⟩ := t12
  rw [hxl, List.take_length] at t12
  refine ⟨_, rfl, ?_⟩
  refine rd_senF (ps := p.map fun r => r ++ r.take 1) (cr := c) (SqL.of hD12) t12.its (by rw [t12.len, List.length_map]; omega) (.inr ((Gr.of (E11.trans e12)).sqT a4)) fun x4 H13 e13 s4 f4 => ?_
  have E13 := e12.trans e13
  have hw12 := e12 _ _ hw11
  have hw13 := E13 _ _ hw11
  refine ⟨wl, _, .ref x4, rfl, rfl, hw13, show (3 : Nat) < sizeLine by decide, ?_⟩
  have s4w : SenW K wl H13 x4 _ c := s4.wF fun dx pl cl h z => by
    have := f4 dx pl cl h
    rw [z, hw12] at this
    cases this
  have ev14 : EvL K wl (upd H13 wl (.lst ([.ref x1, .ref x2, .ref x3] ++ [.ref x4]))) [.ref x1, .ref x2, .ref x3, .ref x4] [(p.drop 1, c), (p, c.drop 1), (p ++ [[]], c ++ c.take 1), (p.map fun r => r ++ r.take 1, c)] :=
    EvL.upd hw13 (.cons ⟨x1, rfl, s1b.gr (Gr.of E13)⟩ (.cons ⟨x2, rfl, s2b.gr (Gr.of E13)⟩ (.cons ⟨x3, rfl, s3b.gr (Gr.of E13)⟩ (.cons ⟨x4, rfl, s4w⟩ .nil))))
  have f14 : Same H10 (upd H13 wl (.lst ([.ref x1, .ref x2, .ref x3] ++ [.ref x4]))) := same_upd (e11.trans E13) hwl _
  have hw14 : upd H13 wl (.lst ([.ref x1, .ref x2, .ref x3] ++ [.ref x4])) wl = some (.lst [.ref x1, .ref x2, .ref x3, .ref x4]) := upd_same
  generalize upd H13 wl (.lst ([.ref x1, .ref x2, .ref x3] ++ [.ref x4])) = H14 at *
  have E14 := E10.trans f14
  -- the fifth
  obtain ⟨ys, y1, y2⟩ := Hr.rows
  have hyl := y2.len
  have hlen : ∀ H', Same H H' → SqL K H' rl ys := fun H' e => (Gr.of e).sqL y1
  refine ⟨_, rfl, .inl ⟨rfl, _, SqL.of hw14⟩, _, rfl, _, rfl, rl, ys, rfl, .inl (hlen _ E14), show (1 : Nat) ≤ sizeLine by decide, fun tp htp => ?_⟩
  have e15 : Same H14 (upd H14 tp (.tup [V.int (ys.length : Nat)])) := same_new htp _
  have ht15 : SqT K (upd H14 tp (.tup [V.int (ys.length : Nat)])) tp [nV rs.length] := SqT.of (by rw [upd_same, hyl]; rfl)
  generalize upd H14 tp (.tup [V.int (ys.length : Nat)]) = H15 at *
  have E15 := E14.trans e15
  refine ⟨_, rfl, 1, rfl, ?_⟩
  refine rd_slT ((Gr.of E15).sqT a4) (cut_from _ 1) fun b5 H16 e16 h5 => ?_
  refine rd_cat ((Gr.of e16).sqT ht15) h5 (by rw [List.length_drop, List.length_map, List.length_singleton]; omega) fun b6 H17 e17 h6 => ?_
  have f17 : Same H14 H17 := e15.trans (e16.trans e17)
  have hw17 := f17 _ _ hw14
  refine rd_senF (ps := p) (cr := rs.length :: c.drop 1) (SqL.of (f17 _ _ (E14 _ _ a2))) (a3.gr (Gr.of (E14.trans f17))).its (by omega) (.inr (by rw [List.map_cons, List.map_drop]; exact h6)) fun x5 H18 e18 s5 f5 => ?_
  have g18 := f17.trans e18
  have hw18 := g18 _ _ hw14
  refine ⟨wl, _, .ref x5, rfl, rfl, hw18, show (4 : Nat) < sizeLine by decide, ?_⟩
  have s5w : SenW K wl H18 x5 p (rs.length :: c.drop 1) := s5.wF fun dx pl cl h z => by
    have := f5 dx pl cl h
    rw [z, hw17] at this
    cases this
  have ev19 : EvL K wl (upd H18 wl (.lst ([.ref x1, .ref x2, .ref x3, .ref x4] ++ [.ref x5]))) [.ref x1, .ref x2, .ref x3, .ref x4, .ref x5] [(p.drop 1, c), (p, c.drop 1), (p ++ [[]], c ++ c.take 1), (p.map fun r => r ++ r.take 1, c), (p, rs.length :: c.drop 1)] :=
    EvL.upd hw18 ((ev14.gr (Gr.of g18)).snoc s5w)
  have f19 : Same H10 (upd H18 wl (.lst ([.ref x1, .ref x2, .ref x3, .ref x4] ++ [.ref x5]))) := same_upd (f14.trans g18) hwl _
  have hw19 : upd H18 wl (.lst ([.ref x1, .ref x2, .ref x3, .ref x4] ++ [.ref x5])) wl = some (.lst [.ref x1, .ref x2, .ref x3, .ref x4, .ref x5]) := upd_same
  generalize upd H18 wl (.lst ([.ref x1, .ref x2, .ref x3, .ref x4] ++ [.ref x5])) = H19 at *
  have E19 := E10.trans f19
  -- the sixth
  refine ⟨_, rfl, .inl ⟨rfl, _, SqL.of hw19⟩, ?_⟩
  obtain ⟨w6, hw6⟩ : ∃ w6, w6 = if 1 < p.length then (List.replicate p.length (List.range rs.length), c) else ([], []) := ⟨_, rfl⟩
  refine ⟨_, rfl, pl0, xs, rfl, .inl (SqL.of (E19 _ _ a2)), _, _, rfl, rfl, decide (1 < p.length), congrArg V.bl (by rw [hxl]; exact decide_eq_decide.mpr (by omega)), rdb (fun z => ?brA) (fun z => ?brB)⟩
  case' brA =>
    have hz : w6 = _ := hw6.trans (if_pos (of_decide_eq_true z))
    refine ⟨_, rfl, rl, ys, rfl, .inl (hlen _ E19), _, rfl, ⟨by omega, by omega, by omega, by omega, by omega⟩, fun rp hrp => ⟨show (1 : Nat) ≤ sizeLine by decide, fun lp hlp => ?_⟩⟩
    have e20 : Same H19 (upd H19 rp (.tup (rgV 0 (ys.length : Int)))) := same_new hrp _
    have e21 : Same (upd H19 rp (.tup (rgV 0 (ys.length : Int)))) (upd (upd H19 rp (.tup (rgV 0 (ys.length : Int)))) lp (.lst [.ref rp])) := same_new hlp _
    have ht21 : SqT K (upd (upd H19 rp (.tup (rgV 0 (ys.length : Int)))) lp (.lst [.ref rp])) rp ((List.range rs.length).map nV) := (Gr.of e21).sqT (SqT.of (by rw [upd_same, hyl, rgV_nats]))
    have hl21 : upd (upd H19 rp (.tup (rgV 0 (ys.length : Int)))) lp (.lst [.ref rp]) lp = some (.lst [.ref rp]) := upd_same
    have f21 := e20.trans e21
    generalize upd (upd H19 rp (.tup (rgV 0 (ys.length : Int)))) lp (.lst [.ref rp]) = H21 at *
    refine ⟨_, rfl, pl0, xs, rfl, .inl (SqL.of (f21 _ _ (E19 _ _ a2))), lp, _, [.ref rp], rfl, rfl, hl21, by omega, by omega, ?_, fun cp hcp => ?_⟩
    · have : (1 : Nat) * ((xs.length : Nat) : Int).toNat ≤ sizeLine := Nat.le_of_lt (small _ (by rw [Int.toNat_natCast]; omega))
      exact this
    have e22 : Same H21 (upd H21 cp (.lst (List.replicate ((xs.length : Nat) : Int).toNat [V.ref rp]).flatten)) := same_new hcp _
    have hc22 : upd H21 cp (.lst (List.replicate ((xs.length : Nat) : Int).toNat [V.ref rp]).flatten) cp = some (.lst (List.replicate p.length [V.ref rp]).flatten) := by rw [upd_same, Int.toNat_natCast, hxl]
    have ht22 := (Gr.of e22).sqT ht21
    have f22 := f21.trans e22
    generalize upd H21 cp (.lst (List.replicate ((xs.length : Nat) : Int).toNat [V.ref rp]).flatten) = H22 at *
    have hw22 := f22 _ _ hw19
    refine ⟨_, rfl, ?_⟩
    refine rd_senF (ps := w6.1) (cr := w6.2) (SqL.of hc22) (by rw [hz]; exact (rep_tps ht22 _).its) (by rw [(rep_tps ht22 _).len, List.length_replicate]; omega) (.inr (by rw [hz]; exact (Gr.of (E19.trans f22)).sqT a4)) fun x6 H24 e24 s6 f6 => ?_
    have g24 := f22.trans e24
    have s6w : SenW K wl H24 x6 w6.1 w6.2 := s6.wF fun dx pl cl h z => by
      have := f6 dx pl cl h
      rw [z, hw22] at this
      cases this
  case' brB =>
    have hz : w6 = _ := hw6.trans (if_neg (of_decide_eq_false z))
    refine ⟨show (0 : Nat) ≤ sizeLine by decide, fun lp hlp => ⟨show (0 : Nat) ≤ sizeLine by decide, fun rp hrp => ?_⟩⟩
    have e20 : Same H19 (upd H19 lp (.lst [])) := same_new hlp _
    have e21 : Same (upd H19 lp (.lst [])) (upd (upd H19 lp (.lst [])) rp (.tup [])) := same_new hrp _
    have ht21 : SqT K (upd (upd H19 lp (.lst [])) rp (.tup [])) rp (([] : List Nat).map nV) := SqT.of upd_same
    have hl21 : upd (upd H19 lp (.lst [])) rp (.tup []) lp = some (.lst []) := e21 _ _ upd_same
    have f22 := e20.trans e21
    generalize upd (upd H19 lp (.lst [])) rp (.tup []) = H22 at *
    have hw22 := f22 _ _ hw19
    refine rd_senF (ps := w6.1) (cr := w6.2) (SqL.of hl21) (by rw [hz]; exact .nil) (Nat.zero_le _) (.inr (by rw [hz]; exact ht21)) fun x6 H24 e24 s6 f6 => ?_
    have g24 := f22.trans e24
    have s6w : SenW K wl H24 x6 w6.1 w6.2 := s6.wF fun dx pl cl h z => by
      have := f6 dx pl cl h
      rw [z, hw22] at this
      cases this
  all_goals
    refine ⟨wl, _, .ref x6, rfl, rfl, g24 _ _ hw19, show (5 : Nat) < sizeLine by decide, ?_⟩
    have ev25 : EvL K wl (upd H24 wl (.lst ([.ref x1, .ref x2, .ref x3, .ref x4, .ref x5] ++ [.ref x6]))) ([.ref x1, .ref x2, .ref x3, .ref x4, .ref x5] ++ [.ref x6]) ([(p.drop 1, c), (p, c.drop 1), (p ++ [[]], c ++ c.take 1), (p.map fun r => r ++ r.take 1, c), (p, rs.length :: c.drop 1)] ++ [(w6.1, w6.2)]) :=
      EvL.upd (g24 _ _ hw19) ((ev19.gr (Gr.of g24)).snoc s6w)
    have f25 : Same H10 (upd H24 wl (.lst ([.ref x1, .ref x2, .ref x3, .ref x4, .ref x5] ++ [.ref x6]))) := same_upd (f19.trans g24) hwl _
    have hw25 : upd H24 wl (.lst ([.ref x1, .ref x2, .ref x3, .ref x4, .ref x5] ++ [.ref x6])) wl = some (.lst ([.ref x1, .ref x2, .ref x3, .ref x4, .ref x5] ++ [.ref x6])) := upd_same
    generalize upd H24 wl (.lst ([.ref x1, .ref x2, .ref x3, .ref x4, .ref x5] ++ [.ref x6])) = H25 at *
    have E25 := E10.trans f25
    have ew : [(p.drop 1, c), (p, c.drop 1), (p ++ [[]], c ++ c.take 1), (p.map fun r => r ++ r.take 1, c), (p, rs.length :: c.drop 1)] ++ [(w6.1, w6.2)] = wrongs rs.length p c := by unfold wrongs; rw [← hw6]; rfl
    rw [ew] at ev25
    clear ev19 ev14 ev11 s6w s6 f6
    obtain ⟨dxf, fsf, if1, if2⟩ := sen_ins hfa
    refine ⟨_, rfl, wl, rfl, ⟨_, SqL.of hw25⟩, fun D nD => ?_⟩
    refine lc_map walk_list (fun _ => .bl false) nD (by exact (show (6 : Nat) < sizeLine by decide)) (fun H' e => (Gr.of e).sqL (SqL.of hw25)) (fun _ => rfl) (fun k x H' hx e R hR => ?_) fun H26 e26 hD26 => ?_
    · obtain ⟨w', hw1, a, rfl, sw⟩ := each_get ev25 hx
      obtain ⟨g1, g2, g3, g4, g5, g6⟩ := Fd.wrong w' (List.mem_of_getElem? hw1)
      have sw' := sw.at_.gr (Gr.of e)
      obtain ⟨dx, fs, i1, i2⟩ := sen_ins sw'
      exact ⟨_, rfl, a, dx, fs, rfl, i1, i2, _, rfl, _, rfl, a, t, pl, rs, ps, w'.1, w'.2, rfl, sw', Td.gr (Gr.of (E25.trans e)), g3, g4, g5, g6, fun H'' e'' => by rw [g1]; exact hR H'' e''⟩
    refine ⟨D, [false, false, false, false, false, false], rfl, SqL.of hD26, _, rfl, rdb (fun z => absurd z (by decide)) (fun z => ?_)⟩
    refine ⟨_, rfl, wl, rfl, ⟨_, SqL.of (e26 _ _ hw25)⟩, fun D' nD' => ?_⟩
    refine lc_map walk_list (fun _ => .bl false) nD' (by exact (show (6 : Nat) < sizeLine by decide)) (fun H' e => (Gr.of (e26.trans e)).sqL (SqL.of hw25)) (fun _ => rfl) (fun k x H' hx e R hR => ?_) fun H27 e27 hD27 => ?_
    · obtain ⟨w', hw1, a, rfl, sw⟩ := each_get ev25 hx
      obtain ⟨g1, g2, g3, g4, g5, g6⟩ := Fd.wrong w' (List.mem_of_getElem? hw1)
      have sw' := sw.at_.gr (Gr.of (e26.trans e))
      obtain ⟨dx, fs, i1, i2⟩ := sen_ins sw'
      have E' := E25.trans (e26.trans e)
      exact ⟨_, rfl, _, rfl, a, dx, fs, fa, _, dxf, fsf, rfl, rfl, i1, E' _ _ if1, nf_self, a, fa, w'.1, w'.2, rfl, sw', .inl ⟨p, c, hfa.gr (Gr.of E'), fun H'' e'' => ⟨_, rfl, by rw [g2]; exact hR H'' e''⟩⟩⟩
    refine ⟨D', [false, false, false, false, false, false], rfl, SqL.of hD27, _, rfl, rdb (fun z => absurd z (by decide)) (fun z => ?_)⟩
    have E27 := E25.trans (e26.trans e27)
    have hc27 := (Gr.of E27).sqT a4
    refine ⟨_, rfl, cl0, _, rfl, .inr hc27, fun lp hlp => ?_⟩
    have e28 : Same H27 (upd H27 lp (.lst (c.map nV))) := same_new hlp _
    refine ⟨_, rfl, cl0, zs c, rfl, by rw [← nV_map]; exact (Gr.of e28).sqT hc27, fun ns' sp p1 p2 hsp => ?_⟩
    have e29 : Same (upd H27 lp (.lst (c.map nV))) (upd (upd H27 lp (.lst (c.map nV))) sp (.lst (ns'.map V.int))) := same_new hsp _
    refine ⟨.list (di (zs c)), .list (di ns'), .lst (SqL.of (by rw [← nV_map]; exact e29 _ _ upd_same)) (dp_ints _), .lst (SqL.of upd_same) (dp_ints _), sh_ints _, sh_ints _, ?_⟩
    have hns : ns' = zs c := sorted_uniq p1 p2 (asc_zs Fd.asc)
    refine ⟨false, congrArg V.bl (by rw [PyData.eqv, eqv_ints, hns, decide_eq_true rfl]; rfl), rdb (fun z => by cases z) (fun z => ?_)⟩
    have E29 := E27.trans (e28.trans e29)
    generalize upd (upd H27 lp (.lst (c.map nV))) sp (.lst (ns'.map V.int)) = H29 at *
    have hc29 := (Gr.of E29).sqT a4
    refine ⟨_, rfl, cl0, _, rfl, .inr hc29, _, _, rfl, rfl, decide (1 < c.length), congrArg V.bl (by rw [List.length_map]; exact decide_eq_decide.mpr (by omega)), rdb (fun z => ?_) (fun z => ?_)⟩
    all_goals first
      | (have hcl : 1 < c.length := of_decide_eq_true z
         refine ⟨_, rfl, _, rfl, cl0, _, rfl, hc29, fun rv hrv => ?_⟩
         have e30 : Same H29 (upd H29 rv (.tup (c.map nV).reverse)) := same_new hrv _
         refine rd_sen (ps := p) (cr := c.reverse) (SqL.of (e30 _ _ (E29 _ _ a2))) (a3.gr (Gr.of (E29.trans e30))).its (by omega) (.inr (SqT.of (by rw [upd_same, List.map_reverse]))) fun x7 H31 e31 s7 => ?_
         have E31 := E29.trans (e30.trans e31)
         obtain ⟨dx7, fs7, i1, i2⟩ := sen_ins s7
         refine ⟨x7, dx7, fs7, rfl, i1, i2, _, rfl, _, rfl, x7, t, pl, rs, ps, p, c.reverse, rfl, s7, Td.gr (Gr.of E31), by omega, by rw [Fd.flat]; omega, by rw [List.length_reverse]; omega, fun _ => Fd.nd, fun H32 e32 => ⟨false, by rw [Fd.rev hcl], rdb (fun z => by cases z) (fun z => ?_)⟩⟩
         have E32 := E31.trans e32)
      | (have E32 := E29)
    all_goals
      clear ev25
      refine ⟨_, rfl, pl0, rfl, ⟨_, SqL.of (E32 _ _ a2)⟩, fun D3 nD3 => ?_⟩
      refine lc_acc walk_list (fun H' ys k => LsN D3 H' ys (p.take k) ∧ ys.length ≤ k) nD3 (small _ (by omega)) (fun H' e => (Gr.of e).sqL (SqL.of (E32 _ _ a2))) (fun _ => rfl) ⟨.nil, Nat.le_refl _⟩ (fun H' ys k zs hD t acc => ⟨t.1.mono fun y r ⟨a, u1, u2, u3⟩ => ⟨a, u1, by rw [upd_ne u3]; exact u2, u3⟩, t.2⟩) (fun H' ys k t => t.2) (fun k y H' ys hk e hD t R hR => ?_) fun H40 y40 e40 t40 hD40 => ?_
      · obtain ⟨b, r, rfl, hr2, hb⟩ := (a3.gr (Gr.of (E32.trans e))).get hk
        refine ⟨_, rfl, b, _, rfl, .inr hb, fun l hl => hR _ _ (same_new hl _) ⟨?_, by rw [List.length_append, List.length_singleton]; exact Nat.succ_le_succ t.2⟩⟩
        rw [List.take_add_one, hr2]
        exact LsN.snoc (r := r) upd_same (fun z => by rw [z, hD] at hl; cases hl) (t.1.mono fun y r ⟨a, u1, u2, u3⟩ => ⟨a, u1, same_new hl _ _ _ u2, u3⟩)
      obtain ⟨t40, _⟩ := t40
      rw [hxl, List.take_length] at t40
      have E40 := E32.trans e40
      refine ⟨_, rfl, cl0, _, rfl, .inr ((Gr.of E40).sqT a4), fun l4 hl4 => ?_⟩
      have e41 : Same H40 (upd H40 l4 (.lst (c.map nV))) := same_new hl4 _
      have E41 := E40.trans e41
      refine rd_sen (ps := p) (cr := c) (SqL.of (e41 _ _ hD40)) (t40.its.gr (Gr.of e41)) (by rw [t40.len]; omega) (.inl (SqL.of upd_same)) fun x8 H42 e42 s8 => ?_
      have E42 := E41.trans e42
      obtain ⟨dx8, fs8, i8, _⟩ := sen_ins s8
      refine ⟨_, rfl, x8, dx8, fs8, fa, _, dxf, fsf, rfl, rfl, i8, E42 _ _ if1, nf_self, x8, fa, p, c, rfl, s8, .inl ⟨p, c, hfa.gr (Gr.of E42), fun H43 e43 => ⟨_, rfl, true, congrArg V.bl (by rw [decide_eq_true rfl, decide_eq_true rfl]; rfl), iteT ?_⟩⟩⟩
      have E43 := E42.trans e43
      refine ⟨_, rfl, show (0 : Nat) ≤ sizeLine by decide, fun tq htq => ?_⟩
      have e44 : Same H43 (upd H43 tq (.tup [])) := same_new htq _
      refine rd_ris (o := []) (.inr (SqT.of upd_same)) fun x9 H45 e45 r9 => ?_
      have E45 := E43.trans (e44.trans e45)
      obtain ⟨dx9, ol9, i9, _⟩ := id r9
      exact ⟨fa, dxf, fsf, x9, _, dx9, _, rfl, rfl, E45 _ _ if1, i9, T.E.nf, fa, x9, p, c, rfl, hfa.gr (Gr.of E45), .inr ⟨[], r9, _, rfl, _, rfl, q _ E45⟩⟩
end
end Rs

set_option Elab.async false
set_option linter.all false
/-! Plain: the drawn order, its pieces, its lot. -/
namespace Rs
theorem sing_flat : ∀ l : List Nat, (l.map fun i => [i]).flatten = l
  | [] => rfl
  | x :: l => by rw [List.map_cons, List.flatten_cons, sing_flat l]; rfl
def partsOf (o : List Nat) (m : Nat) : List (List Nat) := [o.take m] ++ (o.drop m).map fun i => [i]
theorem parts_flat (o : List Nat) (m : Nat) : (partsOf o m).flatten = o := by
  unfold partsOf
  rw [List.flatten_append, sing_flat, List.flatten_cons, List.flatten_nil, List.append_nil, List.take_append_drop]
theorem eqv_bl (a b : Bool) : PySem.PyData.eqv (.bool a) (.bool b) = decide (a = b) := by cases a <;> cases b <;> rfl
section
variable {W : Nat → Nat → Bool} {n : Nat} {p : List (List Nat)} {c : List Nat}
theorem Found.noE (F : Found W n p c) : p.contains [] = false := by
  cases h : p.contains [] with
  | false => rfl
  | true => exact absurd rfl (F.ne _ (List.contains_iff_mem.mp h))
theorem Found.clt (F : Found W n p c) : c.all (fun i => decide (i < n)) = true := List.all_eq_true.mpr fun i hi => decide_eq_true (F.lt i hi)
theorem Found.casc (F : Found W n p c) : rises (fun a b => decide (a < b)) c = true := rises_of (F.asc.imp fun h => decide_eq_true h)
theorem Found.cprs (F : Found W n p c) : ((prs c).all fun x => crs W x.1 x.2) = true := List.all_eq_true.mpr fun x hx => by
  obtain ⟨m1, m2⟩ := prs_mem hx
  exact cross_mem F.cr m1 m2 (Nat.ne_of_lt (prs_lt hx))
theorem parts_ok (F : Found W n p c) {o : List Nat} (ho : o.Perm (List.range n)) : senOk W n (partsOf o (n - c.length + 1)) c = prR W n (partsOf o (n - c.length + 1)) := by
  have hl := ho.length_eq
  rw [List.length_range] at hl
  have n1 := F.n1
  have k1 := F.k1
  have kn := F.kn
  have cl := F.len
  have ne : ∀ r ∈ partsOf o (n - c.length + 1), r ≠ [] := by
    intro r hr
    unfold partsOf at hr
    rcases List.mem_append.mp hr with hr | hr
    · rw [List.mem_singleton] at hr
      subst hr
      intro z
      have := congrArg List.length z
      rw [List.length_take, List.length_nil] at this
      omega
    · obtain ⟨i, _, rfl⟩ := List.mem_map.mp hr
      intro z
      cases z
  have hlen : (partsOf o (n - c.length + 1)).length = c.length := by
    unfold partsOf
    rw [List.length_append, List.length_singleton, List.length_map, List.length_drop]
    omega
  have hE : (partsOf o (n - c.length + 1)).contains [] = false := by
    cases h : (partsOf o (n - c.length + 1)).contains [] with
    | false => rfl
    | true => exact absurd rfl (ne _ (List.contains_iff_mem.mp h))
  have hall : ((partsOf o (n - c.length + 1)).all fun r => !decide (r = []) && rises W r) = (partsOf o (n - c.length + 1)).all (rises W) := by
    rw [Bool.eq_iff_iff, List.all_eq_true, List.all_eq_true]
    constructor
    · intro h r hr
      exact (Bool.and_eq_true_iff.mp (h r hr)).2
    · intro h r hr
      rw [h r hr, decide_eq_false (ne r hr)]
      rfl
  unfold senOk prR
  rw [parts_flat, isOrd_perm ho, hE, hlen, decide_eq_true rfl, F.clt, F.casc, F.cprs, hall, List.isPerm_iff.mpr ho]
  simp
theorem lot_ok (F : Found W n p c) {l : List Nat} (h1 : l.Pairwise (· < ·)) (h2 : ∀ i ∈ l, i < n) (h3 : l.length = p.length) : senOk W n p l = allX W l := by
  have a1 : p.all (rises W) = true := List.all_eq_true.mpr F.ris
  have a2 : l.all (fun i => decide (i < n)) = true := List.all_eq_true.mpr fun i hi => decide_eq_true (h2 i hi)
  have a3 : rises (fun a b => decide (a < b)) l = true := rises_of (h1.imp fun h => decide_eq_true h)
  unfold senOk
  rw [isOrd_perm F.perm, a1, F.noE, decide_eq_true h3.symm, a2, a3, Bool.true_and, Bool.true_and, Bool.not_false, Bool.true_and, Bool.true_and, Bool.true_and, Bool.true_and, Bool.eq_iff_iff, allX_pair]
  constructor
  · intro h
    rw [List.all_eq_true] at h
    refine List.pairwise_iff_getElem.mpr fun i j hi hj hij => ?_
    have hlt := List.pairwise_iff_getElem.mp h1 i j hi hj hij
    refine h (l[i], l[j]) ?_
    unfold prs
    refine List.mem_flatMap.mpr ⟨l[i], List.getElem_mem hi, List.mem_filterMap.mpr ⟨l[j], List.getElem_mem hj, ?_⟩⟩
    rw [if_pos hlt]
  · intro h
    refine List.all_eq_true.mpr fun x hx => ?_
    obtain ⟨m1, m2⟩ := prs_mem hx
    exact cross_mem h m1 m2 (Nat.ne_of_lt (prs_lt hx))
end
theorem parts_len {n k : Nat} {o : List Nat} (h : o.length = n) (h1 : 1 ≤ k) (h2 : k ≤ n) : (partsOf o (n - k + 1)).length = k := by
  unfold partsOf
  rw [List.length_append, List.length_singleton, List.length_map, List.length_drop]
  omega
theorem toNat_zs (l : List Nat) : (zs l).map Int.toNat = l := by
  unfold zs
  rw [List.map_map]
  induction l with
  | nil => rfl
  | cons a m ih => rw [List.map_cons, ih]; rfl
theorem lot_of {ns : List Int} {l : List Nat} (h : ns.Perm (zs l)) (h2 : ns.Pairwise (· ≤ ·)) (nd : l.Nodup) : ∃ m, ns = zs m ∧ m.Perm l ∧ m.Pairwise (· < ·) := by
  have hp : (ns.map Int.toNat).Perm l := by
    have := h.map Int.toNat
    rwa [toNat_zs] at this
  have hz : ns = zs (ns.map Int.toNat) := by
    unfold zs
    rw [List.map_map]
    refine (List.map_id ns).symm.trans (List.map_congr_left fun x hx => ?_)
    have := h.mem_iff.mp hx
    unfold zs at this
    obtain ⟨i, _, rfl⟩ := List.mem_map.mp this
    rfl
  refine ⟨ns.map Int.toNat, hz, hp, ?_⟩
  have nd2 : (ns.map Int.toNat).Nodup := hp.nodup_iff.mpr nd
  have h3 : (ns.map Int.toNat).Pairwise (· ≤ ·) := by
    refine List.pairwise_map.mpr (h2.imp fun {a b} h => ?_)
    omega
  exact (h3.and nd2).imp fun {a b} h => by
    have := h.1
    have := h.2
    omega
end Rs

set_option Elab.async false
set_option linter.all false
set_option maxRecDepth 100000
set_option maxHeartbeats 4000000
namespace Rs
open PySem PySem.Spec PyProof.Rows L2 He RsH LamX
section
variable {P : Program} {w : World} {K : PySem.W.Frag} {mg : Str → Option Value} {base : Heap} {h0 : Heap}
/-! ### _law_drawn_right -/
def spDr (K : PySem.W.Frag) : Sp := fun vs H Q _ => ∃ (a t rl pl fa : Addr) (ns : List Int) (rs : List (List Int)) (ps : List Nat) (p : List (List Nat)) (c : List Nat), vs = [.ref a, .ref rl, .ref pl, .ref t, nV rs.length, nV p.length, .ref fa] ∧
  SqL K H a (ns.map V.int) ∧ ns.length ≤ 63 ∧ Told2 K H t pl rs ps ∧ Here K H rl pl rs ps ∧ SenAt K H fa p c ∧ Found (below rs ps) rs.length p c ∧ Tabs (Tl K) H ∧ ∀ H', Gr H H' → Q (.bl true) H'
abbrev nD : List Str := ["_law_script", "_law_rows_here", "_law_places", "_law_table", "_law_many", "_law_most", "_law_found", "_law_drawn", "_law_parts", "_law_lot", "_law_one", "_law_other", "_law_index"]
theorem sc_dr : FnScope nD ["_law_script", "_law_rows_here", "_law_places", "_law_table", "_law_many", "_law_most", "_law_found"] (defScope (topS 44)) := ⟨rfl, rfl, rfl, by decide +kernel, rfl, by decide +kernel, by decide +kernel⟩
abbrev lsc2 : Scope := lamS ((defBody (topS 44)).getD 0 (.Pass ⟨0, 0, 0, 0⟩))
theorem ls2 : LScope ["_law_index", "_law_script"] "_law_index" ["_law_script"] lsc2 := lscope_by (by decide +kernel)
theorem lf2 : NdefX.ndefB (defScope (topS 44)) lsc2 ["_law_script"] = true := by decide +kernel
theorem ris_ins {H : Hp} {a : Addr} {o : List Nat} (h : RisAt K H a o) : ∃ dx fs, H a = some (.ins (ga K "Rising") dx fs) ∧ fs.lookup ("shows" : Str) = none := by
  obtain ⟨dx, ol, h1, _⟩ := h
  exact ⟨dx, _, h1, rfl⟩
theorem cro_ins {H : Hp} {a : Addr} {i j : Nat} (h : CroAt K H a i j) : ∃ dx fs, H a = some (.ins (ga K "Crossing") dx fs) ∧ fs.lookup ("shows" : Str) = none := by
  obtain ⟨dx, h1⟩ := h
  exact ⟨dx, _, h1, rfl⟩
theorem ne_bl {a b : Bool} (h : a = b) : (!PyData.eqv (.bool a) (.bool b)) = false := by rw [eqv_bl, decide_eq_true h]; rfl
theorem mod_row (x : Int) {n : Nat} (h : 1 ≤ n) : ∃ i : Nat, x % ((n : Nat) : Int) = (i : Int) ∧ i < n := by
  have h1 := Int.emod_nonneg x (show ((n : Nat) : Int) ≠ 0 by omega)
  have h2 := Int.emod_lt_of_pos x (show (0 : Int) < ((n : Nat) : Int) by omega)
  exact ⟨(x % ((n : Nat) : Int)).toNat, by omega, by omega⟩
theorem ok_dr (B : TxtB w K h0 mg base) : Cal0 P w K mg base 7 "_law_drawn_right" (spDr K) := by
  have T := B.t
  obtain ⟨fd, F⟩ := T.f__law_drawn_right
  have cN : Cal0 P w K mg base 1 "_law_number" (spLn K) := ok_ln T
  have cL : Cal0 P w K mg base 1 "_law_rise" (spLri K) := ok_lri T
  have cPr : Cal0 P w K mg base 2 "_law_pieces_right" (spLpr K) := ok_lpr T
  have cAx : Cal0 P w K mg base 2 "_law_all_cross" (spLax K) := ok_lax T
  have cX : Cal0 P w K mg base 1 "_law_cross" (spLx K) := ok_lx T
  have cW : Cal0 P w K mg base 6 "_law_wrong_right" (spLwr K) := ok_lwr T
  have mS : Mak0 P w K mg base 1 "Risen" (spSin K) := ok_sin T
  have mR : Mak0 P w K mg base 1 "Rising" (spRin K) := ok_rin T
  have mC : Mak0 P w K mg base 1 "Crossing" (spCin K) := ok_cin T
  have sS : Met0 P w K mg base 5 "Risen" "shows" (spSsh K) := ok_ssh T
  have sR : Met0 P w K mg base 5 "Rising" "shows" (spRsh K) := ok_rsh T
  have sC : Met0 P w K mg base 5 "Crossing" "shows" (spCsh K) := ok_csh T
  have eC : Met0 P w K mg base 1 "Crossing" "__eq__" (spCeq K) := ok_ceq T
  refine cal_ofT F T.g__law_drawn_right sc_dr (fun vs H Q E h => ?_) (fun _ _ _ _ _ _ us hl => match us, hl with | [_, _, _, _, _, _, _], _ => rfl) (fun A outer s H vs Q E hr h => ?_)
  · obtain ⟨a, t, rl, pl, fa, ns, rs, ps, p, c, rfl, _⟩ := h
    rfl
  obtain ⟨a, t, rl, pl, fa, ns, rs, ps, p, c, rfl, hs, hnl, Td, Hr, hfa, Fd, hT, q⟩ := h
  refine ⟨_, pss_cons (ps_set (i := 7) sc_dr.nd rfl (Or.inl rfl) (pe_sort (T := Tl K) (N := ["_law_index", "_law_script"]) (fr := ["_law_script"]) (js := [0]) (k := 1) (tb := tOp (rI (fun _ j => 0 < j) fun i j => .int (i % j)) (tCall (spLn K) [] E0 (tCons (tVar 1) (tCons (tOp (rI0 fun i j => .int (i + j)) (tC (.int 100)) (tVar 0)) tNil))) (tC (.int 1009))) (by rfl) T.z_sorted
      (pa_cons (pe_callTy cr_range1 (by rfl) T.z_range (by decide +kernel) (pa_cons (pv 4) pa_nil)) pa_nil)
      rfl (hr.mono (by decide)) B.tb2 rfl (List.mem_cons_of_mem _ List.mem_cons_self) (fun p hp e => ?_) rfl ls2 (NdefX.ndef_free lf2) (NdefX.ndef_fr lf2) rfl (fun _ _ _ _ _ _ => rfl) (fun A outer s H f c' hr2 => by exact pe_op op_mod (C8.pe_c cN hr2 (by decide) (by rfl) (pa_cons (pv 1) (pa_cons (pe_op op_add pe_int (pv 0)) pa_nil))) pe_int)))
    (pss_cons (ps_if (PW.pt (pw_or (pt_cmpR (op_neD hr.units) (C8.pe_mt sR hr (by decide) (C8.pe_mk mR hr (by decide) (by rfl) (pa_cons (pv 7) pa_nil)) (pa_cons (pv 3) (pa_cons (pv 2) pa_nil))) (C8.pe_c cL hr (by decide) (by rfl) (pa_cons (pv 1) (pa_cons (pv 7) (pa_cons (pv 2) pa_nil)))) (nomark _))
        (pw_or1 (pt_val (C8.pe_mt sR hr (by decide) (C8.pe_mk mR hr (by decide) (by rfl) (pa_cons (pe_slice sl_list (pv 7) (po_some pe_int) po_none) pa_nil)) (pa_cons (pv 3) (pa_cons (pv 2) pa_nil))))))) (pss_one (ps_ret pe_bl)) pss_nil)
    (pss_cons (ps_set (i := 8) sc_dr.nd rfl (Or.inl rfl) (pe_op op_cat (pe_lst (pa_cons (pe_tupleOf (by rfl) T.z_tuple (pe_slice sl_list (pv 7) po_none (po_some (pe_op op_add (pe_op op_sub (pv 4) (pv 5)) pe_int)))) pa_nil)) (pe_lc (own := [("_law_index", 12)]) (g := gName 12) (tt := tYes) (te := tTup (tCons (tVar 12) tNil)) rfl sc_dr.nd (pi_list (pe_slice sl_list (pv 7) (po_some (pe_op op_add (pe_op op_sub (pv 4) (pv 5)) pe_int)) po_none)) (blkOk_by (N := nD) (sc := defScope (topS 44)) (by decide +kernel))
        (fun _ _ _ _ _ => pg_name (i := 12) sc_dr.nd rfl (Or.inl rfl)) (fun _ _ _ _ _ => pts_nil) (fun _ _ _ _ _ => pe_tup (pa_cons (pv 12) pa_nil)))))
    (pss_cons (ps_if (pt_cmpR (op_neD hr.units) (C8.pe_mt sS hr (by decide) (C8.pe_mk mS hr (by decide) (by rfl) (pa_cons (pv 8) (pa_cons (pfd 6) pa_nil))) (pa_cons (pv 3) (pa_cons (pv 2) pa_nil))) (C8.pe_c cPr hr (by decide) (by rfl) (pa_cons (pv 1) (pa_cons (pv 8) (pa_cons (pv 2) pa_nil)))) (nomark _)) (pss_one (ps_ret pe_bl)) pss_nil)
    (pss_cons (ps_set (i := 9) sc_dr.nd rfl (Or.inl rfl) (pe_tupleOf (by rfl) T.z_tuple (pe_callB cr_sortedI (by rfl) T.z_sorted (by decide +kernel) (pa_cons (pe_slice sl_list (pv 7) po_none (po_some (pv 5))) pa_nil))))
    (pss_cons (ps_if (pt_cmpR (op_neD hr.units) (C8.pe_mt sS hr (by decide) (C8.pe_mk mS hr (by decide) (by rfl) (pa_cons (pfd 6) (pa_cons (pv 9) pa_nil))) (pa_cons (pv 3) (pa_cons (pv 2) pa_nil))) (C8.pe_c cAx hr (by decide) (by rfl) (pa_cons (pv 1) (pa_cons (pv 9) (pa_cons (pv 2) pa_nil)))) (nomark _)) (pss_one (ps_ret pe_bl)) pss_nil)
    (pss_cons (ps_par (i := 10) (j := 11) rfl sc_dr.nd rfl rfl (by decide) rfl rfl (pa_cons (pe_op op_mod (pe_callTy call_int1 (by rfl) T.z_int (by decide +kernel) (pa_cons (C8.pe_c cN hr (by decide) (by rfl) (pa_cons (pv 0) (pa_cons pe_int pa_nil))) pa_nil)) (pv 4))
        (pa_cons (pe_op op_mod (pe_callTy call_int1 (by rfl) T.z_int (by decide +kernel) (pa_cons (C8.pe_c cN hr (by decide) (by rfl) (pa_cons (pv 0) (pa_cons pe_int pa_nil))) pa_nil)) (pv 4)) pa_nil)) (by rfl))
    (pss_cons (ps_if (pt_cmpR (op_neD hr.units) (C8.pe_mt sC hr (by decide) (C8.pe_mk mC hr (by decide) (by rfl) (pa_cons (pv 10) (pa_cons (pv 11) pa_nil))) (pa_cons (pv 3) (pa_cons (pv 2) pa_nil))) (C8.pe_c cX hr (by decide) (by rfl) (pa_cons (pe_ix ix_list (pv 1) (pv 10) (fun _ _ => rfl)) (pa_cons (pe_ix ix_list (pv 1) (pv 11) (fun _ _ => rfl)) (pa_cons (pv 2) pa_nil)))) (nomark _)) (pss_one (ps_ret pe_bl)) pss_nil)
    (pss_cons (ps_if (PW.pt (pw_or (pt_val (C8.pe_mt sC hr (by decide) (C8.pe_mk mC hr (by decide) (by rfl) (pa_cons (pv 10) (pa_cons (pv 4) pa_nil))) (pa_cons (pv 3) (pa_cons (pv 2) pa_nil))))
        (pw_or1 (pt_cmpR (eq_o eC hr (by decide)) (C8.pe_mk mC hr (by decide) (by rfl) (pa_cons (pv 10) (pa_cons (pv 11) pa_nil))) (C8.pe_mk mC hr (by decide) (by rfl) (pa_cons (pv 10) (pa_cons (pe_op op_add (pv 11) pe_int) pa_nil))) (nomark _))))) (pss_one (ps_ret pe_bl)) pss_nil)
    (pss_one (ps_ret (C8.pe_c cW hr (by decide) (by rfl) (pa_cons (pv 3) (pa_cons (pv 1) (pa_cons (pv 2) (pa_cons (pv 6) pa_nil))))))))))))))), ?_⟩
  · rcases List.mem_cons.mp hp with rfl | hp
    · exact absurd e T.tne
    · rcases List.mem_cons.mp hp with rfl | hp
      · rfl
      · cases hp
  obtain ⟨dx0, pl0, cl0, xs, a1, a2, a3, a4⟩ := id hfa
  have n10 := Fd.n10
  have n1 := Fd.n1
  have k1 := Fd.k1
  have kn := Fd.kn
  have cl := Fd.len
  have few := Td.sh.few
  have hxl := a3.len
  refine ⟨_, rfl, _, rfl, fun rp hrp => ⟨rp, rs.length, fun i => .int (numL ns (100 + i) % 1009), rfl, upd_same, by omega, hT.ext (same_new hrp _), fun d hd d' hd' => ?_, .inr fun d hd => ?_, fun i _ => ?_, fun i hi H2 g R hR => ?_, fun o b H2 o1 o2 g2 t2 hb => ?_⟩⟩
  · obtain ⟨i, _, rfl⟩ := List.mem_map.mp hd
    obtain ⟨j, _, rfl⟩ := List.mem_map.mp hd'
    rfl
  · obtain ⟨i, _, rfl⟩ := List.mem_map.mp hd
    exact ⟨fun z => (by cases z), fun xs z => (by cases z)⟩
  · show 0 ≤ 1
    decide
  · refine ⟨_, rfl, _, rfl, _, _, rfl, rfl, a, ns, 100 + i, ?_, ((Gr.of (same_new hrp _)).trans g).sqL hs, hnl, by omega, fun H' e' => ⟨_, _, rfl, rfl, show (0 : Int) < 1009 by decide, hR _ _ e' (.int _)⟩⟩
    show [V.ref a, V.int (100 + (i : Int))] = [V.ref a, V.int ((100 + i : Nat) : Int)]
    rw [Int.natCast_add]
    rfl
  have G := (Gr.of (same_new hrp _)).trans g2
  have hol := o1.length_eq
  rw [List.length_range] at hol
  have olt : ∀ i ∈ o, i < rs.length := fun i hi => List.mem_range.mp (o1.mem_iff.mp hi)
  have ond : o.Nodup := o1.nodup_iff.mpr List.nodup_range
  have Td2 := Td.gr G
  have Hr2 := Hr.gr G
  have hfa2 := hfa.gr G
  have hs2 := G.sqL hs
  clear o2 t2
  -- the drawn order
  refine ⟨_, rfl, ?_⟩
  refine rd_ris (o := o) (.inl (SqL.of hb)) fun x1 H3 e3 r1 => ?_
  obtain ⟨dx1, fs1, i1, j1⟩ := ris_ins r1
  refine ⟨x1, dx1, fs1, rfl, i1, j1, _, rfl, _, rfl, x1, t, pl, rs, ps, o, rfl, r1, Td2.gr (Gr.of e3), by omega, fun _ => ond, fun H4 e4 => ?_⟩
  have E4 := e3.trans e4
  refine ⟨_, rfl, _, rfl, _, rfl, rl, b, pl, rs, ps, o, rfl, Hr2.gr (Gr.of E4), .inl (SqL.of (E4 _ _ hb)), olt, by omega, fun H5 e5 => ⟨.bool _, .bool _, .bl _, .bl _, rfl, rfl, false, congrArg V.bl (ne_bl (by rw [isOrd_perm o1, Bool.true_and])), rdb (fun z => by cases z) (fun z => ?_)⟩⟩
  have E5 := E4.trans e5
  refine ⟨_, rfl, 1, rfl, ?_⟩
  unfold tNoPart
  refine rd_slL (SqL.of (E5 _ _ hb)) (cut_from _ 1) fun b1 H6 nb1 e6 h6 => ?_
  refine rd_ris (o := o.drop 1) (.inl (SqL.of (by rw [List.map_drop]; exact h6))) fun x2 H7 e7 r2 => ?_
  obtain ⟨dx2, fs2, i2, j2⟩ := ris_ins r2
  have E7 := E5.trans (e6.trans e7)
  have hno : isOrd (o.drop 1) rs.length = false := isOrd_len (by rw [List.length_drop]; omega)
  refine ⟨x2, dx2, fs2, rfl, i2, j2, _, rfl, _, rfl, x2, t, pl, rs, ps, o.drop 1, rfl, r2, Td2.gr (Gr.of E7), by rw [List.length_drop]; omega, (fun z => by rw [hno] at z; cases z), fun H8 e8 => ⟨false, congrArg V.bl (by rw [hno]; rfl), rdb (fun z => by cases z) (fun z => ?_)⟩⟩
  have E8 := E7.trans e8
  -- the pieces of the drawn order
  have hn : ((rs.length : Nat) : Int) - ((p.length : Nat) : Int) + 1 = ((rs.length - p.length + 1 : Nat) : Int) := by omega
  refine ⟨_, rfl, _, rfl, _, rfl, _, _, rfl, rfl, _, _, rfl, rfl, _, rfl, ?_⟩
  refine rd_slL (ys := (o.take (rs.length - p.length + 1)).map nV) (SqL.of (E8 _ _ hb)) (by rw [hn, cut_to, List.map_take]) fun b2 H9 nb2 e9 h9 => ?_
  refine rd_tup (.inl (SqL.of h9)) fun q1 H10 e10 h10 => ⟨show (1 : Nat) ≤ sizeLine by decide, fun lp hlp => ?_⟩
  have e11 : Same H10 (upd H10 lp (.lst [.ref q1])) := same_new hlp _
  have h11 : upd H10 lp (.lst [.ref q1]) lp = some (.lst [.ref q1]) := upd_same
  generalize upd H10 lp (.lst [.ref q1]) = H11 at *
  have E11 := E8.trans (e9.trans (e10.trans e11))
  refine ⟨_, rfl, _, rfl, _, rfl, _, _, rfl, rfl, _, _, rfl, rfl, _, rfl, ?_⟩
  refine rd_slL (ys := (o.drop (rs.length - p.length + 1)).map nV) (SqL.of (E11 _ _ hb)) (by rw [hn, cut_from, List.map_drop]) fun b3 H12 nb3 e12 h12 => ⟨b3, rfl, ⟨_, SqL.of h12⟩, fun D nD => ?_⟩
  refine lc_acc walk_list (fun H' ys k => Tps K H' ys (((o.drop (rs.length - p.length + 1)).take k).map fun i => [i]) ∧ ys.length ≤ k) nD (small _ (by rw [List.length_map, List.length_drop]; omega)) (fun H' e => (Gr.of e).sqL (SqL.of h12)) (fun _ => rfl) ⟨.nil, Nat.le_refl _⟩ (fun H' ys k zs hD t acc => ⟨Tps.updL hD t.1, t.2⟩) (fun H' ys k t => t.2) (fun k y H' ys hk e hD t R hR => ?_) fun H13 y13 e13 t13 hD13 => ?_
  · rw [List.getElem?_map] at hk
    obtain ⟨i, hi, rfl⟩ := Option.map_eq_some_iff.mp hk
    refine ⟨_, rfl, show (1 : Nat) ≤ sizeLine by decide, fun tp htp => hR _ _ (same_new htp _) ⟨?_, by rw [List.length_append, List.length_singleton]; exact Nat.succ_le_succ t.2⟩⟩
    rw [List.take_add_one, hi, List.map_append]
    exact (Tps.gr (Gr.of (same_new htp _)) t.1).app (Tps.one (SqT.of upd_same))
  obtain ⟨t13, l13⟩ := t13
  rw [List.length_map, List.take_length] at t13
  rw [List.length_map, List.length_drop] at l13
  refine ⟨lp, D, _, _, rfl, rfl, (e12.trans e13) _ _ h11, hD13, Nat.le_of_lt (small _ (by rw [List.length_singleton]; omega)), fun cp hcp => ?_⟩
  have e14 : Same H13 (upd H13 cp (.lst ([.ref q1] ++ y13))) := same_new hcp _
  have h14 : upd H13 cp (.lst ([.ref q1] ++ y13)) cp = some (.lst ([.ref q1] ++ y13)) := upd_same
  have t14 : Tps K (upd H13 cp (.lst ([.ref q1] ++ y13))) ([.ref q1] ++ y13) (partsOf o (rs.length - p.length + 1)) :=
    (Tps.one ((Gr.of (e11.trans (e12.trans (e13.trans e14)))).sqT h10)).app (t13.gr (Gr.of e14))
  generalize upd H13 cp (.lst ([.ref q1] ++ y13)) = H14 at *
  have E14 := E11.trans (e12.trans (e13.trans e14))
  have pl14 := parts_len hol k1 kn
  have hpk := parts_ok Fd o1
  rw [cl] at hpk
  have pf14 := parts_flat o (rs.length - p.length + 1)
  generalize partsOf o (rs.length - p.length + 1) = parts at *
  -- its evidence
  obtain ⟨dxf, pf, cf, xf, k1', k2', k3', k4'⟩ := id hfa2
  refine ⟨_, rfl, _, rfl, fa, _, dxf, _, _, rfl, E14 _ _ k1', T.c_Risen, T.n_Risen_crossing, rfl, ?_⟩
  refine rd_sen (ps := parts) (cr := c) (SqL.of h14) t14.its (by rw [t14.len]; omega) (.inr ((Gr.of E14).sqT k4')) fun x3 H15 e15 s3 => ?_
  obtain ⟨dx3, fs3, i3, j3⟩ := sen_ins s3
  have E15 := E14.trans e15
  refine ⟨x3, dx3, fs3, rfl, i3, j3, _, rfl, _, rfl, x3, t, pl, rs, ps, parts, c, rfl, s3, Td2.gr (Gr.of E15), by omega, by rw [pf14]; omega, by omega, (fun _ => by rw [pf14]; exact ond), fun H16 e16 => ?_⟩
  have e16' := e15.trans e16
  have E16 := E14.trans e16'
  refine ⟨_, rfl, _, rfl, _, rfl, rl, cp, pl, rs, ps, _, parts, rfl, Hr2.gr (Gr.of E16), SqL.of (e16' _ _ h14), t14.gr (Gr.of e16'), by omega, by rw [pf14]; omega, (fun r hr i hi => olt i (by rw [← pf14]; exact List.mem_flatten.mpr ⟨r, hr, hi⟩)), fun H17 e17 => ⟨.bool _, .bool _, .bl _, .bl _, rfl, rfl, false, congrArg V.bl (ne_bl hpk), rdb (fun z => by cases z) (fun z => ?_)⟩⟩
  have E17 := E16.trans e17
  -- the lot
  refine ⟨_, rfl, _, rfl, _, rfl, ?_⟩
  refine rd_slL (ys := (o.take p.length).map nV) (SqL.of (E17 _ _ hb)) (by rw [cut_to, List.map_take]) fun b4 H18 nb4 e18 h18 => ⟨b4, zs (o.take p.length), rfl, SqL.of (by rw [← nV_map]; exact h18), fun ns' sp p1 p2 hsp => ?_⟩
  obtain ⟨l, rfl, lp2, la⟩ := lot_of p1 p2 (ond.sublist (List.take_sublist _ _))
  have e19 : Same H18 (upd H18 sp (.lst ((zs l).map V.int))) := same_new hsp _
  have h19 : upd H18 sp (.lst ((zs l).map V.int)) sp = some (.lst (l.map nV)) := by rw [upd_same, nV_map]
  generalize upd H18 sp (.lst ((zs l).map V.int)) = H19 at *
  refine rd_tup (.inl (SqL.of h19)) fun lt H20 e20 h20 => ?_
  have E20 := E17.trans (e18.trans (e19.trans e20))
  have hll : l.length = p.length := by rw [lp2.length_eq, List.length_take]; omega
  have hlt : ∀ i ∈ l, i < rs.length := fun i hi => olt i (List.mem_of_mem_take (lp2.mem_iff.mp hi))
  refine ⟨_, rfl, fa, _, dxf, _, _, rfl, E20 _ _ k1', T.c_Risen, T.n_Risen_pieces, rfl, _, rfl, ?_⟩
  refine rd_sen (ps := p) (cr := l) (SqL.of (E20 _ _ k2')) (k3'.gr (Gr.of E20)).its (by rw [k3'.len]; omega) (.inr h20) fun x4 H21 e21 s4 => ?_
  obtain ⟨dx4, fs4, i4, j4⟩ := sen_ins s4
  have E21 := E20.trans e21
  refine ⟨x4, dx4, fs4, rfl, i4, j4, _, rfl, _, rfl, x4, t, pl, rs, ps, p, l, rfl, s4, Td2.gr (Gr.of E21), by omega, by rw [Fd.flat]; omega, by omega, (fun _ => Fd.nd), fun H22 e22 => ?_⟩
  have E22 := E21.trans e22
  refine ⟨_, rfl, _, rfl, _, rfl, rl, lt, pl, rs, ps, l, rfl, Hr2.gr (Gr.of E22), (Gr.of (e21.trans e22)).sqT h20, hlt, by omega, fun H23 e23 => ⟨.bool _, .bool _, .bl _, .bl _, rfl, rfl, false, congrArg V.bl (ne_bl (lot_ok Fd la hlt hll)), rdb (fun z => by cases z) (fun z => ?_)⟩⟩
  have E23 := E22.trans e23
  -- two rows
  obtain ⟨i, hi1, hi2⟩ : ∃ i : Nat, numL ns 97 % ((rs.length : Nat) : Int) = (i : Int) ∧ i < rs.length := mod_row _ n1
  obtain ⟨j, hj1, hj2⟩ : ∃ i : Nat, numL ns 98 % ((rs.length : Nat) : Int) = (i : Int) ∧ i < rs.length := mod_row _ n1
  have hn0 : (0 : Int) < ((rs.length : Nat) : Int) := by omega
  refine ⟨_, rfl, a, ns, 97, rfl, (Gr.of E23).sqL hs2, hnl, by omega, fun H24 e24 => .inl ⟨_, rfl, _, rfl, _, _, rfl, rfl, hn0, ?_⟩⟩
  refine ⟨_, rfl, a, ns, 98, rfl, (Gr.of (E23.trans e24)).sqL hs2, hnl, by omega, fun H25 e25 => .inl ⟨_, rfl, _, rfl, _, _, rfl, rfl, hn0, ?_⟩⟩
  have E25 := E23.trans (e24.trans e25)
  dsimp only
  rw [hi1, hj1]
  refine ⟨_, _, rfl, _, rfl, _, rfl, ?_⟩
  refine rd_cro (i := i) (j := j) fun x5 H26 e26 r5 => ?_
  obtain ⟨dx5, fs5, i5, j5⟩ := cro_ins r5
  have E26 := E25.trans e26
  refine ⟨x5, dx5, fs5, rfl, i5, j5, _, rfl, _, rfl, x5, t, pl, rs, ps, i, j, rfl, r5, Td2.gr (Gr.of E26), fun H27 e27 => ?_⟩
  have E27 := E26.trans e27
  have Hx := Hr2.gr (Gr.of E27)
  obtain ⟨ys, y1, y2⟩ := Hx.rows
  obtain ⟨ra, u1, u2⟩ := y2.get hi2
  obtain ⟨rb, w1, w2⟩ := y2.get hj2
  refine ⟨_, rfl, _, rfl, rl, ys, _, _, rfl, rfl, y1, atI_nat u1, _, rfl, _, rfl, rl, ys, _, _, rfl, rfl, y1, atI_nat w1, _, rfl, ra, rb, pl, _, _, ps, rfl, u2, w2, Hx.pls, fun p hp => ⟨Hr.sh.lt hi2 hp, Hr.sh.lt hj2 hp⟩, few, fun H28 e28 => ⟨.bool _, .bool _, .bl _, .bl _, rfl, rfl, false, congrArg V.bl (ne_bl (by rw [lx_crs, decide_eq_true hi2, decide_eq_true hj2]; rfl)), rdb (fun z => by cases z) (fun z => ?_)⟩⟩
  have E28 := E27.trans e28
  -- no such row; another pair
  refine ⟨_, rfl, _, rfl, ?_⟩
  refine rd_cro (i := i) (j := rs.length) fun x6 H29 e29 r6 => ?_
  obtain ⟨dx6, fs6, i6, j6⟩ := cro_ins r6
  have E29 := E28.trans e29
  refine ⟨x6, dx6, fs6, rfl, i6, j6, _, rfl, _, rfl, x6, t, pl, rs, ps, i, rs.length, rfl, r6, Td2.gr (Gr.of E29), fun H30 e30 => ⟨false, congrArg V.bl (by rw [decide_eq_false (Nat.lt_irrefl _), Bool.and_false]; rfl), rdb (fun z => by cases z) (fun z => ?_)⟩⟩
  refine ⟨_, rfl, _, rfl, ?_⟩
  refine rd_cro (i := i) (j := j) fun x7 H31 e31 r7 => ?_
  refine ⟨_, rfl, _, rfl, _, _, rfl, rfl, ?_⟩
  refine rd_cro (i := i) (j := j + 1) fun x8 H32 e32 r8 => ?_
  have r7' := r7.gr (Gr.of e32)
  obtain ⟨dx7, i7⟩ := id r7'
  obtain ⟨dx8, i8⟩ := id r8
  refine ⟨x7, dx7, _, x8, _, dx8, _, rfl, rfl, i7, i8, nf_self, x7, x8, i, j, i, j + 1, rfl, r7', r8, fun H33 e33 => ⟨_, rfl, false, congrArg V.bl (by rw [decide_eq_false (show ¬ j = j + 1 by omega), Bool.and_false]), rdb (fun z => by cases z) (fun z => ?_)⟩⟩
  have E33 := E29.trans (e30.trans (e31.trans (e32.trans e33)))
  exact ⟨_, rfl, _, rfl, _, rfl, _, rfl, t, rl, pl, fa, rs, ps, p, c, rfl, Td2.gr (Gr.of E33), Hr2.gr (Gr.of E33), hfa2.gr (Gr.of E33), Fd, fun H34 e34 => q _ (G.trans (Gr.of (E33.trans e34)))⟩
end
end Rs

set_option Elab.async false
set_option linter.all false
set_option maxRecDepth 100000
set_option maxHeartbeats 4000000
namespace Rs
open PySem PySem.Spec PyProof.Rows L2 He RsH LamX
theorem sh_dt (l : List (List Nat)) : SeqAt.shaped (.list (dt l)) = true := by
  obtain ⟨h1, h2⟩ := lay_tups l
  show (PyData.canLayAll0 (dt l) && decide (PyData.depthAll (dt l) + 1 ≤ 64)) = true
  rw [h1, decide_eq_true (by omega)]
  rfl
/-- [te for slot i in xs if tt], by places -/
theorem lc_valsI {J : It} {G : Hp → Prop} {xs : List V} (wk : Walk J xs.length G (YAt xs)) {i : Nat} {tt : TT} {te : TE} {vs : List Nat} {σ : L2.St} {H1 : Hp} {D : Addr} {Qd : Hp → Prop} (f : Nat → Option V) (nD : H1 D = none) (hz : xs.length < sizeLine) (hG : ∀ H', Same H1 H' → G H')
    (hw : ∀ x, wipe ((wipe σ vs).set i (some x)) vs = wipe σ vs)
    (hs : ∀ (k : Nat) x H', xs[k]? = some x → Same H1 H' → ∀ R : Option V → Hp → Prop, (∀ H'', Same H' H'' → R (f k) H'') → tt ((wipe σ vs).set i (some x)) H' fun b H3 => if b = true then te ((wipe σ vs).set i (some x)) H3 fun y H4 => R (some y) H4 else R none H3)
    (hd : ∀ H', Same H1 H' → H' D = some (.lst ((List.range xs.length).filterMap f)) → Qd H') :
    ∃ W : Nat → Nat → Hp → Prop, (∃ m, W 0 m (upd H1 D (.lst []))) ∧ ∀ i' m H, W i' m H →
      (J.stop i' H ∧ Qd H) ∨ (J.go i' H ∧ ∃ Nx : Hp → Prop, (∀ H', Nx H' → ∃ m', m' < m ∧ W (i' + 1) m' H') ∧ ∀ x H', J.yld i' H x H' → gName i x (wipe σ vs) H' fun σ2 H2 => wipe σ2 vs = wipe σ vs ∧ tt σ2 H2 fun b H3 =>
        if b = true then te σ2 H3 fun y H4 => ∃ acc, H4 D = some (.lst acc) ∧ acc.length < sizeLine ∧ Nx (upd H4 D (.lst (acc ++ [y]))) else Nx H3) := by
  refine lc_it wk (fun k H' => k ≤ xs.length ∧ Same H1 H' ∧ H' D = some (.lst ((List.range k).filterMap f))) ⟨Nat.zero_le _, same_new nD _, upd_same⟩ (fun k H' _ p => hG H' p.2.1) (fun k x H' H'' hk p y => ?_) fun H' p => hd H' p.2.1 p.2.2
  obtain ⟨rfl, hx⟩ := y
  obtain ⟨p0, p⟩ := p
  have hk1 : k + 1 ≤ xs.length := (List.getElem?_eq_some_iff.mp hx).1
  have es : (List.range (k + 1)).filterMap f = (List.range k).filterMap f ++ (f k).toList := by
    rw [List.range_succ, List.filterMap_append]
    cases e : f k <;> simp [e]
  refine ⟨hw x, ?_⟩
  have key := hs k x H'' hx p.1 (fun r H4 => match r with
    | some y => ∃ acc, H4 D = some (.lst acc) ∧ acc.length < sizeLine ∧ (k + 1 ≤ xs.length ∧ Same H1 (upd H4 D (.lst (acc ++ [y]))) ∧ (upd H4 D (.lst (acc ++ [y]))) D = some (.lst ((List.range (k + 1)).filterMap f)))
    | none => k + 1 ≤ xs.length ∧ Same H1 H4 ∧ H4 D = some (.lst ((List.range (k + 1)).filterMap f))) (fun H4 s4 => by
      have e4 : H4 D = some (.lst ((List.range k).filterMap f)) := s4 _ _ p.2
      cases e : f k with
      | none =>
        refine ⟨hk1, p.1.trans s4, ?_⟩
        rw [es, e]
        simpa using e4
      | some y =>
        refine ⟨_, e4, ?_, hk1, same_upd (p.1.trans s4) nD _, ?_⟩
        · have h1 := List.length_filterMap_le f (List.range k)
          rw [List.length_range] at h1
          omega
        · rw [upd_same, es, e]; rfl)
  exact key
/-! plain -/
theorem count_pos {C : Nat → Nat → Bool} {i j : Nat} : ∀ {n : Nat}, i < n → j < i → C i j = true → 1 ≤ countOf C n
  | 0, h, _, _ => absurd h (Nat.not_lt_zero _)
  | n + 1, h, hj, hc => by
    unfold countOf
    rcases Nat.lt_succ_iff_lt_or_eq.mp h with h | rfl
    · have := count_pos h hj hc
      omega
    · have : 0 < ((List.range i).filter fun j => C i j).length := List.length_pos_iff.mpr fun z => by
        have : j ∈ (List.range i).filter fun j => C i j := List.mem_filter.mpr ⟨List.mem_range.mpr hj, hc⟩
        rw [z] at this
        cases this
      omega
theorem pairs_ne {W : Nat → Nat → Bool} {n i j : Nat} (hi : i < n) (hj : j < n) (hne : i ≠ j) (hc : crs W i j = true) : pairsOf (crs W) n ≠ [] := fun z => by
  have h := pairs_count (C := crs W) (crs_comm W) n
  rw [z] at h
  have : 1 ≤ countOf (crs W) n := by
    rcases Nat.lt_or_gt_of_ne hne with h | h
    · exact count_pos hj h (by rw [crs_comm]; exact hc)
    · exact count_pos hi h hc
  rw [← h] at this
  cases this
theorem pairs_nil {W : Nat → Nat → Bool} {n : Nat} (h : ∀ i j, i < n → j < n → i ≠ j → crs W i j = false) : pairsOf (crs W) n = [] := by
  unfold pairsOf
  rw [List.filter_eq_nil_iff]
  intro l hl hc
  obtain ⟨h1, h2⟩ := Bool.and_eq_true_iff.mp hc
  have h1 := of_decide_eq_true h1
  have hs := mem_lots.mp hl
  have nd : l.Nodup := List.nodup_range.sublist hs
  match l, h1, h2, hs, nd with
  | [a, b], _, h2, hs, nd =>
    have ha : a < n := List.mem_range.mp (hs.subset List.mem_cons_self)
    have hb : b < n := List.mem_range.mp (hs.subset (List.mem_cons_of_mem _ List.mem_cons_self))
    have hab : a ≠ b := fun z => by
      subst z
      exact (List.nodup_cons.mp nd).1 List.mem_cons_self
    have h2 : crs W a b = true := h2
    rw [h a b ha hb hab] at h2
    cases h2
theorem rise_nil {W : Nat → Nat → Bool} {n : Nat} {o : List Nat} (tr : ∀ i j k, W i j = true → W j k = true → W i k = true) (ho : o.Perm (List.range n)) (hr : rises W o = true) : pairsOf (crs W) n = [] := by
  have hp := rises_pair tr hr
  refine pairs_nil fun i j hi hj hne => ?_
  have key : ∀ i j, W i j = true → crs W i j = false := fun i j h => by unfold crs; rw [h]; rfl
  have mi : i ∈ o := ho.mem_iff.mpr (List.mem_range.mpr hi)
  have mj : j ∈ o := ho.mem_iff.mpr (List.mem_range.mpr hj)
  obtain ⟨x, hx, rfl⟩ := List.getElem_of_mem mi
  obtain ⟨y, hy, rfl⟩ := List.getElem_of_mem mj
  rcases Nat.lt_trichotomy x y with h | h | h
  · exact key _ _ (List.pairwise_iff_getElem.mp hp x y hx hy h)
  · subst h; exact absurd rfl hne
  · rw [crs_comm]
    exact key _ _ (List.pairwise_iff_getElem.mp hp y x hy hx h)
theorem most_of {W : Nat → Nat → Bool} {n k : Nat} (h1 : k ∈ ((lots n).filter (allX W)).map List.length) (h2 : ∀ y ∈ ((lots n).filter (allX W)).map List.length, y ≤ k) : Most W n k := by
  obtain ⟨l, hl, rfl⟩ := List.mem_map.mp h1
  obtain ⟨m1, m2⟩ := List.mem_filter.mp hl
  exact ⟨⟨l, mem_lots.mp m1, rfl, (allX_pair W l).mp m2⟩, fun l' hs hc => h2 _ (List.mem_map.mpr ⟨l', List.mem_filter.mpr ⟨mem_lots.mpr hs, (allX_pair W l').mpr hc⟩, rfl⟩)⟩
theorem ne_int {a b : Int} (h : a = b) : (!PyData.eqv (.int a) (.int b)) = false := by subst h; simp [PyData.eqv]
theorem filt_get {α β : Type} (g : α → Bool) (f : α → β) (d : α) : ∀ l : List α, ((List.range l.length).filterMap fun k => if g (l.getD k d) = true then some (f (l.getD k d)) else none) = (l.filter g).map f
  | [] => rfl
  | x :: l => by
    rw [List.length_cons, List.range_succ_eq_map, List.filterMap_cons, List.filterMap_map, List.filter_cons]
    have ih := filt_get g f d l
    by_cases h : g x = true
    · rw [if_pos h, List.map_cons, ← ih]
      show (match (if g x = true then some (f x) else none) with | none => _ | some y => _) = _
      rw [if_pos h]
      rfl
    · rw [if_neg h, ← ih]
      show (match (if g x = true then some (f x) else none) with | none => _ | some y => _) = _
      rw [if_neg h]
      rfl
theorem filt_tps {K : PySem.W.Frag} {H : Hp} (g : List Nat → Bool) : ∀ {ys : List V} {ls : List (List Nat)}, Tps K H ys ls → Tps K H ((List.range ys.length).filterMap fun k => if g (ls.getD k []) = true then ys[k]? else none) (ls.filter g)
  | _, _, .nil => .nil
  | _, _, .cons (a := a) (r := r) (xs := xs) (rs := rs) h t => by
    rw [List.length_cons, List.range_succ_eq_map, List.filterMap_cons, List.filterMap_map, List.filter_cons]
    have ih := filt_tps g t
    by_cases hg : g r = true
    · rw [if_pos hg]
      rw [show (if g ((r :: rs).getD 0 []) = true then (V.ref a :: xs)[0]? else none) = some (V.ref a) from if_pos hg]
      exact .cons h ih
    · rw [if_neg hg]
      rw [show (if g ((r :: rs).getD 0 []) = true then (V.ref a :: xs)[0]? else none) = none from if_neg hg]
      exact ih
/-- the promise of either of two -/
theorem pe_either {X : Cx} {e : Expr} {t u : TE} (h : PE X e t) (h' : PE X e u) : PE X e (fun σ H Q => t σ H Q ∨ u σ H Q) := ⟨fun pins s σ H Q I z => z.elim (h.run pins s σ H Q I) (h'.run pins s σ H Q I)⟩
section
variable {P : Program} {w : World} {K : PySem.W.Frag} {mg : Str → Option Value} {base : Heap} {h0 : Heap}
/-! ### law -/
def spLaw (K : PySem.W.Frag) : Sp := fun vs H Q _ => ∃ (a : Addr) (ns : List Int), vs = [.ref a] ∧ SqL K H a (ns.map V.int) ∧ ns.length ≤ 63 ∧ Tabs (Tl K) H ∧ ∀ H', Gr H H' → Q (.bl true) H'
abbrev nLaw : List Str := ["_law_script", "_law_columns", "_law_rows_here", "_law_places", "_law_table", "_law_many", "_law_pairs", "_law_most", "_law_found", "_law_order", "_law_place", "_law_lot"]
theorem sc_law : FnScope nLaw ["_law_script"] (defScope (topS 45)) := ⟨rfl, rfl, rfl, by decide +kernel, rfl, by decide +kernel, by decide +kernel⟩
abbrev rLenQ (K : PySem.W.Frag) : List V → Hp → VK → Prop := fun xs H Q => ∃ p ys, xs = [V.ref p] ∧ (SqL K H p ys ∨ SqT K H p ys) ∧ Q (.int ys.length) H
theorem crs_self (rs : List (List Int)) (ps : List Nat) (i : Nat) : crs (below rs ps) i i = false := by
  have h : below rs ps i i = true := by
    unfold below
    exact List.all_eq_true.mpr fun p _ => decide_eq_true (Int.le_refl _)
  unfold crs
  rw [h]
  rfl
theorem rd_tin {H : Hp} {rl : Addr} {xs : List V} {rs : List (List Int)} {R : Addr → Hp → Prop} {E : XK} (h1 : SqL K H rl xs) (h2 : Rows K H xs rs) (h3 : RShape rs) (q : ∀ x H', Same H H' → TabAt K H' x rs → R x H') :
    ∀ x dx, H x = none → H dx = none → dx ≠ x → spTin K (.ref x :: ([.ref rl] ++ [])) (upd (upd H dx (.own x)) x (.ins (ga K "Table") dx [])) (fun v H2 => v = .non ∧ R x H2) E := fun x dx nx nd ne => by
  have n2 : Same H (upd (upd H dx (.own x)) x (.ins (ga K "Table") dx [])) := new2 nx nd
  exact ⟨x, rl, dx, xs, rs, rfl, upd_same, (Gr.of n2).sqL h1, h2.gr (Gr.of n2), h3, fun H' tr k i1 i2 => ⟨rfl, q x H' (kp_same nx n2 k) ⟨dx, tr, xs, i1, SqT.of i2, h2.gr (Gr.of (kp_same nx n2 k))⟩⟩⟩
theorem fn_law (B : TxtB w K h0 mg base) {fd : FuncData} (F : FnG K "law" (topS 45) fd) : FnOk P w K mg base L2.CX0 16 (ga K "law") fd ["_law_script"] (spLaw K) := by
  have T := B.t
  have cN : Cal0 P w K mg base 1 "_law_number" (spLn K) := ok_ln T
  have cR : Cal0 P w K mg base 2 "_law_rows" (spLr K) := ok_lr T
  have cLo : Cal0 P w K mg base 1 "_law_lots" (spLots K) := ok_lots T
  have cX : Cal0 P w K mg base 1 "_law_cross" (spLx K) := ok_lx T
  have cAx : Cal0 P w K mg base 2 "_law_all_cross" (spLax K) := ok_lax T
  have cPr : Cal0 P w K mg base 2 "_law_pieces_right" (spLpr K) := ok_lpr T
  have cCut : Cal0 P w K mg base 15 "cut_rising" (spCut K) := ok_cut B
  have cTog : Cal0 P w K mg base 5 "rise_together" (spTog K) := ok_tog B
  have cCnt : Cal0 P w K mg base 5 "count_crossing" (spCnt K) := ok_cnt T
  have cFew : Cal0 P w K mg base 15 "fewest_rising" (spFew K) := ok_few B
  have cDr : Cal0 P w K mg base 7 "_law_drawn_right" (spDr K) := ok_dr B
  have mT : Mak0 P w K mg base 3 "Table" (spTin K) := ok_tin T
  have sS : Met0 P w K mg base 5 "Risen" "shows" (spSsh K) := ok_ssh T
  have sR : Met0 P w K mg base 5 "Rising" "shows" (spRsh K) := ok_rsh T
  have sC : Met0 P w K mg base 5 "Crossing" "shows" (spCsh K) := ok_csh T
  refine fn_ok F sc_law (fun vs H Q E h => ?_) (fun cdv A outer s H vs Q E hr h => ?_)
  · obtain ⟨a, ns, rfl, _⟩ := h
    rfl
  obtain ⟨a, ns, rfl, hs, hnl, hT, q⟩ := h
  refine ⟨_, pss_cons (ps_set (i := 1) sc_law.nd rfl (Or.inl rfl) (pe_op op_add pe_int (pe_op op_mod (pe_callTy call_int1 (by rfl) T.z_int (by decide +kernel) (pa_cons (C8.pe_c cN hr (by decide) (by rfl) (pa_cons (pv 0) (pa_cons pe_int pa_nil))) pa_nil)) pe_int)))
    (pss_cons (ps_set (i := 2) sc_law.nd rfl (Or.inr rfl) (C8.pe_c cR hr (by decide) (by rfl) (pa_cons (pv 0) (pa_cons pe_int (pa_cons pe_int (pa_cons (pv 1) (pa_cons (pe_op op_add pe_int (pe_op op_mod (pe_callTy call_int1 (by rfl) T.z_int (by decide +kernel) (pa_cons (C8.pe_c cN hr (by decide) (by rfl) (pa_cons (pv 0) (pa_cons pe_int pa_nil))) pa_nil)) pe_int)) pa_nil)))))))
    (pss_cons (ps_set (i := 3) sc_law.nd rfl (Or.inr rfl) (pe_tupleOf (by rfl) T.z_tuple (pe_lc (own := [("_law_place", 10)]) (g := gName 10) (tt := tTest (tOp (rI0 fun i j => .bl (decide (j < i))) (tOp (rI (fun _ j => 0 < j) fun i j => .int (i % j)) (tCB rIntC (tCons (tCall (spLn K) [] E0 (tCons (tVar 0) (tCons (tOp (rI0 fun i j => .int (i + j)) (tC (.int 91)) (tVar 10)) tNil))) tNil)) (tC (.int 3))) (tC (.int 0)))) (te := tVar 10) rfl sc_law.nd
        (pi_range1 (by rfl) T.z_range (pa_cons (pv 1) pa_nil)) (blkOk_by (N := nLaw) (sc := defScope (topS 45)) (by decide +kernel)) (fun _ _ _ _ _ => pg_name (i := 10) sc_law.nd rfl (Or.inl rfl))
        (fun _ _ _ _ _ => pts_one (pt_cmpR op_gt (pe_op op_mod (pe_callTy call_int1 (by rfl) T.z_int (by decide +kernel) (pa_cons (C8.pe_c cN hr (by decide) (by rfl) (pa_cons (pv 0) (pa_cons (pe_op op_add pe_int (pv 10)) pa_nil))) pa_nil)) pe_int) pe_int (nomark _))) (fun _ _ _ _ _ => pv 10))))
    (pss_cons (ps_set (i := 3) sc_law.nd rfl (Or.inr rfl) (pe_ifExp (pt_cmpR (op_neD hr.units) (pv 3) (pe_tup pa_nil) (nomark _)) (pv 3) (pe_tup (pa_cons (pe_op op_mod (pe_callTy call_int1 (by rfl) T.z_int (by decide +kernel) (pa_cons (C8.pe_c cN hr (by decide) (by rfl) (pa_cons (pv 0) (pa_cons pe_int pa_nil))) pa_nil)) (pv 1)) pa_nil))))
    (pss_cons (ps_par (i := 4) (j := 5) rfl sc_law.nd rfl rfl (by decide) rfl rfl (pa_cons (C8.pe_mk mT hr (by decide) (by rfl) (pa_cons (pv 2) pa_nil)) (pa_cons (pe_callB call_len_seq (by rfl) T.z_len (by decide +kernel) (pa_cons (pv 2) pa_nil)) pa_nil)) (by rfl))
    (pss_cons (ps_setLc (i := 6) (own := [("_law_lot", 11)]) (g := gName 11) (tt := tAnd (tTest (tOp rEq (tCB (rLenQ K) (tCons (tVar 11) tNil)) (tC (.int 2)))) (tTest (tCall (spLx K) [] E0 (tCons (tOp (rIxL K) (tVar 2) (tOp (rIxT K) (tVar 11) (tC (.int 0)))) (tCons (tOp (rIxL K) (tVar 2) (tOp (rIxT K) (tVar 11) (tC (.int 1)))) (tCons (tVar 3) tNil)))))) (te := tVar 11) rfl sc_law.nd rfl rfl (by rfl)
        (pi_list (C8.pe_c cLo hr (by decide) (by rfl) (pa_cons (pv 5) pa_nil))) (blkOk_by (N := nLaw) (sc := defScope (topS 45)) (by decide +kernel)) (fun _ _ _ _ _ => pg_name (i := 11) sc_law.nd rfl (Or.inl rfl))
        (fun _ _ _ _ _ => pts_one (PW.pt (pw_and (pt_cmpR op_eq (pe_callB call_len_seq (by rfl) T.z_len (by decide +kernel) (pa_cons (pv 11) pa_nil)) pe_int (nomark _)) (pw_and1 (pt_val (C8.pe_c cX hr (by decide) (by rfl) (pa_cons (pe_ix ix_list (pv 2) (pe_ix ix_tup (pv 11) pe_int (fun _ _ => rfl)) (fun _ _ => rfl)) (pa_cons (pe_ix ix_list (pv 2) (pe_ix ix_tup (pv 11) pe_int (fun _ _ => rfl)) (fun _ _ => rfl)) (pa_cons (pv 3) pa_nil))))))))) (fun _ _ _ _ _ => pv 11))
    (pss_cons (ps_set (i := 7) sc_law.nd rfl (Or.inl rfl) (pe_callB (cr_max rfl) (by rfl) T.z_max (by decide +kernel) (pa_cons (pe_lc (own := [("_law_lot", 11)]) (g := gName 11) (tt := tTest (tCall (spLax K) [] E0 (tCons (tVar 2) (tCons (tVar 11) (tCons (tVar 3) tNil))))) (te := tCB (rLenQ K) (tCons (tVar 11) tNil)) rfl sc_law.nd
        (pi_list (C8.pe_c cLo hr (by decide) (by rfl) (pa_cons (pv 5) pa_nil))) (blkOk_by (N := nLaw) (sc := defScope (topS 45)) (by decide +kernel)) (fun _ _ _ _ _ => pg_name (i := 11) sc_law.nd rfl (Or.inl rfl))
        (fun _ _ _ _ _ => pts_one (pt_val (C8.pe_c cAx hr (by decide) (by rfl) (pa_cons (pv 2) (pa_cons (pv 11) (pa_cons (pv 3) pa_nil)))))) (fun _ _ _ _ _ => pe_callB call_len_seq (by rfl) T.z_len (by decide +kernel) (pa_cons (pv 11) pa_nil))) pa_nil)))
    (pss_cons (ps_par (i := 8) (j := 9) rfl sc_law.nd rfl rfl (by decide) rfl rfl (pa_cons (C8.pe_c cCut hr (by decide) (by rfl) (pa_cons (pv 4) (pa_cons (pv 3) pa_nil))) (pa_cons (C8.pe_c cTog hr (by decide) (by rfl) (pa_cons (pv 4) (pa_cons (pv 3) pa_nil))) pa_nil)) (by rfl))
    (pss_cons (ps_if (PW.pt (pw_or (pt_cmpR (op_neD hr.units) (C8.pe_c cCnt hr (by decide) (by rfl) (pa_cons (pv 4) (pa_cons (pv 3) pa_nil))) (pe_callB call_len_seq (by rfl) T.z_len (by decide +kernel) (pa_cons (pv 6) pa_nil)) (nomark _))
        (pw_or (pt_cmpR (op_neD hr.units) (C8.pe_c cFew hr (by decide) (by rfl) (pa_cons (pv 4) (pa_cons (pv 3) pa_nil))) (pv 7) (nomark _))
        (pw_or1 (pt_cmpR (op_neD hr.units) (pe_callB call_len_seq (by rfl) T.z_len (by decide +kernel) (pa_cons (pfd 8) pa_nil)) (pv 7) (nomark _)))))) (pss_one (ps_ret pe_bl)) pss_nil)
    (pss_cons (ps_if (pt_not (pt_val (C8.pe_c cPr hr (by decide) (by rfl) (pa_cons (pv 2) (pa_cons (pfd 8) (pa_cons (pv 3) pa_nil)))))) (pss_one (ps_ret pe_bl)) pss_nil)
    (pss_cons (ps_if (PW.pt (pw_or (pt_not (pt_val (C8.pe_mt sS hr (by decide) (pv 8) (pa_cons (pv 4) (pa_cons (pv 3) pa_nil)))))
        (pw_or1 (pt_not (pt_val (pe_either (C8.pe_mt sR hr (by decide) (pv 9) (pa_cons (pv 4) (pa_cons (pv 3) pa_nil))) (C8.pe_mt sC hr (by decide) (pv 9) (pa_cons (pv 4) (pa_cons (pv 3) pa_nil))))))))) (pss_one (ps_ret pe_bl)) pss_nil)
    (pss_cons (ps_if (PW.pt (pw_or (pt_cmpR (op_neD hr.units) (pe_callB call_len_seq (by rfl) T.z_len (by decide +kernel) (pa_cons (pfd 8) pa_nil)) (pv 7) (nomark _))
        (pw_or1 (pt_not (pt_val (C8.pe_c cAx hr (by decide) (by rfl) (pa_cons (pv 2) (pa_cons (pfd 8) (pa_cons (pv 3) pa_nil))))))))) (pss_one (ps_ret pe_bl)) pss_nil)
    (pss_cons (ps_if (PW.pt (pw_or (pt_cmpR (op_neD hr.units) (pe_callB call_isi (by rfl) T.z_isinstance (by decide +kernel) (pa_cons (pv 9) (pa_cons (pe_glob (v := .ref (ga K "Rising")) (by rfl) T.g_Rising rfl) pa_nil))) (pe_cmpR (op_eqD hr.units) (pv 6) (pe_lst pa_nil) (nomark _)) (nomark _))
        (pw_or1 (pt_cmpR (op_neD hr.units) (pe_callB call_isi (by rfl) T.z_isinstance (by decide +kernel) (pa_cons (pv 9) (pa_cons (pe_glob (v := .ref (ga K "Crossing")) (by rfl) T.g_Crossing rfl) pa_nil))) (pe_cmpR (op_neD hr.units) (pv 6) (pe_lst pa_nil) (nomark _)) (nomark _))))) (pss_one (ps_ret pe_bl)) pss_nil)
    (pss_one (ps_ret (C8.pe_c cDr hr (by decide) (by rfl) (pa_cons (pv 0) (pa_cons (pv 2) (pa_cons (pv 3) (pa_cons (pv 4) (pa_cons (pv 5) (pa_cons (pv 7) (pa_cons (pv 8) pa_nil)))))))))))))))))))))), ?_⟩
  obtain ⟨c, hc, hc1, hc4⟩ : ∃ c : Nat, 1 + numL ns 0 % 4 = (c : Int) ∧ 1 ≤ c ∧ c ≤ 4 := ⟨(1 + numL ns 0 % 4).toNat, by omega, by omega, by omega⟩
  obtain ⟨v, hv, hv1, hv6⟩ : ∃ v : Nat, 2 + numL ns 90 % 4 = (v : Int) ∧ 1 ≤ v ∧ v ≤ 6 := ⟨(2 + numL ns 90 % 4).toNat, by omega, by omega, by omega⟩
  refine ⟨_, rfl, a, ns, 0, rfl, hs, hnl, by omega, fun H1 e1 => .inl ⟨_, rfl, _, _, rfl, rfl, show (0 : Int) < 4 by decide, _, _, rfl, rfl, ?_⟩⟩
  dsimp only
  rw [hc]
  refine ⟨_, rfl, _, rfl, _, rfl, a, ns, 90, rfl, (Gr.of e1).sqL hs, hnl, by omega, fun H2 e2 => .inl ⟨_, rfl, _, _, rfl, rfl, show (0 : Int) < 4 by decide, _, _, rfl, rfl, a, ns, c, v, congrArg (fun z => [V.ref a, nV 1, nV 10, nV c, V.int z]) hv, (Gr.of (e1.trans e2)).sqL hs, hnl, hc1, hc4, hv1, hv6, fun rl xs rs H3 e3 hrl hR hn1 hn10 hall => ?_⟩⟩
  have E3 := e1.trans (e2.trans e3)
  -- the places
  have cst : ∀ p : Nat, ((91 : Int) + (p : Int)) = ((91 + p : Nat) : Int) := fun p => by omega
  refine ⟨_, rfl, _, rfl, by omega, by omega, fun D nD => lc_vals (walk_rangeA (xs := (List.range c).map nV) rfl) (fun x => match x with | .int p => if decide (0 < numL ns (91 + p.toNat) % 3) = true then some x else none | _ => none) nD (small _ (by rw [List.length_map, List.length_range]; omega)) (fun _ _ => trivial) (fun _ => rfl) (fun k x H' hx e R hR => ?_) fun H4 e4 hD4 => ?_⟩
  · rw [List.getElem?_map] at hx
    obtain ⟨p, hp, rfl⟩ := Option.map_eq_some_iff.mp hx
    have hp := List.mem_range.mp (List.mem_of_getElem? hp)
    refine ⟨_, rfl, _, rfl, _, _, rfl, rfl, a, ns, 91 + p, congrArg (fun z => [V.ref a, V.int z]) (cst p), (Gr.of (E3.trans e)).sqL hs, hnl, by omega, fun H'' e'' => .inl ⟨_, rfl, _, _, rfl, rfl, show (0 : Int) < 3 by decide, _, _, rfl, rfl, _, rfl, ?_⟩⟩
    have h := hR H'' e''
    exact rdb (fun z => ⟨_, rfl, by
      have h : R (if decide (0 < numL ns (91 + p) % 3) = true then some (nV p) else none) H'' := h
      rw [if_pos z] at h; exact h⟩) (fun z => by
      have h : R (if decide (0 < numL ns (91 + p) % 3) = true then some (nV p) else none) H'' := h
      rw [if_neg (by rw [z]; decide)] at h; exact h)
  have hD4' : H4 D = some (.lst (((List.range c).filter fun p => decide (0 < numL ns (91 + p) % 3)).map nV)) := by
    rw [hD4]
    exact congrArg (fun z => some (HO.lst z)) (filter_fm (p := fun p => decide (0 < numL ns (91 + p) % 3)) (List.range c))
  have pasc : ((List.range c).filter fun p => decide (0 < numL ns (91 + p) % 3)).Pairwise (· < ·) := List.Pairwise.sublist List.filter_sublist List.pairwise_lt_range
  have plt : ∀ p ∈ (List.range c).filter fun p => decide (0 < numL ns (91 + p) % 3), p < c := fun p hp => List.mem_range.mp (List.mem_filter.mp hp).1
  generalize (List.range c).filter (fun p => decide (0 < numL ns (91 + p) % 3)) = p0 at *
  refine rd_tup (.inl (SqL.of hD4')) fun pA H5 e5 hp5 => ?_
  have E5 := E3.trans (e4.trans e5)
  refine ⟨_, rfl, show (0 : Nat) ≤ sizeLine by decide, fun tp htp => ?_⟩
  have e6 : Same H5 (upd H5 tp (.tup [])) := same_new htp _
  have ht6 : SqT K (upd H5 tp (.tup [])) tp [] := SqT.of upd_same
  generalize upd H5 tp (.tup []) = H6 at *
  have hp6 := (Gr.of e6).sqT hp5
  have E6 := E5.trans e6
  have f6 : Same H3 H6 := e4.trans (e5.trans e6)
  refine ⟨.tuple (dn p0), .tuple (dn []), dp_tup hp6, .tup ht6 .nil, sh_tup _, sh_tup [], !decide (p0 = []), congrArg V.bl (by rw [PyData.eqv, eqv_nats]), rdb (fun z => ?brA) (fun z => ?brB)⟩
  case' brA =>
    have z0 : p0 ≠ [] := by simpa using z
    refine ⟨_, rfl, ?_⟩
    have E8 := E6
    have f8 := f6
    have hps := hp6
    generalize H6 = H8 at *
    generalize pA = pl at *
    generalize p0 = ps at *
  case' brB =>
    have z0 : p0 = [] := by simpa using z
    clear pasc plt
    obtain ⟨p9, hp91, hp92⟩ := mod_row (numL ns 95) hc1
    refine ⟨_, rfl, a, ns, 95, rfl, (Gr.of E6).sqL hs, hnl, by omega, fun H7 e7 => .inl ⟨_, rfl, _, rfl, _, _, rfl, rfl, show (0 : Int) < (c : Int) by omega, show (1 : Nat) ≤ sizeLine by decide, fun pl htp2 => ?_⟩⟩
    have e8 : Same H7 (upd H7 pl (.tup [V.int (numL ns 95 % (c : Int))])) := same_new htp2 _
    have hps : SqT K (upd H7 pl (.tup [V.int (numL ns 95 % (c : Int))])) pl ([p9].map nV) := SqT.of (by rw [upd_same, hp91]; rfl)
    have E8 := E6.trans (e7.trans e8)
    have f8 := f6.trans (e7.trans e8)
    generalize hH8 : upd H7 pl (.tup [V.int (numL ns 95 % (c : Int))]) = H8 at *
    have z0 : [p9] ≠ [] := by simp
    have pasc : [p9].Pairwise (· < ·) := List.pairwise_singleton _ _
    have plt : ∀ p ∈ [p9], p < c := fun p hp => by rw [List.mem_singleton.mp hp]; exact hp92
    generalize [p9] = ps at *
  all_goals
    have sh : Shape rs ps := ⟨hn1, hn10, ⟨c, hc1, hc4, fun r hr => (hall r hr).1, plt⟩, z0, pasc⟩
    have Rsh : RShape rs := ⟨hn1, hn10, ⟨c, hc1, hc4, fun r hr => (hall r hr).1⟩, fun r hr => (hall r hr).2⟩
    have hxl := hR.len
    refine ⟨_, rfl, ?_⟩
    refine rd_tin (SqL.of (f8 _ _ hrl)) (hR.gr (Gr.of f8)) Rsh fun t H9 e9 ht9 => ?_
    have f9 := f8.trans e9
    have E9 := E8.trans e9
    have Td : Told2 K H9 t pl rs ps := ⟨ht9, (Gr.of e9).sqT hps, sh⟩
    have Hr : Here K H9 rl pl rs ps := ⟨⟨xs, SqL.of (f9 _ _ hrl), hR.gr (Gr.of f9)⟩, (Gr.of e9).sqT hps, sh⟩
    have hs9 := (Gr.of E9).sqL hs
    have hT9 := hT.ext E9
    have G9 : Gr H H9 := Gr.of E9
    refine ⟨_, rfl, rl, xs, rfl, .inl (SqL.of (f9 _ _ hrl)), ?_⟩
    rw [hxl]
    clear ht9 hps hR hrl f9 f8 f6 E9 E8 E6 E5 E3 e9
    clear hs hT
    -- the pairs
    refine ⟨_, _, rfl, _, rfl, rs.length, rfl, hn10, fun l1 ys H10 e10 hl1 ty1 => ⟨l1, rfl, ⟨_, SqL.of hl1⟩, fun D1 nD1 => ?_⟩⟩
    have few : ys.length = 2 ^ rs.length := by rw [ty1.len, lots_len]
    have p10 : 2 ^ rs.length ≤ 2 ^ 10 := Nat.pow_le_pow_right (by decide) hn10
    refine lc_valsI walk_list (fun k => if (fun l : List Nat => decide (l.length = 2) && crs (below rs ps) (l.getD 0 0) (l.getD 1 0)) ((lots rs.length).getD k []) = true then ys[k]? else none) nD1 (small _ (by omega)) (fun H' e => (Gr.of e).sqL (SqL.of hl1)) (fun _ => rfl) (fun k x H' hx e R hR => ?_) fun H11 e11 hD11 => ?_
    · obtain ⟨b, l, rfl, hl2, hb⟩ := ty1.get hx
      have eg : (lots rs.length).getD k [] = l := by rw [List.getD_eq_getElem?_getD, hl2]; rfl
      rw [eg, hx] at hR
      have hb' := (Gr.of e).sqT hb
      have hsub := mem_lots.mp (List.mem_of_getElem? hl2)
      refine ⟨_, rfl, b, _, rfl, .inr hb', rfl, decide (l.length = 2), ?_, rdb (fun z => ?_) (fun z => iteF ?_)⟩
      · rw [List.length_map]
        refine congrArg V.bl ?_
        rw [Bool.eq_iff_iff, decide_eq_true_iff, decide_eq_true_iff]
        constructor
        · intro h
          have h2 : (l.length : Int) = 2 := V.int.inj h
          omega
        · intro h
          rw [h]
          rfl
      · have z := of_decide_eq_true z
        match l, z, hsub, hb', hR with
        | [x, y], z, hsub, hb', hR =>
          have hx1 : x < rs.length := List.mem_range.mp (hsub.subset List.mem_cons_self)
          have hy1 : y < rs.length := List.mem_range.mp (hsub.subset (List.mem_cons_of_mem _ List.mem_cons_self))
          have Hx := Hr.gr (Gr.of (e10.trans e))
          obtain ⟨xs', u1, u2⟩ := Hx.rows
          obtain ⟨ra, v1, v2⟩ := u2.get hx1
          obtain ⟨rb, w1, w2⟩ := u2.get hy1
          refine ⟨_, rfl, _, rfl, b, _, _, _, rfl, rfl, hb', atI_nat (j := 0) rfl, rl, xs', _, _, rfl, rfl, u1, atI_nat v1, _, rfl, _, rfl, b, _, _, _, rfl, rfl, hb', atI_nat (j := 1) rfl, rl, xs', _, _, rfl, rfl, u1, atI_nat w1, _, rfl, ra, rb, pl, _, _, ps, rfl, v2, w2, Hx.pls, (fun p hp => ⟨sh.lt hx1 hp, sh.lt hy1 hp⟩), sh.few, fun H'' e'' => ⟨_, rfl, ?_⟩⟩
          rw [lx_crs]
          have h := hR H'' e''
          exact rdb (fun z => ⟨_, rfl, by
            rw [if_pos (show (decide ([x, y].length = 2) && crs (below rs ps) ([x, y].getD 0 0) ([x, y].getD 1 0)) = true from z)] at h
            exact h⟩) (fun z => by
            rw [if_neg (show ¬ (decide ([x, y].length = 2) && crs (below rs ps) ([x, y].getD 0 0) ([x, y].getD 1 0)) = true from fun z2 => by
              have z2 : crs (below rs ps) x y = true := z2
              rw [z] at z2; cases z2)] at h
            exact h)
      · have h := hR H' (Same.refl _)
        rw [if_neg (show ¬ (decide (l.length = 2) && crs (below rs ps) (l.getD 0 0) (l.getD 1 0)) = true from by rw [z, Bool.false_and]; decide)] at h
        exact h
    have E11 := e10.trans e11
    have tyP : Tps K H11 _ (pairsOf (crs (below rs ps)) rs.length) := filt_tps (fun l : List Nat => decide (l.length = 2) && crs (below rs ps) (l.getD 0 0) (l.getD 1 0)) (ty1.gr (Gr.of e11))
    generalize (List.range ys.length).filterMap _ = pv at *
    clear few
    -- the most rows that cross
    refine ⟨_, rfl, rs.length, rfl, hn10, fun l2 ys2 H12 e12 hl2 ty2 => ⟨l2, rfl, ⟨_, SqL.of hl2⟩, fun D2 nD2 => ?_⟩⟩
    have few : ys2.length = 2 ^ rs.length := by rw [ty2.len, lots_len]
    have E12 := E11.trans e12
    refine lc_valsI walk_list (fun k => if allX (below rs ps) ((lots rs.length).getD k []) = true then some (nV ((lots rs.length).getD k []).length) else none) nD2 (small _ (by omega)) (fun H' e => (Gr.of e).sqL (SqL.of hl2)) (fun _ => rfl) (fun k x H' hx e R hR => ?_) fun H13 e13 hD13 => ?_
    · obtain ⟨b, l, rfl, hl3, hb⟩ := ty2.get hx
      have eg : (lots rs.length).getD k [] = l := by rw [List.getD_eq_getElem?_getD, hl3]; rfl
      rw [eg] at hR
      have hsub := mem_lots.mp (List.mem_of_getElem? hl3)
      have hll := hsub.length_le
      rw [List.length_range] at hll
      refine ⟨_, rfl, _, rfl, _, rfl, rl, b, pl, rs, ps, l, rfl, Hr.gr (Gr.of (E12.trans e)), (Gr.of e).sqT hb, (fun i hi => List.mem_range.mp (hsub.subset hi)), by omega, fun H'' e'' => ⟨_, rfl, ?_⟩⟩
      have h := hR H'' e''
      exact rdb (fun z => ⟨_, rfl, b, _, rfl, .inr ((Gr.of (e.trans e'')).sqT hb), by
        rw [if_pos z] at h
        rw [List.length_map]
        exact h⟩) (fun z => by
        rw [if_neg (by rw [z]; decide)] at h
        exact h)
    have E13 := E12.trans e13
    have efl : (List.range ys2.length).filterMap (fun k => if allX (below rs ps) ((lots rs.length).getD k []) = true then some (nV ((lots rs.length).getD k []).length) else none) = (((lots rs.length).filter (allX (below rs ps))).map List.length).map nV := by
      rw [ty2.len, List.map_map]
      exact filt_get (allX (below rs ps)) (fun l => nV l.length) [] (lots rs.length)
    rw [efl] at hD13
    clear efl few
    refine ⟨D2, zs (((lots rs.length).filter (allX (below rs ps))).map List.length), rfl, SqL.of (by rw [← nV_map]; exact hD13), ?_, fun m hm hle => ?_⟩
    · unfold zs
      rw [List.length_map]
      refine List.length_pos_iff.mpr fun z => ?_
      have : ([] : List Nat).length ∈ ((lots rs.length).filter (allX (below rs ps))).map List.length := List.mem_map.mpr ⟨[], List.mem_filter.mpr ⟨mem_lots.mpr (List.nil_sublist _), rfl⟩, rfl⟩
      rw [z] at this
      cases this
    obtain ⟨k, hk, rfl⟩ : ∃ k : Nat, k ∈ ((lots rs.length).filter (allX (below rs ps))).map List.length ∧ m = (k : Int) := by
      unfold zs at hm
      obtain ⟨k, hk, rfl⟩ := List.mem_map.mp hm
      exact ⟨k, hk, rfl⟩
    have hM : Most (below rs ps) rs.length k := most_of hk (fun y hy => by
      have := hle (y : Int) (by unfold zs; exact List.mem_map.mpr ⟨y, hy, rfl⟩)
      omega)
    clear hk hle hm
    have Td13 := Td.gr (Gr.of E13)
    refine ⟨_, rfl, _, rfl, t, pl, rs, ps, rfl, Td13, hT9.ext E13, fun o r fa H14 O g14 T14 hcr hfa => ⟨_, rfl, _, rfl, t, pl, rs, ps, rfl, Td13.gr g14, T14, fun oa H15 g15 T15 hor => ⟨_, _, rfl, ?_⟩⟩⟩
    have n11 : rs.length < 11 := by omega
    have pm := pieces_most O n11 below_trans
    obtain ⟨r1, r2, r3⟩ := (crossRows_right _ _).1 r hcr
    have Fd : Found (below rs ps) rs.length (piecesOf (below rs ps) 11 rs.length o) r := ⟨pieces_perm O n11, pieces_ne, pieces_rise n11, r1, r2, r3, hn1, hn10⟩
    have hcr2 := hcr
    clear hcr r1 r2 r3
    have ek := hM.uniq pm
    generalize piecesOf (below rs ps) 11 rs.length o = p at *
    subst ek
    clear hcr2
    have g913 : Gr H9 H15 := (Gr.of E13).trans (g14.trans g15)
    have Td15 := Td.gr g913
    have Hr15 := Hr.gr g913
    have hs15 := g913.sqL hs9
    have hfa15 := hfa.gr g15
    have G15 : Gr H H15 := G9.trans g913
    have gD : Gr H11 H15 := (Gr.of (e12.trans e13)).trans (g14.trans g15)
    have hD15 := gD.lst hD11
    have tyP15 := tyP.gr gD
    have pvl : pv.length = countOf (crs (below rs ps)) rs.length := by rw [tyP.len]; exact pairs_count (crs_comm _) _
    clear hD11 tyP hT9 hs9 Td Hr hfa Td13 G9 gD T14 ty1 ty2 hl1 hl2 hD13
    obtain ⟨dx0, pl0, cl0, xp, a1, a2, a3, a4⟩ := id hfa15
    have hxp := a3.len
    have few := sh.few
    have fk1 := Fd.k1
    have fkn := Fd.kn
    have fcl := Fd.len
    -- the counts
    refine ⟨_, rfl, _, rfl, t, pl, rs, ps, rfl, Td15, fun H16 e16 => ⟨_, rfl, D1, pv, rfl, .inl (SqL.of (e16 _ _ hD15)), .int _, .int _, .int _, .int _, rfl, rfl, false, congrArg V.bl (ne_int (by rw [pvl])), rdb (fun z => by cases z) (fun z => ?_)⟩⟩
    refine ⟨_, rfl, _, rfl, t, pl, rs, ps, rfl, Td15.gr (Gr.of e16), T15.ext e16, fun o2 H17 O2 g17 T17 => ⟨_, rfl, .int _, .int _, .int _, .int _, rfl, rfl, false, congrArg V.bl (ne_int (by rw [(pieces_most O2 n11 below_trans).uniq hM])), rdb (fun z => by cases z) (fun z => ?_)⟩⟩
    have g1517 := (Gr.of e16).trans g17
    refine ⟨_, rfl, fa, _, dx0, _, _, rfl, g1517.ins a1, T.c_Risen, T.n_Risen_pieces, rfl, pl0, xp, rfl, .inl (SqL.of (g1517.lst a2)), _, rfl, .int _, .int _, .int _, .int _, rfl, rfl, false, congrArg V.bl (ne_int (by rw [hxp])), rdb (fun z => by cases z) (fun z => ?_)⟩
    have Td17 := Td15.gr g1517
    have Hr17 := Hr15.gr g1517
    have hs17 := g1517.sqL hs15
    have hfa17 := hfa15.gr g1517
    have G17 := G15.trans g1517
    have hD17 := g1517.lst hD15
    have tyP17 := tyP15.gr g1517
    have b1 := g1517.ins a1
    have b2 := g1517.lst a2
    have b3 := a3.gr g1517
    have b4 := g1517.sqT a4
    have hor17 : (∃ o, Ord (below rs ps) rs.length o ∧ RisAt K H17 oa o ∧ rises (below rs ps) o = true) ∨ (∃ i j, i < rs.length ∧ j < rs.length ∧ CroAt K H17 oa i j ∧ crs (below rs ps) i j = true) := by
      rcases hor with ⟨o', q1, q2, q3⟩ | ⟨i, j, q1, q2, q3, q4⟩
      · exact .inl ⟨o', q1, q2.gr g1517, q3⟩
      · exact .inr ⟨i, j, q1, q2, q3.gr g1517, q4⟩
    clear hor Td15 Hr15 hs15 hfa15 G15 hD15 tyP15 a1 a2 a3 a4 T15
    -- the pieces
    have hpr : prR (below rs ps) rs.length p = true := by
      unfold prR
      rw [List.isPerm_iff.mpr Fd.perm, Bool.and_true, List.all_eq_true]
      intro r hr
      rw [decide_eq_false (Fd.ne r hr), Fd.ris r hr]
      rfl
    refine ⟨_, rfl, _, rfl, fa, _, dx0, _, _, rfl, b1, T.c_Risen, T.n_Risen_pieces, rfl, _, rfl, rl, pl0, pl, rs, ps, xp, p, rfl, Hr17, SqL.of b2, b3, by omega, by rw [Fd.flat]; omega, (fun r hr i hi => List.mem_range.mp (Fd.perm.mem_iff.mp (List.mem_flatten.mpr ⟨r, hr, hi⟩))), fun H18 e18 => ⟨true, congrArg V.bl hpr, rdb (fun z => by cases z) (fun z => ?_)⟩⟩
    have hkit : ∃ (C : Str) (dxo : Addr) (fso : List (Str × V)) (bR bC : Bool), H17 oa = some (.ins (ga K C) dxo fso) ∧ Cls K (ga K C) ∧ ClsO K C ∧ PySem.W.kitOne K (.ref (ga K C)) (.ref (ga K "Rising")) = some bR ∧ PySem.W.kitOne K (.ref (ga K C)) (.ref (ga K "Crossing")) = some bC ∧
        bR = decide (pairsOf (crs (below rs ps)) rs.length = []) ∧ bC = !decide (pairsOf (crs (below rs ps)) rs.length = []) := by
      rcases hor17 with ⟨o', q1, ⟨dxo, ol, q2, _⟩, q3⟩ | ⟨i, j, q1, q2, ⟨dxo, q3⟩, q4⟩
      · have hz := rise_nil below_trans q1.perm q3
        exact ⟨"Rising", dxo, _, true, false, q2, T.c_Rising, T.E.oR, T.E.rr, T.E.rc, (decide_eq_true hz).symm, by rw [decide_eq_true hz]; rfl⟩
      · have hz := pairs_ne q1 q2 (fun z => by rw [z, crs_self] at q4; cases q4) q4
        exact ⟨"Crossing", dxo, _, false, true, q3, T.c_Crossing, T.E.oC, T.E.cr, T.E.cc, (decide_eq_false hz).symm, by rw [decide_eq_false hz]; rfl⟩
    refine ⟨_, rfl, fa, dx0, _, rfl, e18 _ _ b1, rfl, _, rfl, _, rfl, fa, t, pl, rs, ps, p, r, rfl, hfa17.gr (Gr.of e18), Td17.gr (Gr.of e18), by omega, by rw [Fd.flat]; omega, by omega, (fun _ => Fd.nd), fun H19 e19 => ⟨true, congrArg V.bl Fd.ok, rdb (fun z => by cases z) (fun z => ?_)⟩⟩
    have E19 := e18.trans e19
    have tail : ∀ (H20 : Hp), Same H17 H20 → Here K H20 rl pl rs ps ∧ Told2 K H20 t pl rs ps ∧ SenAt K H20 fa p r := fun H20 e => ⟨Hr17.gr (Gr.of e), Td17.gr (Gr.of e), hfa17.gr (Gr.of e)⟩
    rcases hor17 with ⟨o', q1, q2, q3⟩ | ⟨i, j, q1, q2, q3, q4⟩
    · obtain ⟨dxo, fso, i1, i2⟩ := ris_ins (q2.gr (Gr.of E19))
      have hol := q1.perm.length_eq
      rw [List.length_range] at hol
      refine .inl ⟨_, rfl, oa, dxo, fso, rfl, i1, i2, _, rfl, _, rfl, oa, t, pl, rs, ps, o', rfl, q2.gr (Gr.of E19), Td17.gr (Gr.of E19), by omega, (fun _ => q1.perm.nodup_iff.mpr List.nodup_range), fun H20 e20 => ⟨true, congrArg V.bl (by rw [isOrd_perm q1.perm, q3]; rfl), rdb (fun z => by cases z) (fun z => ?_)⟩⟩
      have E20 := E19.trans e20
      clear hol i1 i2 q1 q2 q3
      clear tail E19
      obtain ⟨C, dxo, fso, bR, bC, o1, o2, o3, o4, o5, o6, o7⟩ := hkit
      refine ⟨_, rfl, fa, _, dx0, _, _, rfl, E20 _ _ b1, T.c_Risen, T.n_Risen_crossing, rfl, cl0, r.map nV, rfl, .inr ((Gr.of E20).sqT b4), _, rfl, .int _, .int _, .int _, .int _, rfl, rfl, false, congrArg V.bl (ne_int (by rw [List.length_map, fcl])), rdb (fun z => by cases z) (fun z => ?_)⟩
      refine ⟨_, rfl, _, rfl, fa, _, dx0, _, _, rfl, E20 _ _ b1, T.c_Risen, T.n_Risen_crossing, rfl, _, rfl, rl, cl0, pl, rs, ps, r, rfl, Hr17.gr (Gr.of E20), (Gr.of E20).sqT b4, Fd.lt, by omega, fun H21 e21 => ⟨true, congrArg V.bl ((allX_pair _ _).mpr Fd.cr), rdb (fun z => by cases z) (fun z => ?_)⟩⟩
      have E21 := E20.trans e21
      refine ⟨_, rfl, .ref oa, .ref (ga K "Rising"), _, _, bR, rfl, .own _, ty_ins T.E o2 o3 (E21 _ _ o1), o4, _, rfl, show (0 : Nat) ≤ sizeLine by decide, fun tp htp => ?_⟩
      have e22 : Same H21 (upd H21 tp (.lst [])) := same_new htp _
      have h22 : SqL K (upd H21 tp (.lst [])) tp [] := SqL.of upd_same
      generalize upd H21 tp (.lst []) = H22 at *
      have E22 := E21.trans e22
      refine ⟨.list (dt (pairsOf (crs (below rs ps)) rs.length)), .list (dt []), .lst (SqL.of (E22 _ _ hD17)) (tyP17.gr (Gr.of E22)).dp, .lst h22 .nil, sh_dt _, sh_dt [], .bool _, .bool _, .bl _, .bl _, rfl, rfl, false, congrArg V.bl (ne_bl (by rw [PyData.eqv, eqv_tups]; exact o6)), rdb (fun z => by cases z) (fun z => ?_)⟩
      refine ⟨_, rfl, .ref oa, .ref (ga K "Crossing"), _, _, bC, rfl, .own _, ty_ins T.E o2 o3 (E22 _ _ o1), o5, _, rfl, show (0 : Nat) ≤ sizeLine by decide, fun tp2 htp2 => ?_⟩
      have e23 : Same H22 (upd H22 tp2 (.lst [])) := same_new htp2 _
      have h23 : SqL K (upd H22 tp2 (.lst [])) tp2 [] := SqL.of upd_same
      generalize upd H22 tp2 (.lst []) = H23 at *
      have E23 := E22.trans e23
      refine ⟨.list (dt (pairsOf (crs (below rs ps)) rs.length)), .list (dt []), .lst (SqL.of (E23 _ _ hD17)) (tyP17.gr (Gr.of E23)).dp, .lst h23 .nil, sh_dt _, sh_dt [], .bool _, .bool _, .bl _, .bl _, rfl, rfl, false, congrArg V.bl (ne_bl (by rw [PyData.eqv, eqv_tups]; exact o7)), rdb (fun z => by cases z) (fun z => ?_)⟩
      exact ⟨_, rfl, _, rfl, _, rfl, _, rfl, _, rfl, _, rfl, _, rfl, a, t, rl, pl, fa, ns, rs, ps, p, r, rfl, (Gr.of E23).sqL hs17, hnl, Td17.gr (Gr.of E23), Hr17.gr (Gr.of E23), hfa17.gr (Gr.of E23), Fd, T17.ext E23, fun H' g => q _ (G17.trans ((Gr.of E23).trans g))⟩
    · obtain ⟨dxo, fso, i1, i2⟩ := cro_ins (q3.gr (Gr.of E19))
      refine .inr ⟨_, rfl, oa, dxo, fso, rfl, i1, i2, _, rfl, _, rfl, oa, t, pl, rs, ps, i, j, rfl, q3.gr (Gr.of E19), Td17.gr (Gr.of E19), fun H20 e20 => ⟨true, congrArg V.bl (by rw [decide_eq_true q1, decide_eq_true q2, q4]; rfl), rdb (fun z => by cases z) (fun z => ?_)⟩⟩
      have E20 := E19.trans e20
      clear i1 i2 q1 q2 q3
      clear tail E19
      obtain ⟨C, dxo, fso, bR, bC, o1, o2, o3, o4, o5, o6, o7⟩ := hkit
      refine ⟨_, rfl, fa, _, dx0, _, _, rfl, E20 _ _ b1, T.c_Risen, T.n_Risen_crossing, rfl, cl0, r.map nV, rfl, .inr ((Gr.of E20).sqT b4), _, rfl, .int _, .int _, .int _, .int _, rfl, rfl, false, congrArg V.bl (ne_int (by rw [List.length_map, fcl])), rdb (fun z => by cases z) (fun z => ?_)⟩
      refine ⟨_, rfl, _, rfl, fa, _, dx0, _, _, rfl, E20 _ _ b1, T.c_Risen, T.n_Risen_crossing, rfl, _, rfl, rl, cl0, pl, rs, ps, r, rfl, Hr17.gr (Gr.of E20), (Gr.of E20).sqT b4, Fd.lt, by omega, fun H21 e21 => ⟨true, congrArg V.bl ((allX_pair _ _).mpr Fd.cr), rdb (fun z => by cases z) (fun z => ?_)⟩⟩
      have E21 := E20.trans e21
      refine ⟨_, rfl, .ref oa, .ref (ga K "Rising"), _, _, bR, rfl, .own _, ty_ins T.E o2 o3 (E21 _ _ o1), o4, _, rfl, show (0 : Nat) ≤ sizeLine by decide, fun tp htp => ?_⟩
      have e22 : Same H21 (upd H21 tp (.lst [])) := same_new htp _
      have h22 : SqL K (upd H21 tp (.lst [])) tp [] := SqL.of upd_same
      generalize upd H21 tp (.lst []) = H22 at *
      have E22 := E21.trans e22
      refine ⟨.list (dt (pairsOf (crs (below rs ps)) rs.length)), .list (dt []), .lst (SqL.of (E22 _ _ hD17)) (tyP17.gr (Gr.of E22)).dp, .lst h22 .nil, sh_dt _, sh_dt [], .bool _, .bool _, .bl _, .bl _, rfl, rfl, false, congrArg V.bl (ne_bl (by rw [PyData.eqv, eqv_tups]; exact o6)), rdb (fun z => by cases z) (fun z => ?_)⟩
      refine ⟨_, rfl, .ref oa, .ref (ga K "Crossing"), _, _, bC, rfl, .own _, ty_ins T.E o2 o3 (E22 _ _ o1), o5, _, rfl, show (0 : Nat) ≤ sizeLine by decide, fun tp2 htp2 => ?_⟩
      have e23 : Same H22 (upd H22 tp2 (.lst [])) := same_new htp2 _
      have h23 : SqL K (upd H22 tp2 (.lst [])) tp2 [] := SqL.of upd_same
      generalize upd H22 tp2 (.lst []) = H23 at *
      have E23 := E22.trans e23
      refine ⟨.list (dt (pairsOf (crs (below rs ps)) rs.length)), .list (dt []), .lst (SqL.of (E23 _ _ hD17)) (tyP17.gr (Gr.of E23)).dp, .lst h23 .nil, sh_dt _, sh_dt [], .bool _, .bool _, .bl _, .bl _, rfl, rfl, false, congrArg V.bl (ne_bl (by rw [PyData.eqv, eqv_tups]; exact o7)), rdb (fun z => by cases z) (fun z => ?_)⟩
      exact ⟨_, rfl, _, rfl, _, rfl, _, rfl, _, rfl, _, rfl, _, rfl, a, t, rl, pl, fa, ns, rs, ps, p, r, rfl, (Gr.of E23).sqL hs17, hnl, Td17.gr (Gr.of E23), Hr17.gr (Gr.of E23), hfa17.gr (Gr.of E23), Fd, T17.ext E23, fun H' g => q _ (G17.trans ((Gr.of E23).trans g))⟩
end
end Rs

set_option Elab.async false
set_option linter.all false
set_option maxRecDepth 100000
set_option maxHeartbeats 0
namespace Rs
open PySem PySem.Spec PyProof.Rows L2 He RsH LamX
theorem Gr.self (H : Hp) : Gr H H := Gr.of (Same.refl H)
theorem at_law (w : World) (mg : Str → Option Value) (f : Addr) (h : Heap) (Y : RsH.hk.says w h) (G : h.Ns mainGlobals mg) (hfa : mg ("law" : Str) = some (.ref f)) :
    ∃ K : PySem.W.Frag, K.In h ∧ LamX.LawAtS PySem.Challenge.rw_runcolumns_k40_whole_rising w K L2.CX0 16 63 "_law_script" mg f h := by
  obtain ⟨K, KX, c, g⟩ := Y
  have T : Txt w K h mg := ⟨KX, G, c, g⟩
  obtain ⟨fd, F⟩ := T.f_law
  have e := hfa.symm.trans T.g_law
  cases e
  have b := FunD.bindsA (ps := ["_law_script"]) F fun _ _ _ _ _ _ us hl => match us, hl with | [_], _ => rfl
  refine ⟨K, KX, fd, tf.map (cT K), spLaw K, fun p hp => ?_, fun p hp => ?_, fun p hp => ?_, fun s v => b s [v] rfl, fun H a ns hl _ hc hS => ⟨a, ns, rfl, hS, hl, fun p hp => ?_, fun _ _ => rfl⟩, fun base KB _ hB => ?_⟩
  · obtain ⟨x, hx, rfl⟩ := List.mem_map.mp hp
    exact c.empty x hx
  · obtain ⟨x, hx, rfl⟩ := List.mem_map.mp hp
    exact c.out x hx
  · obtain ⟨x, hx, rfl⟩ := List.mem_map.mp hp
    exact PySem.W.codeHd_of_K KX (c.hd x hx)
  · unfold Tl at hp
    rcases List.mem_cons.mp hp with rfl | hp
    · exact TabS.nil (hc _ (List.mem_cons_self))
    · rw [List.mem_singleton.mp hp]
      exact TabS.nil (hc _ (List.mem_cons_of_mem _ List.mem_cons_self))
  · have B : TxtB w K h mg base := ⟨T, hB _ List.mem_cons_self, hB _ (List.mem_cons_of_mem _ List.mem_cons_self)⟩
    exact fn_law B F
end Rs
open PySem PySem.W PySem.Calls PyProof.Rows
theorem PySem.Challenge.cw_runcolumns_k40_whole_rising_holds : PySem.Challenge.rw_runcolumns_k40_whole_rising.Holds := by
  w_on; o_law
  refine HandSHeadRun.head_any (r := OpenLaw.row PySem.Challenge.rw_runcolumns_k40_whole_rising) (q := view (OpenLaw.row PySem.Challenge.rw_runcolumns_k40_whole_rising).prog [45]) (H := RsH.hk) (ob := RsH.ob) (M := 8000) (loose := RsH.names) (d := HandSHeadRun.topDef (OpenLaw.row PySem.Challenge.rw_runcolumns_k40_whole_rising).prog 45) (kwd := []) RsH.ob_eq
    (by kernel_rfl) (fun s => by kernel_rfl) RsH.run (by kernel_rfl) (by kernel_rfl) (by kernel_rfl) (by rfl) (by first | assumption | decide +kernel) (by decide +kernel) ⟨rfl, rfl, rfl, rfl, rfl, by decide +kernel⟩ ?hw ?hc
  case hw => w_witness2
  case hc =>
    refine LamX.walk_ofTsE (l := PySem.Challenge.rw_runcolumns_k40_whole_rising) (n := 63) (k := 16) (x := "_law_script") (CX := fun _ => L2.CX0) rfl (by decide) (by kernel_rfl) ⟨rfl, by decide, by decide⟩ ?F (fun _ _ _ _ _ z => z)
    intro w mg fa h Y G hmg0
    have hmg : mg ("law" : PySem.Str) = some (.ref fa) := by
      have e : (HandSHeadRun.topDef (OpenLaw.row PySem.Challenge.rw_runcolumns_k40_whole_rising).prog 45).name = ("law" : PySem.Str) := by kernel_rfl
      rw [← e]
      exact hmg0
    exact Rs.at_law w mg fa h Y G hmg

