import PyProof.Rows.All
import Wide.All
import OpenK.AllK
import Wide.FinOn
import HandS.ForMost
import HandS.ForExc
import HandS.IsInst
import HandS.Defaults
import HandS.Flow
import HandS.FStr
import HandS.ExcInit
import HandS.ExcField
import HandS.ExcIs
import HandS.TupAny
import HandS.TryOnly
import HandS.OwnEq
import HandS.Deep
import HandS.Wide
import HandS.Conv
import HandS.DictComp
import HandS.ListItems
import HandS.SetKeys
import HandS.SortKw
import HandS.Lambda
import HandS.Nested
import HandS.HeadHook4
import HandS.Small
import PySem.Challenge.RW_sealroot_k37_whole_fewest_needed
import HandS.Walk
import HandS.Head0
import HandS.Head1
import HandS.Head2
import KE.KStateDown
import KE.DataMinMax
import KE.SortKeyHeap
import KE.KTopLam
import KE.KUnpackStar
import HandS.CallLocal
import HandS.NestedK
import HandS.SetBool
import HandS.Strs
import HandS.TupSets
import HandS.More
import HandS.Dict
import PyProof.Rows.TmSorted
import HandS.List
import HandS.Words
import KE.KEqSeq
import HandS.Text
import KE.KDictPairs
import KE.KExcIs
import HandS.EndTab
import HandS.HeadWalk
import Lean
set_option Elab.async false
set_option linter.all false
set_option maxRecDepth 100000
set_option maxHeartbeats 0
/-! Pure mathematics: trees, contents, deeds. -/
namespace Seal
abbrev W := List Nat

/-! ### lists -/
/-- the longest common beginning -/
def lcp : W → W → W
  | a :: x, b :: y => if a = b then a :: lcp x y else []
  | _, _ => []
theorem lcp_left : ∀ x y : W, lcp x y <+: x
  | [], y => by cases y <;> exact List.nil_prefix
  | a :: x, [] => List.nil_prefix
  | a :: x, b :: y => by
    unfold lcp
    split
    · exact List.cons_prefix_cons.mpr ⟨rfl, lcp_left x y⟩
    · exact List.nil_prefix
theorem lcp_right : ∀ x y : W, lcp x y <+: y
  | [], y => by cases y <;> exact List.nil_prefix
  | a :: x, [] => List.nil_prefix
  | a :: x, b :: y => by
    unfold lcp
    split
    · rename_i h; exact List.cons_prefix_cons.mpr ⟨h, lcp_right x y⟩
    · exact List.nil_prefix
theorem lcp_great : ∀ {z x y : W}, z <+: x → z <+: y → z <+: lcp x y
  | [], x, y, _, _ => List.nil_prefix
  | c :: z, [], y, h, _ => by simp at h
  | c :: z, a :: x, [], _, h => by simp at h
  | c :: z, a :: x, b :: y, h1, h2 => by
    obtain ⟨e1, k1⟩ := List.cons_prefix_cons.mp h1
    obtain ⟨e2, k2⟩ := List.cons_prefix_cons.mp h2
    unfold lcp
    rw [if_pos (e1.symm.trans e2)]
    exact List.cons_prefix_cons.mpr ⟨e1, lcp_great k1 k2⟩
theorem prefix_iff_lcp {s r : W} : s <+: r ↔ lcp s r = s := by
  constructor
  · intro h
    exact (lcp_left s r).eq_of_length_le (lcp_great (List.prefix_refl s) h).length_le
  · intro h
    rw [← h]; exact lcp_right s r
theorem prefix_anti {a b : W} (h1 : a <+: b) (h2 : b <+: a) : a = b := h1.eq_of_length_le h2.length_le
/-- behind the common beginning the two go on otherwise -/
theorem lcp_apart : ∀ {x y : W} {a b : Nat} {x' y' : W}, x = lcp x y ++ a :: x' → y = lcp x y ++ b :: y' → a ≠ b
  | [], y, a, b, x', y', h, _ => by simp [lcp] at h
  | c :: x, [], a, b, x', y', _, h => by simp [lcp] at h
  | c :: x, d :: y, a, b, x', y', h1, h2 => by
    unfold lcp at h1 h2
    by_cases e : c = d
    · subst e
      rw [if_pos rfl] at h1 h2
      simp only [List.cons_append, List.cons.injEq, true_and] at h1 h2
      exact lcp_apart h1 h2
    · rw [if_neg e] at h1 h2
      simp only [List.nil_append, List.cons.injEq] at h1 h2
      rw [← h1.1, ← h2.1]; exact e

/-! ### trees -/
inductive T where
  | stub (n : Int)
  | node (s : W) (v : Option W) (ks : List (Nat × T))

theorem T.ind {P : T → Prop} (hs : ∀ n, P (.stub n)) (hn : ∀ s v ks, (∀ p ∈ ks, P p.2) → P (.node s v ks)) (t : T) : P t :=
  T.rec (motive_1 := P) (motive_2 := fun l => ∀ p ∈ l, P p.2) (motive_3 := fun p => P p.2) hs (fun s v ks ih => hn s v ks ih)
    (fun p hp => nomatch hp) (fun hd tl h1 h2 p hp => by
      rcases List.mem_cons.mp hp with e | e
      · rw [e]; exact h1
      · exact h2 p e) (fun _ _ h => h) t

/-- what stands at a letter -/
def kat {β : Type} : List (Nat × β) → Nat → Option β
  | [], _ => none
  | (l', b) :: r, l => if l' = l then some b else kat r l
theorem kat_mem {β : Type} : ∀ {ks : List (Nat × β)} {l : Nat} {b : β}, kat ks l = some b → (l, b) ∈ ks
  | [], _, _, h => nomatch h
  | (l', b') :: r, l, b, h => by
    unfold kat at h
    split at h
    · rename_i e; subst e; cases h; exact List.mem_cons_self
    · exact List.mem_cons_of_mem _ (kat_mem h)
/-- rising letters -/
def Up {β : Type} (ks : List (Nat × β)) : Prop := ks.Pairwise fun p q => p.1 < q.1
theorem kat_of_mem {β : Type} : ∀ {ks : List (Nat × β)} {l : Nat} {b : β}, Up ks → (l, b) ∈ ks → kat ks l = some b
  | (l', b') :: r, l, b, u, h => by
    unfold Up at u
    rw [List.pairwise_cons] at u
    unfold kat
    rcases List.mem_cons.mp h with e | e
    · cases e; rw [if_pos rfl]
    · have := u.1 _ e
      rw [if_neg (show ¬ l' = l from fun z => by have h2 : l' < l := this; omega)]
      exact kat_of_mem u.2 e
theorem kat_none {β : Type} {ks : List (Nat × β)} {l : Nat} (h : ∀ p ∈ ks, p.1 ≠ l) : kat ks l = none := by
  cases e : kat ks l with
  | none => rfl
  | some b => exact absurd rfl (h _ (kat_mem e))
theorem kat_none_iff {β : Type} : ∀ {ks : List (Nat × β)} {l : Nat}, kat ks l = none → ∀ p ∈ ks, p.1 ≠ l
  | (l', b) :: r, l, h, p, hp => by
    unfold kat at h
    split at h
    · cases h
    · rename_i ne
      rcases List.mem_cons.mp hp with e | e
      · rw [e]; exact ne
      · exact kat_none_iff h p e
/-- a pair put in at its letter -/
def wk {β : Type} (l : Nat) (b : β) (ks : List (Nat × β)) : List (Nat × β) := ks.filter (fun p => decide (p.1 < l)) ++ (l, b) :: ks.filter (fun p => decide (l < p.1))
theorem mem_wk {β : Type} {l : Nat} {b : β} {ks : List (Nat × β)} {p : Nat × β} : p ∈ wk l b ks ↔ p = (l, b) ∨ (p ∈ ks ∧ p.1 ≠ l) := by
  unfold wk
  simp only [List.mem_append, List.mem_filter, List.mem_cons, decide_eq_true_eq]
  constructor
  · rintro (⟨h1, h2⟩ | h | ⟨h1, h2⟩)
    · exact .inr ⟨h1, by omega⟩
    · exact .inl h
    · exact .inr ⟨h1, by omega⟩
  · rintro (h | ⟨h1, h2⟩)
    · exact .inr (.inl h)
    · rcases Nat.lt_or_gt_of_ne h2 with h | h
      · exact .inl ⟨h1, h⟩
      · exact .inr (.inr ⟨h1, h⟩)
theorem up_wk {β : Type} {l : Nat} {b : β} {ks : List (Nat × β)} (u : Up ks) : Up (wk l b ks) := by
  unfold Up wk
  rw [List.pairwise_append]
  refine ⟨List.Pairwise.filter _ u, ?_, ?_⟩
  · rw [List.pairwise_cons]
    exact ⟨fun p hp => by simpa using (List.mem_filter.mp hp).2, List.Pairwise.filter _ u⟩
  · intro p hp q hq
    have h1 : p.1 < l := by simpa using (List.mem_filter.mp hp).2
    rcases List.mem_cons.mp hq with e | e
    · rw [e]; exact h1
    · have h2 : l < q.1 := by simpa using (List.mem_filter.mp e).2
      omega
theorem kat_wk {β : Type} {l : Nat} {b : β} {ks : List (Nat × β)} (u : Up ks) (m : Nat) : kat (wk l b ks) m = if m = l then some b else kat ks m := by
  by_cases e : m = l
  · subst e
    rw [if_pos rfl]
    exact kat_of_mem (up_wk u) (mem_wk.mpr (.inl rfl))
  · rw [if_neg e]
    cases h : kat ks m with
    | some c => exact kat_of_mem (up_wk u) (mem_wk.mpr (.inr ⟨kat_mem h, e⟩))
    | none =>
      refine kat_none fun p hp => ?_
      rcases mem_wk.mp hp with z | ⟨z, _⟩
      · rw [z]; exact fun z => e z.symm
      · exact kat_none_iff h p z
/-- two rising rows of the same pairs are one -/
theorem up_ext {β : Type} : ∀ {ks ks' : List (Nat × β)}, Up ks → Up ks' → (∀ p, p ∈ ks ↔ p ∈ ks') → ks = ks'
  | [], [], _, _, _ => rfl
  | [], q :: r, _, _, h => nomatch (h q).mpr List.mem_cons_self
  | p :: r, [], _, _, h => nomatch (h p).mp List.mem_cons_self
  | p :: r, q :: r', u, u', h => by
    unfold Up at u u'
    rw [List.pairwise_cons] at u u'
    have e : p = q := by
      rcases List.mem_cons.mp ((h p).mp List.mem_cons_self) with e | e
      · exact e
      · rcases List.mem_cons.mp ((h q).mpr List.mem_cons_self) with e' | e'
        · exact e'.symm
        · have h1 := u.1 _ e'
          have h2 := u'.1 _ e
          omega
    subst e
    have e2 : r = r' := up_ext u.2 u'.2 fun x => by
      constructor
      · intro hx
        rcases List.mem_cons.mp ((h x).mp (List.mem_cons_of_mem _ hx)) with e | e
        · have := u.1 _ hx; rw [e] at this; omega
        · exact e
      · intro hx
        rcases List.mem_cons.mp ((h x).mpr (List.mem_cons_of_mem _ hx)) with e | e
        · have := u'.1 _ hx; rw [e] at this; omega
        · exact e
    rw [e2]

/-! ### deeds -/
inductive Err where
  | unseen (w : W)
  | nokey (k : W)
  deriving DecidableEq
/-- what stands behind s in r, where r begins by s -/
def rest? (s r : W) : Option W := if s <+: r then some (r.drop s.length) else none
theorem rest_some {s r x : W} (h : rest? s r = some x) : r = s ++ x := by
  unfold rest? at h
  split at h
  · rename_i p
    obtain ⟨y, rfl⟩ := p
    cases h
    rw [List.drop_left]
  · cases h
theorem rest_app (s x : W) : rest? s (s ++ x) = some x := by
  unfold rest?
  rw [if_pos (List.prefix_append s x), List.drop_left]
theorem rest_none {s r : W} (h : rest? s r = none) : ¬ s <+: r := fun z => by
  unfold rest? at h
  rw [if_pos z] at h
  cases h

mutual
/-- the value at what is left of a key -/
def look : T → W → Option W
  | .stub _, _ => none
  | .node s v ks, r => match rest? s r with
    | none => none
    | some [] => v
    | some (l :: r') => lookK ks l r'
def lookK : List (Nat × T) → Nat → W → Option W
  | [], _, _ => none
  | (l', t) :: ks, l, r => if l' = l then look t r else lookK ks l r
end
theorem lookK_eq : ∀ (ks : List (Nat × T)) (l : Nat) (r : W), lookK ks l r = match kat ks l with | some t => look t r | none => none
  | [], _, _ => rfl
  | (l', t) :: ks, l, r => by
    unfold lookK kat
    split
    · rfl
    · exact lookK_eq ks l r

/-- a node parted where a key goes on otherwise, or ends -/
def parted (s : W) (v : Option W) (ks : List (Nat × T)) (r x : W) : T :=
  let b := lcp s r
  let below : List (Nat × T) := match s.drop b.length with
    | [] => []
    | l :: s' => [(l, .node s' v ks)]
  match r.drop b.length with
  | [] => .node b (some x) below
  | l :: r' => .node b none (wk l (.node r' (some x) []) below)
mutual
def putIn : T → W → W → W → Except Err T
  | .stub _, way, _, _ => .error (.unseen way)
  | .node s v ks, way, r, x => match rest? s r with
    | none => .ok (parted s v ks r x)
    | some [] => .ok (.node s (some x) ks)
    | some (l :: r') => match putK ks l (way ++ s ++ [l]) r' x with
      | .ok t => .ok (.node s v (wk l t ks))
      | .error e => .error e
def putK : List (Nat × T) → Nat → W → W → W → Except Err T
  | [], _, _, r, x => .ok (.node r (some x) [])
  | (l', t) :: ks, l, way, r, x => if l' = l then putIn t way r x else putK ks l way r x
end
theorem putK_eq : ∀ (ks : List (Nat × T)) (l : Nat) (way r x : W), putK ks l way r x = match kat ks l with | some t => putIn t way r x | none => .ok (.node r (some x) [])
  | [], _, _, _, _ => rfl
  | (l', t) :: ks, l, way, r, x => by
    unfold putK kat
    split
    · rfl
    · exact putK_eq ks l way r x
/-- a node of what is left; one with a kid that is left alone is joined with it -/
def joinL (way s : W) (v : Option W) (ks : List (Nat × T)) : Except Err (Option T) :=
  if v ≠ none ∨ 1 < ks.length then .ok (some (.node s v ks)) else match ks with
    | [] => .ok none
    | (l, .stub _) :: _ => .error (.unseen (way ++ s ++ [l]))
    | (l, .node s' v' ks') :: _ => .ok (some (.node (s ++ l :: s') v' ks'))
def without (l : Nat) (ks : List (Nat × T)) : List (Nat × T) := ks.filter fun p => decide (p.1 ≠ l)
mutual
def dropIn : T → W → W → W → Except Err (Option T)
  | .stub _, way, _, _ => .error (.unseen way)
  | .node s v ks, way, r, key => match rest? s r with
    | none => .error (.nokey key)
    | some [] => if v = none then .error (.nokey key) else joinL way s none ks
    | some (l :: r') => match dropK ks l (way ++ s ++ [l]) r' key with
      | .ok (some t) => joinL way s v (wk l t ks)
      | .ok none => joinL way s v (without l ks)
      | .error e => .error e
def dropK : List (Nat × T) → Nat → W → W → W → Except Err (Option T)
  | [], _, _, _, key => .error (.nokey key)
  | (l', t) :: ks, l, way, r, key => if l' = l then dropIn t way r key else dropK ks l way r key
end
theorem dropK_eq : ∀ (ks : List (Nat × T)) (l : Nat) (way r x : W), dropK ks l way r x = match kat ks l with | some t => dropIn t way r x | none => .error (.nokey x)
  | [], _, _, _, _ => rfl
  | (l', t) :: ks, l, way, r, x => by
    unfold dropK kat
    split
    · rfl
    · exact dropK_eq ks l way r x

/-! ### well-formed, full, height -/
def Lt (l : Nat) : Prop := 97 ≤ l ∧ l ≤ 122
def Ltr (s : W) : Prop := ∀ c ∈ s, Lt c
def Vl (x : W) : Prop := x.length ≤ 40 ∧ ∀ c ∈ x, 32 ≤ c ∧ c ≤ 126
def Num (n : Int) : Prop := 0 ≤ n ∧ n ≤ 1000000000000000000000000000000
mutual
def Wf : T → Prop
  | .stub n => Num n
  | .node s v ks => Ltr s ∧ (∀ x, v = some x → Vl x) ∧ Up ks ∧ (v = none → 2 ≤ ks.length) ∧ WfK ks
def WfK : List (Nat × T) → Prop
  | [] => True
  | (l, t) :: r => (Lt l ∧ Wf t) ∧ WfK r
end
theorem wfK_iff : ∀ {ks : List (Nat × T)}, WfK ks ↔ ∀ p ∈ ks, Lt p.1 ∧ Wf p.2
  | [] => by simp [WfK]
  | (l, t) :: r => by unfold WfK; rw [wfK_iff]; simp
mutual
def Full : T → Prop
  | .stub _ => False
  | .node _ _ ks => FullK ks
def FullK : List (Nat × T) → Prop
  | [] => True
  | (_, t) :: r => Full t ∧ FullK r
end
theorem fullK_iff : ∀ {ks : List (Nat × T)}, FullK ks ↔ ∀ p ∈ ks, Full p.2
  | [] => by simp [FullK]
  | (l, t) :: r => by unfold FullK; rw [fullK_iff]; simp
mutual
def ht : T → Nat
  | .stub _ => 0
  | .node s _ ks => s.length + htK ks
def htK : List (Nat × T) → Nat
  | [] => 0
  | (_, t) :: r => max (1 + ht t) (htK r)
end
theorem htK_le : ∀ {ks : List (Nat × T)} {n : Nat}, htK ks ≤ n ↔ ∀ p ∈ ks, 1 + ht p.2 ≤ n
  | [], n => by simp [htK]
  | (l, t) :: r, n => by unfold htK; rw [Nat.max_le, htK_le]; simp
theorem ht_mem {ks : List (Nat × T)} {p : Nat × T} (h : p ∈ ks) : 1 + ht p.2 ≤ htK ks := htK_le.mp (Nat.le_refl _) p h
theorem Wf.node {s : W} {v : Option W} {ks : List (Nat × T)} : Wf (.node s v ks) ↔ Ltr s ∧ (∀ x, v = some x → Vl x) ∧ Up ks ∧ (v = none → 2 ≤ ks.length) ∧ ∀ p ∈ ks, Lt p.1 ∧ Wf p.2 := by
  show (Ltr s ∧ (∀ x, v = some x → Vl x) ∧ Up ks ∧ (v = none → 2 ≤ ks.length) ∧ WfK ks) ↔ _
  rw [wfK_iff]
theorem Full.node {s : W} {v : Option W} {ks : List (Nat × T)} : Full (.node s v ks) ↔ ∀ p ∈ ks, Full p.2 := fullK_iff
theorem ltr_app {a b : W} : Ltr (a ++ b) ↔ Ltr a ∧ Ltr b := by
  unfold Ltr
  simp only [List.mem_append]
  exact ⟨fun h => ⟨fun c hc => h c (.inl hc), fun c hc => h c (.inr hc)⟩, fun h c hc => hc.elim (h.1 c) (h.2 c)⟩
theorem ltr_cons {a : Nat} {b : W} : Ltr (a :: b) ↔ Lt a ∧ Ltr b := by
  unfold Ltr
  simp

/-! ### put keeps what a tree is -/
theorem up_nil {β : Type} : Up ([] : List (Nat × β)) := List.Pairwise.nil
theorem up_one {β : Type} {p : Nat × β} : Up [p] := List.pairwise_singleton _ _
theorem wf_leaf {r x : W} (hr : Ltr r) (hx : Vl x) : Wf (.node r (some x) []) := Wf.node.mpr ⟨hr, fun y e => by cases e; exact hx, up_nil, fun e => (nomatch e), fun p h => (nomatch h)⟩
theorem split_lcp (s r : W) : ∃ a b, s = lcp s r ++ a ∧ r = lcp s r ++ b := by
  obtain ⟨a, ha⟩ := lcp_left s r
  obtain ⟨b, hb⟩ := lcp_right s r
  exact ⟨a, b, ha.symm, hb.symm⟩
/-- the forms of a parted node -/
theorem parted_form {s r : W} (h : ¬ s <+: r) (x : W) : ∃ b l s', s = b ++ l :: s' ∧ ((r = b ∧ ∀ v ks, parted s v ks r x = .node b (some x) [(l, .node s' v ks)]) ∨
    ∃ m r', r = b ++ m :: r' ∧ m ≠ l ∧ ∀ v ks, parted s v ks r x = .node b none (wk m (.node r' (some x) []) [(l, .node s' v ks)])) := by
  obtain ⟨a, c, ha, hc⟩ := split_lcp s r
  have e1 : s.drop (lcp s r).length = a := by
    have := congrArg (List.drop (lcp s r).length) ha
    rwa [List.drop_left] at this
  have e2 : r.drop (lcp s r).length = c := by
    have := congrArg (List.drop (lcp s r).length) hc
    rwa [List.drop_left] at this
  cases a with
  | nil =>
    rw [List.append_nil] at ha
    exact absurd (prefix_iff_lcp.mpr ha.symm) h
  | cons l s' =>
    refine ⟨lcp s r, l, s', ha, ?_⟩
    cases c with
    | nil =>
      rw [List.append_nil] at hc
      refine .inl ⟨hc, fun v ks => ?_⟩
      unfold parted
      simp only [e1, e2]
    | cons m r' =>
      refine .inr ⟨m, r', hc, fun z => lcp_apart ha hc z.symm, fun v ks => ?_⟩
      unfold parted
      simp only [e1, e2]
theorem wf_put (x : W) (hx : Vl x) (t : T) : ∀ (way r : W) (t' : T), Wf t → Ltr r → putIn t way r x = .ok t' → Wf t' ∧ ht t' ≤ max (ht t) r.length := by
  induction t using T.ind with
  | hs n => intro way r t' _ _ h; cases h
  | hn s v ks ih =>
    intro way r t' w hr h
    obtain ⟨w1, w2, w3, w4, w5⟩ := Wf.node.mp w
    unfold putIn at h
    cases e : rest? s r with
    | none =>
      rw [e] at h
      cases h
      obtain ⟨b, l, s', es, h | ⟨m, r', er, ne, h⟩⟩ := parted_form (rest_none e) x
      · obtain ⟨er, h⟩ := h
        rw [h]
        rw [es, ltr_app, ltr_cons] at w1
        have wn : Wf (.node s' v ks) := Wf.node.mpr ⟨w1.2.2, w2, w3, w4, w5⟩
        refine ⟨Wf.node.mpr ⟨w1.1, fun y e => by cases e; exact hx, up_one, fun e => (nomatch e), fun p hp => ?_⟩, ?_⟩
        · have ep := List.mem_singleton.mp hp
          rw [ep]; exact ⟨w1.2.1, wn⟩
        · have : ht (.node b (some x) [(l, .node s' v ks)]) = b.length + max (1 + (s'.length + htK ks)) 0 := rfl
          rw [this]
          have : ht (.node s v ks) = s.length + htK ks := rfl
          rw [this, es, List.length_append, List.length_cons]
          omega
      · rw [h]
        rw [es, ltr_app, ltr_cons] at w1
        rw [er, ltr_app, ltr_cons] at hr
        have wn : Wf (.node s' v ks) := Wf.node.mpr ⟨w1.2.2, w2, w3, w4, w5⟩
        have wl : Wf (.node r' (some x) []) := wf_leaf hr.2.2 hx
        have mem : ∀ p, p ∈ wk m (T.node r' (some x) []) [(l, .node s' v ks)] → p = (m, T.node r' (some x) []) ∨ p = (l, .node s' v ks) := fun p hp => by
          rcases mem_wk.mp hp with z | ⟨z, _⟩
          · exact .inl z
          · exact .inr (List.mem_singleton.mp z)
        refine ⟨Wf.node.mpr ⟨w1.1, fun y e => (nomatch e), up_wk up_one, fun _ => ?_, fun p hp => ?_⟩, ?_⟩
        · unfold wk
          rcases Nat.lt_or_gt_of_ne ne with z | z
          · simp [z, Nat.lt_asymm z]
          · simp [z, Nat.lt_asymm z]
        · rcases mem p hp with z | z
          · rw [z]; exact ⟨hr.2.1, wl⟩
          · rw [z]; exact ⟨w1.2.1, wn⟩
        · show b.length + htK (wk m (T.node r' (some x) []) [(l, .node s' v ks)]) ≤ _
          have hk : htK (wk m (T.node r' (some x) []) [(l, .node s' v ks)]) ≤ max (1 + r'.length) (1 + (s'.length + htK ks)) := htK_le.mpr fun p hp => by
            rcases mem p hp with z | z
            · rw [z]
              show 1 + (r'.length + 0) ≤ _
              omega
            · rw [z]
              show 1 + (s'.length + htK ks) ≤ _
              omega
          have : ht (.node s v ks) = s.length + htK ks := rfl
          rw [this, es, er, List.length_append, List.length_cons, List.length_append, List.length_cons]
          omega
    | some q =>
      rw [e] at h
      have er := rest_some e
      rw [er, ltr_app] at hr
      cases q with
      | nil =>
        cases h
        exact ⟨Wf.node.mpr ⟨w1, fun y e => by cases e; exact hx, w3, fun e => (nomatch e), w5⟩, Nat.le_max_left _ _⟩
      | cons l r' =>
        rw [ltr_cons] at hr
        simp only [putK_eq] at h
        have key : ∀ u, Wf u → ht u ≤ max (htK ks - 1) r'.length → Wf (.node s v (wk l u ks)) ∧ ht (.node s v (wk l u ks)) ≤ max (ht (.node s v ks)) r.length := fun u wu hu => by
          refine ⟨Wf.node.mpr ⟨w1, w2, up_wk w3, fun ev => ?_, fun p hp => ?_⟩, ?_⟩
          · have h2 := w4 ev
            match ks, h2, w3 with
            | p :: q :: rr, _, u3 =>
              have hpq : p.1 < q.1 := (List.pairwise_cons.mp u3).1 q List.mem_cons_self
              have m0 : (l, u) ∈ wk l u (p :: q :: rr) := mem_wk.mpr (.inl rfl)
              have two : ∃ z, z ∈ wk l u (p :: q :: rr) ∧ z ≠ (l, u) := by
                by_cases hp : p.1 = l
                · exact ⟨q, mem_wk.mpr (.inr ⟨by simp, by omega⟩), fun z => by rw [z] at hpq; simp at hpq; omega⟩
                · exact ⟨p, mem_wk.mpr (.inr ⟨by simp, hp⟩), fun z => hp (by rw [z])⟩
              obtain ⟨z, hz, nz⟩ := two
              match wk l u (p :: q :: rr), m0, hz with
              | [], m0, _ => nomatch m0
              | [y], m0, hz => exact absurd ((List.mem_singleton.mp hz).trans (List.mem_singleton.mp m0).symm) nz
              | _ :: _ :: _, _, _ => simp
          · rcases mem_wk.mp hp with z | ⟨z, _⟩
            · rw [z]; exact ⟨hr.2.1, wu⟩
            · exact w5 p z
          · show s.length + htK (wk l u ks) ≤ max (s.length + htK ks) r.length
            have hk : htK (wk l u ks) ≤ max (htK ks) (1 + r'.length) := htK_le.mpr fun p hp => by
              rcases mem_wk.mp hp with z | ⟨z, _⟩
              · rw [z]
                show 1 + ht u ≤ _
                by_cases hz : htK ks = 0
                · omega
                · omega
              · have := ht_mem z
                omega
            rw [er, List.length_append, List.length_cons]
            omega
        cases ek : kat ks l with
        | none =>
          rw [ek] at h
          cases h
          refine key _ (wf_leaf hr.2.2 hx) ?_
          show r'.length + 0 ≤ _
          omega
        | some u =>
          rw [ek] at h
          cases eu : putIn u (way ++ s ++ [l]) r' x with
          | error e => simp only [eu] at h; cases h
          | ok u' =>
            simp only [eu] at h
            cases h
            have mu := kat_mem ek
            obtain ⟨a1, a2⟩ := ih _ mu _ _ _ (w5 _ mu).2 hr.2.2 eu
            refine key _ a1 ?_
            have := ht_mem mu
            simp only at this a2
            omega
end Seal
namespace Seal
/-! ### what a put does to a full tree -/
theorem look_node (s : W) (v : Option W) (ks : List (Nat × T)) (r : W) : look (.node s v ks) r = match rest? s r with
    | none => none
    | some [] => v
    | some (l :: r') => match kat ks l with | some t => look t r' | none => none := by
  show (match rest? s r with | none => none | some [] => v | some (l :: r') => lookK ks l r') = _
  cases rest? s r with
  | none => rfl
  | some q => cases q with
    | nil => rfl
    | cons l r' => exact lookK_eq ks l r'
theorem rest_self (s : W) : rest? s s = some [] := by
  have := rest_app s []
  rwa [List.append_nil] at this
theorem rest_app_none {b l m : _} {r' k : W} (h : rest? (b ++ l :: r') (b ++ m :: k) ≠ none) : l = m := by
  cases e : rest? (b ++ l :: r') (b ++ m :: k) with
  | none => exact absurd e h
  | some x =>
    have := rest_some e
    rw [List.append_assoc] at this
    have := List.append_cancel_left this
    rw [List.cons_append] at this
    exact (List.cons.inj this).1.symm
theorem rest_assoc (b : W) (l : Nat) (s k : W) : rest? (b ++ l :: s) (b ++ l :: k) = rest? s k := by
  unfold rest?
  have : (b ++ l :: s <+: b ++ l :: k) ↔ s <+: k := by
    rw [List.prefix_append_right_inj, List.cons_prefix_cons]; simp
  by_cases h : s <+: k
  · rw [if_pos h, if_pos (this.mpr h)]
    obtain ⟨z, rfl⟩ := h
    rw [show b ++ l :: (s ++ z) = (b ++ l :: s) ++ z by simp, List.drop_left, List.drop_left]
  · rw [if_neg h, if_neg (fun z => h (this.mp z))]
/-- a key that begins by b ++ [l] or not -/
theorem key_cases (b : W) (k : W) : rest? b k = none ∨ k = b ∨ ∃ m k', k = b ++ m :: k' := by
  cases e : rest? b k with
  | none => exact .inl rfl
  | some x =>
    have := rest_some e
    cases x with
    | nil => rw [List.append_nil] at this; exact .inr (.inl this)
    | cons m k' => exact .inr (.inr ⟨m, k', this⟩)
theorem rest_none_of {b l : _} {s k : W} (h : rest? b k = none) : rest? (b ++ l :: s) k = none := by
  unfold rest? at h ⊢
  split at h
  · cases h
  · rename_i n
    exact if_neg fun z => n ((List.prefix_append b (l :: s)).trans z)
theorem rest_short {b : W} {l : Nat} {s : W} : rest? (b ++ l :: s) b = none := by
  unfold rest?
  refine if_neg fun z => ?_
  have := z.length_le
  simp at this
  omega
theorem rest_other {b : W} {l m : Nat} {s k : W} (h : l ≠ m) : rest? (b ++ l :: s) (b ++ m :: k) = none := by
  cases e : rest? (b ++ l :: s) (b ++ m :: k) with
  | none => rfl
  | some x => exact absurd (rest_app_none (by rw [e]; exact fun z => nomatch z)) h
theorem app_cons_inj {b : W} {m n : Nat} {k k' : W} : b ++ m :: k = b ++ n :: k' ↔ m = n ∧ k = k' := by
  constructor
  · intro h
    exact List.cons.inj (List.append_cancel_left h)
  · rintro ⟨rfl, rfl⟩; rfl
theorem look_leaf (r x k : W) : look (.node r (some x) []) k = if k = r then some x else none := by
  rw [look_node]
  rcases key_cases r k with e | e | ⟨m, k', e⟩
  · rw [e]
    rw [if_neg (fun z => by rw [z, rest_self] at e; cases e)]
  · rw [e, rest_self, if_pos rfl]
  · rw [e, rest_app, if_neg (fun z => by
      have := congrArg List.length z
      simp at this)]
    rfl
theorem put_full (x : W) (t : T) : ∀ (way r : W), Wf t → Full t → ∃ t', putIn t way r x = .ok t' ∧ Full t' ∧ ∀ k, look t' k = if k = r then some x else look t k := by
  induction t using T.ind with
  | hs n => intro way r _ f; exact f.elim
  | hn s v ks ih =>
    intro way r w f
    obtain ⟨w1, w2, w3, w4, w5⟩ := Wf.node.mp w
    have f' := Full.node.mp f
    unfold putIn
    cases e : rest? s r with
    | none =>
      refine ⟨_, rfl, ?_⟩
      obtain ⟨b, l, s', es, h | ⟨m, r', er, ne, h⟩⟩ := parted_form (rest_none e) x
      · obtain ⟨er, h⟩ := h
        rw [h]
        refine ⟨Full.node.mpr fun p hp => ?_, fun k => ?_⟩
        · rw [List.mem_singleton.mp hp]; exact Full.node.mpr f'
        · rw [look_node, er]
          rcases key_cases b k with z | z | ⟨n, k', z⟩
          · rw [z, if_neg (fun q => by rw [q, rest_self] at z; cases z), look_node, es, rest_none_of z]
          · rw [z, rest_self, if_pos rfl]
          · rw [z, rest_app, if_neg (fun q => by
              have := congrArg List.length q
              simp at this)]
            show (match kat [(l, T.node s' v ks)] n with | some t => look t k' | none => none) = look (.node s v ks) (b ++ n :: k')
            by_cases q : l = n
            · subst q
              rw [show kat [(l, T.node s' v ks)] l = some (T.node s' v ks) from if_pos rfl]
              show look (.node s' v ks) k' = _
              rw [look_node, look_node, es, rest_assoc]
            · rw [show kat [(l, T.node s' v ks)] n = none from if_neg q, look_node, es, rest_other q]
      · rw [h]
        refine ⟨Full.node.mpr fun p hp => ?_, fun k => ?_⟩
        · rcases mem_wk.mp hp with z | ⟨z, _⟩
          · rw [z]; exact Full.node.mpr fun p hp => nomatch hp
          · rw [List.mem_singleton.mp z]; exact Full.node.mpr f'
        · rw [look_node, er]
          rcases key_cases b k with z | z | ⟨n, k', z⟩
          · rw [z, if_neg (fun q => by rw [q, rest_app] at z; cases z), look_node, es, rest_none_of z]
          · rw [z, rest_self, if_neg (fun q => by
              have := congrArg List.length q
              simp at this), look_node, es, rest_short]
          · rw [z, rest_app]
            show (match kat (wk m (T.node r' (some x) []) [(l, T.node s' v ks)]) n with | some t => look t k' | none => none) = _
            rw [kat_wk up_one]
            by_cases q : n = m
            · subst q
              rw [if_pos rfl]
              show look (.node r' (some x) []) k' = _
              rw [look_leaf]
              by_cases q2 : k' = r'
              · rw [if_pos q2, if_pos (by rw [q2])]
              · rw [if_neg q2, if_neg (fun z => q2 (app_cons_inj.mp z).2), look_node, es, rest_other (Ne.symm ne)]
            · rw [if_neg q, if_neg (fun z => q (app_cons_inj.mp z).1)]
              by_cases q2 : l = n
              · subst q2
                rw [show kat [(l, T.node s' v ks)] l = some (T.node s' v ks) from if_pos rfl]
                show look (.node s' v ks) k' = _
                rw [look_node, look_node, es, rest_assoc]
              · rw [show kat [(l, T.node s' v ks)] n = none from if_neg q2, look_node, es, rest_other q2]
    | some q =>
      have er := rest_some e
      cases q with
      | nil =>
        rw [List.append_nil] at er
        refine ⟨_, rfl, Full.node.mpr f', fun k => ?_⟩
        rw [look_node, look_node, er]
        rcases key_cases s k with z | z | ⟨n, k', z⟩
        · rw [z, if_neg (fun q => by rw [q, rest_self] at z; cases z)]
        · rw [z, rest_self, if_pos rfl]
        · rw [z, rest_app, if_neg (fun q => by
            have := congrArg List.length q
            simp at this)]
      | cons l r' =>
        simp only [putK_eq]
        have key : ∀ u, Full u → (∀ k, look u k = if k = r' then some x else (match kat ks l with | some t => look t k | none => none)) →
            Full (.node s v (wk l u ks)) ∧ ∀ k, look (.node s v (wk l u ks)) k = if k = r then some x else look (.node s v ks) k := fun u fu hu => by
          refine ⟨Full.node.mpr fun p hp => ?_, fun k => ?_⟩
          · rcases mem_wk.mp hp with z | ⟨z, _⟩
            · rw [z]; exact fu
            · exact f' p z
          · rw [look_node, look_node, er]
            rcases key_cases s k with z | z | ⟨n, k', z⟩
            · rw [z, if_neg (fun q => by rw [q, rest_app] at z; cases z)]
            · rw [z, rest_self, if_neg (fun q => by
                have := congrArg List.length q
                simp at this)]
            · rw [z, rest_app]
              show (match kat (wk l u ks) n with | some t => look t k' | none => none) = if _ then _ else (match kat ks n with | some t => look t k' | none => none)
              rw [kat_wk w3]
              by_cases q : n = l
              · subst q
                rw [if_pos rfl]
                show look u k' = _
                rw [hu]
                by_cases q2 : k' = r'
                · rw [if_pos q2, if_pos (by rw [q2])]
                · rw [if_neg q2, if_neg (fun z => q2 (app_cons_inj.mp z).2)]
              · rw [if_neg q, if_neg (fun z => q (app_cons_inj.mp z).1)]
        cases ek : kat ks l with
        | none =>
          refine ⟨_, rfl, key _ (Full.node.mpr fun p hp => nomatch hp) fun k => ?_⟩
          rw [look_leaf, ek]
        | some u =>
          have mu := kat_mem ek
          obtain ⟨u', e1, e2, e3⟩ := ih _ mu (way ++ s ++ [l]) r' (w5 _ mu).2 (f' _ mu)
          simp only at e1 e3
          refine ⟨.node s v (wk l u' ks), by simp only [e1], key u' e2 fun k => ?_⟩
          rw [e3, ek]

/-! ### and a drop -/
/-- a full tree has a key -/
theorem has_key (t : T) : Wf t → Full t → ∃ k x, look t k = some x := by
  induction t using T.ind with
  | hs n => intro _ f; exact f.elim
  | hn s v ks ih =>
    intro w f
    obtain ⟨w1, w2, w3, w4, w5⟩ := Wf.node.mp w
    cases v with
    | some x => exact ⟨s, x, by rw [look_node, rest_self]⟩
    | none =>
      have h2 := w4 rfl
      match ks, h2 with
      | p :: rr, _ =>
        obtain ⟨k, x, e⟩ := ih p List.mem_cons_self (w5 p List.mem_cons_self).2 (Full.node.mp f p List.mem_cons_self)
        refine ⟨s ++ p.1 :: k, x, ?_⟩
        rw [look_node, rest_app]
        show (match kat (p :: rr) p.1 with | some t => look t k | none => none) = some x
        rw [show kat (p :: rr) p.1 = some p.2 from if_pos rfl]
        exact e
theorem up_filter {β : Type} {ks : List (Nat × β)} (u : Up ks) (q : Nat × β → Bool) : Up (ks.filter q) := List.Pairwise.filter _ u
theorem mem_without {l : Nat} {ks : List (Nat × T)} {p : Nat × T} : p ∈ without l ks ↔ p ∈ ks ∧ p.1 ≠ l := by
  unfold without
  rw [List.mem_filter]
  simp
theorem kat_without {l : Nat} {ks : List (Nat × T)} (u : Up ks) (m : Nat) : kat (without l ks) m = if m = l then none else kat ks m := by
  by_cases e : m = l
  · subst e
    rw [if_pos rfl]
    exact kat_none fun p hp => (mem_without.mp hp).2
  · rw [if_neg e]
    cases h : kat ks m with
    | some c => exact kat_of_mem (up_filter u _) (mem_without.mpr ⟨kat_mem h, e⟩)
    | none => exact kat_none fun p hp => kat_none_iff h p (mem_without.mp hp).1
/-- what a row of kids tells -/
def lookN (s : W) (v : Option W) (ks : List (Nat × T)) (k : W) : Option W := look (.node s v ks) k
theorem join_full {way s : W} {v : Option W} {ks : List (Nat × T)} (u : Up ks) (f : ∀ p ∈ ks, Full p.2) :
    ∃ o, joinL way s v ks = .ok o ∧ (∀ t, o = some t → Full t ∧ ∀ k, look t k = look (.node s v ks) k) ∧ (o = none → v = none ∧ ks = []) := by
  unfold joinL
  by_cases h : v ≠ none ∨ 1 < ks.length
  · rw [if_pos h]
    exact ⟨_, rfl, fun t e => by cases e; exact ⟨Full.node.mpr f, fun _ => rfl⟩, fun e => nomatch e⟩
  · rw [if_neg h]
    have hv : v = none := by
      cases v with
      | none => rfl
      | some x => exact absurd (.inl (fun z => nomatch z)) h
    match ks, f, h with
    | [], _, _ => exact ⟨none, rfl, fun t e => (nomatch e), fun _ => ⟨hv, rfl⟩⟩
    | p :: q :: r, _, h => exact absurd (.inr (by simp)) h
    | [(l, .stub n)], f, _ => exact (f _ List.mem_cons_self).elim
    | [(l, .node s' v' ks')], f, _ =>
      refine ⟨_, rfl, fun t e => ?_, fun e => nomatch e⟩
      cases e
      refine ⟨Full.node.mpr (Full.node.mp (f _ List.mem_cons_self)), fun k => ?_⟩
      rw [look_node, look_node, hv]
      rcases key_cases s k with z | z | ⟨n, k', z⟩
      · rw [z, rest_none_of z]
      · rw [z, rest_self, rest_short]
      · rw [z, rest_app]
        show _ = (match kat [(l, T.node s' v' ks')] n with | some t => look t k' | none => none)
        by_cases q : l = n
        · subst q
          rw [rest_assoc, show kat [(l, T.node s' v' ks')] l = some (T.node s' v' ks') from if_pos rfl]
          show _ = look (.node s' v' ks') k'
          rw [look_node]
        · rw [rest_other q, show kat [(l, T.node s' v' ks')] n = none from if_neg q]
theorem drop_full (t : T) : ∀ (way r key : W), Wf t → Full t →
    (look t r = none → dropIn t way r key = .error (.nokey key)) ∧
    (look t r ≠ none → ∃ o, dropIn t way r key = .ok o ∧ (∀ t', o = some t' → Full t' ∧ ∀ k, look t' k = if k = r then none else look t k) ∧ (o = none → ∀ k, k ≠ r → look t k = none)) := by
  induction t using T.ind with
  | hs n => intro way r key _ f; exact f.elim
  | hn s v ks ih =>
    intro way r key w f
    obtain ⟨w1, w2, w3, w4, w5⟩ := Wf.node.mp w
    have f' := Full.node.mp f
    unfold dropIn
    rw [look_node]
    cases e : rest? s r with
    | none => exact ⟨fun _ => rfl, fun h => absurd rfl h⟩
    | some q =>
      have er := rest_some e
      cases q with
      | nil =>
        rw [List.append_nil] at er
        refine ⟨fun h => if_pos h, fun h => ?_⟩
        show ∃ o, (if v = none then _ else joinL way s none ks) = .ok o ∧ _
        rw [if_neg h]
        obtain ⟨o, e1, e2, e3⟩ := join_full (way := way) (s := s) (v := none) w3 f'
        have lk : ∀ k, look (.node s none ks) k = if k = r then none else look (.node s v ks) k := fun k => by
          rw [look_node, look_node, er]
          rcases key_cases s k with z | z | ⟨n, k', z⟩
          · rw [z, if_neg (fun q => by rw [q, rest_self] at z; cases z)]
          · rw [z, rest_self, if_pos rfl]
          · rw [z, rest_app, if_neg (fun q => by
              have := congrArg List.length q
              simp at this)]
        refine ⟨o, e1, fun t' et => ⟨(e2 t' et).1, fun k => by rw [(e2 t' et).2, lk]⟩, fun eo k hk => ?_⟩
        obtain ⟨_, e0⟩ := e3 eo
        have := lk k
        rw [if_neg hk] at this
        rw [← this, e0, look_node]
        rcases key_cases s k with z | z | ⟨n, k', z⟩
        · rw [z]
        · rw [z, rest_self]
        · rw [z, rest_app]
          rfl
      | cons l r' =>
        simp only [dropK_eq]
        show ((match kat ks l with | some t => look t r' | none => none) = none → _) ∧ ((match kat ks l with | some t => look t r' | none => none) ≠ none → _)
        cases ek : kat ks l with
        | none => exact ⟨fun _ => rfl, fun h => absurd rfl h⟩
        | some u =>
          have mu := kat_mem ek
          obtain ⟨i1, i2⟩ := ih _ mu (way ++ s ++ [l]) r' key (w5 _ mu).2 (f' _ mu)
          simp only at i1 i2 ⊢
          refine ⟨fun h => by rw [i1 h], fun h => ?_⟩
          obtain ⟨o, a1, a2, a3⟩ := i2 h
          rw [a1]
          cases o with
          | some u' =>
            obtain ⟨b1, b2⟩ := a2 u' rfl
            obtain ⟨o, e1, e2, e3⟩ := join_full (way := way) (s := s) (v := v) (ks := wk l u' ks) (up_wk w3) (fun p hp => by
              rcases mem_wk.mp hp with z | ⟨z, _⟩
              · rw [z]; exact b1
              · exact f' p z)
            have lk : ∀ k, look (.node s v (wk l u' ks)) k = if k = r then none else look (.node s v ks) k := fun k => by
              rw [look_node, look_node, er]
              rcases key_cases s k with z | z | ⟨n, k', z⟩
              · rw [z, if_neg (fun q => by rw [q, rest_app] at z; cases z)]
              · rw [z, rest_self, if_neg (fun q => by
                  have := congrArg List.length q
                  simp at this)]
              · rw [z, rest_app]
                show (match kat (wk l u' ks) n with | some t => look t k' | none => none) = if _ then _ else (match kat ks n with | some t => look t k' | none => none)
                rw [kat_wk w3]
                by_cases q : n = l
                · subst q
                  rw [if_pos rfl, ek]
                  show look u' k' = if _ then none else look u k'
                  rw [b2]
                  by_cases q2 : k' = r'
                  · rw [if_pos q2, if_pos (by rw [q2])]
                  · rw [if_neg q2, if_neg (fun z => q2 (app_cons_inj.mp z).2)]
                · rw [if_neg q, if_neg (fun z => q (app_cons_inj.mp z).1)]
            refine ⟨o, e1, fun t' et => ⟨(e2 t' et).1, fun k => by rw [(e2 t' et).2, lk]⟩, fun eo => ?_⟩
            obtain ⟨_, e0⟩ := e3 eo
            have m0 : (l, u') ∈ wk l u' ks := mem_wk.mpr (.inl rfl)
            rw [e0] at m0
            nomatch m0
          | none =>
            have b3 := a3 rfl
            obtain ⟨o, e1, e2, e3⟩ := join_full (way := way) (s := s) (v := v) (ks := without l ks) (up_filter w3 _) (fun p hp => f' p (mem_without.mp hp).1)
            have lk : ∀ k, look (.node s v (without l ks)) k = if k = r then none else look (.node s v ks) k := fun k => by
              rw [look_node, look_node, er]
              rcases key_cases s k with z | z | ⟨n, k', z⟩
              · rw [z, if_neg (fun q => by rw [q, rest_app] at z; cases z)]
              · rw [z, rest_self, if_neg (fun q => by
                  have := congrArg List.length q
                  simp at this)]
              · rw [z, rest_app]
                show (match kat (without l ks) n with | some t => look t k' | none => none) = if _ then _ else (match kat ks n with | some t => look t k' | none => none)
                rw [kat_without w3]
                by_cases q : n = l
                · subst q
                  rw [if_pos rfl, ek]
                  show none = if _ then none else look u k'
                  by_cases q2 : k' = r'
                  · rw [if_pos (by rw [q2])]
                  · rw [if_neg (fun z => q2 (app_cons_inj.mp z).2), b3 _ q2]
                · rw [if_neg q, if_neg (fun z => q (app_cons_inj.mp z).1)]
            refine ⟨o, e1, fun t' et => ⟨(e2 t' et).1, fun k => by rw [(e2 t' et).2, lk]⟩, fun eo k hk => ?_⟩
            obtain ⟨e9, e0⟩ := e3 eo
            have := lk k
            rw [if_neg hk] at this
            rw [← this, e0, look_node, e9]
            rcases key_cases s k with z | z | ⟨n, k', z⟩
            · rw [z]
            · rw [z, rest_self]
            · rw [z, rest_app]
              rfl
theorem wf_join {way s : W} {v : Option W} {ks : List (Nat × T)} {t' : T} (w : Ltr s ∧ (∀ x, v = some x → Vl x) ∧ Up ks ∧ ∀ p ∈ ks, Lt p.1 ∧ Wf p.2) (h : joinL way s v ks = .ok (some t')) : Wf t' ∧ ht t' ≤ s.length + htK ks := by
  obtain ⟨w1, w2, w3, w5⟩ := w
  unfold joinL at h
  split at h
  · rename_i c
    cases h
    refine ⟨Wf.node.mpr ⟨w1, w2, w3, fun e => ?_, w5⟩, Nat.le_refl _⟩
    rcases c with c | c
    · exact absurd e c
    · exact c
  · rename_i c
    match ks, h, w3, w5 with
    | [], h, _, _ => cases h
    | (l, .stub n) :: rr, h, _, _ => cases h
    | (l, .node s' v' ks') :: rr, h, w3, w5 =>
      cases h
      obtain ⟨a1, a2⟩ := w5 _ List.mem_cons_self
      obtain ⟨b1, b2, b3, b4, b5⟩ := Wf.node.mp a2
      refine ⟨Wf.node.mpr ⟨ltr_app.mpr ⟨w1, ltr_cons.mpr ⟨a1, b1⟩⟩, b2, b3, b4, b5⟩, ?_⟩
      show (s ++ l :: s').length + htK ks' ≤ s.length + max (1 + (s'.length + htK ks')) (htK rr)
      rw [List.length_append, List.length_cons]
      omega
theorem wf_drop (t : T) : ∀ (way r key : W) (t' : T), Wf t → dropIn t way r key = .ok (some t') → Wf t' ∧ ht t' ≤ ht t := by
  induction t using T.ind with
  | hs n => intro way r key t' _ h; cases h
  | hn s v ks ih =>
    intro way r key t' w h
    obtain ⟨w1, w2, w3, w4, w5⟩ := Wf.node.mp w
    unfold dropIn at h
    cases e : rest? s r with
    | none => rw [e] at h; cases h
    | some q =>
      rw [e] at h
      cases q with
      | nil =>
        simp only at h
        split at h
        · cases h
        · exact wf_join (v := none) ⟨w1, fun x e => (nomatch e), w3, w5⟩ h
      | cons l r' =>
        simp only [dropK_eq] at h
        cases ek : kat ks l with
        | none => rw [ek] at h; cases h
        | some u =>
          have mu := kat_mem ek
          rw [ek] at h
          simp only at h
          cases ed : dropIn u (way ++ s ++ [l]) r' key with
          | error e => rw [ed] at h; cases h
          | ok o =>
            rw [ed] at h
            cases o with
            | some u' =>
              obtain ⟨a1, a2⟩ := ih _ mu _ _ _ _ (w5 _ mu).2 ed
              simp only at a2
              have := ht_mem mu
              simp only at this
              obtain ⟨c1, c2⟩ := wf_join ⟨w1, w2, up_wk w3, fun p hp => by
                rcases mem_wk.mp hp with z | ⟨z, _⟩
                · rw [z]; exact ⟨(w5 _ mu).1, a1⟩
                · exact w5 p z⟩ h
              refine ⟨c1, Nat.le_trans c2 (Nat.add_le_add_left (htK_le.mpr fun p hp => ?_) _)⟩
              rcases mem_wk.mp hp with z | ⟨z, _⟩
              · rw [z]
                show 1 + ht u' ≤ _
                omega
              · exact ht_mem z
            | none =>
              obtain ⟨c1, c2⟩ := wf_join ⟨w1, w2, up_filter w3 _, fun p hp => w5 p (mem_without.mp hp).1⟩ h
              exact ⟨c1, Nat.le_trans c2 (Nat.add_le_add_left (htK_le.mpr fun p hp => ht_mem (mem_without.mp hp).1) _)⟩
end Seal
namespace Seal
/-! ### one content, one tree -/
theorem look_pre {t : T} {s : W} {v : Option W} {ks : List (Nat × T)} (e : t = .node s v ks) {k x : W} (h : look t k = some x) : s <+: k := by
  rw [e, look_node] at h
  cases q : rest? s k with
  | none => rw [q] at h; cases h
  | some y => rw [rest_some q]; exact List.prefix_append s y
theorem look_app (s : W) (v : Option W) (ks : List (Nat × T)) (l : Nat) (k : W) : look (.node s v ks) (s ++ l :: k) = match kat ks l with | some t => look t k | none => none := by
  rw [look_node, rest_app]
  all_goals rfl
theorem look_self (s : W) (v : Option W) (ks : List (Nat × T)) : look (.node s v ks) s = v := by
  rw [look_node, rest_self]
theorem lcp_app (s : W) {a b : Nat} {x y : W} (h : a ≠ b) : lcp (s ++ a :: x) (s ++ b :: y) = s := by
  induction s with
  | nil =>
    show (if a = b then _ else []) = []
    rw [if_neg h]
  | cons c s ih =>
    show (if c = c then c :: lcp (s ++ a :: x) (s ++ b :: y) else []) = c :: s
    rw [if_pos rfl, ih]
/-- what begins every key of a tree begins its stem -/
theorem stem_great {s : W} {v : Option W} {ks : List (Nat × T)} (w : Wf (.node s v ks)) (f : Full (.node s v ks)) {z : W} (h : ∀ k x, look (.node s v ks) k = some x → z <+: k) : z <+: s := by
  obtain ⟨w1, w2, w3, w4, w5⟩ := Wf.node.mp w
  cases v with
  | some x => exact h s x (look_self ..)
  | none =>
    have h2 := w4 rfl
    match ks, h2, w3, w5, f, h with
    | p :: q :: rr, _, u, w5, f, h =>
      have hpq : p.1 < q.1 := (List.pairwise_cons.mp u).1 q List.mem_cons_self
      obtain ⟨k1, x1, e1⟩ := has_key p.2 (w5 p (by simp)).2 (Full.node.mp f p (by simp))
      obtain ⟨k2, x2, e2⟩ := has_key q.2 (w5 q (by simp)).2 (Full.node.mp f q (by simp))
      have a1 := h (s ++ p.1 :: k1) x1 (by rw [look_app, kat_of_mem u (b := p.2) (by simp)]; exact e1)
      have a2 := h (s ++ q.1 :: k2) x2 (by rw [look_app, kat_of_mem u (b := q.2) (by simp)]; exact e2)
      have := lcp_great a1 a2
      rw [lcp_app s (Nat.ne_of_lt hpq)] at this
      exact this
theorem tree_ext (t : T) : ∀ t' : T, Wf t → Full t → Wf t' → Full t' → (∀ k, look t k = look t' k) → t = t' := by
  induction t using T.ind with
  | hs n => intro t' _ f; exact f.elim
  | hn s v ks ih =>
    intro t' w f w' f' h
    cases t' with
    | stub n => exact f'.elim
    | node s' v' ks' =>
      have es : s = s' := prefix_anti (stem_great w' f' fun k x e => look_pre rfl ((h k).trans e)) (stem_great w f fun k x e => look_pre rfl ((h k).symm.trans e))
      subst es
      have ev : v = v' := by
        have := h s
        rwa [look_self, look_self] at this
      subst ev
      obtain ⟨w1, w2, w3, w4, w5⟩ := Wf.node.mp w
      obtain ⟨w1', w2', w3', w4', w5'⟩ := Wf.node.mp w'
      have g := Full.node.mp f
      have g' := Full.node.mp f'
      have hk : ∀ l k, (match kat ks l with | some t => look t k | none => none) = (match kat ks' l with | some t => look t k | none => none) := fun l k => by
        have := h (s ++ l :: k)
        rwa [look_app, look_app] at this
      have half : ∀ p, p ∈ ks → p ∈ ks' := fun p hp => by
        have e1 := kat_of_mem w3 (l := p.1) (b := p.2) hp
        obtain ⟨k, x, ex⟩ := has_key p.2 (w5 p hp).2 (g p hp)
        have e2 := hk p.1 k
        rw [e1] at e2
        cases e3 : kat ks' p.1 with
        | none =>
          rw [e3] at e2
          simp only at e2
          rw [ex] at e2
          cases e2
        | some u =>
          have mu := kat_mem e3
          have : p.2 = u := ih p hp u (w5 p hp).2 (g p hp) (w5' _ mu).2 (g' _ mu) fun k => by
            have := hk p.1 k
            rw [e1, e3] at this
            exact this
          have e : p = (p.1, u) := by rw [← this]
          rw [e]
          exact mu
      have half' : ∀ p, p ∈ ks' → p ∈ ks := fun p hp => by
        have e1 := kat_of_mem w3' (l := p.1) (b := p.2) hp
        obtain ⟨k, x, ex⟩ := has_key p.2 (w5' p hp).2 (g' p hp)
        have e2 := hk p.1 k
        rw [e1] at e2
        cases e3 : kat ks p.1 with
        | none =>
          rw [e3] at e2
          simp only at e2
          rw [ex] at e2
          cases e2
        | some u =>
          have mu := kat_mem e3
          have := ih _ mu p.2 (w5 _ mu).2 (g _ mu) (w5' p hp).2 (g' p hp) fun k => by
            have := hk p.1 k
            rw [e1, e3] at this
            exact this
          simp only at this
          have e : p = (p.1, u) := by rw [this]
          rw [e]
          exact mu
      rw [up_ext w3 w3' fun p => ⟨half p, half' p⟩]
/-- a tree of a content -/
def IsTree (o : Option T) (C : W → Option W) : Prop := match o with
  | none => ∀ k, C k = none
  | some t => Wf t ∧ Full t ∧ ht t ≤ 8 ∧ ∀ k, look t k = C k
theorem IsTree.one {o o' : Option T} {C : W → Option W} (h : IsTree o C) (h' : IsTree o' C) : o = o' := by
  cases o with
  | none => cases o' with
    | none => rfl
    | some t =>
      obtain ⟨a, b, _, c⟩ := h'
      obtain ⟨k, x, e⟩ := has_key t a b
      rw [c, h k] at e
      cases e
  | some t => cases o' with
    | none =>
      obtain ⟨a, b, _, c⟩ := h
      obtain ⟨k, x, e⟩ := has_key t a b
      rw [c, h' k] at e
      cases e
    | some t' =>
      obtain ⟨a, b, _, c⟩ := h
      obtain ⟨a', b', _, c'⟩ := h'
      rw [tree_ext t t' a b a' b' fun k => (c k).trans (c' k).symm]
theorem htK_at : ∀ {ks : List (Nat × T)}, ks ≠ [] → ∃ p ∈ ks, htK ks = 1 + ht p.2
  | [], h => absurd rfl h
  | [(l, t)], _ => ⟨(l, t), List.mem_cons_self, Nat.max_eq_left (Nat.zero_le _)⟩
  | (l, t) :: q :: r, _ => by
    obtain ⟨p, hp, e⟩ := htK_at (ks := q :: r) (by simp)
    have : htK ((l, t) :: q :: r) = max (1 + ht t) (htK (q :: r)) := rfl
    rw [this, e]
    by_cases c : 1 + ht t ≤ 1 + ht p.2
    · exact ⟨p, List.mem_cons_of_mem _ hp, by omega⟩
    · exact ⟨(l, t), List.mem_cons_self, Nat.max_eq_left (by omega)⟩
/-- a tree has a key as long as it is high -/
theorem long_key (t : T) : Wf t → Full t → ∃ k x, look t k = some x ∧ ht t ≤ k.length := by
  induction t using T.ind with
  | hs n => intro _ f; exact f.elim
  | hn s v ks ih =>
    intro w f
    obtain ⟨w1, w2, w3, w4, w5⟩ := Wf.node.mp w
    by_cases hk : ks = []
    · subst hk
      cases v with
      | none =>
        have := w4 rfl
        simp at this
      | some x => exact ⟨s, x, look_self .., Nat.le_refl _⟩
    · obtain ⟨p, hp, e⟩ := htK_at hk
      obtain ⟨k, x, e1, e2⟩ := ih p hp (w5 p hp).2 (Full.node.mp f p hp)
      refine ⟨s ++ p.1 :: k, x, by rw [look_app, kat_of_mem w3 (b := p.2) hp]; exact e1, ?_⟩
      show s.length + htK ks ≤ _
      rw [e, List.length_append, List.length_cons]
      omega
/-- a node of the trees of what stands behind the beginning -/
theorem node_of {C : W → Option W} {s : W} {ks : List (Nat × T)} (hs : Ltr s) (hv : ∀ k x, C k = some x → Vl x ∧ k.length ≤ 8) (hpre : ∀ k x, C k = some x → s <+: k) (hgr : ∀ z, (∀ k x, C k = some x → z <+: k) → z <+: s)
    (hne : ∃ k x, C k = some x) (u : Up ks) (hk : ∀ p ∈ ks, Lt p.1 ∧ Wf p.2 ∧ Full p.2 ∧ (∃ k x, C (s ++ p.1 :: k) = some x) ∧ ∀ k, look p.2 k = C (s ++ p.1 :: k)) (hall : ∀ l k x, C (s ++ l :: k) = some x → ∃ p ∈ ks, p.1 = l) :
    IsTree (some (.node s (C s) ks)) C := by
  have lk : ∀ k, look (.node s (C s) ks) k = C k := fun k => by
    rcases key_cases s k with z | z | ⟨l, k', z⟩
    · rw [look_node, z]
      cases e : C k with
      | none => rfl
      | some x => exact absurd (hpre k x e) (rest_none z)
    · rw [z, look_self]
    · rw [z, look_app]
      cases e : kat ks l with
      | some t =>
        have := (hk _ (kat_mem e)).2.2.2.2 k'
        exact this
      | none =>
        show none = C (s ++ l :: k')
        cases q : C (s ++ l :: k') with
        | none => rfl
        | some x =>
          obtain ⟨p, hp, ep⟩ := hall l k' x q
          exact absurd ep (kat_none_iff e p hp)
  have two : C s = none → 2 ≤ ks.length := fun e => by
    obtain ⟨k, x, ex⟩ := hne
    obtain ⟨y, hy⟩ := hpre k x ex
    cases y with
    | nil =>
      rw [List.append_nil] at hy
      rw [← hy, e] at ex
      cases ex
    | cons l k' =>
      rw [← hy] at ex
      obtain ⟨p, hp, ep⟩ := hall l k' x ex
      match ks, hp with
      | [p'], hp =>
        have epp := List.mem_singleton.mp hp
        subst epp
        have : s ++ [l] <+: s := hgr _ fun k2 x2 e2 => by
          obtain ⟨y2, hy2⟩ := hpre k2 x2 e2
          cases y2 with
          | nil =>
            rw [List.append_nil] at hy2
            rw [← hy2, e] at e2
            cases e2
          | cons l2 k2' =>
            rw [← hy2] at e2 ⊢
            obtain ⟨p2, hp2, ep2⟩ := hall l2 k2' x2 e2
            have := List.mem_singleton.mp hp2
            rw [this, ep] at ep2
            rw [ep2]
            exact ⟨k2', by simp⟩
        have := this.length_le
        simp at this
        omega
      | p1 :: p2 :: r, _ => simp
  have wf : Wf (.node s (C s) ks) := Wf.node.mpr ⟨hs, fun x e => (hv s x e).1, u, two, fun p hp => ⟨(hk p hp).1, (hk p hp).2.1⟩⟩
  have fu : Full (.node s (C s) ks) := Full.node.mpr fun p hp => (hk p hp).2.2.1
  obtain ⟨k, x, e1, e2⟩ := long_key _ wf fu
  exact ⟨wf, fu, Nat.le_trans e2 (hv k x ((lk k).symm.trans e1)).2, lk⟩
end Seal
namespace Seal
/-! ### slices -/
inductive All2 (R : T → T → Prop) : List (Nat × T) → List (Nat × T) → Prop where
  | nil : All2 R [] []
  | cons {l : Nat} {a b : T} {r r' : List (Nat × T)} (h : R a b) (t : All2 R r r') : All2 R ((l, a) :: r) ((l, b) :: r')
section
variable {R : T → T → Prop}
theorem All2.length {ks ks' : List (Nat × T)} (h : All2 R ks ks') : ks.length = ks'.length := by
  induction h with
  | nil => rfl
  | cons _ _ ih => simp [ih]
theorem All2.kat {ks ks' : List (Nat × T)} (h : All2 R ks ks') (l : Nat) : (kat ks l = none ∧ kat ks' l = none) ∨ ∃ a b, kat ks l = some a ∧ kat ks' l = some b ∧ R a b := by
  induction h with
  | nil => exact .inl ⟨rfl, rfl⟩
  | @cons m a b r r' h t ih =>
    unfold Seal.kat
    by_cases e : m = l
    · rw [if_pos e, if_pos e]; exact .inr ⟨a, b, rfl, rfl, h⟩
    · rw [if_neg e, if_neg e]; exact ih
theorem All2.append {a b c d : List (Nat × T)} (h : All2 R a b) (h' : All2 R c d) : All2 R (a ++ c) (b ++ d) := by
  induction h with
  | nil => exact h'
  | cons h _ ih => exact .cons h ih
theorem All2.filter {a b : List (Nat × T)} (h : All2 R a b) (q : Nat → Bool) : All2 R (a.filter fun p => q p.1) (b.filter fun p => q p.1) := by
  induction h with
  | nil => exact .nil
  | @cons l x y _ _ h _ ih =>
    by_cases e : q l = true
    · rw [List.filter_cons_of_pos (by exact e), List.filter_cons_of_pos (by exact e)]
      exact .cons h ih
    · rw [List.filter_cons_of_neg (by exact e), List.filter_cons_of_neg (by exact e)]
      exact ih
theorem All2.wk {a b : List (Nat × T)} (h : All2 R a b) {l : Nat} {x y : T} (hx : R x y) : All2 R (wk l x a) (wk l y b) :=
  (h.filter fun c => decide (c < l)).append (.cons hx (h.filter fun c => decide (l < c)))
theorem All2.without {a b : List (Nat × T)} (h : All2 R a b) (l : Nat) : All2 R (without l a) (without l b) := h.filter fun c => decide (c ≠ l)
theorem All2.up {a b : List (Nat × T)} (h : All2 R a b) (u : Up b) : Up a := by
  unfold Up at u ⊢
  have key : ∀ {a b : List (Nat × T)}, All2 R a b → a.map (·.1) = b.map (·.1) := fun h => by
    induction h with
    | nil => rfl
    | cons _ _ ih => simp [ih]
  have e := key h
  have h1 : (b.map (·.1)).Pairwise (· < ·) := List.pairwise_map.mpr u
  rw [← e] at h1
  exact List.pairwise_map.mp h1
theorem All2.mem {a b : List (Nat × T)} (h : All2 R a b) {p : Nat × T} (hp : p ∈ a) : ∃ y, (p.1, y) ∈ b ∧ R p.2 y := by
  induction h with
  | nil => nomatch hp
  | cons h _ ih =>
    rcases List.mem_cons.mp hp with e | e
    · rw [e]; exact ⟨_, List.mem_cons_self, h⟩
    · obtain ⟨y, h1, h2⟩ := ih e
      exact ⟨y, List.mem_cons_of_mem _ h1, h2⟩
theorem All2.mem' {a b : List (Nat × T)} (h : All2 R a b) {p : Nat × T} (hp : p ∈ b) : ∃ y, (p.1, y) ∈ a ∧ R y p.2 := by
  induction h with
  | nil => nomatch hp
  | cons h _ ih =>
    rcases List.mem_cons.mp hp with e | e
    · rw [e]; exact ⟨_, List.mem_cons_self, h⟩
    · obtain ⟨y, h1, h2⟩ := ih e
      exact ⟨y, List.mem_cons_of_mem _ h1, h2⟩
theorem All2.imp {R' : T → T → Prop} {a b : List (Nat × T)} (h : All2 R a b) (f : ∀ p ∈ a, ∀ y, R p.2 y → R' p.2 y) : All2 R' a b := by
  induction h with
  | nil => exact .nil
  | cons h t ih => exact .cons (f _ List.mem_cons_self _ h) (ih fun p hp => f p (List.mem_cons_of_mem _ hp))
end
mutual
/-- s is t, some parts unseen; N tells the numbers -/
def Sl (N : T → Int → Prop) : T → T → Prop
  | .stub n, t => N t n
  | .node s v ks, t => ∃ ks', t = .node s v ks' ∧ SlK N ks ks'
def SlK (N : T → Int → Prop) : List (Nat × T) → List (Nat × T) → Prop
  | [], ks' => ks' = []
  | (l, a) :: r, ks' => ∃ b r', ks' = (l, b) :: r' ∧ Sl N a b ∧ SlK N r r'
end
theorem slK_iff {N : T → Int → Prop} : ∀ {ks ks' : List (Nat × T)}, SlK N ks ks' ↔ All2 (Sl N) ks ks'
  | [], ks' => by
    unfold SlK
    constructor
    · rintro rfl; exact .nil
    · intro h; cases h; rfl
  | (l, a) :: r, ks' => by
    unfold SlK
    constructor
    · rintro ⟨b, r', rfl, h1, h2⟩
      exact .cons h1 (slK_iff.mp h2)
    · intro h
      cases h with
      | cons h t => exact ⟨_, _, rfl, h, slK_iff.mpr t⟩
theorem Sl.node {N : T → Int → Prop} {s : W} {v : Option W} {ks : List (Nat × T)} {t : T} : Sl N (.node s v ks) t ↔ ∃ ks', t = .node s v ks' ∧ All2 (Sl N) ks ks' := by
  show (∃ ks', t = .node s v ks' ∧ SlK N ks ks') ↔ _
  simp only [slK_iff]
def SlO (N : T → Int → Prop) : Option T → Option T → Prop
  | none, none => True
  | some s, some t => Sl N s t
  | _, _ => False
theorem Sl.mono {N N' : T → Int → Prop} (h : ∀ t n, N t n → N' t n) (s : T) : ∀ t, Sl N s t → Sl N' s t := by
  induction s using T.ind with
  | hs n => intro t x; exact h t n x
  | hn s v ks ih =>
    intro t x
    obtain ⟨ks', rfl, a⟩ := Sl.node.mp x
    exact Sl.node.mpr ⟨ks', rfl, a.imp fun p hp y => ih p hp y⟩
mutual
/-- the ways of the stubs -/
def sw : T → W → List W
  | .stub _, way => [way]
  | .node s _ ks, way => swK ks (way ++ s)
def swK : List (Nat × T) → W → List W
  | [], _ => []
  | (l, t) :: r, b => sw t (b ++ [l]) ++ swK r b
end
theorem mem_swK : ∀ {ks : List (Nat × T)} {b w : W}, w ∈ swK ks b ↔ ∃ p ∈ ks, w ∈ sw p.2 (b ++ [p.1])
  | [], b, w => by simp [swK]
  | (l, t) :: r, b, w => by
    unfold swK
    rw [List.mem_append, mem_swK]
    simp
mutual
/-- the ways of the nodes, each ahead of those below -/
def nw : T → W → List W
  | .stub _, _ => []
  | .node s _ ks, way => way :: nwK ks (way ++ s)
def nwK : List (Nat × T) → W → List W
  | [], _ => []
  | (l, t) :: r, b => nw t (b ++ [l]) ++ nwK r b
end
theorem mem_nwK : ∀ {ks : List (Nat × T)} {b w : W}, w ∈ nwK ks b ↔ ∃ p ∈ ks, w ∈ nw p.2 (b ++ [p.1])
  | [], b, w => by simp [nwK]
  | (l, t) :: r, b, w => by
    unfold nwK
    rw [List.mem_append, mem_nwK]
    simp
theorem sw_pre (t : T) : ∀ {way w : W}, w ∈ sw t way → way <+: w := by
  induction t using T.ind with
  | hs n => intro way w h; rw [List.mem_singleton.mp h]; exact List.prefix_refl _
  | hn s v ks ih =>
    intro way w h
    obtain ⟨p, hp, h⟩ := mem_swK.mp (show w ∈ swK ks (way ++ s) from h)
    have := ih p hp h
    exact ((List.prefix_append way s).trans (List.prefix_append (way ++ s) [p.1])).trans this
theorem nw_pre (t : T) : ∀ {way w : W}, w ∈ nw t way → way <+: w := by
  induction t using T.ind with
  | hs n => intro way w h; nomatch h
  | hn s v ks ih =>
    intro way w h
    rcases List.mem_cons.mp (show w ∈ way :: nwK ks (way ++ s) from h) with e | h
    · rw [e]; exact List.prefix_refl _
    · obtain ⟨p, hp, h⟩ := mem_nwK.mp h
      have := ih p hp h
      exact ((List.prefix_append way s).trans (List.prefix_append (way ++ s) [p.1])).trans this
/-- two kids' ways part -/
theorem kid_apart {b w z : W} {l m : Nat} (h1 : b ++ [l] <+: w) (h2 : b ++ [m] <+: z) (h : z <+: w) : m = l := by
  have h3 := h2.trans h
  have := List.prefix_of_prefix_length_le h3 h1 (by simp)
  have e := this.eq_of_length (by simp)
  have := List.append_cancel_left e
  simpa using this
mutual
/-- the ways of the parts that are come to on the way of a key -/
def visP : T → W → W → List W
  | .stub _, way, _ => [way]
  | .node s _ ks, way, r => way :: match rest? s r with
    | some (l :: r') => visK ks l (way ++ s ++ [l]) r'
    | _ => []
def visK : List (Nat × T) → Nat → W → W → List W
  | [], _, _, _ => []
  | (l', t) :: ks, l, way, r => if l' = l then visP t way r else visK ks l way r
end
theorem visK_eq : ∀ (ks : List (Nat × T)) (l : Nat) (way r : W), visK ks l way r = match kat ks l with | some t => visP t way r | none => []
  | [], _, _, _ => rfl
  | (l', t) :: ks, l, way, r => by
    unfold visK kat
    split
    · rfl
    · exact visK_eq ks l way r
theorem visP_node (s : W) (v : Option W) (ks : List (Nat × T)) (way r : W) : visP (.node s v ks) way r = way :: match rest? s r with
    | some (l :: r') => (match kat ks l with | some t => visP t (way ++ s ++ [l]) r' | none => [])
    | _ => [] := by
  show way :: (match rest? s r with | some (l :: r') => visK ks l (way ++ s ++ [l]) r' | _ => []) = _
  cases rest? s r with
  | none => rfl
  | some q => cases q with
    | nil => rfl
    | cons l r' => simp only [visK_eq]
theorem visP_pre (t : T) : ∀ {way r w : W}, w ∈ visP t way r → way <+: w := by
  induction t using T.ind with
  | hs n => intro way r w h; rw [List.mem_singleton.mp h]; exact List.prefix_refl _
  | hn s v ks ih =>
    intro way r w h
    rw [visP_node] at h
    rcases List.mem_cons.mp h with e | h
    · rw [e]; exact List.prefix_refl _
    · cases e : rest? s r with
      | none => rw [e] at h; nomatch h
      | some q => cases q with
        | nil => rw [e] at h; nomatch h
        | cons l r' =>
          rw [e] at h
          cases ek : kat ks l with
          | none => simp only [ek] at h; nomatch h
          | some u =>
            simp only [ek] at h
            have := ih _ (kat_mem ek) h
            rw [List.append_assoc] at this
            exact (List.prefix_append way _).trans this
theorem self_visP (t : T) (way r : W) : way ∈ visP t way r := by
  cases t with
  | stub n => exact List.mem_cons_self
  | node s v ks => rw [visP_node]; exact List.mem_cons_self
theorem up_mem_one {β : Type} {ks : List (Nat × β)} (u : Up ks) {l : Nat} {a b : β} (h1 : (l, a) ∈ ks) (h2 : (l, b) ∈ ks) : a = b := by
  have e1 := kat_of_mem u h1
  have e2 := kat_of_mem u h2
  rw [e1] at e2
  exact Option.some.inj e2
theorem not_below {way z : W} {s : W} {l : Nat} (h : way ++ s ++ [l] <+: z) (h' : z <+: way) : False := by
  have := (h.trans h').length_le
  simp at this
  omega
/-- a put on a slice -/
theorem sl_put {N : T → Int → Prop} (x : W) (s : T) : ∀ (t : T) (way r : W), Sl N s t → Wf t → Full t →
    (∃ s' t', putIn s way r x = .ok s' ∧ putIn t way r x = .ok t' ∧ Sl N s' t' ∧ (∀ w, w ∈ sw s' way ↔ w ∈ sw s way) ∧ ∀ w ∈ visP t way r, ∀ z ∈ sw s way, ¬ z <+: w) ∨
    ∃ w, putIn s way r x = .error (.unseen w) ∧ w ∈ visP t way r ∧ w ∈ sw s way := by
  induction s using T.ind with
  | hs n => intro t way r _ _ _; exact .inr ⟨way, rfl, self_visP t way r, List.mem_cons_self⟩
  | hn s v ks ih =>
    intro t way r h wt ft
    obtain ⟨ks', rfl, a⟩ := Sl.node.mp h
    obtain ⟨_, _, w3, _, w5⟩ := Wf.node.mp wt
    have u := a.up w3
    have ft' := Full.node.mp ft
    have below : ∀ z ∈ sw (.node s v ks) way, ¬ z <+: way := fun z hz hp => by
      obtain ⟨p, hp1, hp2⟩ := mem_swK.mp (show z ∈ swK ks (way ++ s) from hz)
      exact not_below (sw_pre _ hp2) hp
    rw [visP_node]
    cases e : rest? s r with
    | none =>
      refine .inl ⟨parted s v ks r x, parted s v ks' r x, by unfold putIn; rw [e], by unfold putIn; rw [e], ?_, ?_, ?_⟩
      · obtain ⟨b, l, s', es, hh | ⟨m, r', er, ne, hh⟩⟩ := parted_form (rest_none e) x
        · rw [hh.2, hh.2]
          exact Sl.node.mpr ⟨_, rfl, .cons (Sl.node.mpr ⟨_, rfl, a⟩) .nil⟩
        · rw [hh, hh]
          exact Sl.node.mpr ⟨_, rfl, All2.wk (.cons (Sl.node.mpr ⟨_, rfl, a⟩) .nil) (Sl.node.mpr ⟨_, rfl, .nil⟩)⟩
      · intro w
        obtain ⟨b, l, s', es, hh | ⟨m, r', er, ne, hh⟩⟩ := parted_form (rest_none e) x
        · rw [hh.2]
          show w ∈ swK [(l, .node s' v ks)] (way ++ b) ↔ w ∈ swK ks (way ++ s)
          rw [mem_swK]
          have : way ++ b ++ [l] ++ s' = way ++ s := by rw [es]; simp
          constructor
          · rintro ⟨p, hp, h⟩
            rw [List.mem_singleton.mp hp] at h
            have h : w ∈ swK ks (way ++ b ++ [l] ++ s') := h
            rwa [this] at h
          · intro h
            refine ⟨_, List.mem_cons_self, ?_⟩
            show w ∈ swK ks (way ++ b ++ [l] ++ s')
            rwa [this]
        · rw [hh]
          show w ∈ swK (wk m (T.node r' (some x) []) [(l, .node s' v ks)]) (way ++ b) ↔ w ∈ swK ks (way ++ s)
          rw [mem_swK]
          have : way ++ b ++ [l] ++ s' = way ++ s := by rw [es]; simp
          constructor
          · rintro ⟨p, hp, h⟩
            rcases mem_wk.mp hp with z | ⟨z, _⟩
            · rw [z] at h
              have h : w ∈ ([] : List W) := h
              nomatch h
            · rw [List.mem_singleton.mp z] at h
              have h : w ∈ swK ks (way ++ b ++ [l] ++ s') := h
              rwa [this] at h
          · intro h
            refine ⟨(l, .node s' v ks), mem_wk.mpr (.inr ⟨List.mem_cons_self, fun z => ne z.symm⟩), ?_⟩
            show w ∈ swK ks (way ++ b ++ [l] ++ s')
            rwa [this]
      · intro w hw z hz
        rw [List.mem_singleton.mp hw]
        exact below z hz
    | some q =>
      cases q with
      | nil =>
        refine .inl ⟨.node s (some x) ks, .node s (some x) ks', by unfold putIn; rw [e], by unfold putIn; rw [e], Sl.node.mpr ⟨_, rfl, a⟩, fun w => Iff.rfl, fun w hw z hz => ?_⟩
        rw [List.mem_singleton.mp hw]
        exact below z hz
      | cons l r' =>
        have ps : ∀ (ks : List (Nat × T)), putIn (.node s v ks) way r x = match (match kat ks l with | some t => putIn t (way ++ s ++ [l]) r' x | none => .ok (.node r' (some x) [])) with
            | .ok t => .ok (.node s v (wk l t ks))
            | .error e => .error e := fun ks => by
          conv => lhs; unfold putIn
          rw [e]
          simp only [putK_eq]
          all_goals rfl
        simp only [ps]
        rcases a.kat l with ⟨k1, k2⟩ | ⟨p, q, k1, k2, hpq⟩
        · rw [k1, k2]
          refine .inl ⟨_, _, rfl, rfl, Sl.node.mpr ⟨_, rfl, a.wk (Sl.node.mpr ⟨_, rfl, .nil⟩)⟩, fun w => ?_, fun w hw z hz => ?_⟩
          · show w ∈ swK (wk l (T.node r' (some x) []) ks) (way ++ s) ↔ w ∈ swK ks (way ++ s)
            rw [mem_swK, mem_swK]
            constructor
            · rintro ⟨p, hp, h⟩
              rcases mem_wk.mp hp with z | ⟨z, _⟩
              · rw [z] at h
                have h : w ∈ ([] : List W) := h
                nomatch h
              · exact ⟨p, z, h⟩
            · rintro ⟨p, hp, h⟩
              exact ⟨p, mem_wk.mpr (.inr ⟨hp, kat_none_iff k1 p hp⟩), h⟩
          · rw [List.mem_singleton.mp hw]
            exact below z hz
        · rw [k1, k2]
          have mp := kat_mem k1
          have mq := kat_mem k2
          rcases ih _ mp q (way ++ s ++ [l]) r' hpq (w5 _ mq).2 (ft' _ mq) with ⟨s', t', e1, e2, e3, e4, e5⟩ | ⟨w, e1, e2, e3⟩
          · simp only at e1 e4 e5
            simp only [e1, e2]
            refine .inl ⟨_, _, rfl, rfl, Sl.node.mpr ⟨_, rfl, a.wk e3⟩, fun w => ?_, fun w hw z hz => ?_⟩
            · show w ∈ swK (wk l s' ks) (way ++ s) ↔ w ∈ swK ks (way ++ s)
              rw [mem_swK, mem_swK]
              constructor
              · rintro ⟨y, hy, h⟩
                rcases mem_wk.mp hy with z | ⟨z, _⟩
                · rw [z] at h
                  exact ⟨_, mp, (e4 w).mp h⟩
                · exact ⟨y, z, h⟩
              · rintro ⟨y, hy, h⟩
                by_cases c : y.1 = l
                · refine ⟨(l, s'), mem_wk.mpr (.inl rfl), (e4 w).mpr ?_⟩
                  have : y.2 = p := up_mem_one u (l := l) (by rw [← c]; exact hy) mp
                  rw [c, this] at h
                  exact h
                · exact ⟨y, mem_wk.mpr (.inr ⟨hy, c⟩), h⟩
            · rcases List.mem_cons.mp hw with z' | hw
              · rw [z']; exact below z hz
              · intro hp
                obtain ⟨y, hy, h⟩ := mem_swK.mp (show z ∈ swK ks (way ++ s) from hz)
                have c : y.1 = l := kid_apart (visP_pre _ hw) (sw_pre _ h) hp
                have : y.2 = p := up_mem_one u (l := l) (by rw [← c]; exact hy) mp
                rw [c, this] at h
                exact e5 w hw z h hp
          · simp only at e1 e3
            simp only [e1]
            exact .inr ⟨w, rfl, List.mem_cons_of_mem _ e2, mem_swK.mpr ⟨_, mp, e3⟩⟩
end Seal
namespace Seal
def swO (o : Option T) (way : W) : List W := match o with | some t => sw t way | none => []
/-- a node without kids, its key just r -/
def leafAt : T → W → Bool
  | .node s _ [], r => decide (s = r)
  | _, _ => false
/-- the way of a kid that is alone -/
def only (b : W) : List (Nat × T) → Option W
  | [(l, _)] => some (b ++ [l])
  | _ => none
mutual
/-- the way of the kid that is left alone by a drop -/
def lone : T → W → W → Option W
  | .stub _, _, _ => none
  | .node s v ks, way, r => match rest? s r with
    | none => none
    | some [] => only (way ++ s) ks
    | some (l :: r') => match loneK ks l (way ++ s ++ [l]) r' with
      | some o => o
      | none => if v = none then only (way ++ s) (without l ks) else none
def loneK : List (Nat × T) → Nat → W → W → Option (Option W)
  | [], _, _, _ => some none
  | (l', t) :: ks, l, way, r => if l' = l then (if leafAt t r = true then none else some (lone t way r)) else loneK ks l way r
end
theorem loneK_eq : ∀ (ks : List (Nat × T)) (l : Nat) (way r : W), loneK ks l way r = match kat ks l with | some t => (if leafAt t r = true then none else some (lone t way r)) | none => some none
  | [], _, _, _ => rfl
  | (l', t) :: ks, l, way, r => by
    unfold loneK kat
    split
    · rfl
    · exact loneK_eq ks l way r
theorem lone_node (s : W) (v : Option W) (ks : List (Nat × T)) (way r : W) : lone (.node s v ks) way r = match rest? s r with
    | none => none
    | some [] => only (way ++ s) ks
    | some (l :: r') => match (match kat ks l with | some t => (if leafAt t r' = true then none else some (lone t (way ++ s ++ [l]) r')) | none => some none) with
      | some o => o
      | none => if v = none then only (way ++ s) (without l ks) else none := by
  conv => lhs; unfold lone
  cases rest? s r with
  | none => rfl
  | some q => cases q with
    | nil => rfl
    | cons l r' => simp only [loneK_eq]
theorem join_none {way s : W} {v : Option W} {ks : List (Nat × T)} {o : Option T} (h : joinL way s v ks = .ok o) : o = none ↔ v = none ∧ ks = [] := by
  unfold joinL at h
  split at h
  · rename_i c
    cases h
    constructor
    · intro e; cases e
    · rintro ⟨rfl, rfl⟩
      rcases c with c | c
      · exact absurd rfl c
      · simp at c
  · rename_i c
    have hv : v = none := by
      cases v with
      | none => rfl
      | some x => exact absurd (.inl (fun z => nomatch z)) c
    match ks, h with
    | [], h => cases h; exact ⟨fun _ => ⟨hv, rfl⟩, fun _ => rfl⟩
    | (l, .stub n) :: rr, h => cases h
    | (l, .node s' v' ks') :: rr, h =>
      cases h
      exact ⟨fun e => (nomatch e), fun e => (nomatch e.2)⟩
theorem without_ne {ks : List (Nat × T)} (u : Up ks) (h : 2 ≤ ks.length) (l : Nat) : without l ks ≠ [] := by
  match ks, h, u with
  | p :: q :: r, _, u =>
    have hpq : p.1 < q.1 := (List.pairwise_cons.mp u).1 q List.mem_cons_self
    intro e
    by_cases c : p.1 = l
    · have : q ∈ without l (p :: q :: r) := mem_without.mpr ⟨by simp, by omega⟩
      rw [e] at this
      nomatch this
    · have : p ∈ without l (p :: q :: r) := mem_without.mpr ⟨by simp, c⟩
      rw [e] at this
      nomatch this
theorem leaf_iff {s : W} {v : Option W} {ks : List (Nat × T)} {r : W} : leafAt (.node s v ks) r = true ↔ ks = [] ∧ s = r := by
  cases ks with
  | nil => simp [leafAt]
  | cons p q => simp [leafAt]
theorem drop_none {t : T} {way r key : W} {o : Option T} (w : Wf t) (h : dropIn t way r key = .ok o) : o = none ↔ leafAt t r = true := by
  cases t with
  | stub n => cases h
  | node s v ks =>
    obtain ⟨w1, w2, w3, w4, w5⟩ := Wf.node.mp w
    rw [leaf_iff]
    unfold dropIn at h
    cases e : rest? s r with
    | none => rw [e] at h; cases h
    | some q =>
      have er := rest_some e
      rw [e] at h
      cases q with
      | nil =>
        rw [List.append_nil] at er
        simp only at h
        split at h
        · cases h
        · rw [join_none h]
          exact ⟨fun ⟨_, a⟩ => ⟨a, er.symm⟩, fun ⟨a, _⟩ => ⟨rfl, a⟩⟩
      | cons l r' =>
        simp only at h
        have no : ¬ (ks = [] ∧ s = r) := fun ⟨_, z⟩ => by
          rw [← z] at er
          have := congrArg List.length er
          simp at this
        refine ⟨fun z => ?_, fun z => absurd z no⟩
        subst z
        cases ed : dropK ks l (way ++ s ++ [l]) r' key with
        | error e => rw [ed] at h; cases h
        | ok o =>
          rw [ed] at h
          cases o with
          | some u =>
            have := (join_none h).mp rfl
            have m0 : (l, u) ∈ wk l u ks := mem_wk.mpr (.inl rfl)
            rw [this.2] at m0
            nomatch m0
          | none =>
            obtain ⟨a, b⟩ := (join_none h).mp rfl
            exact absurd b (without_ne w3 (w4 a) l)
theorem full_not_stub {n : Int} : ¬ Full (.stub n) := fun h => h
theorem sl_join {N : T → Int → Prop} {way s : W} {v : Option W} {ks ks' : List (Nat × T)} (a : All2 (Sl N) ks ks') :
    (∃ o o', joinL way s v ks = .ok o ∧ joinL way s v ks' = .ok o' ∧ SlO N o o' ∧ (∀ w, w ∈ swO o way ↔ w ∈ swK ks (way ++ s)) ∧ (v = none → ∀ w, only (way ++ s) ks' = some w → ∀ z ∈ swK ks (way ++ s), ¬ z <+: w)) ∨
    (v = none ∧ ∃ w, joinL way s v ks = .error (.unseen w) ∧ only (way ++ s) ks' = some w ∧ w ∈ swK ks (way ++ s)) := by
  have hl := a.length
  unfold joinL
  by_cases c : v ≠ none ∨ 1 < ks.length
  · rw [if_pos c, if_pos (by rw [← hl]; exact c)]
    refine .inl ⟨_, _, rfl, rfl, Sl.node.mpr ⟨_, rfl, a⟩, fun w => Iff.rfl, fun hv w hw => ?_⟩
    rcases c with c | c
    · exact absurd hv c
    · match ks', hw with
      | [(l, b)], _ => simp at hl; omega
  · rw [if_neg c, if_neg (by rw [← hl]; exact c)]
    have hv : v = none := by
      cases v with
      | none => rfl
      | some x => exact absurd (.inl (fun z => nomatch z)) c
    cases a with
    | nil => exact .inl ⟨none, none, rfl, rfl, True.intro, fun w => Iff.rfl, fun _ w hw => nomatch hw⟩
    | @cons l x y r r' hxy t =>
      have hr : r = [] := by
        cases r with
        | nil => rfl
        | cons p q => exact absurd (.inr (by simp)) c
      subst hr
      cases t
      cases x with
      | stub n => exact .inr ⟨hv, _, rfl, rfl, mem_swK.mpr ⟨_, List.mem_cons_self, List.mem_cons_self⟩⟩
      | node s1 v1 k1 =>
        obtain ⟨k2, rfl, b⟩ := Sl.node.mp hxy
        refine .inl ⟨_, _, rfl, rfl, Sl.node.mpr ⟨_, rfl, b⟩, fun w => ?_, fun _ w hw z hz => ?_⟩
        · show w ∈ swK k1 (way ++ (s ++ l :: s1)) ↔ w ∈ swK k1 (way ++ s ++ [l] ++ s1) ++ []
          rw [List.append_nil, show way ++ s ++ [l] ++ s1 = way ++ (s ++ l :: s1) by simp]
        · cases hw
          obtain ⟨p, hp, h⟩ := mem_swK.mp hz
          rw [List.mem_singleton.mp hp] at h
          obtain ⟨p2, hp2, h2⟩ := mem_swK.mp (show z ∈ swK k1 (way ++ s ++ [l] ++ s1) from h)
          exact fun q => not_below (sw_pre _ h2) q
theorem lone_pre (t : T) : ∀ {way r w : W}, lone t way r = some w → ∃ b l, w = way ++ b ++ [l] := by
  induction t using T.ind with
  | hs n => intro way r w h; nomatch h
  | hn s v ks ih =>
    intro way r w h
    have on : ∀ {ks : List (Nat × T)}, only (way ++ s) ks = some w → ∃ b l, w = way ++ b ++ [l] := fun {ks} h => by
      match ks, h with
      | [(l, _)], h => cases h; exact ⟨s, l, rfl⟩
    rw [lone_node] at h
    cases e : rest? s r with
    | none => rw [e] at h; nomatch h
    | some q =>
      rw [e] at h
      cases q with
      | nil => exact on h
      | cons l r' =>
        simp only at h
        cases ek : kat ks l with
        | none => rw [ek] at h; nomatch h
        | some u =>
          rw [ek] at h
          simp only at h
          by_cases c : leafAt u r' = true
          · rw [if_pos c] at h
            simp only at h
            by_cases cv : v = none
            · rw [if_pos cv] at h; exact on h
            · rw [if_neg cv] at h; nomatch h
          · rw [if_neg c] at h
            obtain ⟨b, m, e⟩ := ih _ (kat_mem ek) h
            exact ⟨s ++ [l] ++ b, m, by rw [e]; simp⟩
/-- a drop on a slice -/
theorem sl_drop {N : T → Int → Prop} (s : T) : ∀ (t : T) (way r key : W), Sl N s t → Wf t → Full t →
    (look t r = none → dropIn s way r key = .error (.nokey key) ∨ ∃ w, dropIn s way r key = .error (.unseen w) ∧ w ∈ visP t way r ∧ w ∈ sw s way) ∧
    (look t r ≠ none → (∃ o o', dropIn s way r key = .ok o ∧ dropIn t way r key = .ok o' ∧ SlO N o o' ∧ (∀ w, w ∈ swO o way ↔ w ∈ sw s way) ∧ ∀ w, w ∈ visP t way r ∨ lone t way r = some w → ∀ z ∈ sw s way, ¬ z <+: w) ∨
      ∃ w, dropIn s way r key = .error (.unseen w) ∧ (w ∈ visP t way r ∨ lone t way r = some w) ∧ w ∈ sw s way) := by
  induction s using T.ind with
  | hs n => intro t way r key _ _ _; exact ⟨fun _ => .inr ⟨way, rfl, self_visP t way r, List.mem_cons_self⟩, fun _ => .inr ⟨way, rfl, .inl (self_visP t way r), List.mem_cons_self⟩⟩
  | hn s v ks ih =>
    intro t way r key h wt ft
    obtain ⟨ks', rfl, a⟩ := Sl.node.mp h
    obtain ⟨_, _, w3, w4, w5⟩ := Wf.node.mp wt
    have u := a.up w3
    have ft' := Full.node.mp ft
    have below : ∀ z ∈ sw (.node s v ks) way, ¬ z <+: way := fun z hz hp => by
      obtain ⟨p, hp1, hp2⟩ := mem_swK.mp (show z ∈ swK ks (way ++ s) from hz)
      exact not_below (sw_pre _ hp2) hp
    rw [visP_node, lone_node, look_node]
    cases e : rest? s r with
    | none => exact ⟨fun _ => .inl (by unfold dropIn; rw [e]), fun h => absurd rfl h⟩
    | some q =>
      cases q with
      | nil =>
        have ps : ∀ (ks : List (Nat × T)), dropIn (.node s v ks) way r key = if v = none then .error (.nokey key) else joinL way s none ks := fun ks => by
          conv => lhs; unfold dropIn
          rw [e]
        simp only [ps]
        refine ⟨fun h => .inl (if_pos h), fun h => ?_⟩
        simp only [if_neg h]
        rcases sl_join (way := way) (s := s) (v := none) a with ⟨o, o', e1, e2, e3, e4, e5⟩ | ⟨_, w, e1, e2, e3⟩
        · refine .inl ⟨o, o', e1, e2, e3, e4, fun w hw z hz => ?_⟩
          rcases hw with hw | hw
          · rw [List.mem_singleton.mp hw]; exact below z hz
          · exact e5 rfl w hw z hz
        · exact .inr ⟨w, e1, .inr e2, e3⟩
      | cons l r' =>
        have ps : ∀ (ks : List (Nat × T)), dropIn (.node s v ks) way r key = match (match kat ks l with | some t => dropIn t (way ++ s ++ [l]) r' key | none => .error (.nokey key)) with
            | .ok (some t) => joinL way s v (wk l t ks)
            | .ok none => joinL way s v (without l ks)
            | .error e => .error e := fun ks => by
          conv => lhs; unfold dropIn
          rw [e]
          simp only [dropK_eq]
          all_goals rfl
        simp only [ps]
        rcases a.kat l with ⟨k1, k2⟩ | ⟨p, q, k1, k2, hpq⟩
        · simp only [k1, k2]
          exact ⟨fun _ => .inl (by trivial), fun h => absurd rfl h⟩
        · simp only [k1, k2]
          have mp := kat_mem k1
          have mq := kat_mem k2
          have hm : ∀ w, w ∈ swK ks (way ++ s) → (∃ m, m ≠ l ∧ way ++ s ++ [m] <+: w) ∨ w ∈ sw p (way ++ s ++ [l]) := fun w hw => by
            obtain ⟨y, hy, h⟩ := mem_swK.mp hw
            by_cases c : y.1 = l
            · have : y.2 = p := up_mem_one u (l := l) (by rw [← c]; exact hy) mp
              rw [c, this] at h
              exact .inr h
            · exact .inl ⟨y.1, c, sw_pre _ h⟩
          have hin : ∀ w, w ∈ sw p (way ++ s ++ [l]) → w ∈ sw (.node s v ks) way := fun w hw => mem_swK.mpr ⟨_, mp, hw⟩
          obtain ⟨i1, i2⟩ := ih _ mp q (way ++ s ++ [l]) r' key hpq (w5 _ mq).2 (ft' _ mq)
          simp only at i1 i2
          refine ⟨fun h => ?_, fun h => ?_⟩
          · rcases i1 h with e1 | ⟨w, e1, e2, e3⟩
            · rw [e1]; exact .inl rfl
            · rw [e1]; exact .inr ⟨w, rfl, List.mem_cons_of_mem _ e2, hin w e3⟩
          · rcases i2 h with ⟨o, o', e1, e2, e3, e4, e5⟩ | ⟨w, e1, e2, e3⟩
            · rw [e1, e2]
              cases o with
              | some s' =>
                cases o' with
                | none => exact e3.elim
                | some t' =>
                  have nl : ¬ leafAt q r' = true := fun z => by
                    have := (drop_none (w5 _ mq).2 e2).mpr z
                    cases this
                  rw [if_neg nl]
                  have jn : ∀ {ks2 : List (Nat × T)} {x : T}, ks2.length = ks'.length → Up ks2 → joinL way s v (wk l x ks2) = .ok (some (.node s v (wk l x ks2))) := fun {ks2 x} hl u2 => by
                    unfold joinL
                    refine if_pos ?_
                    cases v with
                    | some y => exact .inl (fun z => nomatch z)
                    | none =>
                      refine .inr ?_
                      have h2 := w4 rfl
                      match ks2, hl, u2 with
                      | [], hl, _ => simp at hl; omega
                      | [z], hl, _ => simp at hl; omega
                      | y :: z :: rr, _, u3 =>
                        have hyz : y.1 < z.1 := (List.pairwise_cons.mp u3).1 z List.mem_cons_self
                        have m0 : (l, x) ∈ wk l x (y :: z :: rr) := mem_wk.mpr (.inl rfl)
                        have two : ∃ g, g ∈ wk l x (y :: z :: rr) ∧ g ≠ (l, x) := by
                          by_cases hp : y.1 = l
                          · exact ⟨z, mem_wk.mpr (.inr ⟨by simp, by omega⟩), fun q => by rw [q] at hyz; simp at hyz; omega⟩
                          · exact ⟨y, mem_wk.mpr (.inr ⟨by simp, hp⟩), fun q => hp (by rw [q])⟩
                        obtain ⟨g, hg, ng⟩ := two
                        match wk l x (y :: z :: rr), m0, hg with
                        | [], m0, _ => nomatch m0
                        | [y], m0, hz => exact absurd ((List.mem_singleton.mp hz).trans (List.mem_singleton.mp m0).symm) ng
                        | _ :: _ :: _, _, _ => simp
                  simp only [jn a.length u, jn rfl w3]
                  refine .inl ⟨_, _, rfl, rfl, Sl.node.mpr ⟨_, rfl, a.wk e3⟩, fun w => ?_, fun w hw z hz => ?_⟩
                  · show w ∈ swK (wk l s' ks) (way ++ s) ↔ w ∈ swK ks (way ++ s)
                    rw [mem_swK, mem_swK]
                    constructor
                    · rintro ⟨y, hy, h⟩
                      rcases mem_wk.mp hy with z | ⟨z, _⟩
                      · rw [z] at h
                        exact ⟨_, mp, (e4 w).mp h⟩
                      · exact ⟨y, z, h⟩
                    · rintro ⟨y, hy, h⟩
                      by_cases c : y.1 = l
                      · refine ⟨(l, s'), mem_wk.mpr (.inl rfl), (e4 w).mpr ?_⟩
                        have : y.2 = p := up_mem_one u (l := l) (by rw [← c]; exact hy) mp
                        rw [c, this] at h
                        exact h
                      · exact ⟨y, mem_wk.mpr (.inr ⟨hy, c⟩), h⟩
                  · have go : (w ∈ visP q (way ++ s ++ [l]) r' ∨ lone q (way ++ s ++ [l]) r' = some w) → ¬ z <+: w := fun hw hp => by
                      rcases hm z hz with ⟨m, nm, h⟩ | h
                      · have pw : way ++ s ++ [l] <+: w := by
                          rcases hw with hw | hw
                          · exact visP_pre _ hw
                          · obtain ⟨b, m', e⟩ := lone_pre _ hw
                            rw [e, List.append_assoc _ b]
                            exact List.prefix_append _ _
                        exact nm (kid_apart pw h hp)
                      · exact e5 w hw z h hp
                    rcases hw with hw | hw
                    · rcases List.mem_cons.mp hw with z' | hw
                      · rw [z']; exact below z hz
                      · exact go (.inl hw)
                    · exact go (.inr hw)
              | none =>
                cases o' with
                | some t' => exact e3.elim
                | none =>
                  have lf := (drop_none (w5 _ mq).2 e2).mp rfl
                  rw [if_pos lf]
                  have sp : ∀ w, ¬ w ∈ sw p (way ++ s ++ [l]) := fun w h => by
                    have := (e4 w).mpr h
                    nomatch this
                  have hw' : ∀ w, w ∈ swK (without l ks) (way ++ s) ↔ w ∈ swK ks (way ++ s) := fun w => by
                    rw [mem_swK, mem_swK]
                    constructor
                    · rintro ⟨y, hy, h⟩
                      exact ⟨y, (mem_without.mp hy).1, h⟩
                    · rintro ⟨y, hy, h⟩
                      by_cases c : y.1 = l
                      · have : y.2 = p := up_mem_one u (l := l) (by rw [← c]; exact hy) mp
                        rw [c, this] at h
                        exact absurd h (sp w)
                      · exact ⟨y, mem_without.mpr ⟨hy, c⟩, h⟩
                  have vis : ∀ w, w ∈ visP q (way ++ s ++ [l]) r' → ∀ z ∈ sw (.node s v ks) way, ¬ z <+: w := fun w hw z hz hp => by
                    rcases hm z hz with ⟨m, nm, h⟩ | h
                    · exact nm (kid_apart (visP_pre _ hw) h hp)
                    · exact sp z h
                  rcases sl_join (way := way) (s := s) (v := v) (a.without l) with ⟨o, o', f1, f2, f3, f4, f5⟩ | ⟨hv, w, f1, f2, f3⟩
                  · refine .inl ⟨o, o', f1, f2, f3, fun w => (f4 w).trans (hw' w), fun w hw z hz => ?_⟩
                    rcases hw with hw | hw
                    · rcases List.mem_cons.mp hw with z' | hw
                      · rw [z']; exact below z hz
                      · exact vis w hw z hz
                    · by_cases cv : v = none
                      · rw [if_pos cv] at hw
                        exact f5 cv w hw z ((hw' z).mpr hz)
                      · rw [if_neg cv] at hw
                        nomatch hw
                  · rw [if_pos hv]
                    exact .inr ⟨w, f1, .inr f2, (hw' w).mp f3⟩
            · rw [e1]
              refine .inr ⟨w, rfl, ?_, hin w e3⟩
              rcases e2 with e2 | e2
              · exact .inl (List.mem_cons_of_mem _ e2)
              · right
                have nl : ¬ leafAt q r' = true := fun z => by
                  cases q with
                  | stub n => cases z
                  | node s1 v1 k1 =>
                    obtain ⟨z1, z2⟩ := leaf_iff.mp z
                    rw [lone_node, z2, rest_self, z1] at e2
                    nomatch e2
                rw [if_neg nl]
                exact e2
end Seal
namespace Seal
/-! ### rows of deeds -/
inductive Deed where
  | put (k x : W)
  | drop (k : W)
def IsKey (k : W) : Prop := Ltr k ∧ k.length ≤ 8
def Deed.ok : Deed → Prop
  | .put k x => IsKey k ∧ Vl x
  | .drop k => IsKey k
def doD : Option T → Deed → Except Err (Option T)
  | none, .put k x => .ok (some (.node k (some x) []))
  | some t, .put k x => match putIn t [] k x with
    | .ok t' => .ok (some t')
    | .error e => .error e
  | none, .drop k => .error (.nokey k)
  | some t, .drop k => dropIn t [] k k
def doRow : Option T → List Deed → Except Err (Option T)
  | o, [] => .ok o
  | o, d :: r => match doD o d with
    | .ok o' => doRow o' r
    | .error e => .error e
abbrev Cont := W → Option W
def after (C : Cont) : Deed → Cont
  | .put k x => fun y => if y = k then some x else C y
  | .drop k => fun y => if y = k then none else C y
/-- the content behind a row, the key that lacks -/
def beh : Cont → List Deed → Cont × Option W
  | C, [] => (C, none)
  | C, .put k x :: r => beh (after C (.put k x)) r
  | C, .drop k :: r => if C k = none then (C, some k) else beh (after C (.drop k)) r
/-- the ways that are come to by a deed -/
def visO : Option T → Deed → List W
  | none, _ => []
  | some t, .put k _ => visP t [] k
  | some t, .drop k => visP t [] k ++ (lone t [] k).toList
def come : Option T → List Deed → List W
  | _, [] => []
  | o, d :: r => visO o d ++ match doD o d with
    | .ok o' => come o' r
    | .error _ => []
def WfO : Option T → Prop
  | none => True
  | some s => Wf s ∧ ht s ≤ 8
theorem IsTree.wf {o : Option T} {C : Cont} (h : IsTree o C) : WfO o := by
  cases o with
  | none => trivial
  | some t => exact ⟨h.1, h.2.2.1⟩
theorem wf_doD {o o' : Option T} {d : Deed} (w : WfO o) (hd : d.ok) (h : doD o d = .ok o') : WfO o' := by
  cases d with
  | put k x =>
    obtain ⟨⟨hk, hk8⟩, hx⟩ := hd
    cases o with
    | none => cases h; exact ⟨wf_leaf hk hx, by show k.length + 0 ≤ 8; omega⟩
    | some t =>
      have h : (match putIn t [] k x with | .ok t' => Except.ok (some t') | .error e => .error e) = .ok o' := h
      cases e : putIn t [] k x with
      | error e' => rw [e] at h; cases h
      | ok t' =>
        rw [e] at h
        cases h
        obtain ⟨a, b⟩ := wf_put x hx t [] k t' w.1 hk e
        have h2 := w.2
        exact ⟨a, by omega⟩
  | drop k =>
    cases o with
    | none => cases h
    | some t =>
      have h : dropIn t [] k k = .ok o' := h
      cases o' with
      | none => trivial
      | some t' =>
        obtain ⟨a, b⟩ := wf_drop t [] k k t' w.1 h
        exact ⟨a, Nat.le_trans b w.2⟩
theorem put_tree {o : Option T} {C : Cont} {k x : W} (h : IsTree o C) (hd : (Deed.put k x).ok) : ∃ o', doD o (.put k x) = .ok o' ∧ IsTree o' (after C (.put k x)) := by
  obtain ⟨⟨hk, hk8⟩, hx⟩ := id hd
  cases o with
  | none =>
    refine ⟨_, rfl, wf_leaf hk hx, Full.node.mpr (fun p hp => nomatch hp), by show k.length + 0 ≤ 8; omega, fun y => ?_⟩
    rw [look_leaf]
    show _ = if y = k then some x else C y
    rw [h y]
  | some t =>
    obtain ⟨w, f, h8, l⟩ := id h
    obtain ⟨t', e1, e2, e3⟩ := put_full x t [] k w f
    have e : doD (some t) (.put k x) = .ok (some t') := by
      show (match putIn t [] k x with | .ok t' => Except.ok (some t') | .error e => .error e) = _
      rw [e1]
    obtain ⟨a, b⟩ := wf_doD h.wf hd e
    refine ⟨_, e, a, e2, b, fun y => ?_⟩
    rw [e3, l]
    rfl
theorem drop_tree {o : Option T} {C : Cont} {k : W} (h : IsTree o C) (hd : (Deed.drop k).ok) :
    (C k = none → doD o (.drop k) = .error (.nokey k)) ∧ (C k ≠ none → ∃ o', doD o (.drop k) = .ok o' ∧ IsTree o' (after C (.drop k))) := by
  cases o with
  | none => exact ⟨fun _ => rfl, fun z => absurd (h k) z⟩
  | some t =>
    obtain ⟨w, f, h8, l⟩ := id h
    obtain ⟨d1, d2⟩ := drop_full t [] k k w f
    rw [l] at d1 d2
    refine ⟨d1, fun z => ?_⟩
    obtain ⟨o', e1, e2, e3⟩ := d2 z
    refine ⟨o', e1, ?_⟩
    cases o' with
    | none =>
      intro y
      show (if y = k then none else C y) = none
      by_cases c : y = k
      · rw [if_pos c]
      · rw [if_neg c, ← l, e3 rfl y c]
    | some t' =>
      obtain ⟨a, b⟩ := wf_doD h.wf hd (show doD (some t) (.drop k) = .ok (some t') from e1)
      obtain ⟨c1, c2⟩ := e2 t' rfl
      exact ⟨a, c1, b, fun y => by rw [c2, l]; rfl⟩
theorem row_tree : ∀ {row : List Deed} {o : Option T} {C : Cont}, IsTree o C → (∀ d ∈ row, d.ok) →
    ((beh C row).2 = none → ∃ o', doRow o row = .ok o' ∧ IsTree o' (beh C row).1) ∧ ∀ k, (beh C row).2 = some k → doRow o row = .error (.nokey k)
  | [], o, C, h, _ => ⟨fun _ => ⟨o, rfl, h⟩, fun k e => nomatch e⟩
  | .put k x :: r, o, C, h, hd => by
    obtain ⟨o', e, h'⟩ := put_tree h (hd _ List.mem_cons_self)
    obtain ⟨a, b⟩ := row_tree (row := r) h' fun d m => hd d (List.mem_cons_of_mem _ m)
    unfold doRow
    rw [e]
    exact ⟨a, b⟩
  | .drop k :: r, o, C, h, hd => by
    obtain ⟨d1, d2⟩ := drop_tree h (hd _ List.mem_cons_self)
    unfold doRow beh
    by_cases c : C k = none
    · rw [if_pos c, d1 c]
      exact ⟨fun z => (nomatch z), fun y e => by cases e; rfl⟩
    · rw [if_neg c]
      obtain ⟨o', e, h'⟩ := d2 c
      obtain ⟨a, b⟩ := row_tree (row := r) h' fun d m => hd d (List.mem_cons_of_mem _ m)
      rw [e]
      exact ⟨a, b⟩
/-- a deed on a slice -/
theorem sl_doD {N : T → Int → Prop} {so o : Option T} {C : Cont} {d : Deed} (h : SlO N so o) (ht : IsTree o C) (hd : d.ok) :
    (∃ so' o' C', doD so d = .ok so' ∧ doD o d = .ok o' ∧ SlO N so' o' ∧ IsTree o' C' ∧ (∀ w, w ∈ swO so' [] ↔ w ∈ swO so []) ∧ ∀ w ∈ visO o d, ∀ z ∈ swO so [], ¬ z <+: w) ∨
    (∃ w, doD so d = .error (.unseen w) ∧ w ∈ visO o d ∧ w ∈ swO so []) ∨ (∃ k, doD so d = .error (.nokey k) ∧ doD o d = .error (.nokey k)) := by
  cases so with
  | none =>
    cases o with
    | some t => exact h.elim
    | none =>
      cases d with
      | put k x =>
        obtain ⟨o', e, t'⟩ := put_tree ht hd
        cases e
        refine .inl ⟨_, _, _, rfl, rfl, Sl.node.mpr ⟨_, rfl, .nil⟩, t', fun w => Iff.rfl, fun w hw => nomatch hw⟩
      | drop k => exact .inr (.inr ⟨k, rfl, rfl⟩)
  | some s =>
    cases o with
    | none => exact h.elim
    | some t =>
      obtain ⟨w, f, h8, l⟩ := id ht
      cases d with
      | put k x =>
        have ps : ∀ t, doD (some t) (.put k x) = match putIn t [] k x with | .ok t' => .ok (some t') | .error e => .error e := fun _ => rfl
        rw [ps, ps]
        rcases sl_put x s t [] k h w f with ⟨s', t', e1, e2, e3, e4, e5⟩ | ⟨w, e1, e2, e3⟩
        · obtain ⟨o', e, tr⟩ := put_tree ht hd
          rw [ps, e2] at e
          cases e
          rw [e1, e2]
          exact .inl ⟨_, _, _, rfl, rfl, e3, tr, e4, e5⟩
        · rw [e1]
          exact .inr (.inl ⟨w, rfl, e2, e3⟩)
      | drop k =>
        have ps : ∀ t, doD (some t) (.drop k) = dropIn t [] k k := fun _ => rfl
        rw [ps, ps]
        obtain ⟨d1, d2⟩ := sl_drop s t [] k k h w f
        obtain ⟨g1, g2⟩ := drop_tree ht hd
        have vis : ∀ w, w ∈ visO (some t) (.drop k) ↔ w ∈ visP t [] k ∨ lone t [] k = some w := fun w => by
          show w ∈ visP t [] k ++ (lone t [] k).toList ↔ _
          rw [List.mem_append, Option.mem_toList]
        by_cases c : C k = none
        · rcases d1 (by rw [l]; exact c) with e | ⟨w, e1, e2, e3⟩
          · exact .inr (.inr ⟨k, e, g1 c⟩)
          · exact .inr (.inl ⟨w, e1, (vis w).mpr (.inl e2), e3⟩)
        · obtain ⟨o2, e9, tr⟩ := g2 c
          rw [ps] at e9
          rcases d2 (by rw [l]; exact c) with ⟨o, o', e1, e2, e3, e4, e5⟩ | ⟨w, e1, e2, e3⟩
          · rw [e2] at e9
            cases e9
            exact .inl ⟨o, o2, _, e1, e2, e3, tr, e4, fun w hw => e5 w ((vis w).mp hw)⟩
          · exact .inr (.inl ⟨w, e1, (vis w).mpr e2, e3⟩)
theorem sl_row {N : T → Int → Prop} : ∀ {row : List Deed} {so o : Option T} {C : Cont}, SlO N so o → IsTree o C → (∀ d ∈ row, d.ok) →
    (∃ so' o', doRow so row = .ok so' ∧ doRow o row = .ok o' ∧ SlO N so' o' ∧ ∀ w ∈ come o row, ∀ z ∈ swO so [], ¬ z <+: w) ∨
    (∃ w, doRow so row = .error (.unseen w) ∧ w ∈ come o row ∧ w ∈ swO so []) ∨ (∃ k, doRow so row = .error (.nokey k) ∧ doRow o row = .error (.nokey k))
  | [], so, o, C, h, _, _ => .inl ⟨so, o, rfl, rfl, h, fun w hw => nomatch hw⟩
  | d :: r, so, o, C, h, ht, hd => by
    unfold doRow come
    rcases sl_doD h ht (hd d List.mem_cons_self) with ⟨so', o', C', e1, e2, e3, e4, e5, e6⟩ | ⟨w, e1, e2, e3⟩ | ⟨k, e1, e2⟩
    · rw [e1, e2]
      simp only
      rcases sl_row (row := r) e3 e4 fun d m => hd d (List.mem_cons_of_mem _ m) with ⟨s2, o2, f1, f2, f3, f4⟩ | ⟨w, f1, f2, f3⟩ | ⟨k, f1, f2⟩
      · refine .inl ⟨s2, o2, f1, f2, f3, fun w hw z hz => ?_⟩
        rcases List.mem_append.mp hw with hw | hw
        · exact e6 w hw z hz
        · exact f4 w hw z ((e5 z).mpr hz)
      · exact .inr (.inl ⟨w, f1, List.mem_append_right _ f2, (e5 w).mp f3⟩)
      · exact .inr (.inr ⟨k, f1, f2⟩)
    · rw [e1]
      exact .inr (.inl ⟨w, rfl, List.mem_append_left _ e2, e3⟩)
    · rw [e1, e2]
      exact .inr (.inr ⟨k, rfl, rfl⟩)

/-! ### what is seen -/
mutual
def cnt : T → Nat
  | .stub _ => 0
  | .node _ _ ks => 1 + cntK ks
def cntK : List (Nat × T) → Nat
  | [] => 0
  | (_, t) :: r => cnt t + cntK r
end
theorem sl_cnt {N : T → Int → Prop} (s : T) : ∀ t, Sl N s t → cnt s ≤ cnt t := by
  induction s using T.ind with
  | hs n => intro t _; exact Nat.zero_le _
  | hn s v ks ih =>
    intro t h
    obtain ⟨ks', rfl, a⟩ := Sl.node.mp h
    have key : ∀ {ks ks' : List (Nat × T)}, All2 (Sl N) ks ks' → (∀ p ∈ ks, ∀ t, Sl N p.2 t → cnt p.2 ≤ cnt t) → cntK ks ≤ cntK ks' := fun a => by
      induction a with
      | nil => intro _; exact Nat.le_refl _
      | @cons l x y r r' h t ih2 =>
        intro f
        have h1 := f _ List.mem_cons_self y h
        have h2 := ih2 fun p hp => f p (List.mem_cons_of_mem _ hp)
        show cnt x + cntK r ≤ cnt y + cntK r'
        simp only at h1
        omega
    have := key a ih
    show 1 + cntK ks ≤ 1 + cntK ks'
    omega
theorem seen_or {N : T → Int → Prop} (s : T) : ∀ (t : T) (way w : W), Sl N s t → w ∈ nw t way → w ∈ nw s way ∨ ∃ z ∈ sw s way, z <+: w := by
  induction s using T.ind with
  | hs n => intro t way w _ hw; exact .inr ⟨way, List.mem_cons_self, nw_pre _ hw⟩
  | hn s v ks ih =>
    intro t way w h hw
    obtain ⟨ks', rfl, a⟩ := Sl.node.mp h
    rcases List.mem_cons.mp (show w ∈ way :: nwK ks' (way ++ s) from hw) with e | hw
    · exact .inl (List.mem_cons.mpr (.inl e))
    · obtain ⟨p, hp, h2⟩ := mem_nwK.mp hw
      obtain ⟨y, hy, hR⟩ := a.mem' hp
      rcases ih _ hy p.2 _ w hR h2 with z | ⟨z, z1, z2⟩
      · exact .inl (List.mem_cons_of_mem _ (mem_nwK.mpr ⟨_, hy, z⟩))
      · exact .inr ⟨z, mem_swK.mpr ⟨_, hy, z1⟩, z2⟩
/-- what stands above a stub is seen -/
theorem above_seen {N : T → Int → Prop} (s : T) : ∀ (t : T) (way z a : W), Sl N s t → Wf t → z ∈ sw s way → a ∈ nw t way → a <+: z → a = z ∨ a ∈ nw s way := by
  induction s using T.ind with
  | hs n =>
    intro t way z a _ _ hz ha hp
    have e := List.mem_singleton.mp (show z ∈ [way] from hz)
    subst e
    exact .inl (prefix_anti hp (nw_pre _ ha))
  | hn s v ks ih =>
    intro t way z a h wt hz ha hp
    obtain ⟨ks', rfl, al⟩ := Sl.node.mp h
    obtain ⟨_, _, w3, _, w5⟩ := Wf.node.mp wt
    rcases List.mem_cons.mp (show a ∈ way :: nwK ks' (way ++ s) from ha) with e | ha
    · exact .inr (List.mem_cons.mpr (.inl e))
    · obtain ⟨p, hp1, hp2⟩ := mem_nwK.mp ha
      obtain ⟨q, hq1, hq2⟩ := mem_swK.mp (show z ∈ swK ks (way ++ s) from hz)
      have c : p.1 = q.1 := kid_apart (sw_pre _ hq2) (nw_pre _ hp2) hp
      obtain ⟨y, hy, hR⟩ := al.mem hq1
      have e : p.2 = y := up_mem_one w3 (l := q.1) (by rw [← c]; exact hp1) hy
      rw [e, c] at hp2
      rcases ih q hq1 y _ z a hR (w5 _ hy).2 hq2 hp2 hp with z | z
      · exact .inl z
      · exact .inr (List.mem_cons_of_mem _ (mem_nwK.mpr ⟨q, hq1, z⟩))
mutual
/-- t with the nodes at the ways V seen, the others stubs -/
def Shn (N : T → Int → Prop) (V : List W) : T → T → W → Prop
  | .stub n, t, way => ¬ way ∈ V ∧ N t n
  | .node s v ks, t, way => way ∈ V ∧ ∃ ks', t = .node s v ks' ∧ ShnK N V ks ks' (way ++ s)
def ShnK (N : T → Int → Prop) (V : List W) : List (Nat × T) → List (Nat × T) → W → Prop
  | [], ks', _ => ks' = []
  | (l, a) :: r, ks', b => ∃ c r', ks' = (l, c) :: r' ∧ Shn N V a c (b ++ [l]) ∧ ShnK N V r r' b
end
theorem shnK_iff {N : T → Int → Prop} {V : List W} : ∀ {ks ks' : List (Nat × T)} {b : W}, ShnK N V ks ks' b ↔ All2 (fun _ _ => True) ks ks' ∧ ∀ p ∈ ks.zip ks', p.1.1 = p.2.1 ∧ Shn N V p.1.2 p.2.2 (b ++ [p.1.1])
  | [], ks', b => by
    unfold ShnK
    constructor
    · rintro rfl; exact ⟨.nil, fun p h => nomatch h⟩
    · rintro ⟨h, _⟩; cases h; rfl
  | (l, a) :: r, ks', b => by
    unfold ShnK
    constructor
    · rintro ⟨c, r', rfl, h1, h2⟩
      obtain ⟨g1, g2⟩ := shnK_iff.mp h2
      refine ⟨.cons trivial g1, fun p hp => ?_⟩
      rcases List.mem_cons.mp (show p ∈ ((l, a), (l, c)) :: r.zip r' from hp) with e | hp
      · rw [e]; exact ⟨rfl, h1⟩
      · exact g2 p hp
    · rintro ⟨h, g⟩
      cases h with
      | @cons _ _ c _ r' _ t =>
        have h1 := g ((l, a), (l, c)) List.mem_cons_self
        exact ⟨_, _, rfl, h1.2, shnK_iff.mpr ⟨t, fun p hp => g p (List.mem_cons_of_mem _ hp)⟩⟩
/-- a row of kids shown, as one relation -/
inductive AllS (R : T → T → W → Prop) (b : W) : List (Nat × T) → List (Nat × T) → Prop where
  | nil : AllS R b [] []
  | cons {l : Nat} {x y : T} {r r' : List (Nat × T)} (h : R x y (b ++ [l])) (t : AllS R b r r') : AllS R b ((l, x) :: r) ((l, y) :: r')
theorem shnK_all {N : T → Int → Prop} {V : List W} : ∀ {ks ks' : List (Nat × T)} {b : W}, ShnK N V ks ks' b ↔ AllS (Shn N V) b ks ks'
  | [], ks', b => by
    unfold ShnK
    constructor
    · rintro rfl; exact .nil
    · intro h; cases h; rfl
  | (l, a) :: r, ks', b => by
    unfold ShnK
    constructor
    · rintro ⟨c, r', rfl, h1, h2⟩
      exact .cons h1 (shnK_all.mp h2)
    · intro h
      cases h with
      | cons h t => exact ⟨_, _, rfl, h, shnK_all.mpr t⟩
theorem Shn.node {N : T → Int → Prop} {V : List W} {s : W} {v : Option W} {ks : List (Nat × T)} {t : T} {way : W} : Shn N V (.node s v ks) t way ↔ way ∈ V ∧ ∃ ks', t = .node s v ks' ∧ AllS (Shn N V) (way ++ s) ks ks' := by
  show (way ∈ V ∧ ∃ ks', t = .node s v ks' ∧ ShnK N V ks ks' (way ++ s)) ↔ _
  simp only [shnK_all]
theorem AllS.all2 {R : T → T → W → Prop} {R' : T → T → Prop} {b : W} {ks ks' : List (Nat × T)} (h : AllS R b ks ks') (f : ∀ p ∈ ks, ∀ y, R p.2 y (b ++ [p.1]) → R' p.2 y) : All2 R' ks ks' := by
  induction h with
  | nil => exact .nil
  | cons h t ih => exact .cons (f _ List.mem_cons_self _ h) (ih fun p hp => f p (List.mem_cons_of_mem _ hp))
theorem AllS.mem {R : T → T → W → Prop} {b : W} {ks ks' : List (Nat × T)} (h : AllS R b ks ks') {p : Nat × T} (hp : p ∈ ks) : ∃ y, (p.1, y) ∈ ks' ∧ R p.2 y (b ++ [p.1]) := by
  induction h with
  | nil => nomatch hp
  | cons h _ ih =>
    rcases List.mem_cons.mp hp with e | e
    · rw [e]; exact ⟨_, List.mem_cons_self, h⟩
    · obtain ⟨y, h1, h2⟩ := ih e
      exact ⟨y, List.mem_cons_of_mem _ h1, h2⟩
theorem Shn.sl {N : T → Int → Prop} {V : List W} (s : T) : ∀ (t : T) (way : W), Shn N V s t way → Sl N s t := by
  induction s using T.ind with
  | hs n => intro t way h; exact h.2
  | hn s v ks ih =>
    intro t way h
    obtain ⟨_, ks', rfl, a⟩ := Shn.node.mp h
    exact Sl.node.mpr ⟨ks', rfl, a.all2 fun p hp y hy => ih p hp y _ hy⟩
theorem Shn.mono {N N' : T → Int → Prop} (f : ∀ t n, N t n → N' t n) {V : List W} (s : T) : ∀ (t : T) (way : W), Shn N V s t way → Shn N' V s t way := by
  induction s using T.ind with
  | hs n => intro t way h; exact ⟨h.1, f t n h.2⟩
  | hn s v ks ih =>
    intro t way h
    obtain ⟨hw, ks', rfl, a⟩ := Shn.node.mp h
    refine Shn.node.mpr ⟨hw, ks', rfl, ?_⟩
    clear h hw
    induction a with
    | nil => exact .nil
    | cons h t ih2 => exact .cons (ih _ List.mem_cons_self _ _ h) (ih2 fun p hp => ih p (List.mem_cons_of_mem _ hp))
theorem Shn.one {N N' : T → Int → Prop} (f : ∀ t n n', N t n → N' t n' → n = n') {V : List W} (s : T) : ∀ (s' t : T) (way : W), Shn N V s t way → Shn N' V s' t way → s = s' := by
  induction s using T.ind with
  | hs n =>
    intro s' t way h h'
    cases s' with
    | stub n' => rw [f t n n' h.2 h'.2]
    | node s v ks => exact absurd (Shn.node.mp h').1 h.1
  | hn s v ks ih =>
    intro s' t way h h'
    obtain ⟨hw, ks', rfl, a⟩ := Shn.node.mp h
    cases s' with
    | stub n' => exact absurd hw h'.1
    | node s2 v2 k2 =>
      obtain ⟨_, ks3, e, a'⟩ := Shn.node.mp h'
      cases e
      have key : ∀ {ks kt : List (Nat × T)} {b : W}, AllS (Shn N V) b ks kt → ∀ k2, AllS (Shn N' V) b k2 kt → (∀ p ∈ ks, ∀ s' t way, Shn N V p.2 t way → Shn N' V s' t way → p.2 = s') → ks = k2 := fun a => by
        induction a with
        | nil => intro k2 a' _; cases a'; rfl
        | cons h t ih2 =>
          intro k2 a' g
          cases a' with
          | cons h' t' =>
            have e1 := g _ List.mem_cons_self _ _ _ h h'
            have e2 := ih2 _ t' fun p hp => g p (List.mem_cons_of_mem _ hp)
            simp only at e1
            rw [e1, e2]
      rw [key a k2 a' ih]
theorem Shn.nw {N : T → Int → Prop} {V : List W} (s : T) : ∀ (t : T) (way w : W), Shn N V s t way → w ∈ nw s way → w ∈ V := by
  induction s using T.ind with
  | hs n => intro t way w _ h; nomatch h
  | hn s v ks ih =>
    intro t way w h hw
    obtain ⟨hV, ks', rfl, a⟩ := Shn.node.mp h
    rcases List.mem_cons.mp (show w ∈ way :: nwK ks (way ++ s) from hw) with e | hw
    · rw [e]; exact hV
    · obtain ⟨p, hp, h2⟩ := mem_nwK.mp hw
      obtain ⟨y, _, hy⟩ := a.mem hp
      exact ih p hp y _ w hy h2
theorem Shn.sw {N : T → Int → Prop} {V : List W} (s : T) : ∀ (t : T) (way z : W), Shn N V s t way → z ∈ sw s way → ¬ z ∈ V := by
  induction s using T.ind with
  | hs n => intro t way z h hz; rw [List.mem_singleton.mp (show z ∈ [way] from hz)]; exact h.1
  | hn s v ks ih =>
    intro t way z h hz
    obtain ⟨hV, ks', rfl, a⟩ := Shn.node.mp h
    obtain ⟨p, hp, h2⟩ := mem_swK.mp (show z ∈ swK ks (way ++ s) from hz)
    obtain ⟨y, _, hy⟩ := a.mem hp
    exact ih p hp y _ z hy h2
theorem sw_nw {N : T → Int → Prop} (s : T) : ∀ (t : T) (way z : W), Sl N s t → Full t → z ∈ sw s way → z ∈ nw t way := by
  induction s using T.ind with
  | hs n =>
    intro t way z _ f hz
    rw [List.mem_singleton.mp (show z ∈ [way] from hz)]
    cases t with
    | stub n => exact f.elim
    | node s v ks => exact List.mem_cons_self
  | hn s v ks ih =>
    intro t way z h f hz
    obtain ⟨ks', rfl, a⟩ := Sl.node.mp h
    obtain ⟨p, hp, h2⟩ := mem_swK.mp (show z ∈ swK ks (way ++ s) from hz)
    obtain ⟨y, hy, hR⟩ := a.mem hp
    exact List.mem_cons_of_mem _ (mem_nwK.mpr ⟨_, hy, ih p hp y _ z hR (Full.node.mp f _ hy) h2⟩)
theorem nw_sub {N : T → Int → Prop} (s : T) : ∀ (t : T) (way z : W), Sl N s t → z ∈ nw s way → z ∈ nw t way := by
  induction s using T.ind with
  | hs n => intro t way z _ hz; nomatch hz
  | hn s v ks ih =>
    intro t way z h hz
    obtain ⟨ks', rfl, a⟩ := Sl.node.mp h
    rcases List.mem_cons.mp (show z ∈ way :: nwK ks (way ++ s) from hz) with e | hz
    · exact List.mem_cons.mpr (.inl e)
    · obtain ⟨p, hp, h2⟩ := mem_nwK.mp hz
      obtain ⟨y, hy, hR⟩ := a.mem hp
      exact List.mem_cons_of_mem _ (mem_nwK.mpr ⟨_, hy, ih p hp y _ z hR h2⟩)
/-- a slice that sees just the nodes at V is t shown so -/
theorem shn_of {N : T → Int → Prop} {V : List W} (s : T) : ∀ (t : T) (way : W), Sl N s t → Wf t → Full t → (∀ w ∈ nw t way, w ∈ nw s way ↔ w ∈ V) → Shn N V s t way := by
  induction s using T.ind with
  | hs n =>
    intro t way h _ f g
    refine ⟨fun hV => ?_, h⟩
    have : way ∈ nw t way := sw_nw (.stub n) t way way h f List.mem_cons_self
    have := (g way this).mpr hV
    nomatch this
  | hn s v ks ih =>
    intro t way h w f g
    obtain ⟨ks', rfl, a⟩ := Sl.node.mp h
    obtain ⟨_, _, w3, _, w5⟩ := Wf.node.mp w
    have f' := Full.node.mp f
    have u := a.up w3
    refine Shn.node.mpr ⟨(g way List.mem_cons_self).mp List.mem_cons_self, ks', rfl, ?_⟩
    have g' : ∀ p ∈ ks, ∀ y, (p.1, y) ∈ ks' → ∀ w ∈ nw y (way ++ s ++ [p.1]), w ∈ nw p.2 (way ++ s ++ [p.1]) ↔ w ∈ V := fun p hp y hy w hw => by
      rw [← g w (List.mem_cons_of_mem _ (mem_nwK.mpr ⟨_, hy, hw⟩))]
      constructor
      · intro h; exact List.mem_cons_of_mem _ (mem_nwK.mpr ⟨p, hp, h⟩)
      · intro h
        have pw := nw_pre _ hw
        rcases List.mem_cons.mp (show w ∈ way :: nwK ks (way ++ s) from h) with e | h
        · rw [e] at pw
          exact (not_below pw (List.prefix_refl _)).elim
        · obtain ⟨q, hq, h2⟩ := mem_nwK.mp h
          have c : q.1 = p.1 := kid_apart pw (nw_pre _ h2) (List.prefix_refl _)
          have : q.2 = p.2 := up_mem_one u (l := p.1) (by rw [← c]; exact hq) hp
          rw [← this, ← c]
          exact h2
    have key : ∀ {k1 k2 : List (Nat × T)}, All2 (Sl N) k1 k2 → (∀ p ∈ k1, p ∈ ks) → (∀ p ∈ k2, p ∈ ks') → AllS (Shn N V) (way ++ s) k1 k2 := fun a => by
      induction a with
      | nil => intro _ _; exact .nil
      | @cons l x y r r' h t ih2 =>
        intro h1 h2
        have m1 := h1 _ List.mem_cons_self
        have m2 := h2 _ List.mem_cons_self
        exact .cons (ih _ m1 y _ h (w5 _ m2).2 (f' _ m2) (g' _ m1 y m2)) (ih2 (fun p hp => h1 p (List.mem_cons_of_mem _ hp)) fun p hp => h2 p (List.mem_cons_of_mem _ hp))
    exact key a (fun _ h => h) fun _ h => h
/-- behind the loop the slice sees just what is come to -/
theorem needed_end {N : T → Int → Prop} {s t : T} {C : Cont} {row : List Deed} {o : Option T} (h : Sl N s t) (ht : IsTree (some t) C) (hd : ∀ d ∈ row, d.ok) (hs : ∀ w ∈ nw s [], w ∈ come (some t) row) (hr : doRow (some s) row = .ok o) :
    ∀ w ∈ nw t [], w ∈ nw s [] ↔ w ∈ come (some t) row := by
  intro w hw
  refine ⟨hs w, fun hc => ?_⟩
  rcases sl_row (so := some s) (o := some t) h ht hd with ⟨so', o', e1, e2, e3, e4⟩ | ⟨w, e1, _⟩ | ⟨k, e1, _⟩
  · rcases seen_or s t [] w h hw with z | ⟨z, z1, z2⟩
    · exact z
    · exact absurd z2 (e4 w hc z z1)
  · rw [hr] at e1; cases e1
  · rw [hr] at e1; cases e1
/-- with a node that is needed not seen the deeds are refused by its way -/
theorem spared {N : T → Int → Prop} {s t : T} {C : Cont} {row : List Deed} {o : Option T} {V V' : List W} {a : W} (h : Shn N V' s t []) (ht : IsTree (some t) C) (hd : ∀ d ∈ row, d.ok) (hr : doRow (some t) row = .ok o)
    (hV : ∀ w ∈ nw t [], w ∈ V ↔ w ∈ come (some t) row) (ha : a ∈ V) (hat : a ∈ nw t []) (hV' : ∀ w, w ∈ V' ↔ w ∈ V ∧ ¬ a <+: w) : doRow (some s) row = .error (.unseen a) := by
  have sl := h.sl
  rcases sl_row (so := some s) (o := some t) sl ht hd with ⟨so', o', e1, e2, e3, e4⟩ | ⟨w, e1, e2, e3⟩ | ⟨k, _, e2⟩
  · exfalso
    rcases seen_or s t [] a sl hat with z | ⟨z, z1, z2⟩
    · exact ((hV' a).mp (h.nw _ _ _ _ z)).2 (List.prefix_refl _)
    · exact e4 a ((hV a hat).mp ha) z z1 z2
  · have hn := sw_nw s t [] w sl ht.2.1 e3
    have hw : w ∈ V := (hV w hn).mpr e2
    have pa : a <+: w := by
      by_cases c : a <+: w
      · exact c
      · exact absurd ((hV' w).mpr ⟨hw, c⟩) (h.sw _ _ _ _ e3)
    rcases above_seen s t [] w a sl ht.1 e3 hat pa with z | z
    · rw [e1, z]
    · exact absurd (List.prefix_refl _) ((hV' a).mp (h.nw _ _ _ _ z)).2
  · rw [hr] at e2; cases e2

/-! ### a slice that sees one node more -/
structure Grew (s s' : T) (way w : W) : Prop where
  nodes : ∀ x, x ∈ nw s' way ↔ x ∈ nw s way ∨ x = w
  one : cnt s' = cnt s + 1
theorem cntK_app : ∀ a b : List (Nat × T), cntK (a ++ b) = cntK a + cntK b
  | [], b => by simp [cntK]
  | (l, t) :: r, b => by
    show cnt t + cntK (r ++ b) = cnt t + cntK r + cntK b
    rw [cntK_app]
    omega
theorem wk_self {ks : List (Nat × T)} (u : Up ks) {l : Nat} {a : T} (h : kat ks l = some a) : wk l a ks = ks := by
  refine up_ext (up_wk u) u fun p => ?_
  rw [mem_wk]
  constructor
  · rintro (e | ⟨e, _⟩)
    · rw [e]; exact kat_mem h
    · exact e
  · intro hp
    by_cases c : p.1 = l
    · left
      have : p.2 = a := up_mem_one u (l := l) (by rw [← c]; exact hp) (kat_mem h)
      rw [← this, ← c]
    · exact .inr ⟨hp, c⟩
theorem cntK_wk {ks : List (Nat × T)} (u : Up ks) {l : Nat} {a b : T} (h : kat ks l = some a) : cntK (wk l b ks) + cnt a = cntK ks + cnt b := by
  have e : cntK ks = cntK (wk l a ks) := by rw [wk_self u h]
  rw [e]
  unfold wk
  rw [cntK_app, cntK_app]
  show _ + (cnt b + _) + _ = _ + (cnt a + _) + _
  omega
theorem grew_base {n : Int} {st : W} {v : Option W} {ks : List (Nat × T)} {way : W} (h : ∀ p ∈ ks, ∃ m, p.2 = .stub m) : Grew (.stub n) (.node st v ks) way way := by
  refine ⟨fun x => ?_, ?_⟩
  · constructor
    · intro hx
      rcases List.mem_cons.mp (show x ∈ way :: nwK ks (way ++ st) from hx) with e | hx
      · exact .inr e
      · obtain ⟨p, hp, h2⟩ := mem_nwK.mp hx
        obtain ⟨m, e⟩ := h p hp
        rw [e] at h2
        nomatch h2
    · rintro (hx | e)
      · nomatch hx
      · rw [e]; exact List.mem_cons_self
  · show 1 + cntK ks = 0 + 1
    have : ∀ ks : List (Nat × T), (∀ p ∈ ks, ∃ m, p.2 = .stub m) → cntK ks = 0 := fun ks => by
      induction ks with
      | nil => intro _; rfl
      | cons p r ih =>
        intro h
        obtain ⟨m, e⟩ := h p List.mem_cons_self
        show cnt p.2 + cntK r = 0
        rw [e, ih fun q hq => h q (List.mem_cons_of_mem _ hq)]
        rfl
    rw [this ks h]
theorem grew_step {st : W} {v : Option W} {ks : List (Nat × T)} {way w : W} {l : Nat} {a a' : T} (u : Up ks) (h : kat ks l = some a) (g : Grew a a' (way ++ st ++ [l]) w) : Grew (.node st v ks) (.node st v (wk l a' ks)) way w := by
  refine ⟨fun x => ?_, ?_⟩
  · show x ∈ way :: nwK (wk l a' ks) (way ++ st) ↔ x ∈ way :: nwK ks (way ++ st) ∨ x = w
    rw [List.mem_cons, List.mem_cons, mem_nwK, mem_nwK]
    constructor
    · rintro (e | ⟨p, hp, h2⟩)
      · exact .inl (.inl e)
      · rcases mem_wk.mp hp with e | ⟨e, _⟩
        · rw [e] at h2
          rcases (g.nodes x).mp h2 with z | z
          · exact .inl (.inr ⟨_, kat_mem h, z⟩)
          · exact .inr z
        · exact .inl (.inr ⟨p, e, h2⟩)
    · rintro ((e | ⟨p, hp, h2⟩) | e)
      · exact .inl e
      · right
        by_cases c : p.1 = l
        · have : p.2 = a := up_mem_one u (l := l) (by rw [← c]; exact hp) (kat_mem h)
          rw [this, c] at h2
          exact ⟨_, mem_wk.mpr (.inl rfl), (g.nodes x).mpr (.inl h2)⟩
        · exact ⟨p, mem_wk.mpr (.inr ⟨hp, c⟩), h2⟩
      · exact .inr ⟨_, mem_wk.mpr (.inl rfl), (g.nodes x).mpr (.inr e)⟩
  · have := cntK_wk u (b := a') h
    have := g.one
    show 1 + cntK (wk l a' ks) = 1 + cntK ks + 1
    omega
end Seal
namespace Seal
open PySem PySem.Spec PyProof.Rows L2 LamX NdefX
def top (i : Nat) : Stmt := PySem.Challenge.pw_sealroot_k37_whole_fewest_needed.main.body.getD i (.Pass ⟨0, 0, 0, 0⟩)
abbrev s_BadDeed_init : Stmt := inClass (top 5) 0
abbrev s_NoKey_init : Stmt := inClass (top 8) 0
abbrev s_Unseen_init : Stmt := inClass (top 9) 0
abbrev s_Clash_init : Stmt := inClass (top 10) 0
abbrev s_NoRoot_init : Stmt := inClass (top 11) 0
abbrev s_NoPaper_init : Stmt := inClass (top 12) 0
abbrev s_Mismatch_init : Stmt := inClass (top 13) 0
abbrev s_Conflict_init : Stmt := inClass (top 14) 0
abbrev s_NoVersion_init : Stmt := inClass (top 15) 0
abbrev s_is_key : Stmt := top 24
abbrev s_is_value : Stmt := top 25
abbrev s_is_number : Stmt := top 26
abbrev s_need_key : Stmt := top 27
abbrev s_need_value : Stmt := top 28
abbrev s_shared_start : Stmt := top 29
abbrev s_Part_eq : Stmt := inClass (top 31) 0
abbrev s_Node_init : Stmt := inClass (top 32) 0
abbrev s_Node_told : Stmt := inClass (top 32) 1
abbrev s_Node_len : Stmt := inClass (top 32) 2
abbrev s_Node_str : Stmt := inClass (top 32) 3
abbrev s_Node_shown : Stmt := inClass (top 32) 4
abbrev s_Node_start : Stmt := inClass (top 32) 5
abbrev s_Node_height : Stmt := inClass (top 32) 6
abbrev s_Node_kid_at : Stmt := inClass (top 32) 7
abbrev s_Node_all_nodes : Stmt := inClass (top 32) 8
abbrev s_Stub_init : Stmt := inClass (top 33) 0
abbrev s_Stub_told : Stmt := inClass (top 33) 1
abbrev s_Stub_len : Stmt := inClass (top 33) 2
abbrev s_Stub_str : Stmt := inClass (top 33) 3
abbrev s_Stub_shown : Stmt := inClass (top 33) 4
abbrev s_Stub_height : Stmt := inClass (top 33) 5
abbrev s_Stub_all_nodes : Stmt := inClass (top 33) 6
abbrev s_are_kids : Stmt := top 34
abbrev s_is_tree : Stmt := top 35
abbrev s_need_tree : Stmt := top 36
abbrev s_part_of : Stmt := top 37
abbrev s_kid_of : Stmt := top 38
abbrev s_written : Stmt := top 39
abbrev s_text_of : Stmt := top 40
abbrev s_number_of : Stmt := top 41
abbrev s_as_stub : Stmt := top 42
abbrev s_need_root : Stmt := top 44
abbrev s_need_seen : Stmt := top 46
abbrev s_with_kid : Stmt := top 47
abbrev s_joined_up : Stmt := top 48
abbrev s_got : Stmt := top 49
abbrev s_put : Stmt := top 50
abbrev s_put_in : Stmt := top 51
abbrev s_parted : Stmt := top 52
abbrev s_drop : Stmt := top 53
abbrev s_drop_in : Stmt := top 54
abbrev s_tree_of : Stmt := top 55
abbrev s_tree_under : Stmt := top 56
abbrev s_is_deed : Stmt := top 58
abbrev s_need_deeds : Stmt := top 59
abbrev s_done : Stmt := top 60
abbrev s_shown_at : Stmt := top 61
abbrev s_needed : Stmt := top 62
abbrev s_root_behind : Stmt := top 63
abbrev s_L_begun : Stmt := top 65
abbrev s_L_draw : Stmt := top 66
abbrev s_L_letters : Stmt := top 67
abbrev s_L_key : Stmt := top 68
abbrev s_L_value : Stmt := top 69
abbrev s_L_content : Stmt := top 70
abbrev s_L_tree : Stmt := top 71
abbrev s_L_told : Stmt := top 72
abbrev s_L_word : Stmt := top 73
abbrev s_L_tried : Stmt := top 74
abbrev s_L_good : Stmt := top 75
abbrev s_L_bad : Stmt := top 76
abbrev s_L_text : Stmt := top 77
abbrev s_L_number : Stmt := top 78
abbrev s_L_walk : Stmt := top 79
abbrev s_L_lone : Stmt := top 80
abbrev s_L_ways : Stmt := top 81
abbrev s_L_shown : Stmt := top 82
abbrev s_L_row : Stmt := top 83
abbrev s_L_behind : Stmt := top 84
abbrev s_L_come_to : Stmt := top 85
abbrev s_L_spared : Stmt := top 86
abbrev s_L_shows_no_more : Stmt := top 87
abbrev s_law : Stmt := top 88
/-! ### texts -/
def S (l : W) : Str := ⟨l.toArray⟩
theorem S_inj {a b : W} : S a = S b ↔ a = b := by
  constructor
  · intro h
    have := congrArg (fun z : Str => z.cps.toList) h
    simpa [S] using this
  · intro h; rw [h]
theorem S_len (a : W) : (S a).length = a.length := by
  show a.toArray.size = _
  simp
theorem S_list (a : W) : (S a).cps.toList = a := by simp [S]
theorem S_app (a b : W) : S a ++ S b = S (a ++ b) := by
  show (⟨a.toArray ++ b.toArray⟩ : Str) = ⟨(a ++ b).toArray⟩
  simp
theorem S_of (z : Str) : S z.cps.toList = z := by
  cases z
  simp [S]
theorem S_one (c : Nat) : (⟨#[c]⟩ : Str) = S [c] := rfl
theorem dec_S {a b : W} : decide (V.str (S a) = V.str (S b)) = decide (a = b) := by
  by_cases h : a = b
  · rw [h]; simp
  · rw [decide_eq_false h, decide_eq_false (fun z => h (S_inj.mp (V.str.inj z)))]
theorem sz {n : Nat} (h : n ≤ 100000) : n ≤ sizeLine := Nat.le_trans h (by decide)
theorem szl {n : Nat} (h : n < 100000) : n < sizeLine := Nat.lt_of_lt_of_le h (by decide)

/-! ### a def by its name -/
structure Def (P : Program) (w : World) (K : PySem.W.Frag) (mg : Str → Option Value) (base : Heap) (CX : CXT) (k : Nat) (x : Str) (ps : List Str) (sp : Sp) : Prop where
  g : mg x = some (.ref (He.ga K x))
  kp : PySem.W.keepIn K (.ref (He.ga K x)) = true
  fn : ∃ fd : FuncData, Binds K fd ps [] ∧ FnOk P w K mg base CX k (He.ga K x) fd ps sp
abbrev FnP (K : PySem.W.Frag) (x : Str) (st : Stmt) (fd : FuncData) : Prop := FunD K x x (defArgs st) (defBody st) (defScope st) [] [] (He.ga K x) fd
abbrev FnM (K : PySem.W.Frag) (C m : Str) (q : Str) (st : Stmt) (fd : FuncData) : Prop := FunD K m q (defArgs st) (defBody st) (defScope st) [] [] (He.ma K (He.ga K C) m) fd
section
variable {P : Program} {w : World} {K : PySem.W.Frag} {mg : Str → Option Value} {base : Heap} {CX : CXT} {j k : Nat} {x : Str} {ps : List Str} {sp sp' : Sp}
theorem Def.mono (D : Def P w K mg base CX j x ps sp) (h : j ≤ k) : Def P w K mg base CX k x ps sp :=
  ⟨D.g, D.kp, let ⟨fd, b, F⟩ := D.fn; ⟨fd, b, F.mono h⟩⟩
theorem Def.imp (D : Def P w K mg base CX j x ps sp) (h : ∀ vs H Q E, sp' vs H Q E → sp vs H Q E) : Def P w K mg base CX j x ps sp' :=
  ⟨D.g, D.kp, let ⟨fd, b, F⟩ := D.fn; ⟨fd, b, F.imp h⟩⟩
end
section
variable {X : Cx} {CX : CXT} {k : Nat} {x : Str} {ps : List Str} {sp : Sp} {p pos : Pos} {e : Expr} {es : List Expr} {t : TA}
/-- f(e, ..), nothing is raised -/
theorem pe_cd (D : Def X.prog X.w X.K X.mg X.base CX0 k x ps sp) (hr : Room k X.A) (hg : Gl X x) (ha : PA X (e :: es) t) (hdb : (x == ("__debug__" : Str)) = false := by decide)
    (he : starEach (e :: es) X.env = (false, eval e X.env) :: starEach es X.env := by rfl) (hpl : (backTo pos (starEach es X.env)).any (·.1) = false := by rfl) :
    PE X (.Call (.Name x p) (e :: es) [] pos) (tCall sp [] E0 t) := by
  obtain ⟨fd, b, F⟩ := D.fn
  exact pe_call F hr hg D.g D.kp b .nil pass0 ha hdb he hpl
/-- f(e, ..), what is raised is passed on -/
theorem pe_cx {E : L2.St → XK} (D : Def X.prog X.w X.K X.mg X.base CX k x ps sp) (hr : Room k X.A) (hg : Gl X x) (hx : ∀ σ, PassesAt CX X σ (E σ)) (ha : PA X (e :: es) t) (hdb : (x == ("__debug__" : Str)) = false := by decide)
    (he : starEach (e :: es) X.env = (false, eval e X.env) :: starEach es X.env := by rfl) (hpl : (backTo pos (starEach es X.env)).any (·.1) = false := by rfl) :
    PE X (.Call (.Name x p) (e :: es) [] pos) (tCallS sp E t) := by
  obtain ⟨fd, b, F⟩ := D.fn
  exact pe_callS F hr hg D.g D.kp b hx ha hdb he hpl
end
section
variable {X : Cx} {x : Str} {pos : Pos}
theorem pe_gI {i : Int} (h : ∃ t, X.mg x = some (.int i t)) (hg : Gl X x := by rfl) (hd : (x == ("__debug__" : Str)) = false := by decide) : PE X (.Name x pos) (tC (.int i)) := by
  obtain ⟨t, h⟩ := h
  exact pe_glob (v := .int i) hg h ⟨t, rfl⟩ hd
theorem pe_gS {z : Str} (h : ∃ t, X.mg x = some (.str z t)) (hg : Gl X x := by rfl) (hd : (x == ("__debug__" : Str)) = false := by decide) : PE X (.Name x pos) (tC (.str z)) := by
  obtain ⟨t, h⟩ := h
  exact pe_glob (v := .str z) hg h ⟨t, rfl⟩ hd
/-- a built-in class as a value -/
theorem pe_ty {n : String} (hm : X.mg x = none) (hv : bootBuiltins x = some (.type n)) (hg : Gl X x := by rfl) (hn : x ≠ "__name__" := by decide) (hd : (x == ("__debug__" : Str)) = false := by decide) : PE X (.Name x pos) (tC (.ty n)) :=
  pe_bltn (v := .ty n) hg hm hv rfl hn hd
/-- an own class as a value -/
theorem pe_gR {a : Addr} (hm : X.mg x = some (.ref a)) (hg : Gl X x := by rfl) (hd : (x == ("__debug__" : Str)) = false := by decide) : PE X (.Name x pos) (tC (.ref a)) :=
  pe_glob (v := .ref a) hg hm rfl hd
end
def ABC : W := List.range' 97 26
theorem abc : ("abcdefghijklmnopqrstuvwxyz" : Str) = S ABC := by decide +kernel
theorem mem_abc {c : Nat} : c ∈ ABC ↔ Lt c := by
  unfold ABC Lt
  rw [List.mem_range'_1]
  omega
theorem S_mem {k : W} {i c : Nat} (h : (S k).cps[i]? = some c) : c ∈ k := by
  rw [← Array.getElem?_toList, S_list] at h
  exact List.mem_of_getElem? h
theorem all_true (n : Nat) : (List.replicate n true).all id = true := by
  rw [List.all_eq_true]
  intro b hb
  rw [(List.mem_replicate.mp hb).2]
  rfl
end Seal
namespace Seal
open PySem PySem.Spec PyProof.Rows L2 LamX NdefX
/-! ### what stays -/
/-- what is never changed -/
def Fix : HO → Bool
  | .tup _ => true | .ins _ _ _ => true | .own _ => true | .xd _ => true | .ext _ => true | .frz _ _ => true | .rng _ _ => true | .met _ _ => true
  | _ => false
def Tb : HO → Bool
  | .tbl _ => true
  | _ => false
abbrev Tbs := List (Addr × Str)
abbrev MM := Addr → Prop
def M0 : MM := fun _ => False
/-- from H to H' all stands but tables, and what M may change -/
structure Go (Ts : Tbs) (M : MM) (H H' : Hp) : Prop where
  k : ∀ b o, H b = some o → (Fix o = true ∨ (Tb o = false ∧ ¬ M b)) → H' b = some o
  t : Tabs Ts H → Tabs Ts H'
section
variable {Ts : Tbs} {M M' : MM} {H H1 H2 : Hp} {p : Addr} {o o' : HO}
theorem Go.refl : Go Ts M H H := ⟨fun _ _ h _ => h, fun h => h⟩
theorem Go.trans (a : Go Ts M H H1) (b : Go Ts M H1 H2) : Go Ts M H H2 := ⟨fun c o h z => b.k c o (a.k c o h z) z, fun h => b.t (a.t h)⟩
theorem Go.mono (a : Go Ts M H H1) (h : ∀ b, M b → M' b) : Go Ts M' H H1 := ⟨fun c o hc z => a.k c o hc (z.elim .inl fun z => .inr ⟨z.1, fun y => z.2 (h c y)⟩), a.t⟩
theorem Go.any (a : Go Ts M0 H H1) : Go Ts M H H1 := a.mono fun _ h => h.elim
theorem Go.same (a : Same H H1) : Go Ts M H H1 := ⟨fun c o h _ => a c o h, fun h => h.ext a⟩
theorem Go.new (h : H p = none) : Go Ts M H (upd H p o) := .same fun b u e => by rw [upd_ne (ne_of_none e h)]; exact e
theorem Go.set (h : H p = some o) (h1 : Fix o = false) (h2 : Tb o = false) (hm : M p) : Go Ts M H (upd H p o') := by
  have key : ∀ b u, H b = some u → u ≠ o → (upd H p o') b = some u := fun b u e n => by
    rw [upd_ne fun z => n (by rw [z, h] at e; exact (Option.some.inj e).symm)]
    exact e
  refine ⟨fun b u e z => ?_, fun t q hq => ?_⟩
  · by_cases hb : b = p
    · subst hb
      rw [h] at e
      cases e
      rcases z with z | z
      · rw [h1] at z; cases z
      · exact absurd hm z.2
    · rw [upd_ne hb]; exact e
  · obtain ⟨ps, a1, a2, a3⟩ := t q hq
    refine ⟨ps, key _ _ a1 (fun z => by rw [← z] at h2; cases h2), a2, fun pos cv hc => ?_⟩
    obtain ⟨c, e, hcc⟩ := a3 pos cv hc
    exact ⟨c, e, key _ _ hcc (fun z => by rw [← z] at h1; cases h1)⟩
/-- changes of what H does not know -/
theorem Go.fresh (a : Go Ts M H H1) (b : Go Ts M' H1 H2) (h : ∀ b, M' b → H b = none) : Go Ts M H H2 :=
  ⟨fun c o hc z => b.k c o (a.k c o hc z) (z.elim .inl fun z => .inr ⟨z.1, fun y => by rw [h c y] at hc; cases hc⟩), fun h => b.t (a.t h)⟩
theorem Go.loc (a : Go Ts M H H1) (hp : H p = none) (b : Go Ts (fun b => b = p) H1 H2) : Go Ts M H H2 := a.fresh b fun b e => by rw [e]; exact hp
theorem Go.news (a : Go Ts M H H1) (h : H1 p = none) : Go Ts M H (upd H1 p o) := a.trans (.new h)
/-- a local list or dict is changed -/
theorem Go.put (a : Go Ts M H H1) (hp : H p = none) (h : H1 p = some o) (h1 : Fix o = false) (h2 : Tb o = false) : Go Ts M H (upd H1 p o') := a.loc hp (.set h h1 h2 rfl)
theorem Go.none_of (a : Go Ts M H H1) (h : H1 p = none) (hm : ¬ M p) (ht : ∀ ps, H p ≠ some (.tbl ps)) : H p = none := by
  cases e : H p with
  | none => rfl
  | some u =>
    have : Tb u = false := by cases u <;> first | rfl | exact absurd e (ht _)
    rw [a.k p u e (.inr ⟨this, hm⟩)] at h
    cases h
theorem Go.fix (a : Go Ts M H H1) {b : Addr} (h : H b = some o) (hf : Fix o = true) : H1 b = some o := a.k b o h (.inl hf)
theorem Go.tup (a : Go Ts M H H1) {b : Addr} {xs : List V} (h : H b = some (.tup xs)) : H1 b = some (.tup xs) := a.k b _ h (.inl rfl)
theorem Go.ins (a : Go Ts M H H1) {b C dx : Addr} {fs : List (Str × V)} (h : H b = some (.ins C dx fs)) : H1 b = some (.ins C dx fs) := a.k b _ h (.inl rfl)
theorem Go.lst (a : Go Ts M H H1) {b : Addr} {xs : List V} (h : H b = some (.lst xs)) (hm : ¬ M b) : H1 b = some (.lst xs) := a.k b _ h (.inr ⟨rfl, hm⟩)
theorem Go.dK (a : Go Ts M H H1) {b : Addr} {xs : List (Key × V)} (h : H b = some (.dK xs)) (hm : ¬ M b) : H1 b = some (.dK xs) := a.k b _ h (.inr ⟨rfl, hm⟩)
end
/-! ### a comprehension -/
theorem lc_go {Ts : Tbs} {M : MM} {J : It} {n : Nat} {G : Hp → Prop} {Y : Nat → Hp → V → Hp → Prop} (w : Walk J n G Y) {g : TG} {tt : L2.TT} {te : TE} {vs : List Nat} {σ : L2.St} {H1 : Hp} {D : Addr} {Qd : Hp → Prop} (hD : H1 D = none) (hn : n ≤ 50000) (hM : ∀ b, M b → H1 b ≠ none)
    (A : Nat → List V → Hp → Prop) (hA : ∀ i acc H H', A i acc H → Go Ts (fun b => b = D) H H' → A i acc H') (h0 : A 0 [] H1) (hG : ∀ i acc H, i ≤ n → A i acc H → G H)
    (hs : ∀ i acc x H H' (R1 : VK) (R2 : Hp → Prop), i < n → A i acc H → Y i H x H' → (∀ y H4, Go Ts M H H4 → A (i + 1) (acc ++ [y]) H4 → R1 y H4) → (∀ H3, Go Ts M H H3 → A (i + 1) acc H3 → R2 H3) →
      g x (wipe σ vs) H' fun σ2 H2 => wipe σ2 vs = wipe σ vs ∧ tt σ2 H2 fun b H3 => if b = true then te σ2 H3 R1 else R2 H3)
    (hd : ∀ acc H, A n acc H → H D = some (.lst acc) → acc.length ≤ n → Qd H) :
    ∃ W : Nat → Nat → Hp → Prop, (∃ m, W 0 m (upd H1 D (.lst []))) ∧ ∀ i m H, W i m H →
      (J.stop i H ∧ Qd H) ∨ (J.go i H ∧ ∃ Nx : Hp → Prop, (∀ H', Nx H' → ∃ m', m' < m ∧ W (i + 1) m' H') ∧ ∀ x H', J.yld i H x H' → g x (wipe σ vs) H' fun σ2 H2 => wipe σ2 vs = wipe σ vs ∧ tt σ2 H2 fun b H3 =>
        if b = true then te σ2 H3 fun y H4 => ∃ acc, H4 D = some (.lst acc) ∧ acc.length < sizeLine ∧ Nx (upd H4 D (.lst (acc ++ [y]))) else Nx H3) := by
  refine lc_it w (Pv := fun i H => ∃ acc, H D = some (.lst acc) ∧ acc.length ≤ i ∧ A i acc H) ⟨[], upd_same, Nat.le_refl _, hA 0 [] H1 _ h0 (.new hD)⟩ (fun i H hi ⟨acc, _, _, a⟩ => hG i acc H hi a) ?_ (fun H ⟨acc, h1, h2, a⟩ => hd acc H a h1 h2)
  rintro i x H H' hi ⟨acc, h1, h2, a⟩ y
  have nD : ¬ M D := fun z => hM D z hD
  refine hs i acc x H H' _ _ hi a y (fun y H4 g4 a4 => ?_) fun H3 g3 a3 => ⟨acc, g3.lst h1 nD, by omega, a3⟩
  have h4 := g4.lst h1 nD
  exact ⟨acc, h4, szl (by omega), acc ++ [y], upd_same, by rw [List.length_append]; simp; omega, hA _ _ _ _ a4 (.set h4 rfl rfl rfl)⟩
theorem m0_ne {H : Hp} : ∀ b, M0 b → H b ≠ none := fun _ h => h.elim
/-- the tables of the code objects that the law grows -/
def tbs (K : PySem.W.Frag) : Tbs := [((He.cT K ("with_kid", none)).2, "with_kid.<locals>.<lambda>"), ((He.cT K ("_law_good", none)).2, "_law_good.<locals>._law_maker"), ((He.cT K ("_law_bad", none)).2, "_law_bad.<locals>._law_maker"),
  ((He.cT K ("law", none)).2, "law.<locals>.<lambda>"), ((He.cT K ("_law_spared", none)).2, "_law_spared.<locals>.<lambda>"), ((He.cT K ("_law_shows_no_more", none)).2, "_law_shows_no_more.<locals>.<lambda>")]
abbrev Gz (K : PySem.W.Frag) (H H' : Hp) : Prop := Go (tbs K) M0 H H'
/-- what a def answers that changes nothing -/
def Ret (K : PySem.W.Frag) (v : V) (H : Hp) (Q : VK) : Prop := ∀ H', Gz K H H' → Q v H'
theorem Ret.at {K : PySem.W.Frag} {v : V} {H H1 : Hp} {Q : VK} (q : Ret K v H Q) (g : Gz K H H1) : Q v H1 := q H1 g
theorem Ret.here {K : PySem.W.Frag} {v : V} {H : Hp} {Q : VK} (q : Ret K v H Q) : Q v H := q H .refl
end Seal
namespace Seal
open PySem PySem.Spec PyProof.Rows L2 LamX NdefX
/-! ### either -/
theorem PE.or' {X : Cx} {e : Expr} {t t' : TE} (a : PE X e t) (b : PE X e t') : PE X e (fun σ H Q => t σ H Q ∨ t' σ H Q) := ⟨fun p s σ H Q i h => h.elim (a.run p s σ H Q i) (b.run p s σ H Q i)⟩
theorem PI.or' {X : Cx} {g e : Expr} {t t' : TI} (a : PI X g e t) (b : PI X g e t') : PI X g e (fun σ H Q => t σ H Q ∨ t' σ H Q) := ⟨fun p s σ H Q i h => h.elim (a.run p s σ H Q i) (b.run p s σ H Q i)⟩
theorem PA.or' {X : Cx} {es : List Expr} {t t' : TA} (a : PA X es t) (b : PA X es t') : PA X es (fun σ H Q => t σ H Q ∨ t' σ H Q) := ⟨fun q p s σ H Q i h => h.elim (a.run q p s σ H Q i) (b.run q p s σ H Q i)⟩
theorem cut_to {a : W} {m : Nat} : cutS (S a) none (some (m : Int)) = S (a.take m) := by
  unfold cutS HT.sIx
  rw [S_len, S_list]
  simp only [S, Nat.sub_zero, List.drop_zero]
  have : (if (m : Int) < 0 then ((m : Int) + ↑a.length).toNat else min (m : Int).toNat a.length) = min m a.length := by
    rw [if_neg (by omega)]; omega
  rw [this]
  congr 1
  congr 1
  rw [List.take_eq_take_iff]
  omega
theorem cut_from {a : W} {m : Nat} : cutS (S a) (some (m : Int)) none = S (a.drop m) := by
  unfold cutS HT.sIx
  rw [S_len, S_list]
  simp only [S]
  have : (if (m : Int) < 0 then ((m : Int) + ↑a.length).toNat else min (m : Int).toNat a.length) = min m a.length := by
    rw [if_neg (by omega)]; omega
  rw [this]
  congr 1
  congr 1
  rw [List.take_of_length_le (by simp)]
  by_cases h : m ≤ a.length
  · rw [Nat.min_eq_left h]
  · rw [Nat.min_eq_right (by omega), List.drop_of_length_le (Nat.le_refl _), List.drop_of_length_le (by omega)]
theorem cut_mid {a : W} {m n : Nat} : cutS (S a) (some (m : Int)) (some (n : Int)) = S ((a.drop m).take (n - m)) := by
  unfold cutS HT.sIx
  rw [S_len, S_list]
  simp only [S]
  have e : ∀ m : Nat, (if (m : Int) < 0 then ((m : Int) + ↑a.length).toNat else min (m : Int).toNat a.length) = min m a.length := fun m => by
    rw [if_neg (by omega)]; omega
  rw [e, e]
  congr 1
  congr 1
  by_cases h : m ≤ a.length
  · rw [Nat.min_eq_left h, List.take_eq_take_iff, List.length_drop]
    omega
  · rw [Nat.min_eq_right (by omega : a.length ≤ m), List.drop_of_length_le (Nat.le_refl _), List.drop_of_length_le (by omega)]
    simp
/-! ### what stands at the top -/
abbrev NA (K : PySem.W.Frag) : Addr := He.ga K "Node"
abbrev SA (K : PySem.W.Frag) : Addr := He.ga K "Stub"
abbrev PAd (K : PySem.W.Frag) : Addr := He.ga K "Part"
structure TyC (K : PySem.W.Frag) (C : Addr) : Prop where
  cl : Cls K C
  c1 : PySem.W.findIn K (.ref C) "__class__" = some (some (.builtin "object.__class__"))
  c2 : PySem.W.specialIn K (.builtin "object.__class__") "__get__" = some (some (.builtin "getset_descriptor.__get__"))
  c3 : PySem.W.takesIn K (.builtin "object.__class__") = some true
  c4 : PySem.W.mroIn K C (.type "object") = some true
theorem TyC.ty {K : PySem.W.Frag} {C a dx : Addr} {H : Hp} {fs : List (Str × V)} (c : TyC K C) (h : H a = some (.ins C dx fs)) : TyX K H (.ref a) (.ref C) := .base (.ins h c.cl c.c1 c.c2 c.c3 c.c4)
structure TX (K : PySem.W.Frag) (mg : Str → Option Value) : Prop where
  b_len : mg "len" = none
  b_isinstance : mg "isinstance" = none
  b_all : mg "all" = none
  b_min : mg "min" = none
  b_max : mg "max" = none
  b_str : mg "str" = none
  b_int : mg "int" = none
  b_bool : mg "bool" = none
  b_list : mg "list" = none
  b_tuple : mg "tuple" = none
  b_dict : mg "dict" = none
  b_set : mg "set" = none
  b_sorted : mg "sorted" = none
  b_range : mg "range" = none
  b_enumerate : mg "enumerate" = none
  b_abs : mg "abs" = none
  b_ord : mg "ord" = none
  b_ValueError : mg "ValueError" = none
  LETTERS : ∃ t, mg "LETTERS" = some (.str "abcdefghijklmnopqrstuvwxyz" t)
  FIRST : ∃ t, mg "FIRST" = some (.str "" t)
  MOST_LETTERS : ∃ t, mg "MOST_LETTERS" = some (.int 8 t)
  MOST_SIGNS : ∃ t, mg "MOST_SIGNS" = some (.int 40 t)
  MOST_NUMBER : ∃ t, mg "MOST_NUMBER" = some (.int 1000000000000000000000000000000 t)
  c_Node : mg "Node" = some (.ref (NA K))
  c_Stub : mg "Stub" = some (.ref (SA K))
  c_Part : mg "Part" = some (.ref (PAd K))
  tN : TyC K (NA K)
  tS : TyC K (SA K)
  mkN : Mk K (NA K) (He.ma K (NA K) "__init__")
  mkS : Mk K (SA K) (He.ma K (SA K) "__init__")
  nS : NoAttr K (NA K) "stem"
  nV : NoAttr K (NA K) "value"
  nK : NoAttr K (NA K) "kids"
  nN : NoAttr K (SA K) "number"
  kNP : PySem.W.kitOne K (.ref (NA K)) (.ref (PAd K)) = some true
  kSP : PySem.W.kitOne K (.ref (SA K)) (.ref (PAd K)) = some true
  kNS : PySem.W.kitOne K (.ref (NA K)) (.ref (SA K)) = some false
  kSS : PySem.W.kitOne K (.ref (SA K)) (.ref (SA K)) = some true
  kOS : PySem.W.kitOne K (.type "NoneType") (.ref (SA K)) = some false
  m_Nt : Meth K (NA K) "told" (He.ma K (NA K) "told")
  m_Ns : Meth K (NA K) "start" (He.ma K (NA K) "start")
  m_Nh : Meth K (NA K) "height" (He.ma K (NA K) "height")
  m_Nk : Meth K (NA K) "kid_at" (He.ma K (NA K) "kid_at")
  m_St : Meth K (SA K) "told" (He.ma K (SA K) "told")
  m_Sh : Meth K (SA K) "height" (He.ma K (SA K) "height")
/-! ### trees on the heap -/
def oS : Option W → V
  | none => .non
  | some x => .str (S x)
theorem oS_non {o : Option W} : decide (oS o = .non) = o.isNone := by cases o <;> rfl
inductive Prs {β : Type} (R : β → V → Prop) (H : Hp) : List (Nat × β) → List V → Prop
  | nil : Prs R H [] []
  | cons {l : Nat} {b : β} {p : Addr} {v : V} {r : List (Nat × β)} {xs : List V} (h : H p = some (.tup [.str (S [l]), v])) (hv : R b v) (t : Prs R H r xs) : Prs R H ((l, b) :: r) (.ref p :: xs)
section
variable {β : Type} {R R' : β → V → Prop} {H H' : Hp} {ks ks' : List (Nat × β)} {xs ys : List V}
theorem Prs.length (h : Prs R H ks xs) : xs.length = ks.length := by
  induction h with
  | nil => rfl
  | cons _ _ _ ih => simp [ih]
theorem Prs.at_ (h : Prs R H ks xs) {i : Nat} {x : V} (hx : xs[i]? = some x) : ∃ l b p v, ks[i]? = some (l, b) ∧ (l, b) ∈ ks ∧ x = .ref p ∧ H p = some (.tup [.str (S [l]), v]) ∧ R b v := by
  induction h generalizing i with
  | nil => simp at hx
  | cons h hv t ih =>
    cases i with
    | zero => simp at hx; exact ⟨_, _, _, _, rfl, List.mem_cons_self, hx.symm, h, hv⟩
    | succ i =>
      simp at hx
      obtain ⟨l, b, p, v, a, b', c⟩ := ih hx
      exact ⟨l, b, p, v, by simpa using a, List.mem_cons_of_mem _ b', c⟩
theorem Prs.snoc (h : Prs R H ks xs) {l : Nat} {b : β} {p : Addr} {v : V} (hp : H p = some (.tup [.str (S [l]), v])) (hv : R b v) : Prs R H (ks ++ [(l, b)]) (xs ++ [.ref p]) := by
  induction h with
  | nil => exact .cons hp hv .nil
  | cons h' hv' t ih => exact .cons h' hv' ih
theorem Prs.app (h : Prs R H ks xs) (h' : Prs R H ks' ys) : Prs R H (ks ++ ks') (xs ++ ys) := by
  induction h with
  | nil => exact h'
  | cons a b _ ih => exact .cons a b ih
theorem Prs.imp (h : Prs R H ks xs) (f : ∀ b ∈ ks, ∀ v, R b.2 v → R' b.2 v) (g : ∀ p vs, H p = some (.tup vs) → H' p = some (.tup vs)) : Prs R' H' ks xs := by
  induction h with
  | nil => exact .nil
  | cons a b _ ih => exact .cons (g _ _ a) (f _ List.mem_cons_self _ b) (ih fun c hc => f c (List.mem_cons_of_mem _ hc))
theorem Prs.one (h : Prs R H ks xs) {l : Nat} {b : β} (e : ks = [(l, b)]) : ∃ p v, xs = [.ref p] ∧ H p = some (.tup [.str (S [l]), v]) ∧ R b v := by
  subst e
  cases h with
  | cons a b t => cases t; exact ⟨_, _, rfl, a, b⟩
end
def Keep (H H' : Hp) : Prop := ∀ b o, H b = some o → Fix o = true → H' b = some o
theorem Go.keep {Ts : Tbs} {M : MM} {H H' : Hp} (g : Go Ts M H H') : Keep H H' := fun b o h f => g.k b o h (.inl f)
theorem Keep.tup {H H' : Hp} (g : Keep H H') {p : Addr} {vs : List V} (h : H p = some (.tup vs)) : H' p = some (.tup vs) := g p _ h rfl
theorem Keep.ins {H H' : Hp} (g : Keep H H') {p C dx : Addr} {vs : List (Str × V)} (h : H p = some (.ins C dx vs)) : H' p = some (.ins C dx vs) := g p _ h rfl
theorem Prs.keep {β : Type} {R R' : β → V → Prop} {H H' : Hp} {ks : List (Nat × β)} {xs : List V} (h : Prs R H ks xs) (f : ∀ b ∈ ks, ∀ v, R b.2 v → R' b.2 v) (g : Keep H H') : Prs R' H' ks xs := h.imp f fun _ _ => g.tup
mutual
def Rep (K : PySem.W.Frag) (H : Hp) : T → V → Prop
  | .stub n, v => ∃ a dx, v = .ref a ∧ H a = some (.ins (SA K) dx [("number", .int n)])
  | .node s o ks, v => ∃ a dx l xs, v = .ref a ∧ H a = some (.ins (NA K) dx [("stem", .str (S s)), ("value", oS o), ("kids", .ref l)]) ∧ H l = some (.tup xs) ∧ RepK K H ks xs
def RepK (K : PySem.W.Frag) (H : Hp) : List (Nat × T) → List V → Prop
  | [], xs => xs = []
  | (l, t) :: r, xs => ∃ p v xs', xs = .ref p :: xs' ∧ H p = some (.tup [.str (S [l]), v]) ∧ Rep K H t v ∧ RepK K H r xs'
end
theorem repK_iff {K : PySem.W.Frag} {H : Hp} : ∀ {ks : List (Nat × T)} {xs : List V}, RepK K H ks xs ↔ Prs (Rep K H) H ks xs
  | [], xs => by
    rw [RepK]
    exact ⟨fun h => h ▸ .nil, fun h => by cases h; rfl⟩
  | (l, t) :: r, xs => by
    rw [RepK]
    constructor
    · rintro ⟨p, v, xs', rfl, a, b, c⟩
      exact .cons a b (repK_iff.mp c)
    · intro h
      cases h with
      | cons a b c => exact ⟨_, _, _, rfl, a, b, repK_iff.mpr c⟩
theorem Rep.stub {K : PySem.W.Frag} {H : Hp} {n : Int} {v : V} : Rep K H (.stub n) v ↔ ∃ a dx, v = .ref a ∧ H a = some (.ins (SA K) dx [("number", .int n)]) := by rw [Rep]
theorem Rep.node {K : PySem.W.Frag} {H : Hp} {s : W} {o : Option W} {ks : List (Nat × T)} {v : V} : Rep K H (.node s o ks) v ↔ ∃ a dx l xs, v = .ref a ∧ H a = some (.ins (NA K) dx [("stem", .str (S s)), ("value", oS o), ("kids", .ref l)]) ∧ H l = some (.tup xs) ∧ Prs (Rep K H) H ks xs := by
  rw [Rep]
  simp only [repK_iff]
mutual
def RepD (H : Hp) : T → V → Prop
  | .stub n, v => ∃ a, v = .ref a ∧ H a = some (.tup [.str "stub", .int n])
  | .node s o ks, v => ∃ a l xs, v = .ref a ∧ H a = some (.tup [.str "node", .str (S s), oS o, .ref l]) ∧ H l = some (.tup xs) ∧ RepDK H ks xs
def RepDK (H : Hp) : List (Nat × T) → List V → Prop
  | [], xs => xs = []
  | (l, t) :: r, xs => ∃ p v xs', xs = .ref p :: xs' ∧ H p = some (.tup [.str (S [l]), v]) ∧ RepD H t v ∧ RepDK H r xs'
end
theorem repDK_iff {H : Hp} : ∀ {ks : List (Nat × T)} {xs : List V}, RepDK H ks xs ↔ Prs (RepD H) H ks xs
  | [], xs => by
    rw [RepDK]
    exact ⟨fun h => h ▸ .nil, fun h => by cases h; rfl⟩
  | (l, t) :: r, xs => by
    rw [RepDK]
    constructor
    · rintro ⟨p, v, xs', rfl, a, b, c⟩
      exact .cons a b (repDK_iff.mp c)
    · intro h
      cases h with
      | cons a b c => exact ⟨_, _, _, rfl, a, b, repDK_iff.mpr c⟩
theorem RepD.stub {H : Hp} {n : Int} {v : V} : RepD H (.stub n) v ↔ ∃ a, v = .ref a ∧ H a = some (.tup [.str "stub", .int n]) := by rw [RepD]
theorem RepD.node {H : Hp} {s : W} {o : Option W} {ks : List (Nat × T)} {v : V} : RepD H (.node s o ks) v ↔ ∃ a l xs, v = .ref a ∧ H a = some (.tup [.str "node", .str (S s), oS o, .ref l]) ∧ H l = some (.tup xs) ∧ Prs (RepD H) H ks xs := by
  rw [RepD]
  simp only [repDK_iff]
theorem Rep.keep {K : PySem.W.Frag} {H H' : Hp} (g : Keep H H') (t : T) : ∀ {v : V}, Rep K H t v → Rep K H' t v := by
  induction t using T.ind with
  | hs n =>
    intro v h
    obtain ⟨a, dx, e, h⟩ := Rep.stub.mp h
    exact Rep.stub.mpr ⟨a, dx, e, g.ins h⟩
  | hn s o ks ih =>
    intro v h
    obtain ⟨a, dx, l, xs, e, h, h1, h2⟩ := Rep.node.mp h
    exact Rep.node.mpr ⟨a, dx, l, xs, e, g.ins h, g.tup h1, h2.keep (fun b hb v hv => ih b hb hv) g⟩
theorem RepD.keep {H H' : Hp} (g : Keep H H') (t : T) : ∀ {v : V}, RepD H t v → RepD H' t v := by
  induction t using T.ind with
  | hs n =>
    intro v h
    obtain ⟨a, e, h⟩ := RepD.stub.mp h
    exact RepD.stub.mpr ⟨a, e, g.tup h⟩
  | hn s o ks ih =>
    intro v h
    obtain ⟨a, l, xs, e, h, h1, h2⟩ := RepD.node.mp h
    exact RepD.node.mpr ⟨a, l, xs, e, g.tup h, g.tup h1, h2.keep (fun b hb v hv => ih b hb hv) g⟩
/-- the pairs of a list of parts -/
abbrev RepP (K : PySem.W.Frag) (H : Hp) : List (Nat × T) → List V → Prop := Prs (Rep K H) H
theorem RepP.keep {K : PySem.W.Frag} {H H' : Hp} {ks : List (Nat × T)} {xs : List V} (g : Keep H H') (h : RepP K H ks xs) : RepP K H' ks xs := Prs.keep h (fun _ _ _ => Rep.keep g _) g
abbrev RepQ (H : Hp) : List (Nat × T) → List V → Prop := Prs (RepD H) H
theorem RepQ.keep {H H' : Hp} {ks : List (Nat × T)} {xs : List V} (g : Keep H H') (h : RepQ H ks xs) : RepQ H' ks xs := Prs.keep h (fun _ _ _ => RepD.keep g _) g
def RepO (K : PySem.W.Frag) (H : Hp) : Option T → V → Prop
  | none, v => v = .non
  | some t, v => Rep K H t v
theorem RepO.keep {K : PySem.W.Frag} {H H' : Hp} (g : Keep H H') {o : Option T} {v : V} (h : RepO K H o v) : RepO K H' o v := by
  cases o with
  | none => exact h
  | some t => exact Rep.keep g t h
def RepDO (H : Hp) : Option T → V → Prop
  | none, v => v = .non
  | some t, v => RepD H t v
theorem RepDO.keep {H H' : Hp} (g : Keep H H') {o : Option T} {v : V} (h : RepDO H o v) : RepDO H' o v := by
  cases o with
  | none => exact h
  | some t => exact RepD.keep g t h
theorem Rep.ref {K : PySem.W.Frag} {H : Hp} {t : T} {v : V} (h : Rep K H t v) : ∃ a, v = .ref a := by
  cases t with
  | stub n => obtain ⟨a, _, e, _⟩ := Rep.stub.mp h; exact ⟨a, e⟩
  | node s o ks => obtain ⟨a, _, _, _, e, _⟩ := Rep.node.mp h; exact ⟨a, e⟩
theorem RepO.non {K : PySem.W.Frag} {H : Hp} {o : Option T} {v : V} (h : RepO K H o v) : decide (v = .non) = o.isNone := by
  cases o with
  | none => rw [show v = .non from h]; rfl
  | some t => obtain ⟨a, rfl⟩ := Rep.ref h; rfl
theorem up_few : ∀ {β : Type} (ks : List (Nat × β)) (m : Nat), Up ks → (∀ p ∈ ks, m ≤ p.1 ∧ p.1 ≤ 122) → ks.length ≤ 123 - m
  | _, [], m, _, _ => by simp
  | β, (l, b) :: ks, m, u, h => by
    have h1 := h (l, b) List.mem_cons_self
    have := up_few ks (l + 1) (List.pairwise_cons.mp u).2 fun p hp => ⟨(List.pairwise_cons.mp u).1 p hp, (h p (List.mem_cons_of_mem _ hp)).2⟩
    simp at h1 ⊢
    omega
theorem up_kids {β : Type} {ks : List (Nat × β)} (u : Up ks) (h : ∀ p ∈ ks, Lt p.1) : ks.length ≤ 26 := up_few ks 97 u h
theorem wf_few26 {s : W} {o : Option W} {ks : List (Nat × T)} (h : Wf (.node s o ks)) : ks.length ≤ 26 := up_kids (Wf.node.mp h).2.2.1 fun p hp => ((Wf.node.mp h).2.2.2.2 p hp).1
theorem wf_few {s : W} {o : Option W} {ks : List (Nat × T)} (h : Wf (.node s o ks)) : ks.length ≤ 1000 := by have := wf_few26 h; omega
/-! ### a list or a tuple -/
def Seq (H : Hp) (v : V) (xs : List V) : Prop := ∃ a, v = .ref a ∧ (H a = some (.tup xs) ∨ H a = some (.lst xs))
theorem Seq.go {K : PySem.W.Frag} {H H' : Hp} {v : V} {xs : List V} (h : Seq H v xs) (g : Go (tbs K) M0 H H') : Seq H' v xs := by
  obtain ⟨a, rfl, h⟩ := h
  exact ⟨a, rfl, h.imp (fun h => g.k a _ h (.inl rfl)) (fun h => g.k a _ h (.inr ⟨rfl, id⟩))⟩
def Stay (v : V) (H H' : Hp) : Prop := ∀ a, v = .ref a → H' a = H a
theorem Seq.stay {K : PySem.W.Frag} {H H1 H2 : Hp} {v : V} {xs : List V} (h : Seq H v xs) (g : Gz K H H1) (g' : Gz K H H2) : Stay v H1 H2 := by
  obtain ⟨a, rfl, h⟩ := h
  intro b e
  cases e
  rcases h with h | h
  · rw [g.tup h, g'.tup h]
  · rw [g.lst h id, g'.lst h id]
theorem seq_var {K : PySem.W.Frag} {i : Nat} {σ : L2.St} {H : Hp} {R : It → Hp → Prop} {v : V} {xs : List V} (hσ : σ[i]? = some (some v)) (h : Seq H v xs) (hR : ∀ J Gd, Walk J xs.length Gd (YAt xs) → (∀ H', Stay v H H' → Gd H') → R J H) : iTup K (tVar i) σ H R ∨ iList K (tVar i) σ H R := by
  obtain ⟨a, rfl, h | h⟩ := h
  · exact .inl ⟨_, hσ, a, rfl, ⟨xs, .of h⟩, hR _ _ walk_tup fun H' e => .of (by rw [e a rfl, h])⟩
  · exact .inr ⟨_, hσ, a, rfl, ⟨xs, .of h⟩, hR _ _ walk_list fun H' e => .of (by rw [e a rfl, h])⟩
def hide (x : Addr) (H : Hp) : Hp := fun b => if b = x then none else H b
theorem hide_ne {x b : Addr} {H : Hp} (h : b ≠ x) : hide x H b = H b := if_neg h
theorem hide_at {x : Addr} {H : Hp} : hide x H x = none := if_pos rfl
theorem hide_upd {x : Addr} {H : Hp} {o : HO} : hide x (upd H x o) = hide x H := by
  funext b
  by_cases h : b = x
  · rw [h, hide_at, hide_at]
  · rw [hide_ne h, hide_ne h, upd_ne h]
theorem hide_new {x : Addr} {H : Hp} {o : HO} (h : H x = none) : hide x (upd H x o) = H := by
  funext b
  by_cases e : b = x
  · rw [e, hide_at, h]
  · rw [hide_ne e, upd_ne e]
theorem hide_put {x : Addr} {H : Hp} {o : HO} (h : H x = some o) : upd (hide x H) x o = H := by
  funext b
  by_cases e : b = x
  · rw [e, upd_same, h]
  · rw [upd_ne e, hide_ne e]
theorem hide_tabs {Ts : Tbs} {x : Addr} {H : Hp} {o : HO} (h : H x = some o) (h1 : Tb o = false) (h2 : ∀ phi, o ≠ .ext phi) (t : Tabs Ts H) : Tabs Ts (hide x H) := by
  intro q hq
  obtain ⟨ps, a1, a2, a3⟩ := t q hq
  refine ⟨ps, ?_, a2, fun pos cv hc => ?_⟩
  · rw [hide_ne (fun e => ?_)]
    · exact a1
    · rw [e, h] at a1
      cases a1
      cases h1
  · obtain ⟨c, e, hcc⟩ := a3 pos cv hc
    refine ⟨c, e, ?_⟩
    rw [hide_ne (fun z => ?_)]
    · exact hcc
    · rw [z, h] at hcc
      cases hcc
      exact h2 _ rfl
theorem hide_go {K : PySem.W.Frag} {x C dx : Addr} {fs : List (Str × V)} {H H' : Hp} (h : H x = some (.ins C dx fs)) (g : Gz K H H') : Gz K (hide x H) (hide x H') := by
  refine ⟨fun b o e z => ?_, fun t => ?_⟩
  · by_cases hb : b = x
    · rw [hb, hide_at] at e; cases e
    · rw [hide_ne hb] at e ⊢
      exact g.k b o e z
  · refine hide_tabs (g.ins h) rfl (fun _ z => by cases z) (g.t ?_)
    have := t.ext (H' := H) fun b o e => ?_
    · exact this
    · by_cases hb : b = x
      · rw [hb, hide_at] at e; cases e
      · rw [hide_ne hb] at e; exact e
/-- a new instance is made -/
theorem made {K : PySem.W.Frag} {H H' : Hp} {x dx C : Addr} {fs : List (Str × V)} {o : HO} (hx : H x = none) (hd : H dx = none) (hne : dx ≠ x) (h : H' x = some o) (g : Gz K (hide x (upd (upd H dx (.own x)) x (.ins C dx fs))) (hide x H')) : Gz K H H' := by
  rw [hide_new (by rw [upd_ne hne.symm]; exact hx)] at g
  have := (Go.new (Ts := tbs K) (M := M0) (o := .own x) hd).trans g
  have g2 := this.trans (Go.new (Ts := tbs K) (M := M0) (p := x) (o := o) hide_at)
  rwa [hide_put h] at g2
/-! ### defs by name -/
structure Fn1 (K : PySem.W.Frag) (mg : Str → Option Value) (x : Str) (st : Stmt) : Prop where
  g : mg x = some (.ref (He.ga K x))
  fn : ∃ fd, FnP K x st fd
abbrev FnA (K : PySem.W.Frag) (x q : Str) (f : Addr) (st : Stmt) (fd : FuncData) : Prop := FunD K x q (defArgs st) (defBody st) (defScope st) [] [] f fd
/-- how the arguments come to the names -/
def BindQ (x q : Str) (st : Stmt) (ps : List Str) : Prop := ∀ (kV doc pm : Value) (an : Option Addr) (cdv ct : Value) (us : List Value), us.length = ps.length → bindArgs (PySem.W.fnOf x q (defArgs st) (defBody st) (defScope st) Value.none kV doc pm an cdv ct) { pos := us } = pure (List.zip ps us)
section
variable {P : Program} {w : World} {K : PySem.W.Frag} {mg : Str → Option Value} {base : Heap} {k : Nat} {sp : Sp} {N ps : List Str} {st : Stmt} {x : Str}
theorem Fn1.mk0 (n : Fn1 K mg x st) (sc : FnScope N ps (defScope st)) (hb : BindQ x x st ps) (hl : ∀ vs H Q E, sp vs H Q E → vs.length = ps.length)
    (hw : ∀ (cdv : Value) (A : Around) (outer : List Env) (s : Shared) (H : Hp) (vs : List V) (Q : VK) (E : XK), Room k (A.deeper (envOfC x (defScope st) s.heap.objs.size (He.ga K x) cdv)) → sp vs H Q E →
      ∃ t, PSs (cxOf CX0 P w K mg base N x (defScope st) (He.ga K x) cdv A outer s H E).nox (defBody st) t ∧ t { nx := fun _ H' => Q .non H', rt := Q } (L2.start N vs) H) : Def P w K mg base CX0 (k + 1) x ps sp := by
  obtain ⟨fd, F⟩ := n.fn
  refine ⟨n.g, F.kp, fd, F.bindsN hb, F.ok sc hl fun cdv A outer s H vs Q E hr h => ?_⟩
  obtain ⟨t, a, b⟩ := hw cdv A outer s H vs Q E hr h
  exact ⟨t, PSs.nox a, b⟩
theorem Fn1.mkX (n : Fn1 K mg x st) (sc : FnScope N ps (defScope st)) (hb : BindQ x x st ps) (hl : ∀ vs H Q E, sp vs H Q E → vs.length = ps.length)
    (hw : ∀ (cdv : Value) (A : Around) (outer : List Env) (s : Shared) (H : Hp) (vs : List V) (Q : VK) (E : XK), Room k (A.deeper (envOfC x (defScope st) s.heap.objs.size (He.ga K x) cdv)) → sp vs H Q E →
      ∃ t, PSs (cxOf (CX P w) P w K mg base N x (defScope st) (He.ga K x) cdv A outer s H E) (defBody st) t ∧ t { nx := fun _ H' => Q .non H', rt := Q } (L2.start N vs) H) : Def P w K mg base (CX P w) (k + 1) x ps sp := by
  obtain ⟨fd, F⟩ := n.fn
  exact ⟨n.g, F.kp, fd, F.bindsN hb, F.ok sc hl hw⟩
/-- before the first depth -/
theorem Fn1.no0 (n : Fn1 K mg x st) (sc : FnScope N ps (defScope st)) (hb : BindQ x x st ps) : Def P w K mg base CX0 1 x ps (fun _ _ _ _ => False) := by
  obtain ⟨fd, F⟩ := n.fn
  exact ⟨n.g, F.kp, fd, F.bindsN hb, F.ok (k := 0) sc (fun _ _ _ _ h => h.elim) fun _ _ _ _ _ _ _ _ _ h => h.elim⟩
theorem Fn1.noX (n : Fn1 K mg x st) (sc : FnScope N ps (defScope st)) (hb : BindQ x x st ps) : Def P w K mg base (CX P w) 1 x ps (fun _ _ _ _ => False) := by
  obtain ⟨fd, F⟩ := n.fn
  exact ⟨n.g, F.kp, fd, F.bindsN hb, F.ok (k := 0) sc (fun _ _ _ _ h => h.elim) fun _ _ _ _ _ _ _ _ _ h => h.elim⟩
end
/-- a method by its class -/
structure DefM (P : Program) (w : World) (K : PySem.W.Frag) (mg : Str → Option Value) (base : Heap) (k : Nat) (C m : Str) (ps : List Str) (sp : Sp) : Prop where
  fn : ∃ fd, Binds K fd ps [] ∧ FnOk P w K mg base CX0 k (He.ma K (He.ga K C) m) fd ps sp
structure FnM1 (K : PySem.W.Frag) (C m q : Str) (st : Stmt) : Prop where
  fn : ∃ fd, FnM K C m q st fd
section
variable {P : Program} {w : World} {K : PySem.W.Frag} {mg : Str → Option Value} {base : Heap} {k : Nat} {sp sp' : Sp} {N ps : List Str} {st : Stmt} {C m q : Str}
theorem DefM.mono {j : Nat} (D : DefM P w K mg base j C m ps sp) (h : j ≤ k) : DefM P w K mg base k C m ps sp := ⟨let ⟨fd, b, F⟩ := D.fn; ⟨fd, b, F.mono h⟩⟩
theorem FnM1.mk0 (n : FnM1 K C m q st) (sc : FnScope N ps (defScope st)) (hb : BindQ m q st ps) (hl : ∀ vs H Q E, sp vs H Q E → vs.length = ps.length)
    (hw : ∀ (cdv : Value) (A : Around) (outer : List Env) (s : Shared) (H : Hp) (vs : List V) (Q : VK) (E : XK), Room k (A.deeper (envOfC q (defScope st) s.heap.objs.size (He.ma K (He.ga K C) m) cdv)) → sp vs H Q E →
      ∃ t, PSs (cxOf CX0 P w K mg base N q (defScope st) (He.ma K (He.ga K C) m) cdv A outer s H E).nox (defBody st) t ∧ t { nx := fun _ H' => Q .non H', rt := Q } (L2.start N vs) H) : DefM P w K mg base (k + 1) C m ps sp := by
  obtain ⟨fd, F⟩ := n.fn
  refine ⟨fd, F.bindsN hb, F.ok sc hl fun cdv A outer s H vs Q E hr h => ?_⟩
  obtain ⟨t, a, b⟩ := hw cdv A outer s H vs Q E hr h
  exact ⟨t, PSs.nox a, b⟩
theorem FnM1.no0 (n : FnM1 K C m q st) (sc : FnScope N ps (defScope st)) (hb : BindQ m q st ps) : DefM P w K mg base 1 C m ps (fun _ _ _ _ => False) := by
  obtain ⟨fd, F⟩ := n.fn
  exact ⟨fd, F.bindsN hb, F.ok (k := 0) sc (fun _ _ _ _ h => h.elim) fun _ _ _ _ _ _ _ _ _ h => h.elim⟩
end
section
variable {X : Cx} {k : Nat} {C m : Str} {ps : List Str} {sp : Sp} {pos apos : Pos} {o e : Expr} {es : List Expr} {ta : TE} {t : TA} {pl : Sem Bool}
theorem pe_md0 (ho : PE X o ta) (c : Cls X.K (He.ga X.K C)) (hm : Meth X.K (He.ga X.K C) m (He.ma X.K (He.ga X.K C) m)) (D : DefM X.prog X.w X.K X.mg X.base k C m ps sp) (hr : Room k X.A)
    (hev : eval (.Call (.Attribute o m apos) [] [] pos) X.env = (do
        let ov ← eval o X.env
        standAt apos.atName
        let (f, first) ← holding [ov] (getMethod ov m pl)
        callWith pos f first (backTo pos (starEach [] X.env)) (backToKw pos (keywordEach [] X.env))) := by rfl) :
    PE X (.Call (.Attribute o m apos) [] [] pos) (tMeth (He.ga X.K C) m sp [] E0 ta tNil) := by
  obtain ⟨fd, b, F⟩ := D.fn
  exact pe_meth0 (pl := pl) ho c hm F hr b .nil pass0 hev
theorem pe_md1 (ho : PE X o ta) (c : Cls X.K (He.ga X.K C)) (hm : Meth X.K (He.ga X.K C) m (He.ma X.K (He.ga X.K C) m)) (D : DefM X.prog X.w X.K X.mg X.base k C m ps sp) (hr : Room k X.A) (ha : PA X (e :: es) t)
    (he : starEach (e :: es) X.env = (false, eval e X.env) :: starEach es X.env := by rfl) (hpl : (backTo pos (starEach es X.env)).any (·.1) = false := by rfl)
    (hev : eval (.Call (.Attribute o m apos) (e :: es) [] pos) X.env = (do
        let ov ← eval o X.env
        standAt apos.atName
        let (f, first) ← holding [ov] (getMethod ov m pl)
        callWith pos f first (backTo pos (starEach (e :: es) X.env)) (backToKw pos (keywordEach [] X.env))) := by rfl) :
    PE X (.Call (.Attribute o m apos) (e :: es) [] pos) (tMeth (He.ga X.K C) m sp [] E0 ta t) := by
  obtain ⟨fd, b, F⟩ := D.fn
  exact pe_meth (pl := pl) ho c hm F hr b .nil pass0 ha he hpl hev
/-- C(e, ..) -/
theorem pe_mk (M : Mk X.K (He.ga X.K C) (He.ma X.K (He.ga X.K C) "__init__")) (D : DefM X.prog X.w X.K X.mg X.base k C "__init__" ps sp) (hr : Room (k + 1) X.A) {p : Pos} (hg : Gl X C) (hm : X.mg C = some (.ref (He.ga X.K C))) (ha : PA X (e :: es) t)
    (hdb : (C == ("__debug__" : Str)) = false := by decide)
    (he : starEach (e :: es) X.env = (false, eval e X.env) :: starEach es X.env := by rfl) (hpl : (backTo pos (starEach es X.env)).any (·.1) = false := by rfl) :
    PE X (.Call (.Name C p) (e :: es) [] pos) (tMake (He.ga X.K C) sp [] E0 t) := by
  obtain ⟨fd, b, F⟩ := D.fn
  exact pe_make M F hr hg hm b .nil pass0 ha hdb he hpl
end
end Seal
namespace Seal
open PySem PySem.Spec PyProof.Rows L2 LamX NdefX
/-! ### the head: facts by names, the run -/
def d_NoKey_init : He.DefD := ⟨("NoKey", some "__init__"), "__init__", "NoKey.__init__", defArgs s_NoKey_init, defBody s_NoKey_init, defScope s_NoKey_init, [], []⟩
def d_Unseen_init : He.DefD := ⟨("Unseen", some "__init__"), "__init__", "Unseen.__init__", defArgs s_Unseen_init, defBody s_Unseen_init, defScope s_Unseen_init, [], []⟩
def d_is_key : He.DefD := ⟨("is_key", none), "is_key", "is_key", defArgs s_is_key, defBody s_is_key, defScope s_is_key, [], []⟩
def d_is_value : He.DefD := ⟨("is_value", none), "is_value", "is_value", defArgs s_is_value, defBody s_is_value, defScope s_is_value, [], []⟩
def d_is_number : He.DefD := ⟨("is_number", none), "is_number", "is_number", defArgs s_is_number, defBody s_is_number, defScope s_is_number, [], []⟩
def d_need_key : He.DefD := ⟨("need_key", none), "need_key", "need_key", defArgs s_need_key, defBody s_need_key, defScope s_need_key, [], []⟩
def d_need_value : He.DefD := ⟨("need_value", none), "need_value", "need_value", defArgs s_need_value, defBody s_need_value, defScope s_need_value, [], []⟩
def d_shared_start : He.DefD := ⟨("shared_start", none), "shared_start", "shared_start", defArgs s_shared_start, defBody s_shared_start, defScope s_shared_start, [], []⟩
def d_Part_eq : He.DefD := ⟨("Part", some "__eq__"), "__eq__", "Part.__eq__", defArgs s_Part_eq, defBody s_Part_eq, defScope s_Part_eq, [], []⟩
def d_Node_init : He.DefD := ⟨("Node", some "__init__"), "__init__", "Node.__init__", defArgs s_Node_init, defBody s_Node_init, defScope s_Node_init, [], []⟩
def d_Node_told : He.DefD := ⟨("Node", some "told"), "told", "Node.told", defArgs s_Node_told, defBody s_Node_told, defScope s_Node_told, [], []⟩
def d_Node_start : He.DefD := ⟨("Node", some "start"), "start", "Node.start", defArgs s_Node_start, defBody s_Node_start, defScope s_Node_start, [], []⟩
def d_Node_height : He.DefD := ⟨("Node", some "height"), "height", "Node.height", defArgs s_Node_height, defBody s_Node_height, defScope s_Node_height, [], []⟩
def d_Node_kid_at : He.DefD := ⟨("Node", some "kid_at"), "kid_at", "Node.kid_at", defArgs s_Node_kid_at, defBody s_Node_kid_at, defScope s_Node_kid_at, [], []⟩
def d_Stub_init : He.DefD := ⟨("Stub", some "__init__"), "__init__", "Stub.__init__", defArgs s_Stub_init, defBody s_Stub_init, defScope s_Stub_init, [], []⟩
def d_Stub_told : He.DefD := ⟨("Stub", some "told"), "told", "Stub.told", defArgs s_Stub_told, defBody s_Stub_told, defScope s_Stub_told, [], []⟩
def d_Stub_height : He.DefD := ⟨("Stub", some "height"), "height", "Stub.height", defArgs s_Stub_height, defBody s_Stub_height, defScope s_Stub_height, [], []⟩
def d_are_kids : He.DefD := ⟨("are_kids", none), "are_kids", "are_kids", defArgs s_are_kids, defBody s_are_kids, defScope s_are_kids, [], []⟩
def d_is_tree : He.DefD := ⟨("is_tree", none), "is_tree", "is_tree", defArgs s_is_tree, defBody s_is_tree, defScope s_is_tree, [], []⟩
def d_need_tree : He.DefD := ⟨("need_tree", none), "need_tree", "need_tree", defArgs s_need_tree, defBody s_need_tree, defScope s_need_tree, [], []⟩
def d_part_of : He.DefD := ⟨("part_of", none), "part_of", "part_of", defArgs s_part_of, defBody s_part_of, defScope s_part_of, [], []⟩
def d_kid_of : He.DefD := ⟨("kid_of", none), "kid_of", "kid_of", defArgs s_kid_of, defBody s_kid_of, defScope s_kid_of, [], []⟩
def d_written : He.DefD := ⟨("written", none), "written", "written", defArgs s_written, defBody s_written, defScope s_written, [], []⟩
def d_text_of : He.DefD := ⟨("text_of", none), "text_of", "text_of", defArgs s_text_of, defBody s_text_of, defScope s_text_of, [], []⟩
def d_number_of : He.DefD := ⟨("number_of", none), "number_of", "number_of", defArgs s_number_of, defBody s_number_of, defScope s_number_of, [], []⟩
def d_as_stub : He.DefD := ⟨("as_stub", none), "as_stub", "as_stub", defArgs s_as_stub, defBody s_as_stub, defScope s_as_stub, [], []⟩
def d_need_root : He.DefD := ⟨("need_root", none), "need_root", "need_root", defArgs s_need_root, defBody s_need_root, defScope s_need_root, [], []⟩
def d_need_seen : He.DefD := ⟨("need_seen", none), "need_seen", "need_seen", defArgs s_need_seen, defBody s_need_seen, defScope s_need_seen, [], []⟩
def d_with_kid : He.DefD := ⟨("with_kid", none), "with_kid", "with_kid", defArgs s_with_kid, defBody s_with_kid, defScope s_with_kid, [], []⟩
def d_joined_up : He.DefD := ⟨("joined_up", none), "joined_up", "joined_up", defArgs s_joined_up, defBody s_joined_up, defScope s_joined_up, [], []⟩
def d_got : He.DefD := ⟨("got", none), "got", "got", defArgs s_got, defBody s_got, defScope s_got, [], []⟩
def d_put : He.DefD := ⟨("put", none), "put", "put", defArgs s_put, defBody s_put, defScope s_put, [], []⟩
def d_put_in : He.DefD := ⟨("put_in", none), "put_in", "put_in", defArgs s_put_in, defBody s_put_in, defScope s_put_in, [], []⟩
def d_parted : He.DefD := ⟨("parted", none), "parted", "parted", defArgs s_parted, defBody s_parted, defScope s_parted, [], []⟩
def d_drop : He.DefD := ⟨("drop", none), "drop", "drop", defArgs s_drop, defBody s_drop, defScope s_drop, [], []⟩
def d_drop_in : He.DefD := ⟨("drop_in", none), "drop_in", "drop_in", defArgs s_drop_in, defBody s_drop_in, defScope s_drop_in, [], []⟩
def d_tree_of : He.DefD := ⟨("tree_of", none), "tree_of", "tree_of", defArgs s_tree_of, defBody s_tree_of, defScope s_tree_of, [], []⟩
def d_tree_under : He.DefD := ⟨("tree_under", none), "tree_under", "tree_under", defArgs s_tree_under, defBody s_tree_under, defScope s_tree_under, [], []⟩
def d_is_deed : He.DefD := ⟨("is_deed", none), "is_deed", "is_deed", defArgs s_is_deed, defBody s_is_deed, defScope s_is_deed, [], []⟩
def d_need_deeds : He.DefD := ⟨("need_deeds", none), "need_deeds", "need_deeds", defArgs s_need_deeds, defBody s_need_deeds, defScope s_need_deeds, [], []⟩
def d_done : He.DefD := ⟨("done", none), "done", "done", defArgs s_done, defBody s_done, defScope s_done, [], []⟩
def d_shown_at : He.DefD := ⟨("shown_at", none), "shown_at", "shown_at", defArgs s_shown_at, defBody s_shown_at, defScope s_shown_at, [], []⟩
def d_needed : He.DefD := ⟨("needed", none), "needed", "needed", defArgs s_needed, defBody s_needed, defScope s_needed, [], []⟩
def d_root_behind : He.DefD := ⟨("root_behind", none), "root_behind", "root_behind", defArgs s_root_behind, defBody s_root_behind, defScope s_root_behind, [], []⟩
def d_L_begun : He.DefD := ⟨("_law_begun", none), "_law_begun", "_law_begun", defArgs s_L_begun, defBody s_L_begun, defScope s_L_begun, [], []⟩
def d_L_draw : He.DefD := ⟨("_law_draw", none), "_law_draw", "_law_draw", defArgs s_L_draw, defBody s_L_draw, defScope s_L_draw, [], []⟩
def d_L_letters : He.DefD := ⟨("_law_letters", none), "_law_letters", "_law_letters", defArgs s_L_letters, defBody s_L_letters, defScope s_L_letters, [], []⟩
def d_L_key : He.DefD := ⟨("_law_key", none), "_law_key", "_law_key", defArgs s_L_key, defBody s_L_key, defScope s_L_key, [], []⟩
def d_L_value : He.DefD := ⟨("_law_value", none), "_law_value", "_law_value", defArgs s_L_value, defBody s_L_value, defScope s_L_value, [], []⟩
def d_L_content : He.DefD := ⟨("_law_content", none), "_law_content", "_law_content", defArgs s_L_content, defBody s_L_content, defScope s_L_content, [], []⟩
def d_L_tree : He.DefD := ⟨("_law_tree", none), "_law_tree", "_law_tree", defArgs s_L_tree, defBody s_L_tree, defScope s_L_tree, [], []⟩
def d_L_told : He.DefD := ⟨("_law_told", none), "_law_told", "_law_told", defArgs s_L_told, defBody s_L_told, defScope s_L_told, [], []⟩
def d_L_word : He.DefD := ⟨("_law_word", none), "_law_word", "_law_word", defArgs s_L_word, defBody s_L_word, defScope s_L_word, [], []⟩
def d_L_tried : He.DefD := ⟨("_law_tried", none), "_law_tried", "_law_tried", defArgs s_L_tried, defBody s_L_tried, defScope s_L_tried, [], []⟩
def d_L_good : He.DefD := ⟨("_law_good", none), "_law_good", "_law_good", defArgs s_L_good, defBody s_L_good, defScope s_L_good, [], []⟩
def d_L_bad : He.DefD := ⟨("_law_bad", none), "_law_bad", "_law_bad", defArgs s_L_bad, defBody s_L_bad, defScope s_L_bad, [], []⟩
def d_L_text : He.DefD := ⟨("_law_text", none), "_law_text", "_law_text", defArgs s_L_text, defBody s_L_text, defScope s_L_text, [], []⟩
def d_L_number : He.DefD := ⟨("_law_number", none), "_law_number", "_law_number", defArgs s_L_number, defBody s_L_number, defScope s_L_number, [], []⟩
def d_L_walk : He.DefD := ⟨("_law_walk", none), "_law_walk", "_law_walk", defArgs s_L_walk, defBody s_L_walk, defScope s_L_walk, [], []⟩
def d_L_lone : He.DefD := ⟨("_law_lone", none), "_law_lone", "_law_lone", defArgs s_L_lone, defBody s_L_lone, defScope s_L_lone, [], []⟩
def d_L_ways : He.DefD := ⟨("_law_ways", none), "_law_ways", "_law_ways", defArgs s_L_ways, defBody s_L_ways, defScope s_L_ways, [], []⟩
def d_L_shown : He.DefD := ⟨("_law_shown", none), "_law_shown", "_law_shown", defArgs s_L_shown, defBody s_L_shown, defScope s_L_shown, [], []⟩
def d_L_row : He.DefD := ⟨("_law_row", none), "_law_row", "_law_row", defArgs s_L_row, defBody s_L_row, defScope s_L_row, [], []⟩
def d_L_behind : He.DefD := ⟨("_law_behind", none), "_law_behind", "_law_behind", defArgs s_L_behind, defBody s_L_behind, defScope s_L_behind, [], []⟩
def d_L_come_to : He.DefD := ⟨("_law_come_to", none), "_law_come_to", "_law_come_to", defArgs s_L_come_to, defBody s_L_come_to, defScope s_L_come_to, [], []⟩
def d_L_spared : He.DefD := ⟨("_law_spared", none), "_law_spared", "_law_spared", defArgs s_L_spared, defBody s_L_spared, defScope s_L_spared, [], []⟩
def d_L_shows_no_more : He.DefD := ⟨("_law_shows_no_more", none), "_law_shows_no_more", "_law_shows_no_more", defArgs s_L_shows_no_more, defBody s_L_shows_no_more, defScope s_L_shows_no_more, [], []⟩
def d_law : He.DefD := ⟨("law", none), "law", "law", defArgs s_law, defBody s_law, defScope s_law, [], []⟩
def fn : List He.DefD := [d_NoKey_init, d_Unseen_init, d_is_key, d_is_value, d_is_number, d_need_key, d_need_value, d_shared_start, d_Part_eq, d_Node_init, d_Node_told, d_Node_start, d_Node_height, d_Node_kid_at, d_Stub_init, d_Stub_told, d_Stub_height, d_are_kids, d_is_tree, d_need_tree, d_part_of, d_kid_of, d_written, d_text_of, d_number_of, d_as_stub, d_need_root, d_need_seen, d_with_kid, d_joined_up, d_got, d_put, d_put_in, d_parted, d_drop, d_drop_in, d_tree_of, d_tree_under, d_is_deed, d_need_deeds, d_done, d_shown_at, d_needed, d_root_behind, d_L_begun, d_L_draw, d_L_letters, d_L_key, d_L_value, d_L_content, d_L_tree, d_L_told, d_L_word, d_L_tried, d_L_good, d_L_bad, d_L_text, d_L_number, d_L_walk, d_L_lone, d_L_ways, d_L_shown, d_L_row, d_L_behind, d_L_come_to, d_L_spared, d_L_shows_no_more, d_law]
def fa : List He.Fa := [.glo "is_key", .glo "is_value", .glo "is_number", .glo "need_key", .glo "need_value", .glo "shared_start", .glo "are_kids", .glo "is_tree", .glo "need_tree", .glo "part_of", .glo "kid_of", .glo "written", .glo "text_of", .glo "number_of", .glo "as_stub", .glo "need_root", .glo "need_seen", .glo "with_kid", .glo "joined_up", .glo "got", .glo "put", .glo "put_in", .glo "parted", .glo "drop", .glo "drop_in", .glo "tree_of", .glo "tree_under", .glo "is_deed", .glo "need_deeds", .glo "done", .glo "shown_at", .glo "needed", .glo "root_behind", .glo "_law_begun", .glo "_law_draw", .glo "_law_letters", .glo "_law_key", .glo "_law_value", .glo "_law_content", .glo "_law_tree", .glo "_law_told", .glo "_law_word", .glo "_law_tried", .glo "_law_good", .glo "_law_bad", .glo "_law_text", .glo "_law_number", .glo "_law_walk", .glo "_law_lone", .glo "_law_ways", .glo "_law_shown", .glo "_law_row", .glo "_law_behind", .glo "_law_come_to", .glo "_law_spared", .glo "_law_shows_no_more", .glo "law", .glo "Node", .glo "Stub", .glo "Part", .glo "SealError", .glo "BadKey", .glo "BadValue", .glo "BadNode", .glo "BadPatch", .glo "NoText", .glo "Clash", .glo "NoPaper", .glo "Mismatch", .glo "Conflict", .glo "NoVersion", .glo "Latest", .glo "NoGrowth", .glo "NoKey", .glo "Unseen", .glo "NoRoot", .glo "BadDeed", .free "len", .free "isinstance", .free "all", .free "min", .free "max", .free "str", .free "int", .free "bool", .free "list", .free "tuple", .free "dict", .free "set", .free "sorted", .free "range", .free "enumerate", .free "abs", .free "ord", .free "ValueError", .int "MOST_LETTERS" 8, .int "MOST_SIGNS" 40, .int "MOST_NUMBER" 1000000000000000000000000000000, .str "LETTERS" "abcdefghijklmnopqrstuvwxyz", .str "FIRST" "", .cls "Node", .cls "Stub", .noat "Node" "stem", .noat "Node" "value", .noat "Node" "kids", .noat "Stub" "number", .meth "Node" "told", .meth "Node" "start", .meth "Node" "height", .meth "Node" "kid_at", .meth "Stub" "told", .meth "Stub" "height", .mkr "Node", .mkr "Stub"]
def loose : List Str := [("SealError" : Str), ("BadKey" : Str), ("BadValue" : Str), ("BadNode" : Str), ("BadDeed" : Str), ("BadPatch" : Str), ("NoText" : Str), ("NoKey" : Str), ("Unseen" : Str), ("Clash" : Str), ("NoRoot" : Str), ("NoPaper" : Str), ("Mismatch" : Str), ("Conflict" : Str), ("NoVersion" : Str), ("Latest" : Str), ("NoGrowth" : Str), ("LETTERS" : Str), ("MOST_LETTERS" : Str), ("MOST_SIGNS" : Str), ("MOST_NUMBER" : Str), ("FIRST" : Str), ("is_key" : Str), ("is_value" : Str), ("is_number" : Str), ("need_key" : Str), ("need_value" : Str), ("shared_start" : Str), ("Part" : Str), ("Node" : Str), ("Stub" : Str), ("are_kids" : Str), ("is_tree" : Str), ("need_tree" : Str), ("part_of" : Str), ("kid_of" : Str), ("written" : Str), ("text_of" : Str), ("number_of" : Str), ("as_stub" : Str), ("need_root" : Str), ("need_seen" : Str), ("with_kid" : Str), ("joined_up" : Str), ("got" : Str), ("put" : Str), ("put_in" : Str), ("parted" : Str), ("drop" : Str), ("drop_in" : Str), ("tree_of" : Str), ("tree_under" : Str), ("is_deed" : Str), ("need_deeds" : Str), ("done" : Str), ("shown_at" : Str), ("needed" : Str), ("root_behind" : Str), ("_law_begun" : Str), ("_law_draw" : Str), ("_law_letters" : Str), ("_law_key" : Str), ("_law_value" : Str), ("_law_content" : Str), ("_law_tree" : Str), ("_law_told" : Str), ("_law_word" : Str), ("_law_tried" : Str), ("_law_good" : Str), ("_law_bad" : Str), ("_law_text" : Str), ("_law_number" : Str), ("_law_walk" : Str), ("_law_lone" : Str), ("_law_ways" : Str), ("_law_shown" : Str), ("_law_row" : Str), ("_law_behind" : Str), ("_law_come_to" : Str), ("_law_spared" : Str), ("_law_shows_no_more" : Str)]
def tf : List He.Defn := [("with_kid", none), ("_law_good", none), ("_law_bad", none), ("law", none), ("_law_spared", none), ("_law_shows_no_more", none)]
def oexB (K : PySem.W.Frag) (C : Addr) : Bool := (match K.lookup C with
  | some ⟨.type "type", _, .cls cd, sl⟩ => (match cd.mro, sl.toList with
    | .ref C' :: bm, [_, _, _, _, some (.builtin n), _] => C' == C && n == "ValueError.__new__" && !cd.hasDel && cd.hasDict && PySem.HandSPX.refsVE bm
    | _, _ => false)
  | _ => false) && (decide (PySem.W.findIn K (.ref C) "__setattr__" = some (some (.builtin "object.__setattr__"))) && (decide (PySem.W.subIn K (.ref C) (.type "BaseException") = some true) && (decide (PySem.W.typeIn K (.ref C) = some (.type "type")) && PySem.W.keepIn K (.ref C))))
theorem oexB_ok {K : PySem.W.Frag} {C : Addr} (h : oexB K C = true) : OexC K C := by
  obtain ⟨h1, h⟩ := Bool.and_eq_true_iff.mp h
  obtain ⟨h2, h⟩ := Bool.and_eq_true_iff.mp h
  obtain ⟨h3, h⟩ := Bool.and_eq_true_iff.mp h
  obtain ⟨h4, h5⟩ := Bool.and_eq_true_iff.mp h
  refine ⟨?_, of_decide_eq_true h2, of_decide_eq_true h3, of_decide_eq_true h4, h5⟩
  split at h1
  · rename_i dd cd sl ho
    split at h1
    · rename_i C' bm k0 k1 k2 k3 n k5 hm hs
      simp only [Bool.and_eq_true, beq_iff_eq, Bool.not_eq_true'] at h1
      obtain ⟨⟨⟨⟨rfl, rfl⟩, hdel⟩, hd⟩, ht⟩ := h1
      obtain ⟨nm, bs, mro, ns, qn, hdd, sn, sub, ab, col, del⟩ := cd
      dsimp only at hm hdel hd
      subst hm hdel hd
      have hsl : sl = #[k0, k1, k2, k3, some (.builtin "ValueError.__new__"), k5] := by
        obtain ⟨l⟩ := sl
        simp only at hs
        rw [hs]
      subst hsl
      exact ⟨nm, qn, ns, bs, bm, sn, sub, ab, col, dd, k0, k1, k2, k3, k5, ho, ht⟩
    · cases h1
  · cases h1
def excB (K : PySem.W.Frag) (C : Addr) : Bool := decide (PySem.W.findIn K (.ref C) "__getattribute__" = some (some (.builtin "BaseException.__getattribute__"))) && (decide (PySem.W.findIn K (.ref C) "__getattr__" = some none) && (decide (PySem.W.subIn K (.ref C) (.type "BaseException") = some true) && (PySem.W.hasDictIn K C && (decide (PySem.W.findIn K (.ref C) "__class__" = some (some (.builtin "object.__class__"))) && decide (PySem.W.mroIn K C (.type "object") = some true)))))
theorem excB_ok {K : PySem.W.Frag} {C : Addr} (h : excB K C = true) (hn : PySem.W.specialIn K (.builtin "object.__class__") "__get__" = some (some (.builtin "getset_descriptor.__get__"))) (ht : PySem.W.takesIn K (.builtin "object.__class__") = some true) : ExcC K C := by
  obtain ⟨h1, h⟩ := Bool.and_eq_true_iff.mp h
  obtain ⟨h2, h⟩ := Bool.and_eq_true_iff.mp h
  obtain ⟨h3, h⟩ := Bool.and_eq_true_iff.mp h
  obtain ⟨h4, h⟩ := Bool.and_eq_true_iff.mp h
  obtain ⟨h5, h6⟩ := Bool.and_eq_true_iff.mp h
  exact ⟨of_decide_eq_true h1, of_decide_eq_true h2, of_decide_eq_true h3, h4, of_decide_eq_true h5, hn, ht, of_decide_eq_true h6⟩
def exN : List Str := ["BadKey", "BadValue", "BadNode", "BadPatch", "NoText", "Clash", "NoPaper", "Mismatch", "Conflict", "NoVersion", "Latest", "NoGrowth", "NoKey", "Unseen", "NoRoot", "BadDeed"]
def exL (K : PySem.W.Frag) : List Bool := [
  decide (PySem.W.findIn K (.ref (NA K)) "__class__" = some (some (.builtin "object.__class__"))),
  decide (PySem.W.mroIn K (NA K) (.type "object") = some true),
  decide (PySem.W.findIn K (.ref (NA K)) "__eq__" = some (some (.ref (He.ma K (PAd K) "__eq__")))),
  decide (PySem.W.findIn K (.ref (NA K)) "__ne__" = some (some (.builtin "object.__ne__"))),
  decide (PySem.W.findIn K (.ref (SA K)) "__class__" = some (some (.builtin "object.__class__"))),
  decide (PySem.W.mroIn K (SA K) (.type "object") = some true),
  decide (PySem.W.findIn K (.ref (SA K)) "__eq__" = some (some (.ref (He.ma K (PAd K) "__eq__")))),
  decide (PySem.W.findIn K (.ref (SA K)) "__ne__" = some (some (.builtin "object.__ne__"))),
  decide (PySem.W.specialIn K (.builtin "object.__class__") "__get__" = some (some (.builtin "getset_descriptor.__get__"))),
  decide (PySem.W.takesIn K (.builtin "object.__class__") = some true),
  PySem.W.isFn K (.ref (He.ma K (PAd K) "__eq__")),
  decide (PySem.W.kitOne K (.ref (NA K)) (.ref (PAd K)) = some true),
  decide (PySem.W.kitOne K (.ref (SA K)) (.ref (PAd K)) = some true),
  decide (PySem.W.kitOne K (.ref (NA K)) (.ref (SA K)) = some false),
  decide (PySem.W.kitOne K (.ref (SA K)) (.ref (SA K)) = some true),
  decide (PySem.W.kitOne K (.type "NoneType") (.ref (SA K)) = some false),
  oexB K (He.ga K "Unseen"),
  decide (PySem.W.findIn K (.ref (He.ga K "Unseen")) "__init__" = some (some (.ref (He.ma K (He.ga K "Unseen") "__init__")))),
  decide (PySem.W.typeIn K (.ref (He.ma K (He.ga K "Unseen") "__init__")) = some (.type "function")),
  decide (PySem.W.findIn K (.ref (He.ga K "Unseen")) "way" = some none),
  xfB K (He.ga K "Unseen"),
  excB K (He.ga K "Unseen"),
  decide (PySem.W.kitOne K (.ref (He.ga K "Unseen")) (.type "ValueError") = some true),
  decide (PySem.W.exmOne K (.ref (He.ga K "Unseen")) (.ref (He.ga K "SealError")) = some true),
  (exN.all fun x => decide (PySem.W.kitOne K (.ref (He.ga K "Unseen")) (.ref (He.ga K x)) = some (decide (x = ("Unseen" : Str))))),
  oexB K (He.ga K "NoKey"),
  decide (PySem.W.findIn K (.ref (He.ga K "NoKey")) "__init__" = some (some (.ref (He.ma K (He.ga K "NoKey") "__init__")))),
  decide (PySem.W.typeIn K (.ref (He.ma K (He.ga K "NoKey") "__init__")) = some (.type "function")),
  decide (PySem.W.findIn K (.ref (He.ga K "NoKey")) "key" = some none),
  xfB K (He.ga K "NoKey"),
  excB K (He.ga K "NoKey"),
  decide (PySem.W.kitOne K (.ref (He.ga K "NoKey")) (.type "ValueError") = some true),
  decide (PySem.W.exmOne K (.ref (He.ga K "NoKey")) (.ref (He.ga K "SealError")) = some true),
  (exN.all fun x => decide (PySem.W.kitOne K (.ref (He.ga K "NoKey")) (.ref (He.ga K x)) = some (decide (x = ("NoKey" : Str))))),
  decide (PySem.W.exmOne K (.ref (He.ga K "Unseen")) (.ref (He.ga K "Unseen")) = some true),
  decide (PySem.W.exmOne K (.ref (He.ga K "NoKey")) (.ref (He.ga K "Unseen")) = some false),
  decide (((tbs K).map (·.1)).Nodup)]
def ex (K : PySem.W.Frag) : Bool := (exL K).all id
theorem ex_at {K : PySem.W.Frag} (h : ex K = true) (i : Nat) {b : Bool} (e : (exL K)[i]? = some b) : b = true := List.all_eq_true.mp h b (List.mem_of_getElem? e)
theorem ex_dec {K : PySem.W.Frag} (h : ex K = true) (i : Nat) {p : Prop} [d : Decidable p] (e : (exL K)[i]? = some (decide p)) : p := of_decide_eq_true (ex_at h i e)
abbrev R : PySem.W.OpenRow := PySem.W.OpenLaw.row PySem.Challenge.rw_sealroot_k37_whole_fewest_needed
def adr0 : List Addr := [3, 6, 4, 24, 37, 49, 61, 80, 92, 104, 123, 142, 161, 180, 199, 218, 237, 256, 268, 280, 287, 292, 299, 306, 313, 320, 337, 408, 469, 478, 485, 492, 497, 504, 509, 514, 521, 528, 535, 542]
def adr1 : List Addr := [547, 552, 559, 566, 573, 580, 587, 594, 601, 606, 613, 620, 627, 632, 639, 646, 651, 658, 663, 668, 673, 680, 685, 692, 697, 704, 711, 718, 725, 732, 739, 744, 751, 758, 765, 772, 777, 782, 789, 794]
def adr2 : List Addr := [0, 23, 36, 48, 60, 79, 91, 103, 122, 141, 160, 179, 198, 217, 236, 255, 267, 279, 286, 291, 298, 305, 312, 319, 336, 407, 468, 477, 484, 491, 496, 503, 508, 513, 520, 527, 534, 541, 546, 551]
def adr3 : List Addr := [558, 565, 572, 579, 586, 593, 600, 605, 612, 619, 626, 631, 638, 645, 650, 657, 662, 667, 672, 679, 684, 691, 696, 703, 710, 717, 724, 731, 738, 743, 750, 757, 764, 771, 776, 781, 788, 793, 22, 25]
def adr4 : List Addr := [35, 47, 59, 77, 78, 90, 102, 120, 121, 139, 140, 158, 159, 177, 178, 196, 197, 215, 216, 234, 235, 253, 254, 266, 278, 283, 285, 288, 290, 293, 295, 296, 297, 300, 302, 303, 304, 307, 309, 310]
def adr5 : List Addr := [311, 314, 316, 317, 318, 334, 335, 338, 339, 355, 360, 367, 372, 379, 386, 391, 398, 405, 406, 424, 431, 438, 445, 452, 459, 466, 467, 472, 474, 475, 476, 479, 481, 482, 483, 486, 488, 489, 490, 493]
def adr6 : List Addr := [495, 498, 500, 501, 502, 505, 507, 510, 512, 515, 517, 518, 519, 522, 524, 525, 526, 529, 531, 532, 533, 536, 538, 539, 540, 543, 545, 548, 550, 553, 555, 556, 557, 560, 562, 563, 564, 567, 569, 570]
def adr7 : List Addr := [571, 574, 576, 577, 578, 581, 583, 584, 585, 588, 590, 591, 592, 595, 597, 598, 599, 602, 604, 607, 609, 610, 611, 614, 616, 617, 618, 621, 623, 624, 625, 628, 630, 633, 635, 636, 637, 640, 642, 643]
def adr8 : List Addr := [644, 647, 649, 652, 654, 655, 656, 659, 661, 664, 666, 669, 671, 674, 676, 677, 678, 681, 683, 686, 688, 689, 690, 693, 695, 698, 700, 701, 702, 705, 707, 708, 709, 712, 714, 715, 716, 719, 721, 722]
def adr9 : List Addr := [723, 726, 728, 729, 730, 733, 735, 736, 737, 740, 742, 745, 747, 748, 749, 752, 754, 755, 756, 759, 761, 762, 763, 766, 768, 769, 770, 773, 775, 778, 780, 783, 785, 786, 787, 790, 792, 76, 119, 138]
def adr10 : List Addr := [157, 176, 195, 214, 233, 252, 333, 354, 359, 366, 371, 378, 385, 390, 397, 404, 423, 430, 437, 444, 451, 458, 465]
def adr : List Addr := adr0 ++ (adr1 ++ (adr2 ++ (adr3 ++ (adr4 ++ (adr5 ++ (adr6 ++ (adr7 ++ (adr8 ++ (adr9 ++ (adr10))))))))))
/-- the facts of the part of the heap at the addresses as -/
def seenAt (as : List Addr) (g : Addr → Option Obj) : He.AlX := (He.obsT fa fn [] (He.frT g as), ex (He.frT g as) && He.tabsB g tf (He.frT g as))
theorem seenAt_says {as : List Addr} {w : World} {h : Heap} (e : seenAt as h.get? = He.valX fn [] w) : He.SaysX fa fn [] tf ex w h (He.frT h.get? as) := by
  obtain ⟨ht, hm⟩ := Prod.mk.inj e
  obtain ⟨hx, hb⟩ := Bool.and_eq_true_iff.mp hm
  have all := List.all_eq_true.mp hb
  have tab : ∀ p ∈ tf, ∃ o, h.get? (He.cT (He.frT h.get? as) p).2 = some o ∧ He.emptyTab o = true := by
    intro p hp
    have z := (Bool.and_eq_true_iff.mp (all p hp)).2
    split at z
    · exact ⟨_, by assumption, z⟩
    · cases z
  constructor
  · exact ht
  · exact hx
  · exact fun p hp => (Bool.and_eq_true_iff.mp (all p hp)).1
  · intro p hp
    obtain ⟨o, ho, hz⟩ := tab p hp
    exact He.frT_none ho hz
  · intro p hp
    obtain ⟨o, ho, hz⟩ := tab p hp
    exact ho.trans (congrArg some (He.emptyTab_eq hz))
def hk : PySem.W.Hook where
  α := He.AlX
  obs := fun s => seenAt adr s.heap.get?
  val := fun w => He.valX fn [] w
  says := fun w h => ∃ K : PySem.W.Frag, K.In h ∧ He.SaysX fa fn [] tf ex w h K
  of := fun _ _ e => ⟨_, He.frT_in, seenAt_says e⟩
  keeps := (He.hookX 4 fa fn [] tf ex).keeps
def ob (s : PySem.W.SharedT) : He.AlX := seenAt adr (HandSHeadRun.getT s)
theorem ob_eq (s : PySem.W.SharedT) : ob s = hk.obs s.abs := congrArg (seenAt adr) (funext (HandSHeadRun.getT_eq s))
/-- the run's equation in two: the looks, the part of the heap (each alone takes less of the kernel) -/
theorem two_looks {α β γ δ : Type} {o : Option α} {f : α → β} {g : α → γ} {k : α → δ} {b : β} {c : γ} {d : δ} (h : o.map (fun s => (f s, g s)) = some (b, c)) (z : o.map (fun s => k s) = some d) : o.map (fun s => (f s, g s, k s)) = some (b, c, d) := by
  cases o with
  | none => cases h
  | some s =>
    obtain ⟨h1, h2⟩ := Prod.mk.inj (Option.some.inj h)
    have h3 : k s = d := Option.some.inj z
    show some (f s, g s, k s) = _
    rw [h1, h2, h3]
theorem run_looks (w : World) (os : OsState) : (HandSHeadRun.endF (HandSHeadRun.stepQ (HandSHeadRun.denQ HandSHeadRun.tabQ) R.prog w) 7000 R.prog w os).map (fun s => (HandSHeadRun.looksF R.prog (PySem.W.boot_heap w.params) s.abs, HandSHeadRun.seenQ (PySem.W.view R.prog [88]) loose (importedModules R.prog.main.body) (fun s => PySem.W.xlAt (PySem.W.view R.prog [88]) [] s && PySem.W.recOk R.toRowW.records s) s.abs)) = some (true, PySem.W.openGood (PySem.W.view R.prog [88]) loose) := by
  kernel_rfl
theorem run_heap (w : World) (os : OsState) : (HandSHeadRun.endF (HandSHeadRun.stepQ (HandSHeadRun.denQ HandSHeadRun.tabQ) R.prog w) 7000 R.prog w os).map (fun s => ob s) = some (hk.val w) := by
  kernel_rfl
theorem run (w : World) : HandSHeadRun.RunEq R (PySem.W.view R.prog [88]) hk ob 7000 loose w := by
  intro os
  exact two_looks (run_looks w os) (run_heap w os)
end Seal
namespace Seal
open PySem PySem.Spec PyProof.Rows L2 LamX NdefX
theorem bind_is_key : BindQ "is_key" "is_key" s_is_key ["thing"] := fun _ _ _ _ _ _ us hl => match us, hl with | [_], _ => rfl
theorem bind_is_value : BindQ "is_value" "is_value" s_is_value ["thing"] := fun _ _ _ _ _ _ us hl => match us, hl with | [_], _ => rfl
theorem bind_is_number : BindQ "is_number" "is_number" s_is_number ["thing"] := fun _ _ _ _ _ _ us hl => match us, hl with | [_], _ => rfl
theorem bind_need_key : BindQ "need_key" "need_key" s_need_key ["key"] := fun _ _ _ _ _ _ us hl => match us, hl with | [_], _ => rfl
theorem bind_need_value : BindQ "need_value" "need_value" s_need_value ["value"] := fun _ _ _ _ _ _ us hl => match us, hl with | [_], _ => rfl
theorem bind_shared_start : BindQ "shared_start" "shared_start" s_shared_start ["one", "other"] := fun _ _ _ _ _ _ us hl => match us, hl with | [_, _], _ => rfl
def spIsKey (K : PySem.W.Frag) : Sp := fun vs H Q _ => ∃ k : W, vs = [.str (S k)] ∧ IsKey k ∧ Ret K (.bl true) H Q
def spIsValue (K : PySem.W.Frag) : Sp := fun vs H Q _ => ∃ k : W, vs = [.str (S k)] ∧ Vl k ∧ Ret K (.bl true) H Q
def spIsNumber (K : PySem.W.Frag) : Sp := fun vs H Q _ => ∃ n : Int, vs = [.int n] ∧ Num n ∧ Ret K (.bl true) H Q
def spNeedKey (K : PySem.W.Frag) : Sp := fun vs H Q _ => ∃ k : W, vs = [.str (S k)] ∧ IsKey k ∧ Ret K .non H Q
def spNeedValue (K : PySem.W.Frag) : Sp := fun vs H Q _ => ∃ k : W, vs = [.str (S k)] ∧ Vl k ∧ Ret K .non H Q
def spSharedStart (K : PySem.W.Frag) : Sp := fun vs H Q _ => ∃ a b : W, vs = [.str (S a), .str (S b)] ∧ a.length ≤ 1000 ∧ b.length ≤ 1000 ∧ Q (.str (S (lcp a b))) H
theorem sc_is_key : FnScope ["thing", "sign"] ["thing"] (defScope s_is_key) := ⟨rfl, rfl, rfl, by decide +kernel, rfl, by decide +kernel, by decide +kernel⟩
theorem sc_is_value : FnScope ["thing", "sign"] ["thing"] (defScope s_is_value) := ⟨rfl, rfl, rfl, by decide +kernel, rfl, by decide +kernel, by decide +kernel⟩
theorem sc_is_number : FnScope ["thing"] ["thing"] (defScope s_is_number) := ⟨rfl, rfl, rfl, by decide +kernel, rfl, by decide +kernel, by decide +kernel⟩
theorem sc_need_key : FnScope ["key"] ["key"] (defScope s_need_key) := ⟨rfl, rfl, rfl, by decide +kernel, rfl, by decide +kernel, by decide +kernel⟩
theorem sc_need_value : FnScope ["value"] ["value"] (defScope s_need_value) := ⟨rfl, rfl, rfl, by decide +kernel, rfl, by decide +kernel, by decide +kernel⟩
theorem sc_shared_start : FnScope ["one", "other", "many"] ["one", "other"] (defScope s_shared_start) := ⟨rfl, rfl, rfl, by decide +kernel, rfl, by decide +kernel, by decide +kernel⟩
theorem lcp_len : ∀ (a b : W) (m : Nat), m ≤ (lcp a b).length → (m < (lcp a b).length ↔ m < a.length ∧ m < b.length ∧ a[m]? = b[m]?)
  | [], b, m, h => by cases b <;> simp [lcp]
  | x :: a, [], m, h => by simp [lcp]
  | x :: a, y :: b, m, h => by
    by_cases e : x = y
    · subst e
      simp only [lcp, if_true] at h ⊢
      cases m with
      | zero => simp
      | succ m =>
        have := lcp_len a b m (by simpa using h)
        simpa using this
    · have hl : lcp (x :: a) (y :: b) = [] := by simp [lcp, e]
      rw [hl] at h ⊢
      simp at h
      subst h
      simp [e]
theorem lt_one {c d : Nat} : ([c] : List Nat) < [d] ↔ c < d := by simp [List.cons_lt_cons_iff]
theorem S_at {k : W} {i : Nat} (h : i < k.length) : ∃ c, k[i]? = some c := ⟨k[i], by simp [h]⟩
section
variable {P : Program} {w : World} {K : PySem.W.Frag} {mg : Str → Option Value} {base : Heap}
theorem D_is_key (n : Fn1 K mg "is_key" s_is_key) (G : TX K mg) : Def P w K mg base CX0 1 "is_key" ["thing"] (spIsKey K) := by
  refine n.mk0 sc_is_key bind_is_key (fun vs H Q E h => ?_) (fun cdv A outer s H vs Q E hr h => ?_)
  · obtain ⟨k, rfl, _⟩ := h
    rfl
  · obtain ⟨k, rfl, ⟨hk, hk8⟩, q⟩ := h
    refine ⟨_, (pss_cons (ps_if (PW.pt (pw_or (pt_not (pt_val (pe_callB call_isi (by rfl) G.b_isinstance (by decide +kernel) (pa_cons (pv 0) (pa_cons (pe_ty (n := "str") G.b_str (by decide +kernel)) pa_nil)))))
        (pw_or1 (pt_cmpR op_gt (pe_callB call_len_str (by rfl) G.b_len PySem.boot_len (pa_cons (pv 0) pa_nil)) (pe_gI G.MOST_LETTERS) (nomark _))))) (pss_one (ps_ret pe_bl)) pss_nil)
      (pss_one (ps_ret (pe_callB (cr_all rfl) (by rfl) G.b_all (by decide +kernel) (pa_cons
        (pe_lc (own := [("sign", 1)]) (g := gName 1) (tt := tYes) (by rfl) sc_is_key.nd (pi_str (pv 0)) (blkOk_by (N := ["thing", "sign"]) (sc := defScope s_is_key) (by decide +kernel)) (fun _ _ _ _ _ => pg_name (i := 1) sc_is_key.nd rfl (Or.inl rfl)) (fun _ _ _ _ _ => pts_nil)
          (fun _ _ _ _ _ => pe_cmpR op_in_sign (pv 1) (pe_gS G.LETTERS) (by rfl))) pa_nil))))), ?_⟩
    refine ⟨_, rfl, _, _, _, _, true, rfl, .ty "str", .base (.str _), kit_ty (by decide +kernel), true, rfl, ?_⟩
    refine ⟨_, rfl, _, rfl, by rw [S_len]; exact sz (by omega), _, _, rfl, rfl, _, rfl, ?_⟩
    rw [S_len, decide_eq_false (by omega)]
    refine ⟨_, rfl, _, rfl, fun D hD => lc_go (Ts := tbs K) (M := M0) walk_str hD (by show (S k).length ≤ _; rw [S_len]; omega) m0_ne (fun i acc H' => Gz K H H' ∧ acc = (List.replicate i true).map V.bl) (fun i acc H' H'' ⟨a, b⟩ g => ⟨a.loc hD g, b⟩) ⟨.refl, rfl⟩ (fun _ _ _ _ _ => trivial) ?_ ?_⟩
    · rintro i acc x H' H'' R1 R2 hi ⟨a, b⟩ ⟨rfl, c, hc, rfl⟩ r1 r2
      refine ⟨rfl, _, rfl, _, _, rfl, rfl, ?_⟩
      rw [abc, S_list, decide_eq_true (mem_abc.mpr (hk c (S_mem hc)))]
      exact r1 _ _ .refl ⟨a, by rw [b, List.replicate_succ', List.map_append]; rfl⟩
    · rintro acc H' ⟨a, b⟩ h1 _
      refine ⟨D, List.replicate _ true, rfl, .of (by rw [h1, b]), ?_⟩
      rw [all_true]
      exact q _ a
theorem D_is_value (n : Fn1 K mg "is_value" s_is_value) (G : TX K mg) : Def P w K mg base CX0 1 "is_value" ["thing"] (spIsValue K) := by
  refine n.mk0 sc_is_value bind_is_value (fun vs H Q E h => ?_) (fun cdv A outer s H vs Q E hr h => ?_)
  · obtain ⟨k, rfl, _⟩ := h
    rfl
  · obtain ⟨k, rfl, ⟨hk8, hk⟩, q⟩ := h
    refine ⟨_, (pss_cons (ps_if (PW.pt (pw_or (pt_not (pt_val (pe_callB call_isi (by rfl) G.b_isinstance (by decide +kernel) (pa_cons (pv 0) (pa_cons (pe_ty (n := "str") G.b_str (by decide +kernel)) pa_nil))))) (pw_or1 (pt_cmpR op_gt (pe_callB call_len_str (by rfl) G.b_len PySem.boot_len (pa_cons (pv 0) pa_nil)) (pe_gI G.MOST_SIGNS) (nomark _))))) (pss_one (ps_ret pe_bl)) pss_nil)
      (pss_one (ps_ret (pe_callB (cr_all rfl) (by rfl) G.b_all (by decide +kernel) (pa_cons (pe_lc (own := [("sign", 1)]) (g := gName 1) (tt := tYes) (by rfl) sc_is_value.nd (pi_str (pv 0)) (blkOk_by (N := ["thing", "sign"]) (sc := defScope s_is_value) (by decide +kernel)) (fun _ _ _ _ _ => pg_name (i := 1) sc_is_value.nd rfl (Or.inl rfl)) (fun _ _ _ _ _ => pts_nil) (fun _ _ _ _ _ => (pe_chain op_le_str op_le_str pe_str (pv 1) pe_str))) pa_nil))))), ?_⟩
    refine ⟨_, rfl, _, _, _, _, true, rfl, .ty "str", .base (.str _), kit_ty (by decide +kernel), true, rfl, ?_⟩
    refine ⟨_, rfl, _, rfl, by rw [S_len]; exact sz (by omega), _, _, rfl, rfl, _, rfl, ?_⟩
    rw [S_len, decide_eq_false (by omega)]
    refine ⟨_, rfl, _, rfl, fun D hD => lc_go (Ts := tbs K) (M := M0) walk_str hD (by show (S k).length ≤ _; rw [S_len]; omega) m0_ne (fun i acc H' => Gz K H H' ∧ acc = (List.replicate i true).map V.bl) (fun i acc H' H'' ⟨a, b⟩ g => ⟨a.loc hD g, b⟩) ⟨.refl, rfl⟩ (fun _ _ _ _ _ => trivial) ?_ ?_⟩
    · rintro i acc x H' H'' R1 R2 hi ⟨a, b⟩ ⟨rfl, c, hc, rfl⟩ r1 r2
      have hc' := hk c (S_mem hc)
      refine ⟨rfl, _, rfl, _, _, rfl, rfl, _, rfl, ?_⟩
      have e1 : decide ((⟨#[c]⟩ : Str).cps.toList < (" " : Str).cps.toList) = false := decide_eq_false fun z => by have := lt_one.mp (show ([c] : List Nat) < [32] from z); omega
      have e2 : decide (("~" : Str).cps.toList < (⟨#[c]⟩ : Str).cps.toList) = false := decide_eq_false fun z => by have := lt_one.mp (show ([126] : List Nat) < [c] from z); omega
      rw [e1]
      refine ⟨_, _, rfl, rfl, ?_⟩
      rw [e2]
      exact r1 _ _ .refl ⟨a, by rw [b, List.replicate_succ', List.map_append]; rfl⟩
    · rintro acc H' ⟨a, b⟩ h1 _
      refine ⟨D, List.replicate _ true, rfl, .of (by rw [h1, b]), ?_⟩
      rw [all_true]
      exact q _ a
theorem D_is_number (n : Fn1 K mg "is_number" s_is_number) (G : TX K mg) : Def P w K mg base CX0 1 "is_number" ["thing"] (spIsNumber K) := by
  refine n.mk0 sc_is_number bind_is_number (fun vs H Q E h => ?_) (fun cdv A outer s H vs Q E hr h => ?_)
  · obtain ⟨k, rfl, _⟩ := h
    rfl
  · obtain ⟨k, rfl, ⟨h0, h1⟩, q⟩ := h
    refine ⟨_, (pss_one (ps_ret (pe_and (pe_callB call_isi (by rfl) G.b_isinstance (by decide +kernel) (pa_cons (pv 0) (pa_cons (pe_ty (n := "int") G.b_int (by decide +kernel)) pa_nil))) (pe_and (pe_not (pe_callB call_isi (by rfl) G.b_isinstance (by decide +kernel) (pa_cons (pv 0) (pa_cons (pe_ty (n := "bool") G.b_bool (by decide +kernel)) pa_nil)))) (pe_one (pe_chain op_le op_le pe_int (pv 0) (pe_gI G.MOST_NUMBER))))))), ?_⟩
    refine ⟨_, rfl, _, _, _, _, true, rfl, .ty "int", .base (.int _), kit_ty (by decide +kernel), _, rfl, ?_⟩
    refine ⟨_, rfl, _, _, _, _, false, rfl, .ty "bool", .base (.int _), kit_ty (by decide +kernel), _, rfl, _, rfl, ?_⟩
    refine ⟨_, rfl, _, _, rfl, rfl, _, rfl, ?_⟩
    rw [decide_eq_true h0]
    refine ⟨_, _, rfl, rfl, ?_⟩
    show Q (.bl (decide (k ≤ 1000000000000000000000000000000))) H
    rw [decide_eq_true h1]
    exact q _ .refl
theorem D_need_key (n : Fn1 K mg "need_key" s_need_key) (G : TX K mg) (D_is_key : Def P w K mg base CX0 1 "is_key" ["thing"] (spIsKey K)) : Def P w K mg base CX0 2 "need_key" ["key"] (spNeedKey K) := by
  refine n.mk0 sc_need_key bind_need_key (fun vs H Q E h => ?_) (fun cdv A outer s H vs Q E hr h => ?_)
  · obtain ⟨k, rfl, _⟩ := h
    rfl
  · obtain ⟨k, rfl, hk, q⟩ := h
    refine ⟨_, (pss_one (ps_if (pt_not (pt_val (pe_cd D_is_key (hr.mono (by omega)) (by rfl) (pa_cons (pv 0) pa_nil)))) (pss_one ps_never) pss_nil)), ?_⟩
    exact ⟨_, rfl, k, rfl, hk, fun H' g => ⟨_, rfl, q _ g⟩⟩
theorem D_need_value (n : Fn1 K mg "need_value" s_need_value) (G : TX K mg) (D_is_value : Def P w K mg base CX0 1 "is_value" ["thing"] (spIsValue K)) : Def P w K mg base CX0 2 "need_value" ["value"] (spNeedValue K) := by
  refine n.mk0 sc_need_value bind_need_value (fun vs H Q E h => ?_) (fun cdv A outer s H vs Q E hr h => ?_)
  · obtain ⟨k, rfl, _⟩ := h
    rfl
  · obtain ⟨k, rfl, hk, q⟩ := h
    refine ⟨_, (pss_one (ps_if (pt_not (pt_val (pe_cd D_is_value (hr.mono (by omega)) (by rfl) (pa_cons (pv 0) pa_nil)))) (pss_one ps_never) pss_nil)), ?_⟩
    exact ⟨_, rfl, k, rfl, hk, fun H' g => ⟨_, rfl, q _ g⟩⟩
theorem D_shared_start (n : Fn1 K mg "shared_start" s_shared_start) (G : TX K mg) : Def P w K mg base CX0 1 "shared_start" ["one", "other"] (spSharedStart K) := by
  refine n.mk0 sc_shared_start bind_shared_start (fun vs H Q E h => ?_) (fun cdv A outer s H vs Q E hr h => ?_)
  · obtain ⟨a, b, rfl, _⟩ := h
    rfl
  · obtain ⟨a, b, rfl, ha, hb, q⟩ := h
    refine ⟨_, (pss_cons (ps_set (i := 2) sc_shared_start.nd rfl (Or.inl rfl) pe_int)
      (pss_cons (ps_while PassesOwn.never (PW.pt (pw_and (pt_cmpR op_lt (pv 2) (pe_callB (call_min2 rfl) (by rfl) G.b_min (by decide +kernel) (pa_cons (pe_callB call_len_str (by rfl) G.b_len PySem.boot_len (pa_cons (pv 0) pa_nil)) (pa_cons (pe_callB call_len_str (by rfl) G.b_len PySem.boot_len (pa_cons (pv 1) pa_nil)) pa_nil))) (nomark _)) (pw_and1 (pt_cmpR op_eq (pe_ix ix_str (pv 0) (pv 2) (fun _ _ => rfl)) (pe_ix ix_str (pv 1) (pv 2) (fun _ _ => rfl)) (nomark _))))) (pss_one (ps_aug (i := 2) sc_shared_start.nd rfl (Or.inl rfl) pe_int ip_add)))
      (pss_one (ps_ret (pe_slice sl_str (pv 0) po_none (po_some (pv 2))))))), ?_⟩
    have hla : (lcp a b).length ≤ a.length := (lcp_left a b).length_le
    have hlb : (lcp a b).length ≤ b.length := (lcp_right a b).length_le
    have fin : ∀ m : Nat, m ≤ (lcp a b).length → ¬ m < (lcp a b).length → Q (.str (cutS (S a) none (some (m : Int)))) H := by
      intro m hm hn
      have e : m = (lcp a b).length := by omega
      subst e
      rw [cut_to, ← List.prefix_iff_eq_take.mp (lcp_left a b)]
      exact q
    refine ⟨fun m σ H' => H' = H ∧ ∃ j : Nat, σ = [some (.str (S a)), some (.str (S b)), some (.int j)] ∧ j ≤ (lcp a b).length ∧ (lcp a b).length - j = m, ⟨_, rfl, 0, rfl, by simp, rfl⟩, ?_⟩
    rintro _ σ H' ⟨rfl, m, rfl, hm, rfl⟩
    have key := lcp_len a b m hm
    have hmin : (if (↑(S b).length : Int) < ↑(S a).length then (↑(S b).length : Int) else ↑(S a).length) = ↑(min a.length b.length) := by
      rw [S_len, S_len]
      split <;> omega
    refine ⟨_, rfl, _, rfl, _, rfl, by rw [S_len]; exact sz (by omega), _, rfl, _, rfl, by rw [S_len]; exact sz (by omega), _, _, rfl, ?_⟩
    rw [hmin]
    refine ⟨_, _, rfl, rfl, _, rfl, ?_⟩
    by_cases hlt : m < a.length ∧ m < b.length
    · rw [decide_eq_true (by omega)]
      obtain ⟨c, hc⟩ := S_at hlt.1
      obtain ⟨d, hd⟩ := S_at hlt.2
      refine ⟨_, rfl, _, rfl, _, _, c, rfl, rfl, by rw [S_len]; exact sz (by omega), by rw [S_list]; exact atI_nat hc, _, rfl, _, rfl, _, _, d, rfl, rfl, by rw [S_len]; exact sz (by omega), by rw [S_list]; exact atI_nat hd, ?_⟩
      refine ⟨rfl, _, rfl, ?_⟩
      by_cases e : c = d
      · subst e
        have : m < (lcp a b).length := key.mpr ⟨hlt.1, hlt.2, by rw [hc, hd]⟩
        rw [decide_eq_true rfl]
        refine ⟨_, fun _ _ h => h, ?_⟩
        exact ⟨_, rfl, _, _, rfl, rfl, _, by omega, rfl, m + 1, rfl, this, rfl⟩
      · rw [decide_eq_false (by rw [S_one, S_one]; intro z; exact e (by have := S_inj.mp (V.str.inj z); simpa using this))]
        have : ¬ m < (lcp a b).length := fun z => e (by have := (key.mp z).2.2; rw [hc, hd] at this; exact Option.some.inj this)
        exact ⟨_, rfl, _, rfl, _, rfl, _, rfl, by rw [S_len]; exact sz (by omega), fin m hm this⟩
    · rw [decide_eq_false (by omega)]
      exact ⟨_, rfl, _, rfl, _, rfl, _, rfl, by rw [S_len]; exact sz (by omega), fin m hm fun z => hlt ⟨(key.mp z).1, (key.mp z).2.1⟩⟩
end
end Seal
namespace Seal
open PySem PySem.Spec PyProof.Rows L2 LamX NdefX
/-! ### max([..], default=n) -/
def rMaxDef (K : PySem.W.Frag) : List V → List V → Hp → VK → Prop := fun vs zs H Q => ∃ (a : Addr) (ns : List Int) (d : Int), vs = [.ref a] ∧ zs = [.int d] ∧ SqL K H a (ns.map V.int) ∧ (ns = [] → Q (.int d) H) ∧ (ns ≠ [] → ∀ m, m ∈ ns → (∀ y ∈ ns, y ≤ m) → Q (.int m) H)
theorem ints_reads {h : Heap} : ∀ {its : List Value} {ns : List Int}, IntsAre its ns → ReadsAll h its (ns.map PyData.int) []
  | [], [], _ => .nil
  | v :: its, n :: ns, a => by
    cases a with
    | cons n t b =>
      have := ReadsAll.cons (h := h) (.int n t) (ints_reads (h := h) b)
      exact this
theorem depth_ints (ns : List Int) : PyData.depthAll (ns.map PyData.int) ≤ 1 := by
  induction ns with
  | nil => simp [PyData.depthAll]
  | cons n ns ih => simp [PyData.depthAll, PyData.depth] at ih ⊢; omega
theorem foldl_max : ∀ (ns : List Int) (n : Int), (ns.foldl max n = n ∨ ns.foldl max n ∈ ns) ∧ n ≤ ns.foldl max n ∧ ∀ y ∈ ns, y ≤ ns.foldl max n
  | [], n => ⟨.inl rfl, by simp, by simp⟩
  | m :: ns, n => by
    obtain ⟨a, b, c⟩ := foldl_max ns (max n m)
    simp only [List.foldl_cons]
    refine ⟨?_, by omega, fun y hy => ?_⟩
    · rcases a with a | a
      · rw [a]
        rcases Int.le_total n m with h | h
        · rw [Int.max_eq_right h]; exact .inr List.mem_cons_self
        · rw [Int.max_eq_left h]; exact .inl rfl
      · exact .inr (List.mem_cons_of_mem _ a)
    · rcases List.mem_cons.mp hy with rfl | hy
      · omega
      · exact c y hy
theorem cr_maxDef {X : Cx} (hc : X.calm = true) (hu : X.A.units + 3 < cLine) : CallRK X (.builtin "max") ["default"] (rMaxDef X.K) := by
  intro pins s σ H vs zs us ws Q I r rz h
  obtain ⟨a, ns, d, rfl, rfl, hs, q0, q1⟩ := h
  obtain ⟨its, rv, hl, hz⟩ := I.list hs
  obtain ⟨w1, rfl, e1⟩ := L2.vals1 rz
  obtain ⟨t, rfl⟩ := e1
  rw [Vals.ref1 r]
  have hI := Vals.ints rv
  refine PySem.W.max_list_default (xs := ns.map PyData.int) (as := []) (I.ok.hd hc) hl.isList (by simpa using ints_reads hI) ⟨?_, ?_⟩ (by have := depth_ints ns; omega) ?_ ?_
  · intro x hx y hy
    obtain ⟨i, _, rfl⟩ := List.mem_map.mp hx
    obtain ⟨j, _, rfl⟩ := List.mem_map.mp hy
    rfl
  · intro x hx
    obtain ⟨i, _, rfl⟩ := List.mem_map.mp hx
    intro z
    cases z
  · intro e h' tk hk
    exact ⟨.int d, H, I.kept hk, ⟨_, rfl⟩, q0 (List.map_eq_nil_iff.mp e)⟩
  · intro y ys i v h' tk bs e hv hr hk
    cases ns with
    | nil => cases e
    | cons n ns =>
      simp only [List.map_cons, List.cons.injEq] at e
      obtain ⟨rfl, rfl⟩ := e
      rw [PySem.W.maxD_ints] at hr
      obtain ⟨a, b, c⟩ := foldl_max ns n
      cases hr with
      | int _ t =>
        refine ⟨.int _, H, I.kept hk, ⟨t, rfl⟩, q1 (by simp) _ ?_ ?_⟩
        · rcases a with a | a
          · rw [a]; exact List.mem_cons_self
          · exact List.mem_cons_of_mem _ a
        · intro y hy
          rcases List.mem_cons.mp hy with rfl | hy
          · exact b
          · exact c y hy
/-! ### min(d), max(d): a dict of texts -/
theorem argBest_any (bt : Nat → Nat → Bool) : ∀ k, argBest bt k ≤ k
  | 0 => Nat.le_refl _
  | k + 1 => by
    have := argBest_any bt k
    unfold argBest
    split <;> omega
theorem argBest_best (le : Nat → Nat → Prop) (bt : Nat → Nat → Bool) (hr : ∀ i, le i i) (ht : ∀ i j k, le i j → le j k → le i k) (h1 : ∀ i j, bt i j = true → le j i) (h0 : ∀ i j, bt i j = false → le i j) : ∀ k j, j ≤ k → le j (argBest bt k)
  | 0, j, h => by
    have : j = 0 := by omega
    subst this
    exact hr _
  | k + 1, j, h => by
    have ih := argBest_best le bt hr ht h1 h0 k
    by_cases e : bt (k + 1) (argBest bt k) = true
    · have : argBest bt (k + 1) = k + 1 := by rw [argBest]; simp [e]
      rw [this]
      by_cases hj : j ≤ k
      · exact ht _ _ _ (ih j hj) (h1 _ _ e)
      · have : j = k + 1 := by omega
        subst this
        exact hr _
    · have e' : bt (k + 1) (argBest bt k) = false := by cases h : bt (k + 1) (argBest bt k) <;> simp_all
      have : argBest bt (k + 1) = argBest bt k := by rw [argBest]; simp [e']
      rw [this]
      by_cases hj : j ≤ k
      · exact ih j hj
      · have : j = k + 1 := by omega
        subst this
        exact h0 _ _ e'
theorem strs_lt {prog : Program} {w : World} {A : Around} {Pp : Nat → Value → Prop} (val : Nat → Str) (hv : ∀ i v, Pp i v → ∃ t, v = .str (val i) t) : CmpOf prog w A .Lt Pp fun i j => decide ((val i).cps.toList < (val j).cps.toList) := by
  intro i j vi vj s Q E hi hj h
  obtain ⟨t, rfl⟩ := hv i vi hi
  obtain ⟨u, rfl⟩ := hv j vj hj
  exact richCompare_gives (typeIs_str s _ t) (typeIs_str s _ u) F.slot_str_lt F.entry_str_lt (F.args_str_lt_2 _ _) (gives_str_lt _ _ t u) (fun e => nomatch e) h
theorem strs_gt {prog : Program} {w : World} {A : Around} {Pp : Nat → Value → Prop} (val : Nat → Str) (hv : ∀ i v, Pp i v → ∃ t, v = .str (val i) t) : CmpOf prog w A .Gt Pp fun i j => decide ((val j).cps.toList < (val i).cps.toList) := by
  intro i j vi vj s Q E hi hj h
  obtain ⟨t, rfl⟩ := hv i vi hi
  obtain ⟨u, rfl⟩ := hv j vj hj
  exact richCompare_gives (typeIs_str s _ t) (typeIs_str s _ u) F.slot_str_gt F.entry_str_gt (F.args_str_gt_2 _ _) (gives_str_gt _ _ t u) (fun e => nomatch e) h
/-- the least (up: the greatest) of a dict's texts -/
def rPick (up : Bool) : List V → Hp → VK → Prop := fun vs H Q => ∃ (d : Addr) (kvs : List (Key × V)) (ks : List Str), vs = [.ref d] ∧ H d = some (.dK kvs) ∧ kvs.map Prod.fst = ks.map Sum.inr ∧ ks ≠ [] ∧
  ∀ z ∈ ks, (∀ y ∈ ks, if up = true then ¬ z.cps.toList < y.cps.toList else ¬ y.cps.toList < z.cps.toList) → Q (.str z) H
theorem pick_keys {kvs : List (Key × V)} {vs : List (Key × Value)} {ks : List Str} (kv : KV kvs vs) (hk : kvs.map Prod.fst = ks.map Sum.inr) : vs.map Prod.fst = ks.map Sum.inr := by
  rw [← hk]
  clear hk
  induction kv with
  | nil => rfl
  | cons a _ ih => simp [ih, a.1]
theorem nlt_trans {a b c : List Nat} (h : ¬ b < a) (h' : ¬ c < b) : ¬ c < a := by
  have h1 : a ≤ b := h
  have h2 : b ≤ c := h'
  exact List.le_trans h1 h2
theorem cr_pick {X : Cx} (up : Bool) (hc : X.calm = true) : CallR X (.builtin (if up then "max" else "min")) (rPick up) := by
  intro pins s σ H vs us Q I r h
  obtain ⟨d, kvs, ks, rfl, hd, hk, hne, q⟩ := h
  rw [Vals.ref1 r]
  obtain ⟨hz, hs, ws, kv, o, es, ep, hg, hx, hdt, g1, g2, g3⟩ := dk_rd I.hok (.inl hd)
  have hks := pick_keys kv hk
  have hln : ws.length = ks.length := by have := congrArg List.length hks; simpa using this
  have hpos : 0 < ks.length := by cases ks with | nil => exact absurd rfl hne | cons => simp
  have hsize : es.size = ws.length := by rw [← g2.length]; simp
  have hlt := Heap.lt_size hg
  have hdI : d ≠ s.heap.objs.size := Nat.ne_of_lt hlt
  have hval : ∀ (i : Nat) (v : Value), (∃ k x, ws[i]? = some (k, x) ∧ KeyKind.is (mixKind X.prog X.w) k v = true) → i < ks.length ∧ ∃ t, v = .str (ks.getD i Str.empty) t := by
    rintro i v ⟨k, x, hi, hkv⟩
    have : (ws.map Prod.fst)[i]? = some k := by simp [hi]
    rw [hks, List.getElem?_map] at this
    cases e : ks[i]? with
    | none => rw [e] at this; cases this
    | some z =>
      rw [e] at this
      simp at this
      subst this
      refine ⟨?_, ?_⟩
      · by_cases hh : i < ks.length
        · exact hh
        · rw [List.getElem?_eq_none (by omega)] at e; cases e
      have : ks.getD i Str.empty = z := by simp [List.getD, e]
      rw [this]
      cases v with
      | str y t =>
        have hy : y = z := by have : (y == z) = true := hkv; simpa using this
        exact ⟨t, by rw [hy]⟩
      | _ => cases hkv
  have mem : ∀ i, i < ks.length → ks.getD i Str.empty ∈ ks := fun i hi => by
    have : ks.getD i Str.empty = ks[i] := by simp [List.getD, hi]
    rw [this]
    exact List.getElem_mem hi
  have old : ∀ (h' : Heap), (∀ (b : Addr) (o' : Obj), ¬ b ∈ [s.heap.objs.size] → (s.heap.push { cls := .type "dict_keyiterator", data := .fields #[.ref d, .int 0 0, .int (↑es.size) 0, .int (↑ep) 0] }).get? b = some o' → h'.get? b = some o') → ∀ (b : Addr) (u : Obj), s.heap.get? b = some u → h'.get? b = some u := by
    intro h' hk' b u hb
    have := Heap.lt_size hb
    exact hk' b u (by simpa using Nat.ne_of_lt this) (Heap.get?_push_of_some _ hb)
  have fin : ∀ (bt : Nat → Nat → Bool), (∀ j, j ≤ ws.length - 1 → if up = true then ¬ (ks.getD (argBest bt (ws.length - 1)) Str.empty).cps.toList < (ks.getD j Str.empty).cps.toList else ¬ (ks.getD j Str.empty).cps.toList < (ks.getD (argBest bt (ws.length - 1)) Str.empty).cps.toList) → ∀ (v : Value) (h' : Heap) (tk : Nat), (∃ k x, ws[argBest bt (ws.length - 1)]? = some (k, x) ∧ KeyKind.is (mixKind X.prog X.w) k v = true) →
      (∀ (b : Addr) (o' : Obj), ¬ b ∈ [s.heap.objs.size] → (s.heap.push { cls := .type "dict_keyiterator", data := .fields #[.ref d, .int 0 0, .int (↑es.size) 0, .int (↑ep) 0] }).get? b = some o' → h'.get? b = some o') →
      EP X pins σ Q v { heap := h', gens := s.gens, drawn := s.drawn, toks := tk, os := s.os } := by
    intro bt hb v h' tk hv hk'
    obtain ⟨hlt', t, rfl⟩ := hval _ v hv
    refine ⟨.str _, H, I.kept (old h' hk'), ⟨t, rfl⟩, q _ (mem _ hlt') fun y hy => ?_⟩
    obtain ⟨j, hj, rfl⟩ := List.getElem_of_mem hy
    have := hb j (by omega)
    have e : ks.getD j Str.empty = ks[j] := by simp [List.getD, hj]
    rwa [e] at this
  have st0 : Heap.IsKeyIter (s.heap.push { cls := .type "dict_keyiterator", data := .fields #[.ref d, .int 0 0, .int (↑es.size) 0, .int (↑ep) 0] }) s.heap.objs.size d 0 ws.length ep ∧ Heap.DictAt (mixKind X.prog X.w) (s.heap.push { cls := .type "dict_keyiterator", data := .fields #[.ref d, .int 0 0, .int (↑es.size) 0, .int (↑ep) 0] }) d ws ep := by
    refine ⟨⟨_, Heap.get?_push_size _ rfl, rfl, by rw [hsize]; rfl⟩, o, es, Heap.get?_push_of_some _ hg, hx, hdt, g1, g2, g3⟩
  have fp : ∀ b ∈ [s.heap.objs.size, d], b < (s.heap.push { cls := .type "dict_keyiterator", data := .fields #[.ref d, .int 0 0, .int (↑es.size) 0, .int (↑ep) 0] }).objs.size := by
    intro b hb
    have : s.heap.objs.size < (s.heap.push { cls := .type "dict_keyiterator", data := .fields #[.ref d, .int 0 0, .int (↑es.size) 0, .int (↑ep) 0] }).objs.size := Heap.lt_size (Heap.get?_push_size _ rfl)
    simp at hb
    rcases hb with rfl | rfl
    · exact this
    · exact Nat.lt_trans hlt this
  have bestLt := argBest_best (fun i j => ¬ (ks.getD i Str.empty).cps.toList < (ks.getD j Str.empty).cps.toList) (fun i j => decide ((ks.getD i Str.empty).cps.toList < (ks.getD j Str.empty).cps.toList)) (fun i => List.lt_irrefl _) (fun i j k a b => nlt_trans b a) (fun i j e => List.lt_asymm (of_decide_eq_true e)) (fun i j e => of_decide_eq_false e)
  have bestGt := argBest_best (fun i j => ¬ (ks.getD j Str.empty).cps.toList < (ks.getD i Str.empty).cps.toList) (fun i j => decide ((ks.getD j Str.empty).cps.toList < (ks.getD i Str.empty).cps.toList)) (fun i => List.lt_irrefl _) (fun i j k a b => nlt_trans a b) (fun i j e => List.lt_asymm (of_decide_eq_true e)) (fun i j e => of_decide_eq_false e)
  cases up with
  | true =>
    refine PySem.call_max_walk (iter_keys hs hg hx hdt ?_)
    exact ⟨_, [s.heap.objs.size, d], [s.heap.objs.size], ws.length, (fun i v => ∃ k x, ws[i]? = some (k, x) ∧ KeyKind.is (mixKind X.prog X.w) k v = true), (fun i h => Heap.IsKeyIter h s.heap.objs.size d i ws.length ep ∧ Heap.DictAt (mixKind X.prog X.w) h d ws ep), _, rfl, Walks.dictKeys (A := X.A.in1) (show X.A.in1.handled = none from I.ok.hd hc) _ d hdI ws ep, st0, fp, by omega, strs_gt (fun i => ks.getD i Str.empty) (fun i v h => (hval i v h).2), fun v h' tk hv hk' => fin _ (fun j hj => bestGt _ j hj) v h' tk hv hk'⟩
  | false =>
    refine PySem.call_min_walk (iter_keys hs hg hx hdt ?_)
    exact ⟨_, [s.heap.objs.size, d], [s.heap.objs.size], ws.length, (fun i v => ∃ k x, ws[i]? = some (k, x) ∧ KeyKind.is (mixKind X.prog X.w) k v = true), (fun i h => Heap.IsKeyIter h s.heap.objs.size d i ws.length ep ∧ Heap.DictAt (mixKind X.prog X.w) h d ws ep), _, rfl, Walks.dictKeys (A := X.A.in1) (show X.A.in1.handled = none from I.ok.hd hc) _ d hdI ws ep, st0, fp, by omega, strs_lt (fun i => ks.getD i Str.empty) (fun i v h => (hval i v h).2), fun v h' tk hv hk' => fin _ (fun j hj => bestLt _ j hj) v h' tk hv hk'⟩
end Seal
namespace Seal
open PySem PySem.Spec PyProof.Rows L2 LamX NdefX
/-! ### sorted(pairs, key=lambda pair: pair[0]) -/
theorem key_call {P : Program} {w : World} {A : Around} {s : Shared} {f p c' : Addr} {E : Value → Shared → Prop} {Q : Value → Shared → Prop} {x : Str} {qual : Str} {params : Arguments} {scope : Scope} {cl : List (Str × Addr)} {pm ctv : Value} {n1 n2 n3 : Pos} {jj : Nat} {items : Array Value} {k : Value}
    (hdp : A.depth < recursionLimit) (hf : s.heap.get? f = some (PySem.W.kla_obj "<lambda>" qual params (.Subscript (.Name x n1) (.Constant (.int 0) jj n2) n3) scope cl pm c' ctv)) (hcr : Heap.CodeRec s.heap (.ref c') qual) (hlim : Heap.NoLimit s.heap)
    (hco : scope.isCoroutine = false) (hge : scope.isGenerator = false) (hkd : scope.kind = .function) (hnc : ∀ y ∈ scope.names, y.2 ≠ NameKind.cell) (hx : scope.names.lookup x = some .local) (hdb : (x == ("__debug__" : Str)) = false)
    (hb : ∀ u, bindArgs (PySem.W.kla_fn "<lambda>" qual params (.Subscript (.Name x n1) (.Constant (.int 0) jj n2) n3) scope cl pm (.ref c') ctv) { pos := [u] } = pure [(x, u)])
    (hp : IsTup s.heap p items) (h0 : items[0]? = some k) (hsz : items.size ≤ 100)
    (q : ∀ h' tk, (∀ b o, s.heap.get? b = some o → h'.get? b = some o) → Q k { heap := h', gens := s.gens, drawn := s.drawn, toks := tk, os := s.os }) :
    wpAny (model P w) A (call (.ref f) [.ref p]) Q E s := by
  refine wpAny_call (PySem.W.kla_callFunE hdp hf rfl hco hge rfl hcr ?_)
  rw [hb]
  refine wpAny_pure (wpAny_newFunctionEnv hnc (fun y hy => ?_) (fun h₁ hns hsb => ⟨?_, ?_⟩) hkd)
  · simp at hy; subst hy; exact hx
  · exact Heap.NoLimit.fresh hlim _ hsb
  · have kp : ∀ b o, s.heap.get? b = some o → h₁.get? b = some o := fun b o e => Heap.SameBut.extBut hsb b o (Nat.ne_of_lt (Heap.lt_size e)) (Heap.get?_push_of_some _ e)
    refine PySem.W.kla_codeExpr (Subscript_ (wpAny_Name (wpAny_loadName_local hkd hx hns (v := .ref p) (by simp) ?_) hdb))
    refine wpAny_Constant_int ?_
    have hp' : IsTup h₁ p items := by
      obtain ⟨o, a, b⟩ := hp
      exact ⟨o, kp _ _ a, b⟩
    have hpos : 0 < items.size := by
      rcases Nat.lt_or_ge 0 items.size with h | h
      · exact h
      · rw [Array.getElem?_eq_none (by omega)] at h0; cases h0
    have hsi : seqIndex? 0 items.size = some 0 := StrLaws.seqIndex_nonneg (by omega) (by omega)
    refine subscriptTail_builtinR (IsTup.typeIs hp') (Slot.lookup slot_tuple_getitem) (getItem_tuple hp' (by decide) (by decide) hsi h0 ⟨rfl, ?_⟩)
    exact q h₁ _ kp
/-- zipped with what it stands for -/
theorem prs_zip {β : Type} {R0 : β → V → Prop} {H : Hp} {ks : List (Nat × β)} {xs : List V} (h : Prs R0 H ks xs) : ∃ zs : List (V × (Nat × β)), zs.map (·.1) = xs ∧ zs.map (·.2) = ks ∧ ∀ z ∈ zs, ∃ p v, z.1 = .ref p ∧ H p = some (.tup [.str (S [z.2.1]), v]) ∧ R0 z.2.2 v := by
  induction h with
  | nil => exact ⟨[], rfl, rfl, fun z hz => nomatch hz⟩
  | @cons l b p v r xs hp hv _ ih =>
    obtain ⟨zs, a, b', c⟩ := ih
    refine ⟨(.ref p, (l, b)) :: zs, by simp [a], by simp [b'], fun z hz => ?_⟩
    rcases List.mem_cons.mp hz with rfl | hz
    · exact ⟨p, v, rfl, hp, hv⟩
    · exact c z hz
theorem zip_prs {β : Type} {R0 : β → V → Prop} {H : Hp} : ∀ {zs : List (V × (Nat × β))}, (∀ z ∈ zs, ∃ p v, z.1 = .ref p ∧ H p = some (.tup [.str (S [z.2.1]), v]) ∧ R0 z.2.2 v) → Prs R0 H (zs.map (·.2)) (zs.map (·.1))
  | [], _ => .nil
  | (x, (l, b)) :: zs, h => by
    obtain ⟨p, v, rfl, hp, hv⟩ := h _ List.mem_cons_self
    exact .cons hp hv (zip_prs fun z hz => h z (List.mem_cons_of_mem _ hz))
theorem each_of {Rv : Value → V → Prop} {β : Type} : ∀ {zs : List (V × β)} {its : List Value}, Vals (zs.map (·.1)) its → PySem.W.EachIs (fun u (z : V × β) => RelV z.1 u) its zs
  | [], _, h => by cases h; exact .nil
  | z :: zs, _, h => by
    cases h with
    | cons a b => exact .cons a (each_of (Rv := Rv) b)
theorem of_each {β : Type} : ∀ {zs : List (V × β)} {its : List Value}, PySem.W.EachIs (fun u (z : V × β) => RelV z.1 u) its zs → Vals (zs.map (·.1)) its
  | [], _, h => by cases h; exact .nil
  | z :: zs, _, h => by
    cases h with
    | cons a b => exact .cons a (of_each b)
theorem pw_lt {α : Type} {f : α → Nat} : ∀ {l : List α}, l.Pairwise (fun a b => f a ≤ f b) → (l.map f).Nodup → l.Pairwise fun a b => f a < f b
  | [], _, _ => .nil
  | a :: l, h, n => by
    obtain ⟨h1, h2⟩ := List.pairwise_cons.mp h
    obtain ⟨n1, n2⟩ := List.nodup_cons.mp n
    exact List.pairwise_cons.mpr ⟨fun b hb => Nat.lt_of_le_of_ne (h1 b hb) fun e => n1 (e ▸ List.mem_map_of_mem hb), pw_lt h2 n2⟩
theorem le_one {c d : Nat} : ([c] : List Nat) ≤ [d] ↔ c ≤ d := by
  rw [show ([c] : List Nat) ≤ [d] ↔ ¬ ([d] : List Nat) < [c] from Iff.rfl]
  simp [List.cons_lt_cons_iff]
def tSortK (T : Tbs) (te : TE) : TE := fun σ H Q => tCons te tNil σ H fun vs H1 => ∃ v, vs = [v] ∧ Tabs T H1 ∧ ∃ (β : Type) (R0 : β → V → Prop) (ks : List (Nat × β)) (xs : List V) (a : Addr), v = .ref a ∧ H1 a = some (.lst xs) ∧ Prs R0 H1 ks xs ∧ (ks.map (·.1)).Nodup ∧
  ∀ ks' xs' p H2, ks'.Perm ks → Up ks' → Go T M0 H1 H2 → H2 p = some (.lst xs') → Prs R0 H1 ks' xs' → Q (.ref p) H2
theorem pe_sortKey {X : Cx} {T : Tbs} {c P : Addr} {k : Nat} {params : Arguments} {scope : Scope} {p pos kpos lpos n1 n2 n3 : Pos} {e : Expr} {te : TE} {x : Str} {jj : Nat}
    (he : PE X e te) (hm : X.mg "sorted" = none) (hr : Room k X.A) (TB : TabB X.base X.mg c P) (hcode : X.env.code = .ref c) (hmT : (P, X.env.qual ++ "<lambda>") ∈ T) (hu : ∀ q ∈ T, q.1 = P → q.2 = X.env.qual ++ "<lambda>")
    (hdef : defaultsOf params X.env = ([], [])) (hfree : ∀ y ∈ scope.names, y.2 = NameKind.local) (hco : scope.isCoroutine = false) (hge : scope.isGenerator = false) (hkd : scope.kind = .function) (hx : scope.names.lookup x = some .local) (hdb : (x == ("__debug__" : Str)) = false)
    (hb : ∀ qual cl pm cv ctv u, bindArgs (PySem.W.kla_fn "<lambda>" qual params (.Subscript (.Name x n1) (.Constant (.int 0) jj n2) n3) scope cl pm cv ctv) { pos := [u] } = pure [(x, u)])
    (hg : Gl X "sorted" := by rfl) (h0 : starEach [e] X.env = (false, eval e X.env) :: starEach [] X.env := by rfl)
    (h1 : backTo pos (starEach [e] X.env) = (false, eval e X.env) :: backTo pos (starEach [] X.env) := by rfl) (h2 : (backTo pos (starEach [e] X.env)).any (fun x => x.1) = false := by rfl) :
    PE X (.Call (.Name "sorted" p) [e] [{ arg := some "key", value := .Lambda params (.Subscript (.Name x n1) (.Constant (.int 0) jj n2) n3) scope lpos, pos := kpos }] pos) (tSortK T te) := by
  refine ⟨fun pins s σ H Q I h => ?_⟩
  refine wpAny_Call_Name_kw (ld_blt I hg hm (by decide +kernel : bootBuiltins "sorted" = some (.builtin "sorted")) (callWith_kw (thn ((pa_cons he pa_nil h0).run pos pins s σ H _ I h) ?_) h1 h2 rfl rfl) (by decide) (by decide))
  rintro us s1 ⟨vs, H1, I1, r1, v, rfl, hT, β, R0, ks, xs, a, rfl, hl, hp, hnd, q⟩
  refine wpAny_evalAll_cons (wpAny_bind (lam_make2 I1 TB hcode hmT hu hT hdef (fun y hy hf => ?_) fun f c' pm ctv H2 s2 I2 eN T2 hf hfn hfr hco' => ?_))
  · rw [hfree y hy] at hf; cases hf
  refine wpAny_bind (wpAny_standAt (wpAny_pure (wpAny_evalAll_nil ?_)))
  rw [Vals.ref1 r1]
  have hl2 : H2 a = some (.lst xs) := eN a _ hl fun ps z => by cases z
  obtain ⟨its, rv, hpl, hz⟩ := I2.list (SqL.of (K := X.K) hl2)
  obtain ⟨zs, rfl, rfl, hzs⟩ := prs_zip hp
  have hz2 : ∀ z ∈ zs, ∃ p' v, z.1 = .ref p' ∧ H2 p' = some (.tup [.str (S [z.2.1]), v]) := fun z hz => by
    obtain ⟨p', v, e1, e2, _⟩ := hzs z hz
    exact ⟨p', v, e1, eN p' _ e2 fun ps w => by cases w⟩
  have hcode' : Heap.CodeRec s2.heap (.ref c') (X.env.qual ++ "<lambda>") := by
    obtain ⟨⟨oc, vs, t, a1, a2, a3⟩, _⟩ := I2.hok c' _ hco'
    exact ⟨c', oc, vs, t, rfl, a1, a2, a3⟩
  have len : zs.length ≤ sizeLine := by simpa using hz
  refine PySem.W.sorted_key_data (β := V × (Nat × β)) (bs := zs) (R := fun u z => RelV z.1 u) (f := .ref f) (b := false) (fun z => PyData.str (S [z.2.1])) hpl.isList (each_of (Rv := fun _ _ => True) rv) ?_ ?_ len ?_ (ksk_s1 _ _) (fun x => ksk_l1 _ _) (fun x => ksk_t1 f x) ?_ ?_
  · intro d hd d' hd'
    obtain ⟨z, _, rfl⟩ := List.mem_map.mp hd
    obtain ⟨z', _, rfl⟩ := List.mem_map.mp hd'
    rfl
  · refine .inr fun d hd => ?_
    obtain ⟨z, _, rfl⟩ := List.mem_map.mp hd
    exact ⟨(fun w => by cases w), (fun xs w => by cases w)⟩
  · intro z hz
    have := hr.un
    show _ + 2 + PyData.depth (PyData.str _) < cLine
    simp only [PyData.depth]
    omega
  · intro u z hzr hz h tk hk
    obtain ⟨p', v, e1, e2⟩ := hz2 z hz
    rw [e1] at hzr
    cases hzr
    obtain ⟨its', rv', hpl', hz'⟩ := I2.tuple (SqT.of (K := X.K) e2)
    cases rv' with
    | cons k1 k2 =>
      obtain ⟨t1, rfl⟩ := k1
      have hsz := k2.length
      obtain ⟨o', o1, o2⟩ := hpl'
      refine key_call (E := fun _ _ => False) (by have := hr.dp; show X.A.depth < _; omega) (hk _ _ hf) ?_ (Heap.NoLimit.keeps I2.nolimit hk) hco hge hkd (fun y hy e => by rw [hfree y hy] at e; cases e) hx hdb (fun u => hb _ _ _ _ _ u) (items := List.toArray (Value.str (S [z.2.1]) t1 :: _)) ⟨o', hk _ _ o1, o2⟩ rfl (by simp at hsz ⊢; omega) fun h' tk' hk' => ?_
      · obtain ⟨cc, oc, vs, t, e1, a1, a2, a3⟩ := hcode'
        exact ⟨cc, oc, vs, t, e1, hk _ _ a1, a2, a3⟩
      · exact ⟨h', tk', rfl, hk', .str _ _⟩
  · intro out cc h' tk hk hn hg' hlen he
    rw [PySem.W.dataLe_str] at he
    have hpm := List.mergeSort_perm zs (fun a b => decide ((S [a.2.1]).cps.toList ≤ (S [b.2.1]).cps.toList))
    have hso := List.pairwise_mergeSort (le := fun a b : V × (Nat × β) => decide ((S [a.2.1]).cps.toList ≤ (S [b.2.1]).cps.toList)) (fun a b c h1 h2 => decide_eq_true (List.le_trans (of_decide_eq_true h1) (of_decide_eq_true h2))) (fun a b => by
      simp only [S_list, Bool.or_eq_true, decide_eq_true_eq, le_one]; omega) zs
    generalize List.mergeSort zs (fun a b => decide ((S [a.2.1]).cps.toList ≤ (S [b.2.1]).cps.toList)) = zs' at he hpm hso
    have hvals := of_each he
    have hfr := HOk.fresh I2.hok (Nat.le_succ s2.heap.objs.size)
    have J := I2.laid (t' := tk) hk (Nat.le_succ _) (o := .lst (zs'.map (·.1))) ⟨by rw [List.length_map, hpm.length_eq]; exact len, out, cc, hvals, hg'⟩
    refine ⟨.ref _, _, J, rfl, q (zs'.map (·.2)) (zs'.map (·.1)) _ _ (hpm.map _) ?_ ?_ upd_same ?_⟩
    · refine List.pairwise_map.mpr (pw_lt (f := fun z : V × (Nat × β) => z.2.1) (hso.imp fun h => ?_) ?_)
      · have := of_decide_eq_true h
        rw [S_list, S_list] at this
        exact le_one.mp this
      · have hm := hpm.map (fun z : V × (Nat × β) => z.2.1)
        refine hm.nodup_iff.mpr ?_
        rw [List.map_map] at hnd
        exact hnd
    · refine ⟨fun b o e z => ?_, fun t => ?_⟩
      · have e2 : H2 b = some o := eN b o e fun ps w => by
          rw [w] at z
          rcases z with z | z
          · cases z
          · exact absurd (show true = false from z.1) (by decide)
        rw [upd_ne (fun w => by rw [w, hfr] at e2; cases e2)]
        exact e2
      · refine T2.ext fun b o e => ?_
        rw [upd_ne (fun w => by rw [w, hfr] at e; cases e)]
        exact e
    · exact zip_prs fun z hz => hzs z (hpm.mem_iff.mp hz)
end Seal
namespace Seal
open PySem PySem.Spec PyProof.Rows L2 LamX NdefX
/-! ### a, b, c = e1, e2, e3 -/
def tPar3 (i j k : Nat) (ta : TA) : TS := fun D σ H => ta σ H fun vs H1 => ∃ u v w, vs = [u, v, w] ∧ D.nx (((σ.set i (some u)).set j (some v)).set k (some w)) H1
theorem ps_par3 {X : Cx} {pos : Pos} {i j k : Nat} {x y z : Str} {a b c : Expr} {ta : TA} {px py pz pt : Pos} {kt k2 : Nat} {pt2 : Pos} (hc : X.calm = true) (hN : X.N.Nodup) (hi : X.N[i]? = some x) (hj : X.N[j]? = some y) (hk : X.N[k]? = some z) (hij : i ≠ j) (hik : i ≠ k) (hjk : j ≠ k)
    (hx : X.env.scope.names.lookup x = some .local) (hy : X.env.scope.names.lookup y = some .local) (hz : X.env.scope.names.lookup z = some .local) (ha : PA X [a, b, c] ta)
    (hw : swappedStores [.Tuple [.Name x px, .Name y py, .Name z pz] kt pt] (.Tuple [a, b, c] k2 pt2) X.env = pure (some [x, y, z]))
    (hs : swapsWithSole [.Tuple [.Name x px, .Name y py, .Name z pz] kt pt] (.Tuple [a, b, c] k2 pt2) pos.line X.env = pure false := by rfl) :
    PS X (.Assign [.Tuple [.Name x px, .Name y py, .Name z pz] kt pt] (.Tuple [a, b, c] k2 pt2) pos) (tPar3 i j k ta) := by
  refine ⟨fun pins s σ H D I h => ?_⟩
  rw [exec_Assign_arm]
  refine wpAny_bind (wpAny_standAt ?_)
  rw [hs]
  refine wpAny_bind (wpAny_pure ?_)
  rw [if_neg (by decide)]
  refine wpAny_bind (Tuple_ (thn (ha.run pt2 pins s σ H _ I h) ?_))
  rintro us s1 ⟨vs, H1, I1, r1, u, v, w, rfl, q⟩
  obtain ⟨u1, u2, u3, rfl, r1, r2, r3⟩ : ∃ u1 u2 u3, us = [u1, u2, u3] ∧ RelV u u1 ∧ RelV v u2 ∧ RelV w u3 := by
    cases r1 with
    | cons r1 r =>
      cases r with
      | cons r2 r =>
        cases r with
        | cons r3 r =>
          cases r
          exact ⟨_, _, _, rfl, r1, r2, r3⟩
  refine wpAny_newTuple ?_ (sz (by simp))
  rw [hw]
  refine wpAny_bind (wpAny_pure (wpAny_bind (wpAny_rule (wpAny_bind (unpackItems_tuple (items := #[u1, u2, u3]) (I.ok.hd hc) (IsTup.new s1.heap #[u1, u2, u3]) fun h' hx' => ?_)))))
  have I2 := I1.kept (t' := s1.toks) (h' := h') fun b o e => hx' b o (Nat.ne_of_lt (Heap.lt_size (Heap.get?_push_of_some _ e))) (Heap.get?_push_of_some _ e)
  refine wpAny_bind (assignInOrder_cons (wpAny_bindName (store_ok I2 hN hk (Or.inl hz) r3 (fun s2 J2 => assignInOrder_cons (wpAny_bindName (store_ok J2 hN hj (Or.inl hy) r2 (fun s3 J3 => assignInOrder_cons (wpAny_bindName (store_ok J3 hN hi (Or.inl hx) r1 (fun s4 J4 => assignInOrder_nil (wpAny_pure ?_)) (Or.inr hx)))) (Or.inr hy)))) (Or.inr hz))))
  refine ⟨_, H1, ?_, q⟩
  have e : (((σ.set i (some u)).set j (some v)).set k (some w)) = (((σ.set k (some w)).set j (some v)).set i (some u)) := by
    rw [List.set_comm (some w) (some v) (Ne.symm hjk), List.set_comm (some w) (some u) (Ne.symm hik), List.set_comm (some v) (some u) (Ne.symm hij)]
  rw [e]
  exact J4
/-! ### s.startswith(t) -/
theorem sw_S (a b : W) : Txt.startswith (S a) (S b) = decide (b <+: a) := by
  unfold Txt.startswith Builtin.Str.subAt
  rw [S_len, S_len]
  have e : (Array.extract (S a).cps 0 (0 + b.length) == (S b).cps) = decide (a.take b.length = b) := by
    have : Array.extract (S a).cps 0 (0 + b.length) = (a.take b.length).toArray := by
      simp [S]
    rw [this]
    by_cases h : a.take b.length = b
    · rw [h]; simp [S]
    · simp only [S]
      rw [decide_eq_false h]
      simp [h]
  rw [e]
  by_cases h : b <+: a
  · rw [decide_eq_true h, decide_eq_true (by have := h.length_le; omega), decide_eq_true (List.prefix_iff_eq_take.mp h).symm]; rfl
  · rw [decide_eq_false h]
    have : decide (a.take b.length = b) = false := decide_eq_false fun z => h (z ▸ List.take_prefix _ _)
    rw [this]
    simp
theorem pe_sw {X : Cx} {o e : Expr} {to te : TE} {apos pos : Pos} (ho : PE X o to) (he : PE X e te) (h1 : starEach [e] X.env = [(false, eval e X.env)] := by rfl) (h2 : attributeBase o "startswith" X.env (eval o X.env) = eval o X.env := by rfl) (h3 : (apos.endLine == pos.line) = true := by rfl) :
    PE X (.Call (.Attribute o "startswith" apos) [e] [] pos) (tM1 (fun x xs H Q => ∃ a b, x = V.str a ∧ xs = [V.str b] ∧ Q (V.bl (Txt.startswith a b)) H) to te) :=
  pe_m1 PySem.F.slot_str_startswith PySem.F.type_str_startswith mt_startswith ho he h1 h2 h3
end Seal
namespace Seal
open PySem PySem.Spec PyProof.Rows L2 LamX NdefX
/-! ### a, *rest = t -/
theorem vals_take : ∀ {xs : List V} {us : List Value}, Vals xs us → ∀ n, Vals (xs.take n) (us.take n)
  | _, _, .nil, n => by simp; exact .nil
  | _, _, .cons a b, 0 => .nil
  | _, _, .cons a b, n + 1 => .cons a (vals_take b n)
theorem vals_drop : ∀ {xs : List V} {us : List Value}, Vals xs us → ∀ n, Vals (xs.drop n) (us.drop n)
  | _, _, .nil, n => by simp; exact .nil
  | _, _, .cons a b, 0 => .cons a b
  | _, _, .cons a b, n + 1 => vals_drop b n
theorem vals_app : ∀ {xs ys : List V} {us vs : List Value}, Vals xs us → Vals ys vs → Vals (xs ++ ys) (us ++ vs)
  | _, _, _, _, .nil, h => h
  | _, _, _, _, .cons a b, h => .cons a (vals_app b h)
theorem star_tuple {prog : Program} {w : World} {A : Around} {E : Value → Shared → Prop} {s : Shared} {l : Addr} {items : Array Value} {n i : Nat} {Q : List Value → Shared → Prop} (hl : IsTup s.heap l items) (hh : A.handled = none) (hi : i < n) (hn : n ≤ items.size + 1) (hz : items.size ≤ 1000)
    (h : ∀ (h' : Heap) (tk : Nat), (∀ b o, s.heap.get? b = some o → h'.get? b = some o) → Q (items.toList.take i ++ [.ref h'.objs.size] ++ (items.toList.drop i).drop (items.size + 1 - n)) { heap := h'.push { cls := .type "list", data := .seq ((items.toList.drop i).take (items.size + 1 - n)).toArray }, gens := s.gens, drawn := s.drawn, toks := tk, os := s.os }) :
    wpAny (model prog w) A (unpackItems (.ref l) n (some i)) Q E s := by
  obtain ⟨ol, hol, hl1, hl2⟩ := id hl
  have hlt := Nat.ne_of_lt (Heap.lt_size hol)
  unfold unpackItems
  refine wpAny_bind (wpAny_bind (wpAny_specialOf (IsTup.typeIs hl) (Slot.lookup slot_tuple_iter) (wpAny_pure ?_)))
  simp only [Option.isNone, Bool.false_eq_true, if_false]
  refine wpAny_bind (wpAny_holding (iter_tuple hl (wpAny_bind (wpAny_holding (draw_tuple (items := items) hlt i 0 _ _ ⟨_, Heap.get?_push_size _ rfl, rfl, rfl⟩ ⟨ol, Heap.get?_push_of_some _ hol, hl1, hl2⟩ (by omega) ?_)))))
  intro h₁ hit₁ hs₁
  have hsz : items.toList.length = items.size := Array.length_toList
  have hfl : ((items.toList.drop 0).take i).length = i := by rw [List.length_take, List.drop_zero, hsz]; omega
  rw [if_neg (by rw [hfl]; omega)]
  have k0 : ∀ b o, b ≠ s.heap.objs.size → s.heap.get? b = some o → h₁.get? b = some o := fun b o hb e => Heap.SameBut.extBut hs₁ b o hb (Heap.get?_push_of_some _ e)
  have hl1' : IsTup h₁ l items := ⟨ol, k0 l ol hlt hol, hl1, hl2⟩
  have hit' : IsTupIter h₁ s.heap.objs.size l i := by rw [Nat.zero_add] at hit₁; exact hit₁
  obtain ⟨oi, hoi, _⟩ := id hit'
  obtain ⟨ot, hot, _⟩ := id hl1'
  refine wpAny_bind (wpAny_holding (PySem.W.kun_collect (items := items) (ax := l) (k := i) (St := fun i h => Heap.IsTupleIter h s.heap.objs.size l i ∧ Heap.IsTuple h l items) (Or.inr (Or.inr (Or.inr rfl))) (Walks.tuple (A := A.in1) hh s.heap.objs.size l hlt items) (fun j u st => Heap.IsTupleIter.typeIs st.1) (by omega) ⟨hit', hl1'⟩ (Heap.lt_size hoi) (Heap.lt_size hot) ?_ (sz (by omega))))
  intro h₂ tk hk
  have hrl : (items.toList.drop i).length = items.size - i := by rw [List.length_drop, hsz]
  rw [if_neg (by rw [hrl]; omega)]
  have hmid : (items.toList.drop i).length - (n - 1 - i) = items.size + 1 - n := by rw [hrl]; omega
  rw [hmid]
  refine wpAny_bind (wpAny_newList (wpAny_pure ?_) (sz (by rw [List.length_take, hrl]; omega)))
  rw [List.drop_zero]
  have kk : ∀ b o, s.heap.get? b = some o → h₂.get? b = some o := fun b o e => hk b o (Nat.ne_of_lt (Heap.lt_size e)) (k0 b o (Nat.ne_of_lt (Heap.lt_size e)) e)
  exact h h₂ tk kk
/-- what a star takes of a tuple: xs[i:..] -/
def gStar (K : PySem.W.Frag) (n i : Nat) (t : TGs) : TG := fun v σ H Q => ∃ a xs, v = .ref a ∧ SqT K H a xs ∧ i < n ∧ n ≤ xs.length + 1 ∧ xs.length ≤ 1000 ∧ ∀ D, H D = none → t (xs.take i ++ [.ref D] ++ (xs.drop i).drop (xs.length + 1 - n)) σ (upd H D (.lst ((xs.drop i).take (xs.length + 1 - n)))) Q
theorem pgs_star {X : Cx} {e : Expr} {es : List Expr} {p : Pos} {t : TGs} (h : PGs X (e :: es) t) (he : (assignEach (.Starred e p :: es) X.env).map (fun x => x.2) = (assignEach (e :: es) X.env).map (fun x => x.2) := by rfl) : PGs X (.Starred e p :: es) t :=
  ⟨fun pins s σ H vs us Q I r hw => by rw [he]; exact h.run pins s σ H vs us Q I r hw⟩
theorem pg_star {X : Cx} {pos : Pos} {es : List Expr} {k : Nat} {t : TGs} {n i : Nat} (hc : X.calm = true) (hg : PGs X es t) (hn : (assignEach es X.env).length = n := by rfl) (hst : (assignEach es X.env).findIdx? (fun x => x.1) = some i := by rfl) : PG X (.Tuple es k pos) (gStar X.K n i t) := by
  refine ⟨fun pins s σ H v u Q I r hw => ?_⟩
  obtain ⟨a, xs, rfl, hq, hi, hn', hz, hw⟩ := hw
  cases r
  obtain ⟨its, rv, ht, _⟩ := I.tuple hq
  have hlen := Vals.length rv
  rw [assign_Tuple]
  refine wpAny_bind (wpAny_standAt ?_)
  unfold unpack
  rw [hn, hst]
  refine wpAny_bind (wpAny_holding (star_tuple (items := its.toArray) ht (I.ok.hd hc) hi (by simp; omega) (by simp; omega) fun h' tk hk => ?_))
  have hsz : its.toArray.size = xs.length := by simp [hlen]
  have I1 := I.kept (t' := tk) hk
  have hD := HOk.fresh I1.hok (Nat.le_refl _)
  have hv : Vals ((xs.drop i).take (xs.length + 1 - n)) ((its.drop i).take (xs.length + 1 - n)) := vals_take (vals_drop rv _) _
  have I2 := I1.laid (t' := tk) (o := .lst ((xs.drop i).take (xs.length + 1 - n))) (a := h'.objs.size) (h' := h'.push { cls := .type "list", data := .seq ((its.drop i).take (xs.length + 1 - n)).toArray }) (fun b o e => Heap.get?_push_of_some _ e) (Nat.le_refl _)
    ⟨sz (by rw [List.length_take, List.length_drop]; omega), _, 0, hv, Heap.get?_push_size _ rfl⟩
  simp only [hsz]
  exact hg.run pins _ σ _ _ _ Q I2 (vals_app (vals_app (vals_take rv _) (.cons (show RelV (.ref h'.objs.size) (.ref h'.objs.size) from rfl) .nil)) (vals_drop (vals_drop rv _) _)) (hw _ hD)
end Seal
namespace Seal
open PySem PySem.Spec PyProof.Rows L2 LamX NdefX
/-! ### told, height, start, kid_at -/
def digs (n : Int) : W := (Str.ofString (toString n)).cps.toList
theorem S_digs (n : Int) : S (digs n) = Str.ofString (toString n) := S_of _
theorem digs_len {n : Int} (h : 0 ≤ n) {k : Nat} (hk : 0 < k) (h' : n < 10 ^ k) : (digs n).length ≤ k := by
  have := toString_length_le h hk h'
  rw [← S_digs, S_len] at this
  exact this
/-- how a node's text begins -/
def startW (s : W) : Option W → W
  | none => s ++ [45]
  | some x => s ++ 61 :: (digs x.length ++ 58 :: x)
def spStubTold (K : PySem.W.Frag) : Sp := fun vs H Q _ => ∃ (n : Int) (v : V), vs = [v] ∧ Rep K H (.stub n) v ∧ ∀ d H', Gz K H H' → RepD H' (.stub n) d → Q d H'
def spNodeTold (K : PySem.W.Frag) (m : Nat) : Sp := fun vs H Q _ => ∃ s o ks v, vs = [v] ∧ Rep K H (.node s o ks) v ∧ ks.length ≤ 1000 ∧ (∀ p ∈ ks, ht p.2 < m ∧ Wf p.2) ∧ ∀ d H', Gz K H H' → RepD H' (.node s o ks) d → Q d H'
def spStubHeight (K : PySem.W.Frag) : Sp := fun vs H Q _ => ∃ (n : Int) (v : V), vs = [v] ∧ Rep K H (.stub n) v ∧ Q (.int 0) H
def spNodeHeight (K : PySem.W.Frag) (m : Nat) : Sp := fun vs H Q _ => ∃ s o ks v, vs = [v] ∧ Rep K H (.node s o ks) v ∧ s.length ≤ 1000 ∧ ks.length ≤ 1000 ∧ (∀ p ∈ ks, ht p.2 < m ∧ Wf p.2) ∧ (∀ p ∈ ks, ht p.2 ≤ 1000) ∧ Ret K (.int (ht (.node s o ks))) H Q
def spStart (K : PySem.W.Frag) : Sp := fun vs H Q _ => ∃ s o ks v, vs = [v] ∧ Rep K H (.node s o ks) v ∧ s.length ≤ 8 ∧ (∀ x, o = some x → Vl x) ∧ Q (.str (S (startW s o))) H
def spKidAt (K : PySem.W.Frag) : Sp := fun vs H Q _ => ∃ s o ks v l, vs = [v, .str (S [l])] ∧ Rep K H (.node s o ks) v ∧ ∀ r H', Gz K H H' → RepO K H' (kat ks l) r → Q r H'
theorem sc_Node_told : FnScope ["self", "letter", "kid"] ["self"] (defScope s_Node_told) := ⟨rfl, rfl, rfl, by decide +kernel, rfl, by decide +kernel, by decide +kernel⟩
theorem sc_Node_start : FnScope ["self"] ["self"] (defScope s_Node_start) := ⟨rfl, rfl, rfl, by decide +kernel, rfl, by decide +kernel, by decide +kernel⟩
theorem sc_Node_height : FnScope ["self", "letter", "kid"] ["self"] (defScope s_Node_height) := ⟨rfl, rfl, rfl, by decide +kernel, rfl, by decide +kernel, by decide +kernel⟩
theorem sc_Node_kid_at : FnScope ["self", "letter", "own", "kid"] ["self", "letter"] (defScope s_Node_kid_at) := ⟨rfl, rfl, rfl, by decide +kernel, rfl, by decide +kernel, by decide +kernel⟩
theorem sc_Stub_told : FnScope ["self"] ["self"] (defScope s_Stub_told) := ⟨rfl, rfl, rfl, by decide +kernel, rfl, by decide +kernel, by decide +kernel⟩
theorem sc_Stub_height : FnScope ["self"] ["self"] (defScope s_Stub_height) := ⟨rfl, rfl, rfl, by decide +kernel, rfl, by decide +kernel, by decide +kernel⟩
theorem bind_Node_told : BindQ "told" "Node.told" s_Node_told ["self"] := fun _ _ _ _ _ _ us hl => match us, hl with | [_], _ => rfl
theorem bind_Node_start : BindQ "start" "Node.start" s_Node_start ["self"] := fun _ _ _ _ _ _ us hl => match us, hl with | [_], _ => rfl
theorem bind_Node_height : BindQ "height" "Node.height" s_Node_height ["self"] := fun _ _ _ _ _ _ us hl => match us, hl with | [_], _ => rfl
theorem bind_Node_kid_at : BindQ "kid_at" "Node.kid_at" s_Node_kid_at ["self", "letter"] := fun _ _ _ _ _ _ us hl => match us, hl with | [_, _], _ => rfl
theorem bind_Stub_told : BindQ "told" "Stub.told" s_Stub_told ["self"] := fun _ _ _ _ _ _ us hl => match us, hl with | [_], _ => rfl
theorem bind_Stub_height : BindQ "height" "Stub.height" s_Stub_height ["self"] := fun _ _ _ _ _ _ us hl => match us, hl with | [_], _ => rfl
theorem kat_at {β : Type} : ∀ {ks : List (Nat × β)} {i : Nat} {l : Nat} {b : β}, ks[i]? = some (l, b) → (∀ j p, j < i → ks[j]? = some p → p.1 ≠ l) → kat ks l = some b
  | [], i, l, b, h, _ => by simp at h
  | k :: ks, 0, l, b, h, _ => by
    simp at h
    subst h
    simp [kat]
  | (l', b') :: ks, i + 1, l, b, h, hn => by
    have := hn 0 (l', b') (by omega) (by simp)
    simp only [kat]
    rw [if_neg this]
    exact kat_at (by simpa using h) fun j p hj hp => hn (j + 1) p (by omega) (by simpa using hp)
theorem take_snoc {β : Type} {ks : List β} {i : Nat} {b : β} (h : ks[i]? = some b) : ks.take (i + 1) = ks.take i ++ [b] := by
  have hi : i < ks.length := by
    by_cases hh : i < ks.length
    · exact hh
    · rw [List.getElem?_eq_none (by omega)] at h; cases h
  rw [List.take_succ, h]
  rfl
section
variable {P : Program} {w : World} {K : PySem.W.Frag} {mg : Str → Option Value} {base : Heap}
theorem D_Stub_told (n : FnM1 K "Stub" "told" "Stub.told" s_Stub_told) (G : TX K mg) : DefM P w K mg base 1 "Stub" "told" ["self"] (spStubTold K) := by
  refine n.mk0 sc_Stub_told bind_Stub_told (fun vs H Q E h => ?_) (fun cdv A outer s H vs Q E hr h => ?_)
  · obtain ⟨_, _, rfl, _⟩ := h
    rfl
  · obtain ⟨m, v, rfl, hv, q⟩ := h
    obtain ⟨a, dx, rfl, ha⟩ := Rep.stub.mp hv
    refine ⟨_, (pss_one (ps_ret (pe_tup (pa_cons pe_str (pa_cons (pe_fld (pv 0) rfl) pa_nil))))), ?_⟩
    refine ⟨_, rfl, a, _, dx, _, _, rfl, ha, G.tS.cl, G.nN, rfl, (by show 2 ≤ sizeLine; decide), fun t ht => ?_⟩
    exact q _ _ (.new ht) (RepD.stub.mpr ⟨t, rfl, upd_same⟩)
theorem D_Stub_height (n : FnM1 K "Stub" "height" "Stub.height" s_Stub_height) (G : TX K mg) : DefM P w K mg base 1 "Stub" "height" ["self"] (spStubHeight K) := by
  refine n.mk0 sc_Stub_height bind_Stub_height (fun vs H Q E h => ?_) (fun cdv A outer s H vs Q E hr h => ?_)
  · obtain ⟨_, _, rfl, _⟩ := h
    rfl
  · obtain ⟨m, v, rfl, hv, q⟩ := h
    exact ⟨_, (pss_one (ps_ret pe_int)), q⟩
theorem D_Node_start (n : FnM1 K "Node" "start" "Node.start" s_Node_start) (G : TX K mg) : DefM P w K mg base 1 "Node" "start" ["self"] (spStart K) := by
  refine n.mk0 sc_Node_start bind_Node_start (fun vs H Q E h => ?_) (fun cdv A outer s H vs Q E hr h => ?_)
  · obtain ⟨_, _, _, _, rfl, _⟩ := h
    rfl
  · obtain ⟨s, o, ks, v, rfl, hv, hs, ho, q⟩ := h
    obtain ⟨a, dx, l, xs, rfl, ha, hl, hx⟩ := Rep.node.mp hv
    refine ⟨_, (pss_cons (ps_if (pt_cmpR op_isN (pe_fld (pv 0) rfl) pe_non (nomark _)) (pss_one (ps_ret (pe_joined (.cons (pe_fmt (pe_fld (pv 0) rfl)) (.cons pe_str .nil))))) pss_nil)
      (pss_one (ps_ret (pe_joined (.cons (pe_fmt (pe_fld (pv 0) rfl)) (.cons pe_str (.cons (pe_fmt (pe_callB call_len_str (by rfl) G.b_len PySem.boot_len (pa_cons (pe_fld (pv 0) rfl) pa_nil))) (.cons pe_str (.cons (pe_fmt (pe_fld (pv 0) rfl)) .nil))))))))), ?_⟩
    refine ⟨_, rfl, a, _, dx, _, _, rfl, ha, G.tN.cl, G.nV, rfl, rfl, _, rfl, ?_⟩
    rw [oS_non]
    cases o with
    | none =>
      refine ⟨_, rfl, a, _, dx, _, _, rfl, ha, G.tN.cl, G.nS, rfl, .inl ⟨_, rfl, by rw [S_len]; exact sz (by omega), _, rfl, ?_, _, rfl, ?_, ?_⟩⟩
      · show (S [] ++ S s).length ≤ sizeLine
        rw [S_app, S_len]; exact sz (by simp; omega)
      · show (S [] ++ S s ++ S [45]).length ≤ sizeLine
        rw [S_app, S_app, S_len]; exact sz (by simp; omega)
      · show Q (.str (S [] ++ S s ++ S [45])) H
        rw [S_app, S_app]
        exact q
    | some x =>
      have hx' := ho x rfl
      have hd := digs_len (n := x.length) (by omega) (k := 2) (by omega) (by have := hx'.1; omega)
      have h40 := hx'.1
      refine ⟨_, rfl, a, _, dx, _, _, rfl, ha, G.tN.cl, G.nS, rfl, .inl ⟨_, rfl, by rw [S_len]; exact sz (by omega), _, rfl, ?_, _, rfl, ?_, _, rfl, a, _, dx, _, _, rfl, ha, G.tN.cl, G.nV, rfl, _, rfl, by rw [S_len]; exact sz (by omega), ?_⟩⟩
      · show (S [] ++ S s).length ≤ sizeLine
        rw [S_app, S_len]; exact sz (by simp; omega)
      · show (S [] ++ S s ++ S [61]).length ≤ sizeLine
        rw [S_app, S_app, S_len]; exact sz (by simp; omega)
      · rw [S_len]
        refine .inr ⟨_, rfl, ?_, ?_⟩
        · have : (x.length : Int).natAbs.log2 ≤ x.length := by
            rw [Int.natAbs_natCast]
            exact Nat.log2_le_self _
          omega
        rw [← S_digs]
        refine ⟨_, rfl, ?_, _, rfl, ?_, _, rfl, a, _, dx, _, _, rfl, ha, G.tN.cl, G.nV, rfl, .inl ⟨_, rfl, by rw [S_len]; exact sz (by omega), _, rfl, ?_, ?_⟩⟩
        · show (S [] ++ S s ++ S [61] ++ S (digs _)).length ≤ sizeLine
          rw [S_app, S_app, S_app, S_len]; exact sz (by simp; omega)
        · show (S [] ++ S s ++ S [61] ++ S (digs _) ++ S [58]).length ≤ sizeLine
          rw [S_app, S_app, S_app, S_app, S_len]; exact sz (by simp; omega)
        · show (S [] ++ S s ++ S [61] ++ S (digs _) ++ S [58] ++ S x).length ≤ sizeLine
          rw [S_app, S_app, S_app, S_app, S_app, S_len]; exact sz (by simp; omega)
        · show Q (.str (S [] ++ S s ++ S [61] ++ S (digs _) ++ S [58] ++ S x)) H
          rw [S_app, S_app, S_app, S_app, S_app]
          have : [] ++ s ++ [61] ++ digs ↑x.length ++ [58] ++ x = startW s (some x) := by simp [startW]
          rw [this]
          exact q
theorem D_Node_kid_at (n : FnM1 K "Node" "kid_at" "Node.kid_at" s_Node_kid_at) (G : TX K mg) : DefM P w K mg base 1 "Node" "kid_at" ["self", "letter"] (spKidAt K) := by
  refine n.mk0 sc_Node_kid_at bind_Node_kid_at (fun vs H Q E h => ?_) (fun cdv A outer s H vs Q E hr h => ?_)
  · obtain ⟨_, _, _, _, _, rfl, _⟩ := h
    rfl
  · obtain ⟨s, o, ks, v, c, rfl, hv, q⟩ := h
    obtain ⟨a, dx, l, xs, rfl, ha, hl, hx⟩ := Rep.node.mp hv
    refine ⟨_, (pss_cons (ps_for PassesOwn.never rfl (pi_tup (pe_fld (pv 0) rfl)) (pg_tup rfl (pgs_cons (pg_name (i := 2) sc_Node_kid_at.nd rfl (Or.inl rfl)) (pgs_cons (pg_name (i := 3) sc_Node_kid_at.nd rfl (Or.inl rfl)) pgs_nil))) (pss_one (ps_if (pt_cmpR op_eq (pv 2) (pv 1) (nomark _)) (pss_one (ps_ret (pv 3))) pss_nil)))
      (pss_one (ps_ret pe_non))), ?_⟩
    refine ⟨_, rfl, a, _, dx, _, _, rfl, ha, G.tN.cl, G.nK, rfl, l, rfl, ⟨_, SqT.of hl⟩, for_it (walk_tup (xs := xs)) (fun i σ H' => H' = H ∧ (∃ x y, σ = [some (.ref a), some (.str (S [c])), x, y]) ∧ ∀ j p, j < i → ks[j]? = some p → p.1 ≠ c) ⟨rfl, ⟨_, _, rfl⟩, fun j _ h => absurd h (by omega)⟩ (fun i σ H' _ ⟨e, _⟩ => by rw [e]; exact SqT.of hl) ?_ ?_⟩
    · rintro i x σ H' H'' hi ⟨rfl, ⟨y, z, rfl⟩, hn⟩ ⟨rfl, hxi⟩
      obtain ⟨l', b, p, v, hk, hm, rfl, hp, hb⟩ := hx.at_ hxi
      refine ⟨p, _, rfl, SqT.of hp, rfl, _, _, rfl, _, _, rfl, rfl, ?_⟩
      refine ⟨_, rfl, _, rfl, rfl, _, rfl, ?_⟩
      rw [dec_S]
      by_cases e : [l'] = [c]
      · rw [decide_eq_true e]
        have e' : l' = c := by simpa using e
        subst e'
        refine ⟨_, rfl, q _ _ .refl ?_⟩
        have := kat_at hk hn
        rw [this]
        exact hb
      · rw [decide_eq_false e]
        refine ⟨rfl, ⟨_, _, rfl⟩, fun j p' hj hp' => ?_⟩
        by_cases hji : j = i
        · subst hji
          rw [hk] at hp'
          cases hp'
          exact fun z => e (congrArg (fun x => [x]) z)
        · exact hn j p' (by omega) hp'
    · rintro σ H' ⟨rfl, ⟨y, z, rfl⟩, hn⟩
      refine q _ _ .refl ?_
      rw [kat_none fun p hp => ?_]
      · rfl
      · obtain ⟨j, hj, rfl⟩ := List.getElem_of_mem hp
        exact hn j _ (by rw [hx.length]; exact hj) (by simp [hj])
theorem D_Node_told (n : FnM1 K "Node" "told" "Node.told" s_Node_told) (G : TX K mg) (D_St : DefM P w K mg base 1 "Stub" "told" ["self"] (spStubTold K)) : ∀ m, DefM P w K mg base (m + 2) "Node" "told" ["self"] (spNodeTold K m) := by
  have step : ∀ m sp, DefM P w K mg base (m + 1) "Node" "told" ["self"] sp → (∀ H (v : V) (Q : VK) E t, Rep K H t v → Wf t → ht t < m → (∀ s o ks, t = .node s o ks → (∀ d H', Gz K H H' → RepD H' t d → Q d H') → sp [v] H Q E)) → DefM P w K mg base (m + 2) "Node" "told" ["self"] (spNodeTold K m) := by
    intro m sp D_Nt hsp
    refine n.mk0 sc_Node_told bind_Node_told (fun vs H Q E h => ?_) (fun cdv A outer s H vs Q E hr h => ?_)
    · obtain ⟨_, _, _, _, rfl, _⟩ := h
      rfl
    · obtain ⟨s, o, ks, v, rfl, hv, hlen, hks, q⟩ := h
      obtain ⟨a, dx, l, xs, rfl, ha, hl, hx⟩ := Rep.node.mp hv
      refine ⟨_, (pss_one (ps_ret (pe_tup (pa_cons pe_str (pa_cons (pe_fld (pv 0) rfl) (pa_cons (pe_fld (pv 0) rfl) (pa_cons (pe_callTy call_tuple_of (by rfl) G.b_tuple (by decide +kernel) (pa_cons (pe_lc (own := [("letter", 1), ("kid", 2)]) (g := gTup K 2 (gCons (gName 1) (gCons (gName 2) gNil))) (te := tTup (tCons (tVar 1) (tCons (fun σ H Q => tMeth (SA K) "told" (spStubTold K) [] E0 (tVar 2) tNil σ H Q ∨ tMeth (NA K) "told" sp [] E0 (tVar 2) tNil σ H Q) tNil))) (tt := tYes) (by rfl) sc_Node_told.nd (pi_tup (pe_fld (pv 0) rfl)) (blkOk_by (N := ["self", "letter", "kid"]) (sc := defScope s_Node_told) (by decide +kernel)) (fun _ _ _ _ _ => pg_tup rfl (pgs_cons (pg_name (i := 1) sc_Node_told.nd rfl (Or.inl rfl)) (pgs_cons (pg_name (i := 2) sc_Node_told.nd rfl (Or.inl rfl)) pgs_nil))) (fun _ _ _ _ _ => pts_nil) (fun _ _ _ _ _ => (pe_tup (pa_cons (pv 1) (pa_cons (PE.or' (pe_md0 (pv 2) G.tS.cl G.m_St D_St (hr.mono (by omega))) (pe_md0 (pv 2) G.tN.cl G.m_Nt D_Nt (hr.mono (by omega)))) pa_nil))))) pa_nil)) pa_nil))))))), ?_⟩
      refine ⟨_, rfl, a, _, dx, _, _, rfl, ha, G.tN.cl, G.nS, rfl, _, rfl, a, _, dx, _, _, rfl, ha, G.tN.cl, G.nV, rfl, _, rfl, a, _, dx, _, _, rfl, ha, G.tN.cl, G.nK, rfl, l, rfl, ⟨_, SqT.of hl⟩, fun D hD => ?_⟩
      refine lc_go (Ts := tbs K) (M := M0) (walk_tup (xs := xs)) hD (by rw [hx.length]; omega) m0_ne (fun i acc H' => Gz K H H' ∧ RepQ H' (ks.take i) acc) (fun i acc H' H'' ⟨a, b⟩ g => ⟨a.loc hD g, b.keep g.keep⟩) ⟨.refl, .nil⟩ (fun i acc H' _ ⟨g, _⟩ => SqT.of (g.tup hl)) ?_ ?_
      · rintro i acc x H' H'' R1 R2 hi ⟨g, hb⟩ ⟨rfl, hxi⟩ r1 r2
        obtain ⟨l', b, p, v, hk, hm, rfl, hp, hbv⟩ := hx.at_ hxi
        refine ⟨p, _, rfl, SqT.of (g.tup hp), rfl, _, _, rfl, _, _, rfl, rfl, rfl, ?_⟩
        have hbv' := Rep.keep g.keep b hbv
        have fin : ∀ d H3, Gz K H'' H3 → RepD H3 b d → ∀ t, H3 t = none → R1 (.ref t) (upd H3 t (.tup [.str (S [l']), d])) := by
          intro d H3 g3 hd t htn
          have g4 : Gz K H'' (upd H3 t (.tup [.str (S [l']), d])) := g3.news htn
          refine r1 _ _ g4 ⟨g.trans g4, ?_⟩
          rw [take_snoc hk]
          exact (hb.keep g4.keep).snoc upd_same (RepD.keep (Go.new (Ts := tbs K) (M := M0) htn).keep b hd)
        obtain ⟨e1, e2⟩ := hks _ hm
        cases b with
        | stub n' =>
          obtain ⟨a', dx', rfl, ha'⟩ := Rep.stub.mp hbv'
          exact ⟨_, rfl, .inl ⟨_, rfl, a', dx', _, rfl, ha', rfl, n', _, rfl, hbv', fun d H3 g3 hd => ⟨by show 2 ≤ sizeLine; decide, fin d H3 g3 hd⟩⟩⟩
        | node s' o' ks' =>
          obtain ⟨a', dx', l'', xs', rfl, ha', _⟩ := Rep.node.mp hbv'
          exact ⟨_, rfl, .inr ⟨_, rfl, a', dx', _, rfl, ha', rfl, hsp H'' _ _ _ _ hbv' e2 e1 s' o' ks' rfl fun d H3 g3 hd => ⟨by show 2 ≤ sizeLine; decide, fin d H3 g3 hd⟩⟩⟩
      · rintro acc H' ⟨g, hb⟩ h1 _
        rw [hx.length, List.take_length] at hb
        refine ⟨D, acc, rfl, .inl ⟨.of h1, fun t htn => ⟨by show 4 ≤ sizeLine; decide, fun u hun => ?_⟩⟩⟩
        have g1 : Gz K H' (upd H' t (.tup acc)) := .new htn
        have g2 : Gz K (upd H' t (.tup acc)) (upd (upd H' t (.tup acc)) u (.tup [.str "node", .str (S s), oS o, .ref t])) := .new hun
        exact q _ _ (g.trans (g1.trans g2)) (RepD.node.mpr ⟨u, t, acc, rfl, upd_same, g2.tup upd_same, hb.keep (g1.trans g2).keep⟩)
  intro m
  induction m with
  | zero => exact step 0 _ (n.no0 sc_Node_told bind_Node_told) (fun H v Q E t _ _ h => absurd h (by omega))
  | succ m ih =>
    refine step (m + 1) _ ih fun H v Q E t hr hw hlt s o ks e hq => ?_
    subst e
    refine ⟨s, o, ks, v, rfl, hr, ?_, fun p hp => ⟨?_, ?_⟩, hq⟩
    · exact wf_few hw
    · have := ht_mem hp
      simp only [ht] at hlt
      omega
    · exact ((Wf.node.mp hw).2.2.2.2 p hp).2
theorem htK_maxi : ∀ (ks : List (Nat × T)), ks ≠ [] → (htK ks : Int) ∈ ks.map (fun p => ((1 + ht p.2 : Nat) : Int)) ∧ ∀ y ∈ ks.map (fun p => ((1 + ht p.2 : Nat) : Int)), y ≤ htK ks
  | ks, h => by
    obtain ⟨p, hp, e⟩ := htK_at h
    refine ⟨List.mem_map.mpr ⟨p, hp, by rw [e]⟩, fun y hy => ?_⟩
    obtain ⟨q, hq, rfl⟩ := List.mem_map.mp hy
    have := ht_mem hq
    omega
theorem D_Node_height (n : FnM1 K "Node" "height" "Node.height" s_Node_height) (G : TX K mg) (D_Sh : DefM P w K mg base 1 "Stub" "height" ["self"] (spStubHeight K)) : ∀ m, DefM P w K mg base (m + 2) "Node" "height" ["self"] (spNodeHeight K m) := by
  have step : ∀ m sp, DefM P w K mg base (m + 1) "Node" "height" ["self"] sp → (∀ H (v : V) (Q : VK) E t, Rep K H t v → Wf t → ht t ≤ 1000 → ht t < m → (∀ s o ks, t = .node s o ks → Ret K (.int (ht t)) H Q → sp [v] H Q E)) → DefM P w K mg base (m + 2) "Node" "height" ["self"] (spNodeHeight K m) := by
    intro m sp D_Nh hsp
    refine n.mk0 sc_Node_height bind_Node_height (fun vs H Q E h => ?_) (fun cdv A outer s H vs Q E hr h => ?_)
    · obtain ⟨_, _, _, _, rfl, _⟩ := h
      rfl
    · obtain ⟨s, o, ks, v, rfl, hv, hs, hlen, hks, hht, q⟩ := h
      obtain ⟨a, dx, l, xs, rfl, ha, hl, hx⟩ := Rep.node.mp hv
      refine ⟨_, (pss_one (ps_ret (pe_op op_add (pe_callB call_len_str (by rfl) G.b_len PySem.boot_len (pa_cons (pe_fld (pv 0) rfl) pa_nil)) (pe_callBK (cr_maxDef rfl (by have := hr.un; show _ + 3 < cLine; simp only [Cx.nox, cxOf] at *; omega)) (by rfl) G.b_max (by decide +kernel) (pa_cons (pe_lc (own := [("letter", 1), ("kid", 2)]) (g := gTup K 2 (gCons (gName 1) (gCons (gName 2) gNil))) (te := tOp (rI0 fun i j => V.int (i + j)) (tC (.int 1)) (fun σ H Q => tMeth (SA K) "height" (spStubHeight K) [] E0 (tVar 2) tNil σ H Q ∨ tMeth (NA K) "height" sp [] E0 (tVar 2) tNil σ H Q)) (tt := tYes) (by rfl) sc_Node_height.nd (pi_tup (pe_fld (pv 0) rfl)) (blkOk_by (N := ["self", "letter", "kid"]) (sc := defScope s_Node_height) (by decide +kernel)) (fun _ _ _ _ _ => pg_tup rfl (pgs_cons (pg_name (i := 1) sc_Node_height.nd rfl (Or.inl rfl)) (pgs_cons (pg_name (i := 2) sc_Node_height.nd rfl (Or.inl rfl)) pgs_nil))) (fun _ _ _ _ _ => pts_nil) (fun _ _ _ _ _ => (pe_op op_add pe_int (PE.or' (pe_md0 (pv 2) G.tS.cl G.m_Sh D_Sh (hr.mono (by omega))) (pe_md0 (pv 2) G.tN.cl G.m_Nh D_Nh (hr.mono (by omega))))))) pa_nil) (pk_cons pe_int pk_nil))))), ?_⟩
      refine ⟨_, rfl, a, _, dx, _, _, rfl, ha, G.tN.cl, G.nS, rfl, _, rfl, by rw [S_len]; exact sz (by omega), _, rfl, a, _, dx, _, _, rfl, ha, G.tN.cl, G.nK, rfl, l, rfl, ⟨_, SqT.of hl⟩, fun D hD => ?_⟩
      refine lc_go (Ts := tbs K) (M := M0) (walk_tup (xs := xs)) hD (by rw [hx.length]; omega) m0_ne (fun i acc H' => Gz K H H' ∧ acc = ((ks.take i).map (fun p => ((1 + ht p.2 : Nat) : Int))).map V.int) (fun i acc H' H'' ⟨a, b⟩ g => ⟨a.loc hD g, b⟩) ⟨.refl, rfl⟩ (fun i acc H' _ ⟨g, _⟩ => SqT.of (g.tup hl)) ?_ ?_
      · rintro i acc x H' H'' R1 R2 hi ⟨g, hb⟩ ⟨rfl, hxi⟩ r1 r2
        obtain ⟨l', b, p, v, hk, hm, rfl, hp, hbv⟩ := hx.at_ hxi
        refine ⟨p, _, rfl, SqT.of (g.tup hp), rfl, _, _, rfl, _, _, rfl, rfl, rfl, ?_⟩
        have hbv' := Rep.keep g.keep b hbv
        obtain ⟨e1, e2⟩ := hks _ hm
        have fin : ∀ n : Nat, n = ht b → ∀ H3, Gz K H'' H3 → R1 (.int (1 + (n : Int))) H3 := by
          rintro n rfl H3 g3
          refine r1 _ _ g3 ⟨g.trans g3, ?_⟩
          rw [take_snoc hk, List.map_append, List.map_append, hb]
          simp
        cases b with
        | stub n' =>
          obtain ⟨a', dx', rfl, ha'⟩ := Rep.stub.mp hbv'
          exact .inl ⟨_, rfl, a', dx', _, rfl, ha', rfl, n', _, rfl, hbv', _, _, rfl, rfl, fin 0 rfl _ .refl⟩
        | node s' o' ks' =>
          obtain ⟨a', dx', l'', xs', rfl, ha', _⟩ := Rep.node.mp hbv'
          exact .inr ⟨_, rfl, a', dx', _, rfl, ha', rfl, hsp H'' _ _ _ _ hbv' e2 (hht _ hm) e1 s' o' ks' rfl fun H3 g3 => ⟨_, _, rfl, rfl, fin _ rfl _ g3⟩⟩
      · rintro acc H' ⟨g, hb⟩ h1 _
        rw [hx.length, List.take_length] at hb
        refine ⟨D, _, 0, rfl, rfl, .of (by rw [h1, hb]), fun e => ?_, fun e m hm hle => ?_⟩
        · have : ks = [] := by simpa using e
          subst this
          refine ⟨_, _, rfl, rfl, ?_⟩
          have := q _ g
          simp only [ht, htK] at this
          rw [S_len]
          simpa using this
        · have hne : ks ≠ [] := by rintro rfl; exact e rfl
          obtain ⟨h1, h2⟩ := htK_maxi ks hne
          have : m = htK ks := by have := h2 m hm; have := hle _ h1; omega
          subst this
          refine ⟨_, _, rfl, rfl, ?_⟩
          have := q _ g
          simp only [ht] at this
          rw [S_len]
          simpa using this
  intro m
  induction m with
  | zero => exact step 0 _ (n.no0 sc_Node_height bind_Node_height) (fun H v Q E t _ _ _ h => absurd h (by omega))
  | succ m ih =>
    refine step (m + 1) _ ih fun H v Q E t hr hw hb hlt s o ks e hq => ?_
    subst e
    have hsl : s.length ≤ 1000 := by simp only [ht] at hb; omega
    refine ⟨s, o, ks, v, rfl, hr, hsl, wf_few hw, fun p hp => ⟨?_, ?_⟩, fun p hp => by have := ht_mem hp; simp only [ht] at hb; omega, hq⟩
    · have := ht_mem hp
      simp only [ht] at hlt
      omega
    · exact ((Wf.node.mp hw).2.2.2.2 p hp).2
end
end Seal
namespace Seal
open PySem PySem.Spec PyProof.Rows L2 LamX NdefX
/-! ### making parts -/
def spAreKids (K : PySem.W.Frag) : Sp := fun vs H Q _ => ∃ kv xs ks, vs = [kv] ∧ Seq H kv xs ∧ RepP K H ks xs ∧ Up ks ∧ (∀ p ∈ ks, Lt p.1) ∧ Ret K (.bl true) H Q
def spStubInit (K : PySem.W.Frag) : Sp := fun vs H Q _ => ∃ x dx n, vs = [.ref x, .int n] ∧ H x = some (.ins (SA K) dx []) ∧ Num n ∧ ∀ H', H' x = some (.ins (SA K) dx [("number", .int n)]) → Gz K (hide x H) (hide x H') → Q .non H'
def spNodeInit (K : PySem.W.Frag) : Sp := fun vs H Q _ => ∃ x dx s o ks kv xs, vs = [.ref x, .str (S s), oS o, kv] ∧ H x = some (.ins (NA K) dx []) ∧ Seq H kv xs ∧ RepP K H ks xs ∧ Wf (.node s o ks) ∧ ht (.node s o ks) ≤ 8 ∧
  ∀ H' l, H' x = some (.ins (NA K) dx [("stem", .str (S s)), ("value", oS o), ("kids", .ref l)]) → H' l = some (.tup xs) → RepP K H' ks xs → Gz K (hide x H) (hide x H') → Q .non H'
theorem sc_are_kids : FnScope ["kids", "last", "pair", "letter", "kid"] ["kids"] (defScope s_are_kids) := ⟨rfl, rfl, rfl, by decide +kernel, rfl, by decide +kernel, by decide +kernel⟩
theorem bind_are_kids : BindQ "are_kids" "are_kids" s_are_kids ["kids"] := fun _ _ _ _ _ _ us hl => match us, hl with | [_], _ => rfl
theorem sc_Stub_init : FnScope ["self", "number"] ["self", "number"] (defScope s_Stub_init) := ⟨rfl, rfl, rfl, by decide +kernel, rfl, by decide +kernel, by decide +kernel⟩
theorem bind_Stub_init : BindQ "__init__" "Stub.__init__" s_Stub_init ["self", "number"] := fun _ _ _ _ _ _ us hl => match us, hl with | [_, _], _ => rfl
theorem sc_Node_init : FnScope ["self", "stem", "value", "kids"] ["self", "stem", "value", "kids"] (defScope s_Node_init) := ⟨rfl, rfl, rfl, by decide +kernel, rfl, by decide +kernel, by decide +kernel⟩
theorem bind_Node_init : BindQ "__init__" "Node.__init__" s_Node_init ["self", "stem", "value", "kids"] := fun _ _ _ _ _ _ us hl => match us, hl with | [_, _, _, _], _ => rfl
theorem stub_make {K : PySem.W.Frag} {H : Hp} {n : Int} {Q : VK} {E : XK} (hn : Num n) (q : ∀ v H', Gz K H H' → Rep K H' (.stub n) v → Q v H') : ∀ (x dx : Addr), H x = none → H dx = none → dx ≠ x → spStubInit K (.ref x :: ([.int n] ++ [])) (upd (upd H dx (.own x)) x (.ins (SA K) dx [])) (fun v H2 => v = .non ∧ Q (.ref x) H2) E := by
  intro x dx hx hd hne
  exact ⟨x, dx, n, rfl, upd_same, hn, fun H' h g => ⟨rfl, q _ _ (made hx hd hne h g) (Rep.stub.mpr ⟨x, dx, rfl, h⟩)⟩⟩
theorem node_make {K : PySem.W.Frag} {H : Hp} {s : W} {o : Option W} {ks : List (Nat × T)} {kv : V} {xs : List V} {Q : VK} {E : XK} (hk : Seq H kv xs) (hr : RepP K H ks xs) (hw : Wf (.node s o ks)) (h8 : ht (.node s o ks) ≤ 8) (q : ∀ v H', Gz K H H' → Rep K H' (.node s o ks) v → Q v H') :
    ∀ (x dx : Addr), H x = none → H dx = none → dx ≠ x → spNodeInit K (.ref x :: ([.str (S s), oS o, kv] ++ [])) (upd (upd H dx (.own x)) x (.ins (NA K) dx [])) (fun v H2 => v = .non ∧ Q (.ref x) H2) E := by
  intro x dx hx hd hne
  have g : Gz K H (upd (upd H dx (.own x)) x (.ins (NA K) dx [])) := (Go.new hd).trans (.new (by rw [upd_ne hne.symm]; exact hx))
  exact ⟨x, dx, s, o, ks, kv, xs, rfl, upd_same, hk.go g, hr.keep g.keep, hw, h8, fun H' l h hl hr' g' => ⟨rfl, q _ _ (made hx hd hne h g') (Rep.node.mpr ⟨x, dx, l, xs, rfl, h, hl, hr'⟩)⟩⟩
theorem hide_keep {x : Addr} {H : Hp} : Keep (hide x H) H := fun b o h _ => by
  by_cases e : b = x
  · rw [e, hide_at] at h; cases h
  · rwa [hide_ne e] at h
theorem hide_tup {x b C dx : Addr} {H : Hp} {fs : List (Str × V)} {xs : List V} (hx : H x = some (.ins C dx fs)) (h : H b = some (.tup xs)) : hide x H b = some (.tup xs) := by
  rw [hide_ne (fun e => by rw [e, hx] at h; cases h)]
  exact h
theorem rep_hide {K : PySem.W.Frag} {x C dx : Addr} {H : Hp} (hx : H x = some (.ins C dx [])) (t : T) : ∀ {v : V}, Rep K H t v → Rep K (hide x H) t v := by
  induction t using T.ind with
  | hs n =>
    intro v h
    obtain ⟨a, dx', e, h⟩ := Rep.stub.mp h
    refine Rep.stub.mpr ⟨a, dx', e, ?_⟩
    rw [hide_ne (fun e => by rw [e, hx] at h; cases h)]
    exact h
  | hn s o ks ih =>
    intro v h
    obtain ⟨a, dx', l, xs, e, h, h1, h2⟩ := Rep.node.mp h
    refine Rep.node.mpr ⟨a, dx', l, xs, e, ?_, hide_tup hx h1, h2.imp (fun b hb v hv => ih b hb hv) fun p vs => hide_tup hx⟩
    rw [hide_ne (fun e => by rw [e, hx] at h; cases h)]
    exact h
theorem seq_upd {H : Hp} {x C dx : Addr} {fs : List (Str × V)} {o : HO} {v : V} {xs : List V} (hx : H x = some (.ins C dx fs)) (h : Seq H v xs) : Seq (upd H x o) v xs := by
  obtain ⟨a, rfl, h⟩ := h
  refine ⟨a, rfl, ?_⟩
  rw [upd_ne (fun e => by rw [e, hx] at h; rcases h with h | h <;> cases h)]
  exact h
theorem call_tupleS {X : Cx} : CallR X (.type "tuple") (fun us H Q => ∃ v ys, us = [v] ∧ Seq H v ys ∧ ∀ l H', Gz X.K H H' → H' l = some (.tup ys) → Q (.ref l) H') := by
  intro pins s σ H xs us Q I r h
  obtain ⟨v, ys, rfl, ⟨a, rfl, hs⟩, q⟩ := h
  refine call_tuple_of pins s σ H _ us Q I r ⟨a, ys, rfl, ?_⟩
  rcases hs with hs | hs
  · exact .inr ⟨.of hs, q _ _ .refl hs⟩
  · exact .inl ⟨.of hs, fun l hl => q _ _ (.new hl) upd_same⟩
def prevL (ks : List (Nat × T)) : Nat → W
  | 0 => []
  | i + 1 => match ks[i]? with
    | some p => [p.1]
    | none => []
theorem prev_lt {ks : List (Nat × T)} {i l : Nat} {b : T} (u : Up ks) (h : ks[i]? = some (l, b)) : prevL ks i < [l] := by
  cases i with
  | zero => exact List.nil_lt_cons _ _
  | succ i =>
    have hi : i + 1 < ks.length := by
      by_cases hh : i + 1 < ks.length
      · exact hh
      · rw [List.getElem?_eq_none (by omega)] at h; cases h
    have e1 : ks[i]? = some ks[i] := by simp
    have e2 : prevL ks (i + 1) = [ks[i].1] := by simp only [prevL, e1]
    rw [e2]
    refine lt_one.mpr ?_
    have := List.pairwise_iff_getElem.mp u i (i + 1) (by omega) hi (by omega)
    rw [List.getElem?_eq_getElem hi] at h
    rw [Option.some.inj h] at this
    exact this
theorem TX.part {K : PySem.W.Frag} {mg : Str → Option Value} (G : TX K mg) {H : Hp} {t : T} {v : V} (h : Rep K H t v) : ∃ u, TyX K H v u ∧ PySem.W.kitOne K u (.ref (PAd K)) = some true := by
  cases t with
  | stub n =>
    obtain ⟨a, dx, rfl, ha⟩ := Rep.stub.mp h
    exact ⟨_, G.tS.ty ha, G.kSP⟩
  | node s o ks =>
    obtain ⟨a, dx, l, xs, rfl, ha, _⟩ := Rep.node.mp h
    exact ⟨_, G.tN.ty ha, G.kNP⟩
section
variable {P : Program} {w : World} {K : PySem.W.Frag} {mg : Str → Option Value} {base : Heap}
theorem D_are_kids (n : Fn1 K mg "are_kids" s_are_kids) (G : TX K mg) (D_is_key : Def P w K mg base CX0 1 "is_key" ["thing"] (spIsKey K)) : Def P w K mg base CX0 2 "are_kids" ["kids"] (spAreKids K) := by
  refine n.mk0 sc_are_kids bind_are_kids (fun vs H Q E h => ?_) (fun cdv A outer s H vs Q E hr h => ?_)
  · obtain ⟨_, _, _, rfl, _⟩ := h
    rfl
  · obtain ⟨kv, xs, ks, rfl, hk, hx, u, hl, q⟩ := h
    refine ⟨_, (pss_cons (ps_if (pt_not (pt_val (pe_callB call_isiT (by rfl) G.b_isinstance (by decide +kernel) (pa_cons (pv 0) (pa_cons (pe_tup (pa_cons (pe_ty (n := "list") G.b_list (by decide +kernel)) (pa_cons (pe_ty (n := "tuple") G.b_tuple (by decide +kernel)) pa_nil))) pa_nil))))) (pss_one (ps_ret pe_bl)) pss_nil)
      (pss_cons (ps_set (i := 1) sc_are_kids.nd rfl (Or.inl rfl) pe_str)
      (pss_cons (ps_for PassesOwn.never rfl (PI.or' (pi_tup (pv 0)) (pi_list (pv 0))) (pg_name (i := 2) sc_are_kids.nd rfl (Or.inl rfl)) (pss_cons (ps_if (PW.pt (pw_or (pt_not (pt_val (pe_callB call_isi (by rfl) G.b_isinstance (by decide +kernel) (pa_cons (pv 2) (pa_cons (pe_ty (n := "tuple") G.b_tuple (by decide +kernel)) pa_nil))))) (pw_or1 (pt_cmpR op_ne (pe_callB call_len (by rfl) G.b_len PySem.boot_len (pa_cons (pv 2) pa_nil)) pe_int (nomark _))))) (pss_one (ps_ret pe_bl)) pss_nil)
      (pss_cons (ps_asg (pv 2) (pg_tup rfl (pgs_cons (pg_name (i := 3) sc_are_kids.nd rfl (Or.inl rfl)) (pgs_cons (pg_name (i := 4) sc_are_kids.nd rfl (Or.inl rfl)) pgs_nil))))
      (pss_cons (ps_if (PW.pt (pw_or (pt_not (pt_val (pe_cd D_is_key (hr.mono (by omega)) (by rfl) (pa_cons (pv 3) pa_nil)))) (pw_or (pt_cmpR op_ne (pe_callB call_len_str (by rfl) G.b_len PySem.boot_len (pa_cons (pv 3) pa_nil)) pe_int (nomark _)) (pw_or (pt_cmpR op_le_str (pv 3) (pv 1) (nomark _)) (pw_or1 (pt_not (pt_val (pe_callB call_isi (by rfl) G.b_isinstance (by decide +kernel) (pa_cons (pv 4) (pa_cons (pe_gR G.c_Part) pa_nil)))))))))) (pss_one (ps_ret pe_bl)) pss_nil)
      (pss_one (ps_set (i := 1) sc_are_kids.nd rfl (Or.inl rfl) (pv 3)))))))
      (pss_one (ps_ret pe_bl))))), ?_⟩
    refine ⟨_, rfl, by show 2 ≤ sizeLine; decide, fun tp htp => ?_⟩
    have g0 : Gz K H (upd H tp (.tup [.ty "list", .ty "tuple"])) := .new htp
    have ty : ∃ t, TyX K (upd H tp (.tup [.ty "list", .ty "tuple"])) kv t ∧ PySem.W.kitAny K t [.type "list", .type "tuple"] = some true := by
      obtain ⟨a, rfl, ha | ha⟩ := hk.go g0
      · exact ⟨_, .base (.tup ha), kitAny_cons (b := false) (kit_ty (by decide +kernel)) (fun _ => kitAny_cons (b := true) (kit_ty (by decide +kernel)) (fun z => nomatch z) fun _ => rfl) fun z => nomatch z⟩
      · exact ⟨_, .base (.lst ha), kitAny_cons (b := true) (kit_ty (by decide +kernel)) (fun z => nomatch z) fun _ => rfl⟩
    obtain ⟨t, ht, hta⟩ := ty
    refine ⟨_, tp, _, t, _, true, rfl, upd_same, .cons (.ty _) (.cons (.ty _) .nil), ht, hta, true, rfl, ?_⟩
    refine seq_var rfl (hk.go g0) fun J Gd wk hG => ?_
    refine for_it wk (fun i σ H' => Gz K H H' ∧ ∃ x y z, σ = [some kv, some (.str (S (prevL ks i))), x, y, z]) ⟨g0, _, _, _, rfl⟩ (fun i σ H' _ ⟨g, _⟩ => hG H' (hk.stay g0 g)) ?_ ?_
    · rintro i x σ H' H'' hi ⟨g, x1, y1, z1, rfl⟩ ⟨rfl, hxi⟩
      obtain ⟨l', b, p, v, hki, hm, rfl, hp, hb⟩ := hx.at_ hxi
      have hp' := g.tup hp
      have lt := prev_lt u hki
      have hlt := hl _ hm
      refine ⟨_, rfl, _, _, _, _, true, rfl, .ty "tuple", .base (.tup hp'), kit_ty (by decide +kernel), true, rfl, ?_⟩
      refine ⟨_, rfl, _, 2, rfl, .inr ⟨_, .of hp', rfl⟩, rfl, _, rfl, ?_⟩
      refine ⟨_, rfl, p, _, rfl, .of hp', rfl, _, _, rfl, _, _, rfl, rfl, ?_⟩
      refine ⟨_, rfl, [l'], rfl, ⟨fun c hc => by simp at hc; subst hc; exact hlt, by simp⟩, fun H3 g3 => ⟨_, rfl, ?_⟩⟩
      refine ⟨_, rfl, _, rfl, by rw [S_len]; exact sz (by simp), ?_⟩
      rw [S_len]
      refine ⟨rfl, _, rfl, ?_⟩
      refine ⟨_, rfl, _, rfl, _, _, rfl, rfl, _, rfl, ?_⟩
      have e1 : decide ((S (prevL ks i)).cps.toList < (S [l']).cps.toList) = true := by rw [S_list, S_list]; exact decide_eq_true lt
      rw [e1]
      obtain ⟨u', hu1, hu2⟩ := G.part (Rep.keep (g.trans g3).keep b hb)
      refine ⟨_, rfl, _, _, _, _, true, rfl, .own _, hu1, hu2, true, rfl, ?_⟩
      refine ⟨_, rfl, g.trans g3, some (.ref p), some (.str (S [l'])), some v, ?_⟩
      have : prevL ks (i + 1) = [l'] := by simp only [prevL, hki]
      rw [this]
      rfl
    · rintro σ H' ⟨g, x1, y1, z1, rfl⟩
      exact q _ g
theorem D_Stub_init (n : FnM1 K "Stub" "__init__" "Stub.__init__" s_Stub_init) (G : TX K mg) (D_is_number : Def P w K mg base CX0 1 "is_number" ["thing"] (spIsNumber K)) : DefM P w K mg base 2 "Stub" "__init__" ["self", "number"] (spStubInit K) := by
  refine n.mk0 sc_Stub_init bind_Stub_init (fun vs H Q E h => ?_) (fun cdv A outer s H vs Q E hr h => ?_)
  · obtain ⟨_, _, _, rfl, _⟩ := h
    rfl
  · obtain ⟨x, dx, m, rfl, hx, hm, q⟩ := h
    refine ⟨_, (pss_cons (ps_if (pt_not (pt_val (pe_cd D_is_number (hr.mono (by omega)) (by rfl) (pa_cons (pv 1) pa_nil)))) (pss_one ps_never) pss_nil)
      (pss_one (ps_fld (pv 0) (pv 1) rfl))), ?_⟩
    refine ⟨_, rfl, m, rfl, hm, fun H1 g => ⟨_, rfl, ?_⟩⟩
    refine ⟨_, rfl, _, rfl, x, _, dx, _, rfl, g.ins hx, G.tS.cl, G.nN, by decide, ?_⟩
    refine q _ upd_same ?_
    rw [hide_upd]
    exact hide_go hx g
theorem D_Node_init (n : FnM1 K "Node" "__init__" "Node.__init__" s_Node_init) (G : TX K mg) (D_is_key : Def P w K mg base CX0 1 "is_key" ["thing"] (spIsKey K)) (D_is_value : Def P w K mg base CX0 1 "is_value" ["thing"] (spIsValue K)) (D_are_kids : Def P w K mg base CX0 2 "are_kids" ["kids"] (spAreKids K)) (D_Nh : DefM P w K mg base 10 "Node" "height" ["self"] (spNodeHeight K 8)) : DefM P w K mg base 11 "Node" "__init__" ["self", "stem", "value", "kids"] (spNodeInit K) := by
  refine n.mk0 sc_Node_init bind_Node_init (fun vs H Q E h => ?_) (fun cdv A outer s H vs Q E hr h => ?_)
  · obtain ⟨_, _, _, _, _, _, _, rfl, _⟩ := h
    rfl
  · obtain ⟨x, dx, s, o, ks, kv, xs, rfl, hx, hk, hp, hw, h8, q⟩ := h
    obtain ⟨w1, w2, w3, w4, w5⟩ := Wf.node.mp hw
    have hs8 : s.length ≤ 8 := by simp only [ht] at h8; omega
    refine ⟨_, (pss_cons (ps_if (PW.pt (pw_or (pt_not (pt_val (pe_cd D_is_key (hr.mono (by omega)) (by rfl) (pa_cons (pv 1) pa_nil)))) (pw_or (PW.pt (pw_and (pt_cmpR op_notN (pv 2) pe_non (nomark _)) (pw_and1 (pt_not (pt_val (pe_cd D_is_value (hr.mono (by omega)) (by rfl) (pa_cons (pv 2) pa_nil))))))) (pw_or1 (pt_not (pt_val (pe_cd D_are_kids (hr.mono (by omega)) (by rfl) (pa_cons (pv 3) pa_nil)))))))) (pss_one ps_never) pss_nil)
      (pss_cons (ps_if (PW.pt (pw_and (pt_cmpR op_isN (pv 2) pe_non (nomark _)) (pw_and1 (pt_cmpR op_lt (pe_callB call_len (by rfl) G.b_len PySem.boot_len (pa_cons (pv 3) pa_nil)) pe_int (nomark _))))) (pss_one ps_never) pss_nil)
      (pss_cons (ps_fld (pv 0) (pv 1) rfl)
      (pss_cons (ps_fld (pv 0) (pv 2) rfl)
      (pss_cons (ps_fld (pv 0) (pe_callTy call_tupleS (by rfl) G.b_tuple (by decide +kernel) (pa_cons (pv 3) pa_nil)) rfl)
      (pss_one (ps_if (pt_cmpR op_gt (pe_md0 (pv 0) G.tN.cl G.m_Nh D_Nh (hr.mono (by omega))) (pe_gI G.MOST_LETTERS) (nomark _)) (pss_one ps_never) pss_nil))))))), ?_⟩
    refine ⟨_, rfl, s, rfl, ⟨w1, hs8⟩, fun H1 g1 => ⟨_, rfl, ?_⟩⟩
    have kids : ∀ H2, Gz K H H2 → Seq H2 kv xs ∧ RepP K H2 ks xs := fun H2 g2 => ⟨hk.go g2, hp.keep g2.keep⟩
    have len : ∀ H2, Gz K H H2 → LenV K kv H2 ks.length := by
      intro H2 g2
      obtain ⟨a, rfl, ha | ha⟩ := hk.go g2
      · exact .inr ⟨xs, .of ha, hp.length.symm⟩
      · exact .inl ⟨xs, .of ha, hp.length.symm⟩
    have hx' : ∀ H2, Gz K H H2 → H2 x = some (.ins (NA K) dx []) := fun H2 g2 => g2.ins hx
    have hp0 : RepP K (hide x H) ks xs := hp.imp (fun b _ v hv => rep_hide hx _ hv) fun p vs => hide_tup hx
    have tail : ∀ H2, Gz K H H2 → ∀ A B fs, Gz K (upd (upd H2 x A) x (.ins (NA K) dx fs)) B → ∀ l, B l = some (.tup xs) → ∀ H5, Gz K (upd B x (.ins (NA K) dx [("stem", .str (S s)), ("value", oS o), ("kids", .ref l)])) H5 →
        H5 x = some (.ins (NA K) dx [("stem", .str (S s)), ("value", oS o), ("kids", .ref l)]) ∧ H5 l = some (.tup xs) ∧ RepP K H5 ks xs ∧ Gz K (hide x H) (hide x H5) := by
      intro H2 g2 A B fs gB l hl H5 g5
      have h1 := hide_go hx g2
      have hc : (upd (upd H2 x A) x (.ins (NA K) dx fs)) x = some (.ins (NA K) dx fs) := upd_same
      have h2 := hide_go hc gB
      rw [hide_upd, hide_upd] at h2
      have h3 := hide_go (x := x) upd_same g5
      rw [hide_upd] at h3
      have hB := gB.ins hc
      have hlx : l ≠ x := fun e => by rw [e, hB] at hl; cases hl
      have gall := h1.trans (h2.trans h3)
      refine ⟨g5.ins upd_same, g5.tup (by rw [upd_ne hlx]; exact hl), ?_, gall⟩
      exact RepP.keep hide_keep (hp0.keep gall.keep)
    cases o with
    | none =>
      refine ⟨_, rfl, rfl, _, rfl, _, rfl, kv, xs, ks, rfl, (kids _ g1).1, (kids _ g1).2, w3, fun p hp => (w5 p hp).1, fun H2 g2 => ⟨_, rfl, ?_⟩⟩
      have g2 := g1.trans g2
      have h2 := w4 rfl
      refine ⟨_, rfl, rfl, _, rfl, _, rfl, kv, _, rfl, len H2 g2, ?_⟩
      refine ⟨_, _, rfl, rfl, _, rfl, ?_⟩
      rw [decide_eq_false (by omega)]
      refine ⟨_, rfl, _, rfl, x, _, dx, _, rfl, hx' H2 g2, G.tN.cl, G.nS, by show 0 < 1000; decide, ?_⟩
      refine ⟨_, rfl, _, rfl, x, _, dx, _, rfl, upd_same, G.tN.cl, G.nV, by show 1 < 1000; decide, ?_⟩
      refine ⟨_, rfl, _, _, rfl, seq_upd upd_same (seq_upd (hx' H2 g2) (kids _ g2).1), fun l B gB hl => ?_⟩
      refine ⟨_, rfl, x, _, dx, _, rfl, gB.ins upd_same, G.tN.cl, G.nK, by show 2 < 1000; decide, ?_⟩
      have t0 := tail H2 g2 _ B _ gB l hl _ .refl
      refine ⟨_, rfl, x, dx, _, rfl, t0.1, rfl, s, none, ks, _, rfl, Rep.node.mpr ⟨x, dx, l, xs, rfl, t0.1, t0.2.1, t0.2.2.1⟩, by omega, wf_few hw, fun p hp => ⟨?_, (w5 p hp).2⟩, fun p hp => ?_, fun H5 g5 => ?_⟩
      · have := ht_mem hp; simp only [ht] at h8; omega
      · have := ht_mem hp; simp only [ht] at h8; omega
      · refine ⟨_, _, rfl, rfl, _, rfl, ?_⟩
        rw [decide_eq_false (by omega)]
        obtain ⟨e1, e2, e3, e4⟩ := tail H2 g2 _ B _ gB l hl _ g5
        exact q _ l e1 e2 e3 e4
    | some y =>
      refine ⟨_, rfl, rfl, _, rfl, _, rfl, y, rfl, w2 y rfl, fun H2 g2' => ⟨_, rfl, ?_⟩⟩
      have g2' := g1.trans g2'
      refine ⟨_, rfl, kv, xs, ks, rfl, (kids _ g2').1, (kids _ g2').2, w3, fun p hp => (w5 p hp).1, fun H2 g2 => ⟨_, rfl, ?_⟩⟩
      have g2 := g2'.trans g2
      refine ⟨_, rfl, rfl, _, rfl, ?_⟩
      refine ⟨_, rfl, _, rfl, x, _, dx, _, rfl, hx' H2 g2, G.tN.cl, G.nS, by show 0 < 1000; decide, ?_⟩
      refine ⟨_, rfl, _, rfl, x, _, dx, _, rfl, upd_same, G.tN.cl, G.nV, by show 1 < 1000; decide, ?_⟩
      refine ⟨_, rfl, _, _, rfl, seq_upd upd_same (seq_upd (hx' H2 g2) (kids _ g2).1), fun l B gB hl => ?_⟩
      refine ⟨_, rfl, x, _, dx, _, rfl, gB.ins upd_same, G.tN.cl, G.nK, by show 2 < 1000; decide, ?_⟩
      have t0 := tail H2 g2 _ B _ gB l hl _ .refl
      refine ⟨_, rfl, x, dx, _, rfl, t0.1, rfl, s, some y, ks, _, rfl, Rep.node.mpr ⟨x, dx, l, xs, rfl, t0.1, t0.2.1, t0.2.2.1⟩, by omega, wf_few hw, fun p hp => ⟨?_, (w5 p hp).2⟩, fun p hp => ?_, fun H5 g5 => ?_⟩
      · have := ht_mem hp; simp only [ht] at h8; omega
      · have := ht_mem hp; simp only [ht] at h8; omega
      · refine ⟨_, _, rfl, rfl, _, rfl, ?_⟩
        rw [decide_eq_false (by omega)]
        obtain ⟨e1, e2, e3, e4⟩ := tail H2 g2 _ B _ gB l hl _ g5
        exact q _ l e1 e2 e3 e4
end
end Seal
namespace Seal
open PySem PySem.Spec PyProof.Rows L2 LamX NdefX
/-! ### a def that is held by a name of another def -/
structure HeldH (P : Program) (w : World) (K : PySem.W.Frag) (mg : Str → Option Value) (base : Heap) (k : Nat) (f : Addr) (F : NF) (sp : Sp) : Prop where
  run : ∀ (A : Around) (outer : List Env) (s : Shared) (H : Hp) (us : List Value) (vs : List V) (Q : VK), Room k A → Env0 P w K mg base A outer s H → H f = some (FnO f F) → Vals vs us → sp vs H Q E0 →
    codeAny (model P w) A (Code.call (.ref f) { pos := us }) (CR CX0 outer P w H s Q E0) s
theorem pe_callH {X : Cx} {i k : Nat} {x : Str} {p pos : Pos} {e : Expr} {es : List Expr} {t : TA} {f : Addr} {F : NF} {sp : Sp} (Fn : HeldH X.prog X.w X.K X.mg X.base k f F sp) (hr : Room k X.A) (hN : X.N[i]? = some x) (hv : Vis X.env.scope x) (ha : PA X (e :: es) t)
    (hd : (x == ("__debug__" : Str)) = false := by decide) (hcd : (x == ("__classdict__" : Str)) = false := by decide)
    (he : starEach (e :: es) X.env = (false, eval e X.env) :: starEach es X.env := by rfl) (hpl : (backTo pos (starEach es X.env)).any (·.1) = false := by rfl) :
    PE X (.Call (.Name x p) (e :: es) [] pos) (fun σ H Q => σ[i]? = some (some (.ref f)) ∧ H f = some (FnO f F) ∧ t σ H fun vs H1 => H1 f = some (FnO f F) ∧ sp vs H1 Q E0) := by
  refine ⟨fun pins s σ H Q I h => ?_⟩
  obtain ⟨hs, hf, ht⟩ := h
  refine wpAny_Call_Name_kw (thn ((pe_var hN hv hd hcd).run pins s σ H (fun v H1 => v = .ref f ∧ H1 = H) I ⟨.ref f, hs, rfl, rfl⟩) ?_)
  rintro u s1 ⟨v, H1, I1, r1, rfl, rfl⟩
  cases r1
  refine PySem.W.callWith_F (fnAt_of I1 hf) (thn (ha.run pos pins s1 σ H1 _ I1 ht) ?_) he hpl
  rintro us s2 ⟨vs, H2, I2, r, h1, q⟩
  refine ⟨fnAt_of I2 h1, ?_⟩
  refine wpAny_call (codeAny_mono (Fn.run X.A X.stack s2 H2 us vs Q hr I2.env0 h1 r q) ?_)
  intro r' s' hq
  cases r' with
  | error e => exact hq.elim
  | ok fl =>
    cases fl with
    | ret u => exact I2.after hq
    | _ => exact hq.elim
/-! ### the numbers of trees -/
mutual
def numT (V : W → Int) : T → Int
  | .stub n => n
  | .node s o ks => V (startW s o ++ txtK V ks)
def txtK (V : W → Int) : List (Nat × T) → W
  | [] => []
  | (l, t) :: r => 59 :: l :: (digs (numT V t) ++ txtK V r)
end
def txtT (V : W → Int) (s : W) (o : Option W) (ks : List (Nat × T)) : W := startW s o ++ txtK V ks
def numO (V : W → Int) : Option T → Int
  | none => V []
  | some t => numT V t
mutual
def Known (V : W → Int) (D : List W) : T → Prop
  | .stub _ => True
  | .node s o ks => KnownK V D ks ∧ startW s o ++ txtK V ks ∈ D
def KnownK (V : W → Int) (D : List W) : List (Nat × T) → Prop
  | [] => True
  | (_, t) :: r => Known V D t ∧ KnownK V D r
end
theorem knownK_iff {V : W → Int} {D : List W} : ∀ {ks : List (Nat × T)}, KnownK V D ks ↔ ∀ p ∈ ks, Known V D p.2
  | [] => by simp [KnownK]
  | (l, t) :: r => by
    rw [KnownK, knownK_iff]
    simp
theorem Known.node {V : W → Int} {D : List W} {s : W} {o : Option W} {ks : List (Nat × T)} : Known V D (.node s o ks) ↔ (∀ p ∈ ks, Known V D p.2) ∧ txtT V s o ks ∈ D := by
  rw [Known, knownK_iff]
  rfl
theorem txtK_congr {V V' : W → Int} : ∀ {ks : List (Nat × T)}, (∀ p ∈ ks, numT V p.2 = numT V' p.2) → txtK V ks = txtK V' ks
  | [], _ => by simp [txtK]
  | (l, t) :: r, h => by
    have h1 := h (l, t) List.mem_cons_self
    simp only [txtK]
    rw [txtK_congr fun p hp => h p (List.mem_cons_of_mem _ hp)]
    simp only at h1
    rw [h1]
/-- later numbers: what was known stays as it was -/
theorem known_later {V V' : W → Int} {D D' : List W} (hs : ∀ z ∈ D, z ∈ D') (hv : ∀ z ∈ D, V' z = V z) (t : T) : Known V D t → Known V' D' t ∧ numT V' t = numT V t := by
  induction t using T.ind with
  | hs n => intro _; simp [Known, numT]
  | hn s o ks ih =>
    intro h
    obtain ⟨h1, h2⟩ := Known.node.mp h
    have e : txtK V' ks = txtK V ks := txtK_congr fun p hp => (ih p hp (h1 p hp)).2
    refine ⟨Known.node.mpr ⟨fun p hp => (ih p hp (h1 p hp)).1, ?_⟩, ?_⟩
    · unfold txtT; rw [e]; exact hs _ h2
    · simp only [numT]; rw [e]; exact hv _ h2
theorem txtK_app {V : W → Int} : ∀ (a b : List (Nat × T)), txtK V (a ++ b) = txtK V a ++ txtK V b
  | [], b => by simp [txtK]
  | (l, t) :: r, b => by
    have := txtK_app (V := V) r b
    simp [txtK, this]
theorem digs31 {n : Int} (h : Num n) : (digs n).length ≤ 31 := by
  refine digs_len h.1 (by omega) ?_
  have := h.2
  have e : (10 : Int) ^ 31 = 10000000000000000000000000000000 := by decide +kernel
  omega
theorem txtK_len {V : W → Int} : ∀ {ks : List (Nat × T)}, (∀ p ∈ ks, Num (numT V p.2)) → (txtK V ks).length ≤ 33 * ks.length
  | [], _ => by simp [txtK]
  | (l, t) :: r, h => by
    have h1 := digs31 (h (l, t) List.mem_cons_self)
    have h2 := txtK_len fun p hp => h p (List.mem_cons_of_mem _ hp)
    simp only at h1
    simp only [txtK, List.length_cons, List.length_append]
    omega
theorem startW_len {s : W} {o : Option W} (h1 : s.length ≤ 8) (h2 : ∀ x, o = some x → Vl x) : (startW s o).length ≤ 52 := by
  cases o with
  | none => simp [startW]; omega
  | some x =>
    have h := (h2 x rfl).1
    have := digs_len (n := x.length) (by omega) (k := 2) (by omega) (by omega)
    simp [startW]
    omega
/-- a slice tells the numbers of the whole -/
theorem sl_num {V : W → Int} {D : List W} (s : T) : ∀ t, Sl (fun t n => Known V D t ∧ n = numT V t) s t → Known V D t → Known V D s ∧ numT V s = numT V t := by
  induction s using T.ind with
  | hs n =>
    intro t h hk
    have h : Known V D t ∧ n = numT V t := by simpa [Sl] using h
    exact ⟨by simp [Known], by simp only [numT]; exact h.2⟩
  | hn s o ks ih =>
    intro t h hk
    obtain ⟨ks', rfl, a⟩ := Sl.node.mp h
    obtain ⟨h1, h2⟩ := Known.node.mp hk
    have key : (∀ p ∈ ks, Known V D p.2) ∧ txtK V ks = txtK V ks' := by
      clear h hk h2
      induction a with
      | nil => exact ⟨(fun p hp => nomatch hp), rfl⟩
      | @cons l a b r r' hab t ih' =>
        obtain ⟨i1, i2⟩ := ih (l, a) List.mem_cons_self b hab (h1 (l, b) List.mem_cons_self)
        obtain ⟨j1, j2⟩ := ih' (fun p hp => ih p (List.mem_cons_of_mem _ hp)) (fun p hp => h1 p (List.mem_cons_of_mem _ hp))
        refine ⟨fun p hp => ?_, ?_⟩
        · rcases List.mem_cons.mp hp with rfl | hp
          · exact i1
          · exact j1 p hp
        · simp only [txtK]
          rw [j2]
          simp only at i2
          rw [i2]
    refine ⟨Known.node.mpr ⟨key.1, ?_⟩, ?_⟩
    · unfold txtT at h2 ⊢; rw [key.2]; exact h2
    · simp only [numT]; rw [key.2]
/-! ### a digest -/
structure Dig (P : Program) (w : World) (K : PySem.W.Frag) (mg : Str → Option Value) (base : Heap) where
  fa : Addr
  F : NF
  Mt : MM
  St : List W → Hp → Prop
  val : List W → W → Int
  fn : ∀ {D H}, St D H → H fa = some (FnO fa F)
  keep : ∀ {D H H' M}, St D H → Go (tbs K) M H H' → (∀ b, M b → ¬ Mt b) → St D H'
  stays : ∀ {D H b}, St D H → Mt b → ∃ o, H b = some o ∧ Fix o = false
  call : HeldH P w K mg base 1 fa F (fun vs H Q _ => ∃ D z, vs = [.str (S z)] ∧ z.length ≤ 2000 ∧ St D H ∧ D.length < 10000000 ∧ ∀ D' H', D <+: D' → z ∈ D' → D'.length ≤ D.length + 1 → St D' H' → Go (tbs K) Mt H H' → Q (.int (val D' z)) H')
  later : ∀ {D D' z}, D <+: D' → z ∈ D → val D' z = val D z
  num : ∀ {D z}, z ∈ D → D.length ≤ 10000000 → Num (val D z)
section
variable {P : Program} {w : World} {K : PySem.W.Frag} {mg : Str → Option Value} {base : Heap} (g : Dig P w K mg base)
theorem Dig.keep0 {D : List W} {H H' : Hp} (h : g.St D H) (a : Gz K H H') : g.St D H' := g.keep h a fun _ z => z.elim
theorem Dig.ne {D : List W} {H : Hp} (h : g.St D H) {b : Addr} (hb : H b = none) : ¬ g.Mt b := fun z => by
  obtain ⟨o, e, _⟩ := g.stays h z
  rw [hb] at e
  cases e
theorem Dig.keepD {D D' : List W} {H H1 H2 : Hp} {b : Addr} (h0 : g.St D H) (hb : H b = none) (h : g.St D' H1) (a : Go (tbs K) (fun c => c = b) H1 H2) : g.St D' H2 := g.keep h a fun c e => by rw [e]; exact g.ne h0 hb
theorem Dig.has {D : List W} {H : Hp} (h : g.St D H) : ∀ b, g.Mt b → H b ≠ none := fun b z => by
  obtain ⟨o, e, _⟩ := g.stays h z
  rw [e]
  simp
/-- n is the number of the tree -/
def Dig.ND (D : List W) (t : T) (n : Int) : Prop := Known (g.val D) D t ∧ n = numT (g.val D) t
theorem Dig.known {D D' : List W} (h : D <+: D') {t : T} (k : Known (g.val D) D t) : Known (g.val D') D' t ∧ numT (g.val D') t = numT (g.val D) t :=
  known_later (fun z hz => h.subset hz) (fun z hz => g.later h hz) t k
theorem Dig.nd {D D' : List W} (h : D <+: D') {t : T} {n : Int} (k : g.ND D t n) : g.ND D' t n := by
  obtain ⟨a, b⟩ := g.known h k.1
  exact ⟨a, by rw [b]; exact k.2⟩
theorem Dig.num_of {D : List W} (hd : D.length ≤ 10000000) {t : T} (hw : Wf t) (k : Known (g.val D) D t) : Num (numT (g.val D) t) := by
  cases t with
  | stub n => simpa [numT, Wf] using hw
  | node s o ks => exact g.num (Known.node.mp k).2 hd
end
end Seal
namespace Seal
open PySem PySem.Spec PyProof.Rows L2 LamX NdefX
/-! ### texts and numbers of parts -/
theorem glued_nil (ys : List W) : Txt.join (S []) (ys.map S) = S ys.flatten := by
  have key : ∀ (ys : List W) (acc : W), (List.foldl (fun (acc : Array Nat) p => acc ++ (S []).cps ++ Str.cps p) acc.toArray (ys.map S)) = (acc ++ ys.flatten).toArray := by
    intro ys
    induction ys with
    | nil => intro acc; simp
    | cons y ys ih =>
      intro acc
      have e : acc.toArray ++ (S []).cps ++ (S y).cps = (acc ++ y).toArray := by simp [S]
      simp only [List.map_cons, List.foldl_cons, e, ih]
      simp
  cases ys with
  | nil => rfl
  | cons y ys =>
    show (⟨List.foldl _ (S y).cps (ys.map S)⟩ : Str) = _
    have := key ys y
    rw [show (S y).cps = y.toArray from rfl, this]
    rfl
def tJoin (ts : List TE) : TE := fun σ H Q => tJs ts Str.empty σ H fun out H1 => Q (.str out) H1
theorem pe_joinE {X : Cx} {v1 v2 : Expr} {rest : List Expr} {ts : List TE} {pos : Pos} (h : PJ X (v1 :: v2 :: rest) ts) : PE X (.JoinedStr (v1 :: v2 :: rest) pos) (tJoin ts) := pe_joined h
def rowsW : List (Nat × Int) → W
  | [] => []
  | (l, n) :: r => 59 :: l :: (digs n ++ rowsW r)
theorem rowsW_flat : ∀ ks : List (Nat × Int), rowsW ks = (ks.map fun p => 59 :: p.1 :: digs p.2).flatten
  | [] => rfl
  | (l, n) :: r => by simp [rowsW, rowsW_flat r]
theorem rows_txt {V : W → Int} : ∀ ks : List (Nat × T), rowsW (ks.map fun p => (p.1, numT V p.2)) = txtK V ks
  | [] => by simp [rowsW, txtK]
  | (l, t) :: r => by simp [rowsW, txtK, rows_txt r]
theorem digs_log {n : Int} (h : Num n) : n.natAbs.log2 < 1920 := by
  have h1 : n.natAbs ≤ 2 ^ 100 := by
    have := h.2; have := h.1
    have e : (2 : Nat) ^ 100 = 1267650600228229401496703205376 := by decide +kernel
    omega
  by_cases h0 : n.natAbs = 0
  · rw [h0]; decide
  · have := (Nat.log2_lt h0 (k := 101)).mpr (by have e : (2 : Nat) ^ 101 = 2 * 2 ^ 100 := by decide +kernel
                                                omega)
    omega
abbrev RepI : Hp → List (Nat × Int) → List V → Prop := Prs (fun n v => v = .int n)
theorem RepI.keep {H H' : Hp} (g : Keep H H') {ks : List (Nat × Int)} {xs : List V} (h : RepI H ks xs) : RepI H' ks xs := Prs.keep h (fun _ _ _ h => h) g
def spWritten (K : PySem.W.Frag) : Sp := fun vs H Q _ => ∃ (a : W) (r : Addr) (xs : List V) (ks : List (Nat × Int)), vs = [.str (S a), .ref r] ∧ H r = some (.lst xs) ∧ RepI H ks xs ∧ a.length ≤ 100 ∧ ks.length ≤ 26 ∧ (∀ p ∈ ks, Num p.2) ∧ Ret K (.str (S (a ++ rowsW ks))) H Q
theorem sc_written : FnScope ["start", "rows", "letter", "number"] ["start", "rows"] (defScope s_written) := ⟨rfl, rfl, rfl, by decide +kernel, rfl, by decide +kernel, by decide +kernel⟩
theorem bind_written : BindQ "written" "written" s_written ["start", "rows"] := fun _ _ _ _ _ _ us hl => match us, hl with | [_, _], _ => rfl
theorem sc_text_of : FnScope ["tree", "digest", "letter", "kid"] ["tree", "digest"] (defScope s_text_of) := ⟨rfl, rfl, rfl, by decide +kernel, rfl, by decide +kernel, by decide +kernel⟩
theorem bind_text_of : BindQ "text_of" "text_of" s_text_of ["tree", "digest"] := fun _ _ _ _ _ _ us hl => match us, hl with | [_, _], _ => rfl
theorem sc_number_of : FnScope ["tree", "digest"] ["tree", "digest"] (defScope s_number_of) := ⟨rfl, rfl, rfl, by decide +kernel, rfl, by decide +kernel, by decide +kernel⟩
theorem bind_number_of : BindQ "number_of" "number_of" s_number_of ["tree", "digest"] := fun _ _ _ _ _ _ us hl => match us, hl with | [_, _], _ => rfl
theorem sc_as_stub : FnScope ["tree", "digest"] ["tree", "digest"] (defScope s_as_stub) := ⟨rfl, rfl, rfl, by decide +kernel, rfl, by decide +kernel, by decide +kernel⟩
theorem bind_as_stub : BindQ "as_stub" "as_stub" s_as_stub ["tree", "digest"] := fun _ _ _ _ _ _ us hl => match us, hl with | [_, _], _ => rfl
theorem sc_is_tree : FnScope ["thing"] ["thing"] (defScope s_is_tree) := ⟨rfl, rfl, rfl, by decide +kernel, rfl, by decide +kernel, by decide +kernel⟩
theorem bind_is_tree : BindQ "is_tree" "is_tree" s_is_tree ["thing"] := fun _ _ _ _ _ _ us hl => match us, hl with | [_], _ => rfl
theorem sc_need_tree : FnScope ["thing"] ["thing"] (defScope s_need_tree) := ⟨rfl, rfl, rfl, by decide +kernel, rfl, by decide +kernel, by decide +kernel⟩
theorem bind_need_tree : BindQ "need_tree" "need_tree" s_need_tree ["thing"] := fun _ _ _ _ _ _ us hl => match us, hl with | [_], _ => rfl
theorem sc_need_root : FnScope ["root", "tree", "digest", "number"] ["root", "tree", "digest"] (defScope s_need_root) := ⟨rfl, rfl, rfl, by decide +kernel, rfl, by decide +kernel, by decide +kernel⟩
theorem bind_need_root : BindQ "need_root" "need_root" s_need_root ["root", "tree", "digest"] := fun _ _ _ _ _ _ us hl => match us, hl with | [_, _, _], _ => rfl
def cntO : Option T → Nat
  | none => 1
  | some t => cnt t
section
variable {P : Program} {w : World} {K : PySem.W.Frag} {mg : Str → Option Value} {base : Heap}
theorem D_written (n : Fn1 K mg "written" s_written) (G : TX K mg) : Def P w K mg base CX0 1 "written" ["start", "rows"] (spWritten K) := by
  refine n.mk0 sc_written bind_written (fun vs H Q E h => ?_) (fun cdv A outer s H vs Q E hr h => ?_)
  · obtain ⟨_, _, _, _, rfl, _⟩ := h
    rfl
  · obtain ⟨a, r, xs, ks, rfl, hr', hx, ha, hk, hn, q⟩ := h
    refine ⟨_, (pss_one (ps_ret (pe_op op_add_str (pv 0) (pe_join pe_str (pe_lc (own := [("letter", 2), ("number", 3)]) (g := gTup K 2 (gCons (gName 2) (gCons (gName 3) gNil))) (tt := tYes) (by rfl) sc_written.nd (pi_list (pv 1)) (blkOk_by (N := ["start", "rows", "letter", "number"]) (sc := defScope s_written) (by decide +kernel)) (fun _ _ _ _ _ => pg_tup rfl (pgs_cons (pg_name (i := 2) sc_written.nd rfl (Or.inl rfl)) (pgs_cons (pg_name (i := 3) sc_written.nd rfl (Or.inl rfl)) pgs_nil))) (fun _ _ _ _ _ => pts_nil) (fun _ _ _ _ _ => (pe_joinE (.cons pe_str (.cons (pe_fmt (pv 2)) (.cons (pe_fmt (pv 3)) .nil)))))))))), ?_⟩
    refine ⟨_, rfl, ⟨_, rfl⟩, _, rfl, r, rfl, ⟨_, SqL.of hr'⟩, fun D hD => ?_⟩
    refine lc_go (Ts := tbs K) (M := M0) (walk_list (xs := xs)) hD (by rw [hx.length]; omega) m0_ne (fun i acc H' => Gz K H H' ∧ acc = ((ks.take i).map fun p => (59 :: p.1 :: digs p.2 : W)).map fun z => V.str (S z)) (fun i acc H' H'' ⟨a, b⟩ g => ⟨a.loc hD g, b⟩) ⟨.refl, rfl⟩ (fun i acc H' _ ⟨g, _⟩ => SqL.of (g.lst hr' id)) ?_ ?_
    · rintro i acc x H' H'' R1 R2 hi ⟨g, hb⟩ ⟨rfl, hxi⟩ r1 r2
      obtain ⟨l', b, p, v, hki, hm, rfl, hp, rfl⟩ := hx.at_ hxi
      have hnb := hn _ hm
      have hdl := digs31 hnb
      simp only at hdl
      refine ⟨p, _, rfl, SqT.of (g.tup hp), rfl, _, _, rfl, _, _, rfl, rfl, rfl, ?_⟩
      refine ⟨_, rfl, ?_, _, rfl, .inl ⟨_, rfl, by rw [S_len]; exact sz (by simp), _, rfl, ?_, _, rfl, .inr ⟨_, rfl, digs_log hnb, ?_⟩⟩⟩
      · show (S [] ++ S [59]).length ≤ sizeLine
        rw [S_app, S_len]; exact sz (by simp)
      · show (S [] ++ S [59] ++ S [l']).length ≤ sizeLine
        rw [S_app, S_app, S_len]; exact sz (by simp)
      · rw [← S_digs]
        refine ⟨_, rfl, ?_, ?_⟩
        · show (S [] ++ S [59] ++ S [l'] ++ S (digs _)).length ≤ sizeLine
          rw [S_app, S_app, S_app, S_len]; exact sz (by simp; omega)
        · show R1 (.str (S [] ++ S [59] ++ S [l'] ++ S (digs _))) _
          rw [S_app, S_app, S_app]
          refine r1 _ _ .refl ⟨g, ?_⟩
          rw [take_snoc hki, hb]
          simp
    · rintro acc H' ⟨g, hb⟩ h1 _
      rw [hx.length, List.take_length] at hb
      have hsum : ∀ ks : List (Nat × Int), (∀ p ∈ ks, Num p.2) → (((ks.map fun p => (59 :: p.1 :: digs p.2 : W)).map S).map fun z => Str.length z).sum ≤ 33 * ks.length := by
        intro ks
        induction ks with
        | nil => intro _; simp
        | cons p ks ih =>
          intro hn
          have h1 := digs31 (hn p List.mem_cons_self)
          have h2 := ih fun q hq => hn q (List.mem_cons_of_mem _ hq)
          simp only [List.map_cons, List.sum_cons, S_len, List.length_cons]
          omega
      have hs := hsum ks hn
      refine ⟨_, D, (ks.map fun p => (59 :: p.1 :: digs p.2 : W)).map S, rfl, rfl, .inl (.of (by rw [h1, hb, List.map_map, List.map_map, List.map_map]; rfl)), ?_, ?_⟩
      · have : (S []).length = 0 := rfl
        show _ + _ * (S []).length ≤ _
        rw [this]
        omega
      · have hl : (rowsW ks).length ≤ 33 * ks.length := by
          have : ∀ ks : List (Nat × Int), (((ks.map fun p => (59 :: p.1 :: digs p.2 : W)).map S).map fun z => Str.length z).sum = (rowsW ks).length := by
            intro ks
            induction ks with
            | nil => rfl
            | cons p ks ih => simp only [List.map_cons, List.sum_cons, S_len, rowsW, List.length_cons, List.length_append]; rw [ih]; omega
          rw [← this]; exact hs
        show ∃ i j, _ = V.str i ∧ V.str (Txt.join (S []) _) = V.str j ∧ _
        rw [glued_nil, ← rowsW_flat]
        refine ⟨_, _, rfl, rfl, ?_, ?_⟩
        · rw [S_len, S_len]; exact sz (by omega)
        · rw [S_app]
          exact q _ g
end
/-! ### numbers -/
def txO (V : W → Int) : Option T → W
  | some (.node s x ks) => txtT V s x ks
  | _ => []
def KnownO (V : W → Int) (D : List W) : Option T → Prop
  | none => [] ∈ D
  | some t => Known V D t
def kidsLt (m : Nat) (o : Option T) : Prop := ∀ s x ks, o = some (.node s x ks) → ∀ p ∈ ks, ht p.2 < m
section
variable {P : Program} {w : World} {K : PySem.W.Frag} {mg : Str → Option Value} {base : Heap} (g : Dig P w K mg base)
def spText (m : Nat) : Sp := fun vs H Q _ => ∃ o v D, vs = [v, .ref g.fa] ∧ RepO K H o v ∧ WfO o ∧ (∀ n, o ≠ some (.stub n)) ∧ kidsLt m o ∧ g.St D H ∧ D.length + cntO o ≤ 10000000 ∧
  ∀ D' H', D <+: D' → D'.length + 1 ≤ D.length + cntO o → g.St D' H' → Go (tbs K) g.Mt H H' → (∀ s x ks, o = some (.node s x ks) → ∀ p ∈ ks, Known (g.val D') D' p.2) → Q (.str (S (txO (g.val D') o))) H'
def spNum (m : Nat) : Sp := fun vs H Q _ => ∃ o v D, vs = [v, .ref g.fa] ∧ RepO K H o v ∧ WfO o ∧ kidsLt m o ∧ g.St D H ∧ D.length + cntO o ≤ 10000000 ∧
  ∀ D' H', D <+: D' → D'.length ≤ D.length + cntO o → g.St D' H' → Go (tbs K) g.Mt H H' → KnownO (g.val D') D' o → Q (.int (numO (g.val D') o)) H'
theorem WfO.kids {s : W} {x : Option W} {ks : List (Nat × T)} (h : WfO (some (.node s x ks))) : ∀ p ∈ ks, WfO (some p.2) := fun p hp => ⟨((Wf.node.mp h.1).2.2.2.2 p hp).2, by have := ht_mem hp; have := h.2; simp only [ht] at this; omega⟩
theorem WfO.stem {s : W} {x : Option W} {ks : List (Nat × T)} (h : WfO (some (.node s x ks))) : s.length ≤ 8 := by have := h.2; simp only [ht] at this; omega
theorem cntK_mem {ks : List (Nat × T)} : cnt (.node [] none ks) = 1 + cntK ks := by simp [cnt]
theorem cntK_take {ks : List (Nat × T)} {i l : Nat} {b : T} (h : ks[i]? = some (l, b)) : cntK (ks.take (i + 1)) = cntK (ks.take i) + cnt b := by
  rw [take_snoc h, cntK_app]
  simp [cntK]
theorem cntK_take_le (ks : List (Nat × T)) (i : Nat) : cntK (ks.take i) ≤ cntK ks := by
  have := cntK_app (ks.take i) (ks.drop i)
  rw [List.take_append_drop] at this
  omega
theorem D_text_step {n : Nat} {j : Nat} (hj : 1 ≤ j) {sp : Sp} (nt : Fn1 K mg "text_of" s_text_of) (G : TX K mg) (D_written : Def P w K mg base CX0 1 "written" ["start", "rows"] (spWritten K)) (D_Ns : DefM P w K mg base 1 "Node" "start" ["self"] (spStart K))
    (D_number_of : Def P w K mg base CX0 j "number_of" ["tree", "digest"] sp)
    (hsp : ∀ H (v : V) (Q : VK) E t D, Rep K H t v → WfO (some t) → ht t < n → g.St D H → D.length + cnt t ≤ 10000000 → (∀ D' H', D <+: D' → D'.length ≤ D.length + cnt t → g.St D' H' → Go (tbs K) g.Mt H H' → Known (g.val D') D' t → Q (.int (numT (g.val D') t)) H') → sp [v, .ref g.fa] H Q E) :
    Def P w K mg base CX0 (j + 1) "text_of" ["tree", "digest"] (spText g n) := by
  refine nt.mk0 sc_text_of bind_text_of (fun vs H Q E h => ?_) (fun cdv A outer s H vs Q E hr h => ?_)
  · obtain ⟨_, _, _, rfl, _⟩ := h
    rfl
  · obtain ⟨o, v, D, rfl, hv, hw, hns, hk, hD, hc, q⟩ := h
    refine ⟨_, (pss_cons (ps_if (pt_cmpR op_isN (pv 0) pe_non (nomark _)) (pss_one (ps_ret pe_str)) pss_nil)
      (pss_cons (ps_if (pt_val (pe_callB call_isi (by rfl) G.b_isinstance (by decide +kernel) (pa_cons (pv 0) (pa_cons (pe_gR G.c_Stub) pa_nil)))) (pss_one ps_never) pss_nil)
      (pss_one (ps_ret (pe_cd D_written (hr.mono (by omega)) (by rfl) (pa_cons (pe_md0 (pv 0) G.tN.cl G.m_Ns D_Ns (hr.mono (by omega))) (pa_cons (pe_lc (own := [("letter", 2), ("kid", 3)]) (g := gTup K 2 (gCons (gName 2) (gCons (gName 3) gNil))) (tt := tYes) (by rfl) sc_text_of.nd (pi_tup (pe_fld (pv 0) rfl)) (blkOk_by (N := ["tree", "digest", "letter", "kid"]) (sc := defScope s_text_of) (by decide +kernel)) (fun _ _ _ _ _ => pg_tup rfl (pgs_cons (pg_name (i := 2) sc_text_of.nd rfl (Or.inl rfl)) (pgs_cons (pg_name (i := 3) sc_text_of.nd rfl (Or.inl rfl)) pgs_nil))) (fun _ _ _ _ _ => pts_nil) (fun _ _ _ _ _ => (pe_tup (pa_cons (pv 2) (pa_cons (pe_cd D_number_of (hr.mono (by omega)) (by rfl) (pa_cons (pv 3) (pa_cons (pv 1) pa_nil))) pa_nil))))) pa_nil))))))), ?_⟩
    refine ⟨_, rfl, rfl, _, rfl, ?_⟩
    rw [hv.non]
    cases o with
    | none => exact q D H (List.prefix_refl D) (by simp [cntO]) hD .refl fun s x ks e => nomatch e
    | some t =>
      cases t with
      | stub n' => exact absurd rfl (hns n')
      | node st x ks =>
        obtain ⟨a, dx, l, xs, rfl, ha, hl, hx⟩ := Rep.node.mp hv
        have w5 := wf_few26 hw.1
        have hst := hw.stem
        have hva : ∀ y, x = some y → Vl y := (Wf.node.mp hw.1).2.1
        refine ⟨_, rfl, _, _, _, _, false, rfl, .own _, G.tN.ty ha, G.kNS, _, rfl, ?_⟩
        refine ⟨_, rfl, a, dx, _, rfl, ha, rfl, st, x, ks, _, rfl, hv, hst, hva, ?_⟩
        refine ⟨_, rfl, a, _, dx, _, _, rfl, ha, G.tN.cl, G.nK, rfl, l, rfl, ⟨_, SqT.of hl⟩, fun N hN => ?_⟩
        refine lc_go (Ts := tbs K) (M := g.Mt) (walk_tup (xs := xs)) hN (by rw [hx.length]; omega) (g.has hD) (fun i acc H' => Go (tbs K) g.Mt H H' ∧ ∃ Di, D <+: Di ∧ Di.length ≤ D.length + cntK (ks.take i) ∧ g.St Di H' ∧ RepI H' ((ks.take i).map fun p : Nat × T => (p.1, numT (g.val Di) p.2)) acc ∧ ∀ p ∈ ks.take i, Known (g.val Di) Di p.2)
          (fun i acc H' H'' ⟨a, Di, b1, b2, b3, b4, b5⟩ g' => ⟨a.loc hN g', Di, b1, b2, g.keepD hD hN b3 g', b4.keep g'.keep, b5⟩) ⟨.refl, D, List.prefix_refl D, by simp, hD, .nil, fun p hp => by simp at hp⟩ (fun i acc H' _ ⟨g', _⟩ => SqT.of (g'.tup hl)) ?_ ?_
        · rintro i acc y H' H'' R1 R2 hi ⟨g', Di, b1, b2, b3, b4, b5⟩ ⟨rfl, hxi⟩ r1 r2
          obtain ⟨l', b, p, v, hki, hm, rfl, hp, hbv⟩ := hx.at_ hxi
          have hcl := cntK_take hki
          have hcle := cntK_take_le ks (i + 1)
          simp only [cntO, cnt] at hc
          refine ⟨p, _, rfl, SqT.of (g'.tup hp), rfl, _, _, rfl, _, _, rfl, rfl, rfl, ?_⟩
          refine ⟨_, rfl, _, rfl, _, rfl, ?_⟩
          refine hsp H'' v _ _ b Di (Rep.keep g'.keep b hbv) (hw.kids _ hm) (hk _ _ _ rfl _ hm) b3 (by omega) fun D' H3 c1 c2 c3 c4 c5 => ?_
          refine ⟨by show 2 ≤ sizeLine; decide, fun t ht => ?_⟩
          have g4 : Go (tbs K) g.Mt H'' (upd H3 t (.tup [.str (S [l']), .int (numT (g.val D') b)])) := c4.news ht
          have g5 : Gz K H3 (upd H3 t (.tup [.str (S [l']), .int (numT (g.val D') b)])) := .new ht
          refine r1 _ _ g4 ⟨g'.trans g4, D', b1.trans c1, by omega, g.keep0 c3 g5, ?_, ?_⟩
          · rw [take_snoc hki, List.map_append]
            have e : (ks.take i).map (fun p => (p.1, numT (g.val D') p.2)) = (ks.take i).map (fun p => (p.1, numT (g.val Di) p.2)) := List.map_congr_left fun p hp => by rw [(g.known c1 (b5 p hp)).2]
            rw [e]
            exact (b4.keep g4.keep).snoc upd_same rfl
          · intro p hp
            rw [take_snoc hki] at hp
            rcases List.mem_append.mp hp with hp | hp
            · exact (g.known c1 (b5 p hp)).1
            · simp at hp; subst hp; exact c5
        · rintro acc H' ⟨g', Di, b1, b2, b3, b4, b5⟩ h1 _
          rw [hx.length, List.take_length] at b2 b4 b5
          simp only [cntO, cnt] at hc q
          refine ⟨_, N, acc, _, rfl, h1, b4, by have := startW_len hst hva; omega, by simp; omega, fun p hp => ?_, fun H3 g3 => ?_⟩
          · obtain ⟨p', hp', rfl⟩ := List.mem_map.mp hp
            exact g.num_of (by omega) (hw.kids _ hp').1 (b5 p' hp')
          · rw [rows_txt]
            exact q Di H3 b1 (by omega) (g.keep0 b3 g3) (g'.trans g3.any) fun s' x' ks' e => by cases e; exact b5
theorem D_num_step {n : Nat} {j : Nat} (hj : 1 ≤ j) (nn : Fn1 K mg "number_of" s_number_of) (G : TX K mg) (D_text_of : Def P w K mg base CX0 j "text_of" ["tree", "digest"] (spText g n)) : Def P w K mg base CX0 (j + 1) "number_of" ["tree", "digest"] (spNum g n) := by
  refine nn.mk0 sc_number_of bind_number_of (fun vs H Q E h => ?_) (fun cdv A outer s H vs Q E hr h => ?_)
  · obtain ⟨_, _, _, rfl, _⟩ := h
    rfl
  · obtain ⟨o, v, D, rfl, hv, hw, hk, hD, hc, q⟩ := h
    refine ⟨_, (pss_cons (ps_if (pt_val (pe_callB call_isi (by rfl) G.b_isinstance (by decide +kernel) (pa_cons (pv 0) (pa_cons (pe_gR G.c_Stub) pa_nil)))) (pss_one (ps_ret (pe_fld (pv 0) rfl))) pss_nil)
      (pss_one (ps_ret (pe_callH (i := 1) g.call (hr.mono (by omega)) rfl (Or.inl rfl) (pa_cons (pe_cd D_text_of (hr.mono (by omega)) (by rfl) (pa_cons (pv 0) (pa_cons (pv 1) pa_nil))) pa_nil))))), ?_⟩
    have hr1 : Room 1 _ := hr.mono hj
    cases o with
    | none =>
      cases hv
      refine ⟨_, rfl, _, _, _, _, false, rfl, .own _, .base .non, G.kOS, _, rfl, ?_⟩
      refine ⟨rfl, g.fn hD, _, rfl, _, rfl, none, _, D, rfl, rfl, trivial, (fun n' e => nomatch e), (fun s x ks e => nomatch e), hD, hc, fun D' H' c1 c2 c3 c4 c5 => ?_⟩
      refine ⟨g.fn c3, D', [], rfl, by simp, c3, by simp only [cntO] at c2 hc; omega, fun D2 H2 e1 e2 e3 e4 e5 => ?_⟩
      exact q D2 H2 (c1.trans e1) (by omega) e4 (c4.trans e5) e2
    | some t =>
      cases t with
      | stub n' =>
        obtain ⟨a, dx, rfl, ha⟩ := Rep.stub.mp hv
        refine ⟨_, rfl, _, _, _, _, true, rfl, .own _, G.tS.ty ha, G.kSS, _, rfl, ?_⟩
        refine ⟨_, rfl, a, _, dx, _, _, rfl, ha, G.tS.cl, G.nN, rfl, ?_⟩
        have := q D H (List.prefix_refl D) (by omega) hD .refl (by simp [KnownO, Known])
        simpa only [numO, numT] using this
      | node st x ks =>
        obtain ⟨a, dx, l, xs, rfl, ha, hl, hx⟩ := Rep.node.mp hv
        have hva : ∀ y, x = some y → Vl y := (Wf.node.mp hw.1).2.1
        refine ⟨_, rfl, _, _, _, _, false, rfl, .own _, G.tN.ty ha, G.kNS, _, rfl, ?_⟩
        refine ⟨rfl, g.fn hD, _, rfl, _, rfl, some (.node st x ks), _, D, rfl, hv, hw, fun n' e => (by cases e), hk, hD, hc, fun D' H' c1 c2 c3 c4 c5 => ?_⟩
        have c5 := c5 _ _ _ rfl
        have hlen : (txtT (g.val D') st x ks).length ≤ 2000 := by
          have h1 := startW_len hw.stem hva
          have h2 := txtK_len (V := g.val D') (ks := ks) fun p hp => g.num_of (by omega) (hw.kids _ hp).1 (c5 p hp)
          have h3 := wf_few26 hw.1
          simp only [txtT, List.length_append]
          omega
        refine ⟨g.fn c3, D', _, rfl, hlen, c3, by omega, fun D2 H2 e1 e2 e3 e4 e5 => ?_⟩
        have st2 : ∀ p ∈ ks, Known (g.val D2) D2 p.2 ∧ numT (g.val D2) p.2 = numT (g.val D') p.2 := fun p hp => g.known e1 (c5 p hp)
        have et : txtT (g.val D2) st x ks = txtT (g.val D') st x ks := by
          unfold txtT
          rw [txtK_congr fun p hp => (st2 p hp).2]
        have := q D2 H2 (c1.trans e1) (by omega) e4 (c4.trans e5) (Known.node.mpr ⟨fun p hp => (st2 p hp).1, by rw [et]; exact e2⟩)
        have en : numO (g.val D2) (some (.node st x ks)) = g.val D2 (txtT (g.val D2) st x ks) := by simp only [numO, numT]; rfl
        rw [en, et] at this
        exact this
theorem kidsLt_of {m : Nat} {t : T} (h : ht t < m + 1) : kidsLt m (some t) := fun s x ks e p hp => by
  cases e
  have := ht_mem hp
  simp only [ht] at h
  omega
theorem D_numbers (nt : Fn1 K mg "text_of" s_text_of) (nn : Fn1 K mg "number_of" s_number_of) (G : TX K mg) (D_written : Def P w K mg base CX0 1 "written" ["start", "rows"] (spWritten K)) (D_Ns : DefM P w K mg base 1 "Node" "start" ["self"] (spStart K)) :
    ∀ m, Def P w K mg base CX0 (2 * m + 2) "text_of" ["tree", "digest"] (spText g m) ∧ Def P w K mg base CX0 (2 * m + 3) "number_of" ["tree", "digest"] (spNum g m) := by
  intro m
  induction m with
  | zero =>
    have h1 := D_text_step g (n := 0) (j := 1) (by omega) nt G D_written D_Ns (nn.no0 sc_number_of bind_number_of) fun H v Q E t D _ _ h => absurd h (by omega)
    exact ⟨h1, D_num_step g (by omega) nn G h1⟩
  | succ m ih =>
    have h1 := D_text_step g (n := m + 1) (j := 2 * m + 3) (by omega) nt G D_written D_Ns ih.2 fun H v Q E t D a1 a2 a3 a4 a5 a6 => ⟨some t, v, D, rfl, a1, a2, kidsLt_of a3, a4, a5, a6⟩
    exact ⟨h1, D_num_step g (j := 2 * m + 4) (by omega) nn G h1⟩
/-- number_of for every tree -/
def spNumber : Sp := fun vs H Q _ => ∃ o v D, vs = [v, .ref g.fa] ∧ RepO K H o v ∧ WfO o ∧ g.St D H ∧ D.length + cntO o ≤ 10000000 ∧
  ∀ D' H', D <+: D' → D'.length ≤ D.length + cntO o → g.St D' H' → Go (tbs K) g.Mt H H' → KnownO (g.val D') D' o → Q (.int (numO (g.val D') o)) H'
theorem D_number (nt : Fn1 K mg "text_of" s_text_of) (nn : Fn1 K mg "number_of" s_number_of) (G : TX K mg) (D_written : Def P w K mg base CX0 1 "written" ["start", "rows"] (spWritten K)) (D_Ns : DefM P w K mg base 1 "Node" "start" ["self"] (spStart K)) :
    Def P w K mg base CX0 19 "number_of" ["tree", "digest"] (spNumber g) :=
  (D_numbers g nt nn G D_written D_Ns 8).2.imp fun vs H Q E h => by
    obtain ⟨o, v, D, e, a1, a2, a3⟩ := h
    refine ⟨o, v, D, e, a1, a2, fun s x ks e p hp => ?_, a3⟩
    subst e
    have := ht_mem hp
    have := a2.2
    simp only [ht] at this
    omega
/-- as_stub -/
def spStub : Sp := fun vs H Q _ => ∃ o v D, vs = [v, .ref g.fa] ∧ RepO K H o v ∧ WfO o ∧ g.St D H ∧ D.length + cntO o ≤ 10000000 ∧
  ∀ D' H' r, D <+: D' → D'.length ≤ D.length + cntO o → g.St D' H' → Go (tbs K) g.Mt H H' → (∀ t, o = some t → Known (g.val D') D' t) → RepO K H' (o.map fun t => .stub (numT (g.val D') t)) r → Q r H'
theorem D_as_stub (n : Fn1 K mg "as_stub" s_as_stub) (G : TX K mg) (D_number_of : Def P w K mg base CX0 19 "number_of" ["tree", "digest"] (spNumber g)) (D_Si : DefM P w K mg base 2 "Stub" "__init__" ["self", "number"] (spStubInit K)) : Def P w K mg base CX0 20 "as_stub" ["tree", "digest"] (spStub g) := by
  refine n.mk0 sc_as_stub bind_as_stub (fun vs H Q E h => ?_) (fun cdv A outer s H vs Q E hr h => ?_)
  · obtain ⟨_, _, _, rfl, _⟩ := h
    rfl
  · obtain ⟨o, v, D, rfl, hv, hw, hD, hc, q⟩ := h
    refine ⟨_, (pss_cons (ps_if (pt_cmpR op_isN (pv 0) pe_non (nomark _)) (pss_one (ps_ret pe_non)) pss_nil)
      (pss_one (ps_ret (pe_mk G.mkS D_Si (hr.mono (by omega)) (by rfl) G.c_Stub (pa_cons (pe_cd D_number_of (hr.mono (by omega)) (by rfl) (pa_cons (pv 0) (pa_cons (pv 1) pa_nil))) pa_nil))))), ?_⟩
    refine ⟨_, rfl, rfl, _, rfl, ?_⟩
    rw [hv.non]
    cases o with
    | none => exact q D H _ (List.prefix_refl D) (by omega) hD .refl (fun t e => nomatch e) rfl
    | some t =>
      refine ⟨_, rfl, _, rfl, some t, v, D, rfl, hv, hw, hD, hc, fun D' H' c1 c2 c3 c4 c5 => ?_⟩
      refine stub_make (g.num_of (by omega) hw.1 c5) fun v' H2 g2 r => ?_
      exact q D' H2 v' c1 c2 (g.keep0 c3 g2) (c4.trans g2.any) (fun t' e => by cases e; exact c5) r
def spIsTree (K : PySem.W.Frag) : Sp := fun vs H Q _ => ∃ o v, vs = [v] ∧ RepO K H o v ∧ Q (.bl true) H
def spNeedTree (K : PySem.W.Frag) : Sp := fun vs H Q _ => ∃ o v, vs = [v] ∧ RepO K H o v ∧ Q .non H
theorem D_is_tree (n : Fn1 K mg "is_tree" s_is_tree) (G : TX K mg) : Def P w K mg base CX0 1 "is_tree" ["thing"] (spIsTree K) := by
  refine n.mk0 sc_is_tree bind_is_tree (fun vs H Q E h => ?_) (fun cdv A outer s H vs Q E hr h => ?_)
  · obtain ⟨_, _, rfl, _⟩ := h
    rfl
  · obtain ⟨o, v, rfl, hv, q⟩ := h
    refine ⟨_, (pss_one (ps_ret (pe_or (pe_cmpR op_isN (pv 0) pe_non (nomark _)) (pe_one (pe_callB call_isi (by rfl) G.b_isinstance (by decide +kernel) (pa_cons (pv 0) (pa_cons (pe_gR G.c_Part) pa_nil))))))), ?_⟩
    refine ⟨_, rfl, rfl, _, rfl, ?_⟩
    rw [hv.non]
    cases o with
    | none => exact q
    | some t =>
      obtain ⟨u, h1, h2⟩ := G.part hv
      exact ⟨_, rfl, _, _, _, _, true, rfl, .own _, h1, h2, q⟩
theorem D_need_tree (n : Fn1 K mg "need_tree" s_need_tree) (G : TX K mg) (D_is_tree : Def P w K mg base CX0 1 "is_tree" ["thing"] (spIsTree K)) : Def P w K mg base CX0 2 "need_tree" ["thing"] (spNeedTree K) := by
  refine n.mk0 sc_need_tree bind_need_tree (fun vs H Q E h => ?_) (fun cdv A outer s H vs Q E hr h => ?_)
  · obtain ⟨_, _, rfl, _⟩ := h
    rfl
  · obtain ⟨o, v, rfl, hv, q⟩ := h
    refine ⟨_, (pss_one (ps_if (pt_not (pt_val (pe_cd D_is_tree (hr.mono (by omega)) (by rfl) (pa_cons (pv 0) pa_nil)))) (pss_one ps_never) pss_nil)), ?_⟩
    exact ⟨_, rfl, o, v, rfl, hv, _, rfl, q⟩
/-- need_root, where it holds -/
def spNeedRoot : Sp := fun vs H Q _ => ∃ o v D n, vs = [.int n, v, .ref g.fa] ∧ RepO K H o v ∧ WfO o ∧ g.St D H ∧ D.length + cntO o ≤ 10000000 ∧
  ∀ D' H', D <+: D' → D'.length ≤ D.length + cntO o → g.St D' H' → Go (tbs K) g.Mt H H' → KnownO (g.val D') D' o → numO (g.val D') o = n ∧ Q .non H'
theorem D_need_root (n : Fn1 K mg "need_root" s_need_root) (G : TX K mg) (D_number_of : Def P w K mg base CX0 19 "number_of" ["tree", "digest"] (spNumber g)) (D_need_tree : Def P w K mg base CX0 2 "need_tree" ["thing"] (spNeedTree K)) : Def P w K mg base CX0 20 "need_root" ["root", "tree", "digest"] (spNeedRoot g) := by
  refine n.mk0 sc_need_root bind_need_root (fun vs H Q E h => ?_) (fun cdv A outer s H vs Q E hr h => ?_)
  · obtain ⟨_, _, _, _, rfl, _⟩ := h
    rfl
  · obtain ⟨o, v, D, m, rfl, hv, hw, hD, hc, q⟩ := h
    refine ⟨_, (pss_cons (ps_expr (pe_cd D_need_tree (hr.mono (by omega)) (by rfl) (pa_cons (pv 1) pa_nil)))
      (pss_cons (ps_set (i := 3) sc_need_root.nd rfl (Or.inl rfl) (pe_cd D_number_of (hr.mono (by omega)) (by rfl) (pa_cons (pv 1) (pa_cons (pv 2) pa_nil))))
      (pss_one (ps_if (pt_cmpR op_ne (pv 3) (pv 0) (nomark _)) (pss_one ps_never) pss_nil)))), ?_⟩
    refine ⟨_, rfl, o, v, rfl, hv, ?_⟩
    refine ⟨_, rfl, _, rfl, o, v, D, rfl, hv, hw, hD, hc, fun D' H' c1 c2 c3 c4 c5 => ?_⟩
    obtain ⟨e, q⟩ := q D' H' c1 c2 c3 c4 c5
    refine ⟨_, rfl, _, rfl, rfl, _, rfl, ?_⟩
    rw [e, decide_eq_true rfl]
    exact q
end
end Seal
namespace Seal
open PySem PySem.Spec PyProof.Rows L2 LamX NdefX
/-! ### parts of what is told -/
theorem sc_part_of : FnScope ["told", "pair"] ["told"] (defScope s_part_of) := ⟨rfl, rfl, rfl, by decide +kernel, rfl, by decide +kernel, by decide +kernel⟩
theorem bind_part_of : BindQ "part_of" "part_of" s_part_of ["told"] := fun _ _ _ _ _ _ us hl => match us, hl with | [_], _ => rfl
theorem sc_kid_of : FnScope ["pair"] ["pair"] (defScope s_kid_of) := ⟨rfl, rfl, rfl, by decide +kernel, rfl, by decide +kernel, by decide +kernel⟩
theorem bind_kid_of : BindQ "kid_of" "kid_of" s_kid_of ["pair"] := fun _ _ _ _ _ _ us hl => match us, hl with | [_], _ => rfl
theorem RepD.tup {H : Hp} {t : T} {v : V} (h : RepD H t v) : ∃ a xs, v = .ref a ∧ H a = some (.tup xs) := by
  cases t with
  | stub n => obtain ⟨a, e, h⟩ := RepD.stub.mp h; exact ⟨a, _, e, h⟩
  | node s o ks => obtain ⟨a, l, xs, e, h, _⟩ := RepD.node.mp h; exact ⟨a, _, e, h⟩
section
variable {P : Program} {w : World} {K : PySem.W.Frag} {mg : Str → Option Value} {base : Heap}
def spPart (K : PySem.W.Frag) (m : Nat) : Sp := fun vs H Q _ => ∃ t v, vs = [v] ∧ RepD H t v ∧ WfO (some t) ∧ kidsLt m (some t) ∧ ∀ r H', Gz K H H' → Rep K H' t r → Q r H'
def spKid (K : PySem.W.Frag) (m : Nat) : Sp := fun vs H Q _ => ∃ t v p l, vs = [.ref p] ∧ H p = some (.tup [.str (S [l]), v]) ∧ RepD H t v ∧ WfO (some t) ∧ ht t < m ∧ ∀ q r H', Gz K H H' → H' q = some (.tup [.str (S [l]), r]) → Rep K H' t r → Q (.ref q) H'
theorem D_part_step {m j : Nat} (hj : 11 ≤ j) {sp : Sp} (n : Fn1 K mg "part_of" s_part_of) (G : TX K mg) (D_Si : DefM P w K mg base 2 "Stub" "__init__" ["self", "number"] (spStubInit K)) (D_Ni : DefM P w K mg base 11 "Node" "__init__" ["self", "stem", "value", "kids"] (spNodeInit K))
    (D_kid_of : Def P w K mg base CX0 j "kid_of" ["pair"] sp) (hsp : ∀ vs H Q E, spKid K m vs H Q E → sp vs H Q E) : Def P w K mg base CX0 (j + 2) "part_of" ["told"] (spPart K m) := by
  refine n.mk0 sc_part_of bind_part_of (fun vs H Q E h => ?_) (fun cdv A outer s H vs Q E hr h => ?_)
  · obtain ⟨_, _, rfl, _⟩ := h
    rfl
  · obtain ⟨t, v, rfl, hv, hw, hk, q⟩ := h
    refine ⟨_, (pss_cons (ps_if (pt_not (pt_val (pe_callB call_isi (by rfl) G.b_isinstance (by decide +kernel) (pa_cons (pv 0) (pa_cons (pe_ty (n := "tuple") G.b_tuple (by decide +kernel)) pa_nil))))) (pss_one ps_never) pss_nil)
      (pss_cons (ps_if (PW.pt (pw_and (pt_cmpR op_eq (pe_callB call_len (by rfl) G.b_len PySem.boot_len (pa_cons (pv 0) pa_nil)) pe_int (nomark _)) (pw_and1 (pt_cmpR op_eq (pe_ix ix_tup (pv 0) pe_int (fun _ _ => rfl)) pe_str (nomark _))))) (pss_one (ps_ret (pe_mk G.mkS D_Si (hr.mono (by omega)) (by rfl) G.c_Stub (pa_cons (pe_ix ix_tup (pv 0) pe_int (fun _ _ => rfl)) pa_nil)))) pss_nil)
      (pss_cons (ps_if (PW.pt (pw_or (pt_cmpR op_ne (pe_callB call_len (by rfl) G.b_len PySem.boot_len (pa_cons (pv 0) pa_nil)) pe_int (nomark _)) (pw_or (pt_cmpR op_ne (pe_ix ix_tup (pv 0) pe_int (fun _ _ => rfl)) pe_str (nomark _)) (pw_or1 (pt_not (pt_val (pe_callB call_isi (by rfl) G.b_isinstance (by decide +kernel) (pa_cons (pe_ix ix_tup (pv 0) pe_int (fun _ _ => rfl)) (pa_cons (pe_ty (n := "tuple") G.b_tuple (by decide +kernel)) pa_nil))))))))) (pss_one ps_never) pss_nil)
      (pss_one (ps_ret (pe_mk G.mkN D_Ni (hr.mono (by omega)) (by rfl) G.c_Node (pa_cons (pe_ix ix_tup (pv 0) pe_int (fun _ _ => rfl)) (pa_cons (pe_ix ix_tup (pv 0) pe_int (fun _ _ => rfl)) (pa_cons (pe_lc (own := [("pair", 1)]) (g := gName 1) (tt := tYes) (by rfl) sc_part_of.nd (pi_tup (pe_ix ix_tup (pv 0) pe_int (fun _ _ => rfl))) (blkOk_by (N := ["told", "pair"]) (sc := defScope s_part_of) (by decide +kernel)) (fun _ _ _ _ _ => pg_name (i := 1) sc_part_of.nd rfl (Or.inl rfl)) (fun _ _ _ _ _ => pts_nil) (fun _ _ _ _ _ => (pe_cd D_kid_of (hr.mono (by omega)) (by rfl) (pa_cons (pv 1) pa_nil)))) pa_nil))))))))), ?_⟩
    cases t with
    | stub n' =>
      obtain ⟨a, rfl, ha⟩ := RepD.stub.mp hv
      refine ⟨_, rfl, _, _, _, _, true, rfl, .ty "tuple", .base (.tup ha), kit_ty (by decide +kernel), true, rfl, ?_⟩
      refine ⟨_, rfl, _, 2, rfl, .inr ⟨_, .of ha, rfl⟩, rfl, _, rfl, ?_⟩
      refine ⟨_, rfl, a, _, 0, _, rfl, rfl, .of ha, rfl, rfl, _, rfl, ?_⟩
      refine ⟨_, rfl, a, _, 1, _, rfl, rfl, .of ha, rfl, ?_⟩
      have hn : Num n' := by simpa [Wf] using hw.1
      exact stub_make hn fun v' H2 g2 r => q _ _ g2 r
    | node st x ks =>
      obtain ⟨a, l, xs, rfl, ha, hl, hx⟩ := RepD.node.mp hv
      have hst : S st ≠ S [1] ∨ True := .inr trivial
      refine ⟨_, rfl, _, _, _, _, true, rfl, .ty "tuple", .base (.tup ha), kit_ty (by decide +kernel), true, rfl, ?_⟩
      refine ⟨_, rfl, _, 4, rfl, .inr ⟨_, .of ha, rfl⟩, rfl, _, rfl, ?_⟩
      refine ⟨_, rfl, _, 4, rfl, .inr ⟨_, .of ha, rfl⟩, rfl, _, rfl, ?_⟩
      refine ⟨_, rfl, a, _, 0, _, rfl, rfl, .of ha, rfl, rfl, _, rfl, ?_⟩
      refine ⟨_, rfl, a, _, 3, _, rfl, rfl, .of ha, rfl, _, _, _, _, true, rfl, .ty "tuple", .base (.tup hl), kit_ty (by decide +kernel), true, rfl, ?_⟩
      refine ⟨_, rfl, a, _, 1, _, rfl, rfl, .of ha, rfl, ?_⟩
      refine ⟨_, rfl, a, _, 2, _, rfl, rfl, .of ha, rfl, ?_⟩
      refine ⟨_, rfl, a, _, 3, _, rfl, rfl, .of ha, rfl, l, rfl, ⟨_, SqT.of hl⟩, fun N hN => ?_⟩
      have w26 := wf_few26 hw.1
      refine lc_go (Ts := tbs K) (M := M0) (walk_tup (xs := xs)) hN (by rw [hx.length]; omega) m0_ne (fun i acc H' => Gz K H H' ∧ RepP K H' (ks.take i) acc) (fun i acc H' H'' ⟨a, b⟩ g => ⟨a.loc hN g, b.keep g.keep⟩) ⟨.refl, .nil⟩ (fun i acc H' _ ⟨g, _⟩ => SqT.of (g.tup hl)) ?_ ?_
      · rintro i acc y H' H'' R1 R2 hi ⟨g, hb⟩ ⟨rfl, hxi⟩ r1 r2
        obtain ⟨l', b, p, v, hki, hm, rfl, hp, hbv⟩ := hx.at_ hxi
        refine ⟨rfl, _, rfl, hsp _ _ _ _ ⟨b, v, p, l', rfl, g.tup hp, RepD.keep g.keep b hbv, hw.kids _ hm, hk _ _ _ rfl _ hm, fun q' r H3 g3 hq hr' => ?_⟩⟩
        refine r1 _ _ g3 ⟨g.trans g3, ?_⟩
        rw [take_snoc hki]
        exact (hb.keep g3.keep).snoc hq hr'
      · rintro acc H' ⟨g, hb⟩ h1 _
        rw [hx.length, List.take_length] at hb
        exact node_make ⟨N, rfl, .inr h1⟩ hb hw.1 hw.2 fun v' H2 g2 r => q _ _ (g.trans g2) r
theorem D_kid_step {m j : Nat} (n : Fn1 K mg "kid_of" s_kid_of) (G : TX K mg) (D_part_of : Def P w K mg base CX0 j "part_of" ["told"] (spPart K m)) : Def P w K mg base CX0 (j + 1) "kid_of" ["pair"] (spKid K (m + 1)) := by
  refine n.mk0 sc_kid_of bind_kid_of (fun vs H Q E h => ?_) (fun cdv A outer s H vs Q E hr h => ?_)
  · obtain ⟨_, _, _, _, rfl, _⟩ := h
    rfl
  · obtain ⟨t, v, p, l, rfl, hp, hv, hw, hlt, q⟩ := h
    refine ⟨_, (pss_cons (ps_if (PW.pt (pw_or (pt_not (pt_val (pe_callB call_isi (by rfl) G.b_isinstance (by decide +kernel) (pa_cons (pv 0) (pa_cons (pe_ty (n := "tuple") G.b_tuple (by decide +kernel)) pa_nil))))) (pw_or1 (pt_cmpR op_ne (pe_callB call_len (by rfl) G.b_len PySem.boot_len (pa_cons (pv 0) pa_nil)) pe_int (nomark _))))) (pss_one ps_never) pss_nil)
      (pss_one (ps_ret (pe_tup (pa_cons (pe_ix ix_tup (pv 0) pe_int (fun _ _ => rfl)) (pa_cons (pe_cd D_part_of (hr.mono (by omega)) (by rfl) (pa_cons (pe_ix ix_tup (pv 0) pe_int (fun _ _ => rfl)) pa_nil)) pa_nil)))))), ?_⟩
    refine ⟨_, rfl, _, _, _, _, true, rfl, .ty "tuple", .base (.tup hp), kit_ty (by decide +kernel), true, rfl, ?_⟩
    refine ⟨_, rfl, _, 2, rfl, .inr ⟨_, .of hp, rfl⟩, rfl, _, rfl, ?_⟩
    refine ⟨_, rfl, p, _, 0, _, rfl, rfl, .of hp, rfl, ?_⟩
    refine ⟨_, rfl, p, _, 1, _, rfl, rfl, .of hp, rfl, ?_⟩
    refine ⟨t, v, rfl, hv, hw, kidsLt_of hlt, fun r H1 g1 hr1 => ⟨by show 2 ≤ sizeLine; decide, fun u hu => ?_⟩⟩
    have g2 : Gz K H1 (upd H1 u (.tup [.str (S [l]), r])) := .new hu
    exact q u r _ (g1.trans g2) upd_same (Rep.keep g2.keep t hr1)
theorem D_parts (np : Fn1 K mg "part_of" s_part_of) (nk : Fn1 K mg "kid_of" s_kid_of) (G : TX K mg) (D_Si : DefM P w K mg base 2 "Stub" "__init__" ["self", "number"] (spStubInit K)) (D_Ni : DefM P w K mg base 11 "Node" "__init__" ["self", "stem", "value", "kids"] (spNodeInit K)) :
    ∀ m, Def P w K mg base CX0 (3 * m + 13) "part_of" ["told"] (spPart K m) := by
  intro m
  induction m with
  | zero => exact D_part_step (j := 11) (by omega) np G D_Si D_Ni ((nk.no0 sc_kid_of bind_kid_of).mono (by omega)) fun vs H Q E ⟨t, v, p, l, _, _, _, _, h, _⟩ => absurd h (by omega)
  | succ m ih => exact D_part_step (j := 3 * m + 14) (by omega) np G D_Si D_Ni (D_kid_step nk G ih) fun _ _ _ _ h => h
def spPartOf (K : PySem.W.Frag) : Sp := fun vs H Q _ => ∃ t v, vs = [v] ∧ RepD H t v ∧ WfO (some t) ∧ ∀ r H', Gz K H H' → Rep K H' t r → Q r H'
theorem D_part_of (np : Fn1 K mg "part_of" s_part_of) (nk : Fn1 K mg "kid_of" s_kid_of) (G : TX K mg) (D_Si : DefM P w K mg base 2 "Stub" "__init__" ["self", "number"] (spStubInit K)) (D_Ni : DefM P w K mg base 11 "Node" "__init__" ["self", "stem", "value", "kids"] (spNodeInit K)) :
    Def P w K mg base CX0 37 "part_of" ["told"] (spPartOf K) :=
  (D_parts np nk G D_Si D_Ni 8).imp fun vs H Q E ⟨t, v, e, a, b, c⟩ => ⟨t, v, e, a, b, fun s x ks e p hp => by
    cases e
    have := ht_mem hp
    have := b.2
    simp only [ht] at this
    omega, c⟩
end
end Seal
namespace Seal
open PySem PySem.Spec PyProof.Rows L2 LamX NdefX
/-! ### what is raised -/
structure EX (K : PySem.W.Frag) (mg : Str → Option Value) (C f : Str) : Prop where
  oex : OexC K (He.ga K C)
  init : PySem.W.findIn K (.ref (He.ga K C)) "__init__" = some (some (.ref (He.ma K (He.ga K C) "__init__")))
  typ : PySem.W.typeIn K (.ref (He.ma K (He.ga K C) "__init__")) = some (.type "function")
  g : mg C = some (.ref (He.ga K C))
  noF : PySem.W.findIn K (.ref (He.ga K C)) f = some none
def spExc (K : PySem.W.Frag) (C : Str) (f : Str) : Sp := fun vs H Q _ => ∃ x v, vs = [.ref x, v] ∧ H x = some (exo x (He.ga K C) none) ∧ ∀ dx, H dx = none → dx ≠ x → Q .non (upd (upd H dx (exd dx [(f, v)])) x (exo x (He.ga K C) (some dx)))
theorem sc_Unseen_init : FnScope ["self", "way"] ["self", "way"] (defScope s_Unseen_init) := ⟨rfl, rfl, rfl, by decide +kernel, rfl, by decide +kernel, by decide +kernel⟩
theorem bind_Unseen_init : BindQ "__init__" "Unseen.__init__" s_Unseen_init ["self", "way"] := fun _ _ _ _ _ _ us hl => match us, hl with | [_, _], _ => rfl
theorem sc_NoKey_init : FnScope ["self", "key"] ["self", "key"] (defScope s_NoKey_init) := ⟨rfl, rfl, rfl, by decide +kernel, rfl, by decide +kernel, by decide +kernel⟩
theorem bind_NoKey_init : BindQ "__init__" "NoKey.__init__" s_NoKey_init ["self", "key"] := fun _ _ _ _ _ _ us hl => match us, hl with | [_, _], _ => rfl
section
variable {P : Program} {w : World} {K : PySem.W.Frag} {mg : Str → Option Value} {base : Heap}
theorem D_Unseen (n : FnM1 K "Unseen" "__init__" "Unseen.__init__" s_Unseen_init) (T : EX K mg "Unseen" "way") : DefM P w K mg base 1 "Unseen" "__init__" ["self", "way"] (spExc K "Unseen" "way") := by
  refine n.mk0 sc_Unseen_init bind_Unseen_init (fun vs H Q E h => ?_) (fun cdv A outer s H vs Q E hr h => ?_)
  · obtain ⟨_, _, rfl, _⟩ := h
    rfl
  · obtain ⟨x, v, rfl, hx, q⟩ := h
    exact ⟨_, pss_one (ps_ost (pv 0) (pv 1) rfl), _, rfl, _, rfl, x, _, rfl, T.oex, T.noF, .inl ⟨hx, fun dx hd hne => q dx hd hne⟩⟩
theorem D_NoKey (n : FnM1 K "NoKey" "__init__" "NoKey.__init__" s_NoKey_init) (T : EX K mg "NoKey" "key") : DefM P w K mg base 1 "NoKey" "__init__" ["self", "key"] (spExc K "NoKey" "key") := by
  refine n.mk0 sc_NoKey_init bind_NoKey_init (fun vs H Q E h => ?_) (fun cdv A outer s H vs Q E hr h => ?_)
  · obtain ⟨_, _, rfl, _⟩ := h
    rfl
  · obtain ⟨x, v, rfl, hx, q⟩ := h
    exact ⟨_, pss_one (ps_ost (pv 0) (pv 1) rfl), _, rfl, _, rfl, x, _, rfl, T.oex, T.noF, .inl ⟨hx, fun dx hd hne => q dx hd hne⟩⟩
end
theorem del_upd {H : Hp} {a d : Addr} {o1 o2 o3 : HO} (ha : H a = none) (hne : d ≠ a) : upd (del (upd (upd (upd H a o1) d o2) a o3) a) d o3 = upd H d o3 := by
  funext b
  by_cases hb : b = d
  · rw [hb, upd_same, upd_same]
  · rw [upd_ne hb, upd_ne hb]
    unfold del
    by_cases h : b = a
    · rw [if_pos h, h, ha]
    · rw [if_neg h, upd_ne h, upd_ne hb, upd_ne h]
def tMkX (K : PySem.W.Frag) (C f : Str) (t : TA) : L2.St → Hp → XK → Prop := fun σ H Q => t σ H fun vs H1 => vs.length ≤ 1000 ∧ ∀ a, H1 a = none → spExc K C f (.ref a :: (vs ++ [])) (upd H1 a (exo a (He.ga K C) none)) (fun v H2 => v = .non ∧ ∃ (d : Addr) (fs : List (Str × V)), H2 a = some (exo a (He.ga K C) (some d)) ∧ H2 d = some (exd d fs) ∧ H1 d = none ∧ Q (.ref (He.ga K C)) (some d) (upd (del H2 a) d (.xd fs))) (fun _ _ _ => False)
/-- the reading of a raise -/
theorem raise_at {K : PySem.W.Frag} {C f : Str} {H1 : Hp} {v : V} {Q : XK} (q : ∀ d, H1 d = none → Q (.ref (He.ga K C)) (some d) (upd H1 d (.xd [(f, v)]))) :
    [v].length ≤ 1000 ∧ ∀ a, H1 a = none → spExc K C f (.ref a :: ([v] ++ [])) (upd H1 a (exo a (He.ga K C) none)) (fun v H2 => v = .non ∧ ∃ (d : Addr) (fs : List (Str × V)), H2 a = some (exo a (He.ga K C) (some d)) ∧ H2 d = some (exd d fs) ∧ H1 d = none ∧ Q (.ref (He.ga K C)) (some d) (upd (del H2 a) d (.xd fs))) (fun _ _ _ => False) := by
  refine ⟨by simp, fun a ha => ⟨a, v, rfl, upd_same, fun dx hd hne => ⟨rfl, dx, [(f, v)], upd_same, ?_, ?_, ?_⟩⟩⟩
  · rw [upd_ne hne, upd_same]
  · rwa [upd_ne hne] at hd
  · have hd' : H1 dx = none := by rwa [upd_ne hne] at hd
    have e : upd (del (upd (upd (upd H1 a (exo a (He.ga K C) none)) dx (exd dx [(f, v)])) a (exo a (He.ga K C) (some dx))) a) dx (.xd [(f, v)]) = upd H1 dx (.xd [(f, v)]) := by
      funext b
      by_cases hb : b = dx
      · rw [hb, upd_same, upd_same]
      · rw [upd_ne hb, upd_ne hb]
        unfold del
        by_cases h : b = a
        · rw [if_pos h, h, ha]
        · rw [if_neg h, upd_ne h, upd_ne hb, upd_ne h]
    rw [e]
    exact q dx hd'
section
variable {X : Cx} {k : Nat} {C f : Str} {p pos : Pos} {e : Expr} {es : List Expr} {t : TA}
theorem pmk_ex (T : EX X.K X.mg C f) (D : DefM X.prog X.w X.K X.mg X.base k C "__init__" ["self", f] (spExc X.K C f)) (hr : Room (k + 1) X.A) (hg : Gl X C) (ha : PA X (e :: es) t)
    (hdb : (C == ("__debug__" : Str)) = false := by decide)
    (he : starEach (e :: es) X.env = (false, eval e X.env) :: starEach es X.env := by rfl) (hpl : (backTo pos (starEach es X.env)).any (·.1) = false := by rfl) :
    PMk X (.Call (.Name C p) (e :: es) [] pos) (tMkX X.K C f t) := by
  obtain ⟨fd, b, F⟩ := D.fn
  exact pmk_oex T.oex T.init T.typ F hr b .nil (fun _ _ _ _ _ _ _ z => z.elim) hg T.g ha hdb he hpl
end
/-- an error goes out -/
def ErrAt (K : PySem.W.Frag) (H : Hp) (E : XK) : Err → Prop
  | .unseen x => ∀ d H', Gz K H H' → H' d = some (.xd [("way", .str (S x))]) → E (.ref (He.ga K "Unseen")) (some d) H'
  | .nokey x => ∀ d H', Gz K H H' → H' d = some (.xd [("key", .str (S x))]) → E (.ref (He.ga K "NoKey")) (some d) H'
theorem ErrAt.go {K : PySem.W.Frag} {H H1 : Hp} {E : XK} {e : Err} (h : ErrAt K H E e) (g : Gz K H H1) : ErrAt K H1 E e := by
  cases e with
  | unseen x => exact fun d H' g' => h d H' (g.trans g')
  | nokey x => exact fun d H' g' => h d H' (g.trans g')
/-- what a def answers or raises -/
def Out {α : Type} (K : PySem.W.Frag) (H : Hp) (E : XK) (r : Except Err α) (good : α → Prop) : Prop := match r with
  | .ok a => good a
  | .error e => ErrAt K H E e
theorem sc_need_seen : FnScope ["part", "way"] ["part", "way"] (defScope s_need_seen) := ⟨rfl, rfl, rfl, by decide +kernel, rfl, by decide +kernel, by decide +kernel⟩
theorem bind_need_seen : BindQ "need_seen" "need_seen" s_need_seen ["part", "way"] := fun _ _ _ _ _ _ us hl => match us, hl with | [_, _], _ => rfl
def spSeen (K : PySem.W.Frag) : Sp := fun vs H Q E => ∃ t v x, vs = [v, .str (S x)] ∧ Rep K H t v ∧ ((∃ n, t = .stub n) → ErrAt K H E (.unseen x)) ∧ ((∀ n, t ≠ .stub n) → Q .non H)
section
variable {P : Program} {w : World} {K : PySem.W.Frag} {mg : Str → Option Value} {base : Heap}
theorem D_need_seen (n : Fn1 K mg "need_seen" s_need_seen) (G : TX K mg) (XUnseen : EX K mg "Unseen" "way") (D_Unseen : DefM P w K mg base 1 "Unseen" "__init__" ["self", "way"] (spExc K "Unseen" "way")) : Def P w K mg base (CX P w) 3 "need_seen" ["part", "way"] (spSeen K) := by
  refine n.mkX sc_need_seen bind_need_seen (fun vs H Q E h => ?_) (fun cdv A outer s H vs Q E hr h => ?_)
  · obtain ⟨_, _, _, rfl, _⟩ := h
    rfl
  · obtain ⟨t, v, x, rfl, hv, h1, h2⟩ := h
    refine ⟨_, (pss_one (ps_if (pt_val (pe_callB call_isi (by rfl) G.b_isinstance (by decide +kernel) (pa_cons (pv 0) (pa_cons (pe_gR G.c_Stub) pa_nil)))) (pss_one (ps_raise rfl (takes_of rfl rfl rfl rfl) (pmk_ex XUnseen D_Unseen (hr.mono (by omega)) (by rfl) (pa_cons (pv 1) pa_nil)))) pss_nil)), ?_⟩
    cases t with
    | stub n' =>
      obtain ⟨a, dx, rfl, ha⟩ := Rep.stub.mp hv
      refine ⟨_, rfl, _, _, _, _, true, rfl, .own _, G.tS.ty ha, G.kSS, _, rfl, ?_⟩
      exact ⟨_, rfl, raise_at fun d hd => h1 ⟨n', rfl⟩ d _ (.new hd) upd_same⟩
    | node s' o ks =>
      obtain ⟨a, dx, l, xs, rfl, ha, _⟩ := Rep.node.mp hv
      refine ⟨_, rfl, _, _, _, _, false, rfl, .own _, G.tN.ty ha, G.kNS, _, rfl, ?_⟩
      exact h2 fun n z => by cases z
end
end Seal
namespace Seal
open PySem PySem.Spec PyProof.Rows L2 LamX NdefX
/-! ### defs with a table of code objects -/
structure TT (K : PySem.W.Frag) (mg : Str → Option Value) (base : Heap) : Prop where
  tab : ∀ x ∈ ([("with_kid" : Str), ("_law_good" : Str), ("_law_bad" : Str), ("law" : Str), ("_law_spared" : Str), ("_law_shows_no_more" : Str)]), TabB base mg (He.cT K (x, none)).1 (He.cT K (x, none)).2
  nd : ((tbs K).map (·.1)).Nodup
theorem tab_one {T : Tbs} {P : Addr} {q : Str} (nd : (T.map (·.1)).Nodup) (h : (P, q) ∈ T) : ∀ r ∈ T, r.1 = P → r.2 = q := by
  induction T with
  | nil => exact fun r hr => nomatch hr
  | cons a T ih =>
    obtain ⟨n1, n2⟩ := List.nodup_cons.mp nd
    intro r hr e
    rcases List.mem_cons.mp h with rfl | h'
    · rcases List.mem_cons.mp hr with rfl | hr
      · rfl
      · refine absurd ?_ n1
        have this : r.1 ∈ List.map (·.1) T := List.mem_map_of_mem (f := (·.1)) hr
        rw [e] at this
        exact this
    · rcases List.mem_cons.mp hr with rfl | hr
      · refine absurd ?_ n1
        have this : P ∈ List.map (·.1) T := List.mem_map_of_mem (f := (·.1)) h'
        rw [← e] at this
        exact this
      · exact ih n2 h' r hr e
section
variable {P : Program} {w : World} {K : PySem.W.Frag} {mg : Str → Option Value} {base : Heap} {k : Nat} {sp : Sp} {N ps : List Str} {st : Stmt} {x : Str}
theorem Fn1.mkT (n : Fn1 K mg x st) (sc : FnScope N ps (defScope st)) (hb : BindQ x x st ps) (hl : ∀ vs H Q E, sp vs H Q E → vs.length = ps.length)
    (hw : ∀ (A : Around) (outer : List Env) (s : Shared) (H : Hp) (vs : List V) (Q : VK) (E : XK), Room k (A.deeper (envOfC x (defScope st) s.heap.objs.size (He.ga K x) (.ref (He.cT K (x, none)).1))) → sp vs H Q E →
      ∃ t, PSs (cxOf CX0 P w K mg base N x (defScope st) (He.ga K x) (.ref (He.cT K (x, none)).1) A outer s H E).nox (defBody st) t ∧ t { nx := fun _ H' => Q .non H', rt := Q } (L2.start N vs) H) : Def P w K mg base CX0 (k + 1) x ps sp := by
  obtain ⟨fd, F⟩ := n.fn
  refine ⟨n.g, F.kp, fd, F.bindsN hb, ?_⟩
  obtain ⟨oc, od, dV, kV, doc, pm, an, cdv, ct, osl, rfl, lk, hcd, _, _⟩ := F.ex
  obtain ⟨c, rfl⟩ := He.codeIn_ref hcd
  have hc : (He.cT K (x, none)).1 = c := He.codeOf_eq (p := (x, none)) lk rfl
  refine fn_of lk hcd sc hl fun A outer s H vs Q E hr h => ?_
  rw [← hc] at hr
  obtain ⟨t, a, b⟩ := hw A outer s H vs Q E hr h
  rw [hc] at a
  exact ⟨t, PSs.nox a, b⟩
end
/-! ### with_kid -/
def lamOf (s : Stmt) : Expr := match defBody s with
  | [_, .Return (some (.Call _ _ [k] _)) _] => k.value
  | _ => .Constant .none 0 ⟨0, 0, 0, 0⟩
def lamP : Arguments := match lamOf s_with_kid with | .Lambda p _ _ _ => p | _ => default
def lamB : Expr := match lamOf s_with_kid with | .Lambda _ b _ _ => b | e => e
def lamS : Scope := match lamOf s_with_kid with | .Lambda _ _ s _ => s | _ => default
theorem sc_with_kid : FnScope ["kids", "letter", "part", "left", "pair"] ["kids", "letter", "part"] (defScope s_with_kid) := ⟨rfl, rfl, rfl, by decide +kernel, rfl, by decide +kernel, by decide +kernel⟩
theorem bind_with_kid : BindQ "with_kid" "with_kid" s_with_kid ["kids", "letter", "part"] := fun _ _ _ _ _ _ us hl => match us, hl with | [_, _, _], _ => rfl
def spWithKid (K : PySem.W.Frag) : Sp := fun vs H Q _ => ∃ (β : Type) (R : β → V → Prop) (ks : List (Nat × β)) (kv : V) (xs : List V) (l : Nat) (b : β) (v : V), vs = [kv, .str (S [l]), v] ∧ Seq H kv xs ∧ Prs R H ks xs ∧ Up ks ∧ ks.length ≤ 1000 ∧ R b v ∧ Tabs (tbs K) H ∧
  ∀ p H' ys, Gz K H H' → H' p = some (.lst ys) → Prs R H' (wk l b ks) ys → Q (.ref p) H'
theorem filter_take {β : Type} {ks : List (Nat × β)} {l i m : Nat} {b : β} (h : ks[i]? = some (m, b)) : (ks.take (i + 1)).filter (fun p => decide (p.1 ≠ l)) = (ks.take i).filter (fun p => decide (p.1 ≠ l)) ++ if m = l then [] else [(m, b)] := by
  rw [take_snoc h, List.filter_append]
  congr 1
  by_cases e : m = l
  · simp [e]
  · simp [e]
theorem with_perm {β : Type} {ks ks' : List (Nat × β)} {l : Nat} {b : β} (u : Up ks) (u' : Up ks') (h : ks'.Perm (ks.filter (fun p => decide (p.1 ≠ l)) ++ [(l, b)])) : ks' = wk l b ks := by
  refine up_ext u' (up_wk u) fun p => ?_
  rw [h.mem_iff, mem_wk]
  simp
  constructor
  · rintro (h | h)
    · exact .inr h
    · exact .inl h
  · rintro (h | h)
    · exact .inr h
    · exact .inl h
section
variable {P : Program} {w : World} {K : PySem.W.Frag} {mg : Str → Option Value} {base : Heap}
theorem D_with_kid (n : Fn1 K mg "with_kid" s_with_kid) (G : TX K mg) (TA : TT K mg base) : Def P w K mg base CX0 2 "with_kid" ["kids", "letter", "part"] (spWithKid K) := by
  refine n.mkT sc_with_kid bind_with_kid (fun vs H Q E h => ?_) (fun A outer s H vs Q E hr h => ?_)
  · obtain ⟨_, _, _, _, _, _, _, _, rfl, _⟩ := h
    rfl
  · obtain ⟨β, R, ks, kv, xs, l, b, v, rfl, hk, hx, u, hlen, hv, hT, q⟩ := h
    have TB := TA.tab "with_kid" (by simp)
    have hmT : ((He.cT K ("with_kid", none)).2, ("with_kid.<locals>." ++ "<lambda>" : Str)) ∈ tbs K := List.mem_cons_self
    have hu := tab_one TA.nd hmT
    have hb : ∀ qual cl pm cv ctv u, bindArgs (PySem.W.kla_fn "<lambda>" qual lamP lamB lamS cl pm cv ctv) { pos := [u] } = (pure [(("pair" : Str), u)] : Sem (List (Str × Value))) := fun _ _ _ _ _ _ => rfl
    have hfree : ∀ y ∈ lamS.names, y.2 = NameKind.local := by decide +kernel
    refine ⟨_, (pss_cons (ps_setLc (i := 3) (own := [("pair", 4)]) (g := gName 4) (tt := (tTest (tOp rNe (tOp (rIxT K) (tVar 4) (tC (.int 0))) (tVar 1)))) (by rfl) sc_with_kid.nd rfl rfl (sw_true rfl rfl rfl (by decide +kernel)) (PI.or' (pi_tup (pv 0)) (pi_list (pv 0))) (blkOk_by (N := ["kids", "letter", "part", "left", "pair"]) (sc := defScope s_with_kid) (by decide +kernel)) (fun _ _ _ _ _ => pg_name (i := 4) sc_with_kid.nd rfl (Or.inl rfl)) (fun _ _ _ _ _ => pts_one (pt_cmpR op_ne (pe_ix ix_tup (pv 4) pe_int (fun _ _ => rfl)) (pv 1) (nomark _))) (fun _ _ _ _ _ => (pv 4)))
      (pss_one (ps_ret (pe_sortKey (pe_op op_cat (pv 3) (pe_lst (pa_cons (pe_tup (pa_cons (pv 1) (pa_cons (pv 2) pa_nil))) pa_nil))) G.b_sorted hr TB rfl hmT hu rfl hfree rfl rfl rfl rfl rfl hb)))), ?_⟩
    refine seq_var rfl hk fun J Gd wk' hG => fun D hD => ?_
    refine lc_go (Ts := tbs K) (M := M0) wk' hD (by rw [hx.length]; omega) m0_ne (fun i acc H' => Gz K H H' ∧ Prs R H' ((ks.take i).filter fun p => decide (p.1 ≠ l)) acc) (fun i acc H' H'' ⟨a, b⟩ g => ⟨a.loc hD g, b.imp (fun _ _ _ h => h) fun _ _ => g.tup⟩) ⟨.refl, .nil⟩ (fun i acc H' _ ⟨g, _⟩ => hG H' (hk.stay .refl g)) ?_ ?_
    · rintro i acc x H' H'' R1 R2 hi ⟨g, hb'⟩ ⟨rfl, hxi⟩ r1 r2
      obtain ⟨l', b', p, v', hki, hm, rfl, hp, hbv⟩ := hx.at_ hxi
      refine ⟨rfl, ?_⟩
      refine ⟨_, rfl, p, _, 0, _, rfl, rfl, .of (g.tup hp), rfl, _, rfl, rfl, _, rfl, ?_⟩
      rw [dec_S]
      have ft := filter_take (l := l) hki
      by_cases e : l' = l
      · rw [decide_eq_true (by rw [e])]
        refine r2 _ .refl ⟨g, ?_⟩
        rw [ft, if_pos e, List.append_nil]
        exact hb'
      · rw [decide_eq_false (by simpa using e)]
        refine ⟨_, rfl, r1 _ _ .refl ⟨g, ?_⟩⟩
        rw [ft, if_neg e]
        exact hb'.snoc (g.tup hp) hbv
    · rintro acc H' ⟨g, hb'⟩ h1 hal
      rw [hx.length, List.take_length] at hb'
      refine ⟨_, rfl, _, rfl, _, rfl, by show 2 ≤ sizeLine; decide, fun t ht => ⟨by show 1 ≤ sizeLine; decide, fun t' ht' => ?_⟩⟩
      have g1 : Gz K H' (upd H' t (.tup [.str (S [l]), v])) := .new ht
      have g2 : Gz K (upd H' t (.tup [.str (S [l]), v])) (upd (upd H' t (.tup [.str (S [l]), v])) t' (.lst [.ref t])) := .new ht'
      have g12 := g1.trans g2
      have hxl := hx.length
      refine ⟨D, t', acc, [.ref t], rfl, rfl, g12.lst h1 id, upd_same, sz (by simp; omega), fun r hr => ?_⟩
      have g3 : Gz K _ (upd (upd (upd H' t (.tup [.str (S [l]), v])) t' (.lst [.ref t])) r (.lst (acc ++ [.ref t]))) := .new hr
      have gg := g.trans (g12.trans g3)
      refine ⟨_, rfl, gg.t hT, β, R, ks.filter (fun p => decide (p.1 ≠ l)) ++ [(l, b)], acc ++ [.ref t], r, rfl, upd_same, ?_, ?_, fun ks' xs' p' H2 hp' u' g4 h2 hr' => ?_⟩
      · exact (hb'.imp (fun _ _ _ h => h) fun _ _ => (g12.trans g3).tup).snoc ((g2.trans g3).tup upd_same) hv
      · rw [List.map_append, List.nodup_append]
        refine ⟨?_, by simp, ?_⟩
        · have := up_filter u (fun p => decide (p.1 ≠ l))
          exact List.pairwise_map.mpr (this.imp fun h => Nat.ne_of_lt h)
        · intro a ha b hb''
          obtain ⟨p1, hp1, rfl⟩ := List.mem_map.mp ha
          have h2 := (List.mem_filter.mp hp1).2
          simp at hb'' h2
          rw [hb'']
          exact h2
      · refine q p' H2 xs' (gg.trans g4) h2 ?_
        rw [with_perm u u' hp'] at hr'
        exact hr'.imp (fun _ _ _ h => h) fun _ _ => g4.tup
end
end Seal
namespace Seal
open PySem PySem.Spec PyProof.Rows L2 LamX NdefX
/-! ### joined_up -/
theorem sc_joined_up : FnScope ["way", "stem", "value", "kids", "left", "letter", "part", "kid"] ["way", "stem", "value", "kids"] (defScope s_joined_up) := ⟨rfl, rfl, rfl, by decide +kernel, rfl, by decide +kernel, by decide +kernel⟩
theorem bind_joined_up : BindQ "joined_up" "joined_up" s_joined_up ["way", "stem", "value", "kids"] := fun _ _ _ _ _ _ us hl => match us, hl with | [_, _, _, _], _ => rfl
def OutO (K : PySem.W.Frag) (H : Hp) (Q : VK) (E : XK) : Except Err (Option T) → Prop
  | .ok o => ∀ v H', Gz K H H' → RepO K H' o v → Q v H'
  | .error e => ErrAt K H E e
theorem OutO.go {K : PySem.W.Frag} {H H1 : Hp} {Q : VK} {E : XK} {r : Except Err (Option T)} (h : OutO K H Q E r) (g : Gz K H H1) : OutO K H1 Q E r := by
  cases r with
  | ok o => exact fun v H' g' => h v H' (g.trans g')
  | error e => exact ErrAt.go h g
def lefts (oks : List (Nat × Option T)) : List (Nat × T) := oks.filterMap fun p => p.2.map fun t => (p.1, t)
theorem lefts_app (a b : List (Nat × Option T)) : lefts (a ++ b) = lefts a ++ lefts b := List.filterMap_append ..
theorem lefts_some (ks : List (Nat × T)) : lefts (ks.map fun p => (p.1, some p.2)) = ks := by
  unfold lefts
  rw [List.filterMap_map]
  conv => rhs; rw [← List.filterMap_some (l := ks)]
  rfl
theorem map_filter_some (ks : List (Nat × T)) (q : Nat → Bool) : (ks.map fun p => (p.1, some p.2)).filter (fun p => q p.1) = (ks.filter fun p => q p.1).map fun p => (p.1, some p.2) := by
  rw [List.filter_map]
  rfl
theorem lefts_wk_some (l : Nat) (t : T) (ks : List (Nat × T)) : lefts (wk l (some t) (ks.map fun p => (p.1, some p.2))) = wk l t ks := by
  unfold wk
  rw [map_filter_some ks (fun m => decide (m < l)), map_filter_some ks (fun m => decide (l < m))]
  rw [show ∀ a b : List (Nat × Option T), a ++ (l, some t) :: b = a ++ ([(l, some t)] ++ b) from fun _ _ => by simp, lefts_app, lefts_app, lefts_some, lefts_some]
  rfl
theorem lefts_wk_none {l : Nat} {ks : List (Nat × T)} (u : Up ks) : lefts (wk l none (ks.map fun p => (p.1, some p.2))) = without l ks := by
  unfold wk
  rw [map_filter_some ks (fun m => decide (m < l)), map_filter_some ks (fun m => decide (l < m))]
  rw [show ∀ a b : List (Nat × Option T), a ++ (l, (none : Option T)) :: b = a ++ ([(l, none)] ++ b) from fun _ _ => by simp, lefts_app, lefts_app, lefts_some, lefts_some]
  show _ ++ ([] ++ _) = _
  rw [List.nil_append]
  have uu : Up (ks.filter (fun p => decide (p.1 < l)) ++ ks.filter (fun p => decide (l < p.1))) := by
    have := up_wk (l := l) (b := T.stub 0) u
    unfold wk at this
    unfold Up at this ⊢
    rw [List.pairwise_append] at this ⊢
    exact ⟨this.1, (List.pairwise_cons.mp this.2.1).2, fun a ha b hb => this.2.2 a ha b (List.mem_cons_of_mem _ hb)⟩
  refine up_ext uu (up_filter u _) fun p => ?_
  rw [mem_without]
  simp only [List.mem_append, List.mem_filter, decide_eq_true_eq]
  constructor
  · rintro (⟨a, b⟩ | ⟨a, b⟩)
    · exact ⟨a, by omega⟩
    · exact ⟨a, by omega⟩
  · rintro ⟨a, b⟩
    rcases Nat.lt_or_ge p.1 l with h | h
    · exact .inl ⟨a, h⟩
    · exact .inr ⟨a, by omega⟩
theorem lefts_up {oks : List (Nat × Option T)} (u : Up oks) : Up (lefts oks) := by
  unfold Up lefts at *
  refine List.Pairwise.filterMap _ ?_ u
  intro a a' h b hb b' hb'
  obtain ⟨t, _, rfl⟩ := Option.map_eq_some_iff.mp hb
  obtain ⟨t', _, rfl⟩ := Option.map_eq_some_iff.mp hb'
  exact h
def spJoined (K : PySem.W.Frag) : Sp := fun vs H Q E => ∃ (way s : W) (v : Option W) (kv : V) (xs : List V) (oks : List (Nat × Option T)), vs = [.str (S way), .str (S s), oS v, kv] ∧ way.length ≤ 1000 ∧ Seq H kv xs ∧ Prs (RepO K H) H oks xs ∧ Up oks ∧ oks.length ≤ 1000 ∧
  Ltr s ∧ (∀ x, v = some x → Vl x) ∧ (∀ p ∈ lefts oks, Lt p.1 ∧ Wf p.2) ∧ s.length + htK (lefts oks) ≤ 8 ∧ OutO K H Q E (joinL way s v (lefts oks))
section
variable {P : Program} {w : World} {K : PySem.W.Frag} {mg : Str → Option Value} {base : Heap}
theorem D_joined_up (n : Fn1 K mg "joined_up" s_joined_up) (G : TX K mg) (D_Ni : DefM P w K mg base 11 "Node" "__init__" ["self", "stem", "value", "kids"] (spNodeInit K)) (D_need_seen : Def P w K mg base (CX P w) 3 "need_seen" ["part", "way"] (spSeen K)) : Def P w K mg base (CX P w) 13 "joined_up" ["way", "stem", "value", "kids"] (spJoined K) := by
  refine n.mkX sc_joined_up bind_joined_up (fun vs H Q E h => ?_) (fun cdv A outer s H vs Q E hr h => ?_)
  · obtain ⟨_, _, _, _, _, _, rfl, _⟩ := h
    rfl
  · obtain ⟨way, st, v, kv, xs, oks, rfl, hway, hk, hx, u, hlen, w1, w2, w4, h8, q⟩ := h
    refine ⟨_, (pss_cons (ps_setLc (i := 4) (own := [("letter", 5), ("part", 6)]) (g := gTup K 2 (gCons (gName 5) (gCons (gName 6) gNil))) (by rfl) sc_joined_up.nd rfl rfl (sw_true rfl rfl rfl (by decide +kernel)) (PI.or' (pi_tup (pv 3)) (pi_list (pv 3))) (blkOk_by (N := ["way", "stem", "value", "kids", "left", "letter", "part", "kid"]) (sc := defScope s_joined_up) (by decide +kernel)) (fun _ _ _ _ _ => pg_tup rfl (pgs_cons (pg_name (i := 5) sc_joined_up.nd rfl (Or.inl rfl)) (pgs_cons (pg_name (i := 6) sc_joined_up.nd rfl (Or.inl rfl)) pgs_nil))) (fun _ _ _ _ _ => pts_one (pt_cmpR op_notN (pv 6) pe_non (nomark _))) (fun _ _ _ _ _ => (pe_tup (pa_cons (pv 5) (pa_cons (pv 6) pa_nil)))))
      (pss_cons (ps_if (PW.pt (pw_or (pt_cmpR op_notN (pv 2) pe_non (nomark _)) (pw_or1 (pt_cmpR op_gt (pe_callB call_len (by rfl) G.b_len PySem.boot_len (pa_cons (pv 4) pa_nil)) pe_int (nomark _))))) (pss_one (ps_ret (pe_mk G.mkN D_Ni (hr.mono (by omega)) (by rfl) G.c_Node (pa_cons (pv 1) (pa_cons (pv 2) (pa_cons (pv 4) pa_nil)))))) pss_nil)
      (pss_cons (ps_if (pt_cmpR op_eq (pe_callB call_len (by rfl) G.b_len PySem.boot_len (pa_cons (pv 4) pa_nil)) pe_int (nomark _)) (pss_one (ps_ret pe_non)) pss_nil)
      (pss_cons (ps_asg (pe_ix ix_list (pv 4) pe_int (fun _ _ => rfl)) (pg_tup rfl (pgs_cons (pg_name (i := 5) sc_joined_up.nd rfl (Or.inl rfl)) (pgs_cons (pg_name (i := 7) sc_joined_up.nd rfl (Or.inl rfl)) pgs_nil))))
      (pss_cons (ps_expr (pe_cx D_need_seen (hr.mono (by omega)) (by rfl) (fun σ => passAt (takes_of rfl rfl rfl rfl) σ) (pa_cons (pv 7) (pa_cons (pe_op op_add_str (pe_op op_add_str (pv 0) (pv 1)) (pv 5)) pa_nil))))
      (pss_one (ps_ret (pe_mk G.mkN D_Ni (hr.mono (by omega)) (by rfl) G.c_Node (pa_cons (pe_op op_add_str (pe_op op_add_str (pv 1) (pv 5)) (pe_fld (pv 7) rfl)) (pa_cons (pe_fld (pv 7) rfl) (pa_cons (pe_fld (pv 7) rfl) pa_nil))))))))))), ?_⟩
    refine seq_var rfl hk fun J Gd wk' hG => fun D hD => ?_
    refine lc_go (Ts := tbs K) (M := M0) wk' hD (by rw [hx.length]; omega) m0_ne (fun i acc H' => Gz K H H' ∧ RepP K H' (lefts (oks.take i)) acc) (fun i acc H' H'' ⟨a, b⟩ g => ⟨a.loc hD g, b.keep g.keep⟩) ⟨.refl, .nil⟩ (fun i acc H' _ ⟨g, _⟩ => hG H' (hk.stay .refl g)) ?_ ?_
    · rintro i acc x H' H'' R1 R2 hi ⟨g, hb⟩ ⟨rfl, hxi⟩ r1 r2
      obtain ⟨l', b, p, v', hki, hm, rfl, hp, hbv⟩ := hx.at_ hxi
      refine ⟨p, _, rfl, SqT.of (g.tup hp), rfl, _, _, rfl, _, _, rfl, rfl, rfl, ?_⟩
      have hbv' := RepO.keep g.keep hbv
      refine ⟨_, rfl, rfl, _, rfl, ?_⟩
      rw [hbv'.non]
      cases b with
      | none =>
        refine r2 _ .refl ⟨g, ?_⟩
        rw [take_snoc hki, lefts_app]
        have : lefts [(l', none)] = [] := rfl
        rw [this, List.append_nil]
        exact hb
      | some t =>
        refine ⟨_, rfl, _, rfl, by show 2 ≤ sizeLine; decide, fun t' ht' => ?_⟩
        have g1 : Gz K H'' (upd H'' t' (.tup [.str (S [l']), v'])) := .new ht'
        refine r1 _ _ g1 ⟨g.trans g1, ?_⟩
        rw [take_snoc hki, lefts_app]
        have : lefts [(l', some t)] = [(l', t)] := rfl
        rw [this]
        exact (hb.keep g1.keep).snoc upd_same (Rep.keep g1.keep t hbv')
    · rintro acc H' ⟨g, hb⟩ h1 hal
      rw [hx.length, List.take_length] at hb
      generalize hks : lefts oks = ks at *
      have hup : Up ks := hks ▸ lefts_up u
      have q := q.go g
      have hlen' : acc.length = ks.length := hb.length
      have hbig : v ≠ none ∨ 1 < ks.length → ∀ H2, Gz K H' H2 → Seq H2 (.ref D) acc ∧ RepP K H2 ks acc ∧ Wf (.node st v ks) ∧ ht (.node st v ks) ≤ 8 := fun h H2 g2 =>
        ⟨⟨D, rfl, .inr (g2.lst h1 id)⟩, hb.keep g2.keep, Wf.node.mpr ⟨w1, w2, hup, fun e => by rcases h with h | h; exact absurd e h; exact h, w4⟩, by simp only [ht]; exact h8⟩
      have qbig : v ≠ none ∨ 1 < ks.length → ∀ r H2, Gz K H' H2 → Rep K H2 (.node st v ks) r → Q r H2 := fun h r H2 g2 hr' => by
        unfold joinL at q
        rw [if_pos h] at q
        exact q r H2 g2 hr'
      cases v with
      | some y =>
        refine ⟨_, rfl, rfl, _, rfl, ?_⟩
        obtain ⟨a1, a2, a3, a4⟩ := hbig (.inl (by simp)) H' .refl
        refine ⟨_, rfl, _, rfl, _, rfl, node_make a1 a2 a3 a4 fun r H2 g2 hr' => qbig (.inl (by simp)) r H2 g2 hr'⟩
      | none =>
        refine ⟨_, rfl, rfl, _, rfl, _, rfl, .ref D, acc.length, rfl, .inl ⟨acc, .of h1, rfl⟩, _, _, rfl, rfl, _, rfl, ?_⟩
        by_cases hb1 : 1 < ks.length
        · rw [decide_eq_true (by omega)]
          obtain ⟨a1, a2, a3, a4⟩ := hbig (.inr hb1) H' .refl
          refine ⟨_, rfl, _, rfl, _, rfl, node_make a1 a2 a3 a4 fun r H2 g2 hr' => qbig (.inr hb1) r H2 g2 hr'⟩
        · rw [decide_eq_false (by omega)]
          refine ⟨_, rfl, .ref D, acc.length, rfl, .inl ⟨acc, .of h1, rfl⟩, rfl, _, rfl, ?_⟩
          unfold joinL at q
          rw [if_neg (by simp; omega)] at q
          cases ks with
          | nil =>
            have e : acc = [] := List.length_eq_zero_iff.mp (by simpa using hlen')
            subst e
            exact q _ _ .refl rfl
          | cons p r =>
            have hr0 : r = [] := by cases r with | nil => rfl | cons _ _ => simp at hb1
            subst hr0
            obtain ⟨l, t⟩ := p
            obtain ⟨pa, vt, rfl, hpa, hvt⟩ := hb.one rfl
            have ⟨hlt, hwt⟩ := w4 (l, t) List.mem_cons_self
            have hst8 : st.length ≤ 8 := by omega
            refine ⟨_, rfl, D, _, 0, _, rfl, rfl, .of h1, rfl, pa, _, rfl, .of hpa, rfl, _, _, rfl, _, _, rfl, rfl, ?_⟩
            refine ⟨_, rfl, _, rfl, _, rfl, _, _, rfl, rfl, by rw [S_len, S_len]; exact sz (by omega), _, rfl, _, _, rfl, rfl, by rw [S_app, S_len, S_len]; exact sz (by simp; omega), ?_⟩
            rw [S_app, S_app]
            refine ⟨t, vt, way ++ st ++ [l], rfl, hvt, fun ⟨n', e⟩ => ?_, fun hns => ?_⟩
            · subst e
              exact q
            · cases t with
              | stub n' => exact absurd rfl (hns n')
              | node s' v' ks' =>
                obtain ⟨a, dx, l', xs', rfl, ha, hl', hx'⟩ := Rep.node.mp hvt
                have hjw := wf_join (way := way) (s := st) (v := none) (ks := [(l, .node s' v' ks')]) (t' := .node (st ++ l :: s') v' ks') ⟨w1, w2, hup, w4⟩ (by unfold joinL; rw [if_neg (by simp)])
                have hs'8 : s'.length ≤ 8 := by have := hjw.2; simp only [htK, ht] at this h8; omega
                refine ⟨_, rfl, _, rfl, _, _, rfl, rfl, by rw [S_len, S_len]; exact sz (by simp; omega), _, rfl, a, _, dx, _, _, rfl, ha, G.tN.cl, G.nS, rfl, _, _, rfl, rfl, by rw [S_app, S_len, S_len]; exact sz (by simp; omega), _, rfl, a, _, dx, _, _, rfl, ha, G.tN.cl, G.nV, rfl, _, rfl, a, _, dx, _, _, rfl, ha, G.tN.cl, G.nK, rfl, ?_⟩
                rw [S_app, S_app]
                have e : st ++ [l] ++ s' = st ++ l :: s' := by simp
                rw [e]
                exact node_make ⟨l', rfl, .inl hl'⟩ hx' hjw.1 (Nat.le_trans hjw.2 h8) fun r H2 g2 hr' => q r H2 g2 hr'
end
end Seal
namespace Seal
open PySem PySem.Spec PyProof.Rows L2 LamX NdefX
/-! ### put -/
theorem node_make2 {K : PySem.W.Frag} {H : Hp} {s : W} {o : Option W} {ks : List (Nat × T)} {kv : V} {xs : List V} {CONT : Hp → Prop} {E : XK} {x dx : Addr} (hx : H x = none) (hd : H dx = none) (hne : dx ≠ x) (hk : Seq H kv xs) (hr : RepP K H ks xs) (hw : Wf (.node s o ks)) (h8 : ht (.node s o ks) ≤ 8) (q : ∀ H', Gz K H H' → Rep K H' (.node s o ks) (.ref x) → CONT H') :
    spNodeInit K (.ref x :: ([.str (S s), oS o, kv] ++ [])) (upd (upd H dx (.own x)) x (.ins (NA K) dx [])) (fun v H2 => v = .non ∧ CONT H2) E := by
  have g : Gz K H (upd (upd H dx (.own x)) x (.ins (NA K) dx [])) := (Go.new hd).trans (.new (by rw [upd_ne hne.symm]; exact hx))
  exact ⟨x, dx, s, o, ks, kv, xs, rfl, upd_same, hk.go g, hr.keep g.keep, hw, h8, fun H' l h hl hr' g' => ⟨rfl, q _ (made hx hd hne h g') (Rep.node.mpr ⟨x, dx, l, xs, rfl, h, hl, hr'⟩)⟩⟩
theorem sc_parted : FnScope ["part", "start", "rest", "value", "below", "kids"] ["part", "start", "rest", "value"] (defScope s_parted) := ⟨rfl, rfl, rfl, by decide +kernel, rfl, by decide +kernel, by decide +kernel⟩
theorem bind_parted : BindQ "parted" "parted" s_parted ["part", "start", "rest", "value"] := fun _ _ _ _ _ _ us hl => match us, hl with | [_, _, _, _], _ => rfl
theorem sc_put_in : FnScope ["part", "way", "rest", "value", "start", "letter", "kid"] ["part", "way", "rest", "value"] (defScope s_put_in) := ⟨rfl, rfl, rfl, by decide +kernel, rfl, by decide +kernel, by decide +kernel⟩
theorem bind_put_in : BindQ "put_in" "put_in" s_put_in ["part", "way", "rest", "value"] := fun _ _ _ _ _ _ us hl => match us, hl with | [_, _, _, _], _ => rfl
theorem sc_put : FnScope ["tree", "key", "value"] ["tree", "key", "value"] (defScope s_put) := ⟨rfl, rfl, rfl, by decide +kernel, rfl, by decide +kernel, by decide +kernel⟩
theorem bind_put : BindQ "put" "put" s_put ["tree", "key", "value"] := fun _ _ _ _ _ _ us hl => match us, hl with | [_, _, _], _ => rfl
def putO : Option T → W → W → W → Except Err (Option T)
  | none, _, r, x => .ok (some (.node r (some x) []))
  | some t, way, r, x => match putIn t way r x with
    | .ok t' => .ok (some t')
    | .error e => .error e
theorem lcp_drop (s r b : W) (l : Nat) (s' : W) (h : s = b ++ l :: s') : s.drop (b.length + 1) = s' := by
  subst h
  rw [show b ++ l :: s' = (b ++ [l]) ++ s' by simp, List.drop_append_of_le_length (by simp), List.drop_of_length_le (by simp)]
  simp
theorem at_app (b : W) (l : Nat) (s' : W) : (b ++ l :: s')[b.length]? = some l := by simp
theorem drop_app (b : W) (l : Nat) (s' : W) : (b ++ l :: s').drop (b.length + 1) = s' := lcp_drop (b ++ l :: s') [] b l s' rfl
def spParted (K : PySem.W.Frag) : Sp := fun vs H Q _ => ∃ s o ks v r x, vs = [v, .str (S (lcp s r)), .str (S r), .str (S x)] ∧ Rep K H (.node s o ks) v ∧ WfO (some (.node s o ks)) ∧ ¬ s <+: r ∧ Ltr r ∧ r.length ≤ 8 ∧ Vl x ∧ Tabs (tbs K) H ∧
  ∀ v' H', Gz K H H' → Rep K H' (parted s o ks r x) v' → Q v' H'
def hg : Option T → Nat
  | none => 0
  | some t => ht t + 1
def spPutIn (K : PySem.W.Frag) (m : Nat) : Sp := fun vs H Q E => ∃ o v way r x, vs = [v, .str (S way), .str (S r), .str (S x)] ∧ RepO K H o v ∧ WfO o ∧ hg o ≤ m ∧ Ltr r ∧ way.length + r.length ≤ 8 ∧ Vl x ∧ Tabs (tbs K) H ∧ OutO K H Q E (putO o way r x)
def spPut (K : PySem.W.Frag) : Sp := fun vs H Q E => ∃ o v k x, vs = [v, .str (S k), .str (S x)] ∧ RepO K H o v ∧ WfO o ∧ IsKey k ∧ Vl x ∧ Tabs (tbs K) H ∧ OutO K H Q E (doD o (.put k x))
section
variable {P : Program} {w : World} {K : PySem.W.Frag} {mg : Str → Option Value} {base : Heap}
theorem D_parted (n : Fn1 K mg "parted" s_parted) (G : TX K mg) (D_Ni : DefM P w K mg base 11 "Node" "__init__" ["self", "stem", "value", "kids"] (spNodeInit K)) (D_with_kid : Def P w K mg base CX0 2 "with_kid" ["kids", "letter", "part"] (spWithKid K)) : Def P w K mg base CX0 13 "parted" ["part", "start", "rest", "value"] (spParted K) := by
  refine n.mk0 sc_parted bind_parted (fun vs H Q E h => ?_) (fun cdv A outer s H vs Q E hr h => ?_)
  · obtain ⟨_, _, _, _, _, _, rfl, _⟩ := h
    rfl
  · obtain ⟨st, o, ks, v, r, x, rfl, hv, hw, hnp, hr1, hr8, hvx, hT, q⟩ := h
    obtain ⟨a, dx, lk, xs, rfl, ha, hl, hx⟩ := Rep.node.mp hv
    have hst := hw.stem
    have hwf : ∀ t', putIn (.node st o ks) [] r x = .ok t' → Wf t' ∧ ht t' ≤ max (ht (.node st o ks)) r.length := fun t' => wf_put x hvx _ [] r t' hw.1 hr1
    have hrest : rest? st r = none := by unfold rest?; rw [if_neg hnp]
    have hp1 : Wf (parted st o ks r x) ∧ ht (parted st o ks r x) ≤ 8 := by
      have := hwf (parted st o ks r x) (by rw [putIn, hrest])
      exact ⟨this.1, Nat.le_trans this.2 (by have := hw.2; omega)⟩
    have hbl : (lcp st r).length ≤ 8 := Nat.le_trans (lcp_left st r).length_le hst
    obtain ⟨b, l, s', hs, hpf⟩ := parted_form hnp x
    have hb : lcp st r = b := by
      rcases hpf with ⟨rfl, _⟩ | ⟨m, r', rfl, hne, _⟩
      · rw [hs]
        have h1 := lcp_right (r ++ l :: s') r
        exact prefix_anti h1 (lcp_great (List.prefix_append _ _) (List.prefix_refl _))
      · rw [hs]; exact lcp_app b hne.symm
    rw [hb] at hbl ⊢
    have hbw : Wf (.node s' o ks) ∧ ht (.node s' o ks) ≤ 8 := by
      obtain ⟨e1, e2, e3, e4, e5⟩ := Wf.node.mp hw.1
      refine ⟨Wf.node.mpr ⟨?_, e2, e3, e4, e5⟩, ?_⟩
      · rw [hs] at e1
        exact (ltr_cons.mp (ltr_app.mp e1).2).2
      · have := hw.2
        rw [hs] at this
        simp only [ht, List.length_append, List.length_cons] at this ⊢
        omega
    refine ⟨_, (pss_cons (ps_set (i := 4) sc_parted.nd rfl (Or.inl rfl) (pe_mk G.mkN D_Ni (hr.mono (by omega)) (by rfl) G.c_Node (pa_cons (pe_slice sl_str (pe_fld (pv 0) rfl) (po_some (pe_op op_add (pe_callB call_len_str (by rfl) G.b_len PySem.boot_len (pa_cons (pv 1) pa_nil)) pe_int)) po_none) (pa_cons (pe_fld (pv 0) rfl) (pa_cons (pe_fld (pv 0) rfl) pa_nil)))))
      (pss_cons (ps_set (i := 5) sc_parted.nd rfl (Or.inl rfl) (pe_lst (pa_cons (pe_tup (pa_cons (pe_ix ix_str (pe_fld (pv 0) rfl) (pe_callB call_len_str (by rfl) G.b_len PySem.boot_len (pa_cons (pv 1) pa_nil)) (fun _ _ => rfl)) (pa_cons (pv 4) pa_nil))) pa_nil)))
      (pss_cons (ps_if (pt_cmpR op_eq (pv 2) (pv 1) (nomark _)) (pss_one (ps_ret (pe_mk G.mkN D_Ni (hr.mono (by omega)) (by rfl) G.c_Node (pa_cons (pv 1) (pa_cons (pv 3) (pa_cons (pv 5) pa_nil)))))) pss_nil)
      (pss_one (ps_ret (pe_mk G.mkN D_Ni (hr.mono (by omega)) (by rfl) G.c_Node (pa_cons (pv 1) (pa_cons pe_non (pa_cons (pe_cd D_with_kid (hr.mono (by omega)) (by rfl) (pa_cons (pv 5) (pa_cons (pe_ix ix_str (pv 2) (pe_callB call_len_str (by rfl) G.b_len PySem.boot_len (pa_cons (pv 1) pa_nil)) (fun _ _ => rfl)) (pa_cons (pe_mk G.mkN D_Ni (hr.mono (by omega)) (by rfl) G.c_Node (pa_cons (pe_slice sl_str (pv 2) (po_some (pe_op op_add (pe_callB call_len_str (by rfl) G.b_len PySem.boot_len (pa_cons (pv 1) pa_nil)) pe_int)) po_none) (pa_cons (pv 3) (pa_cons (pe_tup pa_nil) pa_nil)))) pa_nil)))) pa_nil))))))))), ?_⟩
    refine ⟨_, rfl, a, _, dx, _, _, rfl, ha, G.tN.cl, G.nS, rfl, _, rfl, _, rfl, by rw [S_len]; exact sz (by omega), _, _, rfl, rfl, _, rfl, _, rfl, by rw [S_len]; exact sz (by omega), ?_⟩
    rw [S_len, show (b.length : Int) + 1 = ((b.length + 1 : Nat) : Int) by omega, cut_from, lcp_drop st r b l s' hs]
    refine ⟨_, rfl, a, _, dx, _, _, rfl, ha, G.tN.cl, G.nV, rfl, _, rfl, a, _, dx, _, _, rfl, ha, G.tN.cl, G.nK, rfl, ?_⟩
    refine fun y dy hy hd hne => node_make2 hy hd hne ⟨lk, rfl, .inl hl⟩ hx hbw.1 hbw.2 fun H1 g1 hvb => ?_
    generalize V.ref y = vb at *
    have ha1 := g1.ins ha
    refine ⟨_, rfl, a, _, dx, _, _, rfl, ha1, G.tN.cl, G.nS, rfl, _, rfl, _, rfl, by rw [S_len]; exact sz (by omega), ?_⟩
    rw [S_len]
    refine ⟨_, _, l, rfl, rfl, by rw [S_len]; exact sz (by omega), by rw [S_list, hs]; exact atI_nat (at_app b l s'), _, rfl, by show 2 ≤ sizeLine; decide, fun t ht => ⟨by show 1 ≤ sizeLine; decide, fun t' ht' => ?_⟩⟩
    have g2 : Gz K H1 (upd H1 t (.tup [.str (S [l]), vb])) := .new ht
    have g3 : Gz K _ (upd (upd H1 t (.tup [.str (S [l]), vb])) t' (.lst [.ref t])) := .new ht'
    have g13 := g1.trans (g2.trans g3)
    have hkids : RepP K (upd (upd H1 t (.tup [.str (S [l]), vb])) t' (.lst [.ref t])) [(l, .node s' o ks)] [.ref t] := .cons (g3.tup upd_same) (Rep.keep (g2.trans g3).keep _ hvb) .nil
    refine ⟨_, rfl, _, rfl, rfl, _, rfl, ?_⟩
    rw [dec_S]
    rcases hpf with ⟨rfl, he⟩ | ⟨m, r', rfl, hne, he⟩
    · rw [decide_eq_true rfl]
      rw [he o ks] at hp1 q
      exact ⟨_, rfl, _, rfl, _, rfl, node_make (o := some x) ⟨t', rfl, .inr upd_same⟩ hkids hp1.1 hp1.2 fun v' H4 g4 hr' => q _ _ (g13.trans g4) hr'⟩
    · rw [decide_eq_false (by simp)]
      rw [he o ks] at hp1 q
      have hr' : Ltr r' := (ltr_cons.mp (ltr_app.mp hr1).2).2
      refine ⟨_, rfl, _, rfl, _, rfl, _, rfl, _, rfl, by rw [S_len]; exact sz (by omega), ?_⟩
      rw [S_len]
      refine ⟨_, _, m, rfl, rfl, by rw [S_len]; exact sz (by omega), by rw [S_list]; exact atI_nat (at_app b m r'), ?_⟩
      refine ⟨_, rfl, _, rfl, _, rfl, by rw [S_len]; exact sz (by omega), _, _, rfl, rfl, _, rfl, _, rfl, by rw [S_len]; exact sz (by omega), ?_⟩
      rw [S_len, show (b.length : Int) + 1 = ((b.length + 1 : Nat) : Int) by omega, cut_from, drop_app]
      refine ⟨_, rfl, by show 0 ≤ sizeLine; decide, fun tt htt => ?_⟩
      have g4 : Gz K _ (upd (upd (upd H1 t (.tup [.str (S [l]), vb])) t' (.lst [.ref t])) tt (.tup [])) := .new htt
      have hr8' : r'.length ≤ 8 := by simp at hr8; omega
      have hleaf : Seal.ht (.node r' (some x) []) ≤ 8 := by simp [Seal.ht, htK]; omega
      refine fun z dz hz hdz hnz => node_make2 hz hdz hnz (o := some x) (ks := []) ⟨tt, rfl, .inl upd_same⟩ .nil (wf_leaf hr' hvx) hleaf fun H5 g5 hvl => ?_
      generalize V.ref z = vl at *
      have g45 := g4.trans g5
      refine ⟨T, Rep K H5, [(l, .node s' o ks)], .ref t', [.ref t], m, .node r' (some x) [], vl, rfl, ⟨t', rfl, .inr (g45.lst upd_same id)⟩, hkids.keep g45.keep, up_one, by simp, hvl, (g13.trans g45).t hT, fun p H6 ys g6 h6 hy => ?_⟩
      exact node_make (o := none) ⟨p, rfl, .inr h6⟩ (hy.imp (fun b _ v hv => Rep.keep g6.keep b.2 hv) fun _ _ h => h) hp1.1 hp1.2 fun v' H7 g7 hr'' => q _ _ (g13.trans (g45.trans (g6.trans g7))) hr''
theorem putO_node {s : W} {o : Option W} {ks : List (Nat × T)} {way r x : W} : putO (some (.node s o ks)) way r x = match rest? s r with
    | none => .ok (some (parted s o ks r x))
    | some [] => .ok (some (.node s (some x) ks))
    | some (l :: r') => match putO (kat ks l) (way ++ s ++ [l]) r' x with
      | .ok (some t) => .ok (some (.node s o (wk l t ks)))
      | .ok none => .ok none
      | .error e => .error e := by
  simp only [putO]
  rw [putIn]
  cases h : rest? s r with
  | none => rfl
  | some z =>
    cases z with
    | nil => rfl
    | cons l r' =>
      simp only [putK_eq]
      cases kat ks l with
      | none => rfl
      | some t =>
        simp only [putO]
        cases putIn t (way ++ s ++ [l]) r' x <;> rfl
theorem putO_wf {o : Option T} {way r x : W} {t' : T} (hw : WfO o) (hx : Vl x) (hr : Ltr r) (h8 : r.length ≤ 8) (h : putO o way r x = .ok (some t')) : Wf t' ∧ Seal.ht t' ≤ max (match o with | none => 0 | some t => Seal.ht t) r.length := by
  cases o with
  | none =>
    simp only [putO, Except.ok.injEq, Option.some.injEq] at h
    subst h
    exact ⟨wf_leaf hr hx, by simp [Seal.ht, htK]⟩
  | some t =>
    simp only [putO] at h
    cases e : putIn t way r x with
    | ok t'' =>
      rw [e] at h
      simp only [Except.ok.injEq, Option.some.injEq] at h
      subst h
      exact wf_put x hx t way r t'' hw.1 hr e
    | error e' => rw [e] at h; cases h
theorem putO_some {o : Option T} {way r x : W} {o' : Option T} (h : putO o way r x = .ok o') : ∃ t, o' = some t := by
  cases o with
  | none => simp only [putO, Except.ok.injEq] at h; exact ⟨_, h.symm⟩
  | some t =>
    simp only [putO] at h
    cases e : putIn t way r x with
    | ok t'' => rw [e] at h; simp only [Except.ok.injEq] at h; exact ⟨_, h.symm⟩
    | error e' => rw [e] at h; cases h
theorem kat_wfO {s : W} {o : Option W} {ks : List (Nat × T)} (h : WfO (some (.node s o ks))) (l : Nat) : WfO (kat ks l) := by
  cases e : kat ks l with
  | none => trivial
  | some t => exact h.kids _ (kat_mem e)
theorem kat_hg {s : W} {o : Option W} {ks : List (Nat × T)} {m l : Nat} (h : hg (some (.node s o ks)) ≤ m + 1) : hg (kat ks l) ≤ m := by
  cases e : kat ks l with
  | none => exact Nat.zero_le _
  | some t =>
    have h1 : 1 + Seal.ht t ≤ htK ks := ht_mem (kat_mem e)
    simp only [hg, Seal.ht] at h ⊢
    omega
theorem D_put_step {m j : Nat} (hj : 14 ≤ j) {sp : Sp} (n : Fn1 K mg "put_in" s_put_in) (G : TX K mg) (D_Ni : DefM P w K mg base 11 "Node" "__init__" ["self", "stem", "value", "kids"] (spNodeInit K)) (D_with_kid : Def P w K mg base CX0 2 "with_kid" ["kids", "letter", "part"] (spWithKid K))
    (D_parted : Def P w K mg base CX0 13 "parted" ["part", "start", "rest", "value"] (spParted K)) (D_shared_start : Def P w K mg base CX0 1 "shared_start" ["one", "other"] (spSharedStart K)) (D_need_seen : Def P w K mg base (CX P w) 3 "need_seen" ["part", "way"] (spSeen K)) (D_Nk : DefM P w K mg base 1 "Node" "kid_at" ["self", "letter"] (spKidAt K))
    (D_put_in : Def P w K mg base (CX P w) j "put_in" ["part", "way", "rest", "value"] sp) (hsp : ∀ m' vs H Q E, m = m' + 1 → spPutIn K m' vs H Q E → sp vs H Q E) : Def P w K mg base (CX P w) (j + 1) "put_in" ["part", "way", "rest", "value"] (spPutIn K m) := by
  refine n.mkX sc_put_in bind_put_in (fun vs H Q E h => ?_) (fun cdv A outer s H vs Q E hr h => ?_)
  · obtain ⟨_, _, _, _, _, rfl, _⟩ := h
    rfl
  · obtain ⟨o, v, way, r, x, rfl, hv, hw, hm, hr1, hr8, hvx, hT, q⟩ := h
    refine ⟨_, (pss_cons (ps_if (pt_cmpR op_isN (pv 0) pe_non (nomark _)) (pss_one (ps_ret (pe_mk G.mkN D_Ni (hr.mono (by omega)) (by rfl) G.c_Node (pa_cons (pv 2) (pa_cons (pv 3) (pa_cons (pe_tup pa_nil) pa_nil)))))) pss_nil)
      (pss_cons (ps_expr (pe_cx D_need_seen (hr.mono (by omega)) (by rfl) (fun σ => passAt (takes_of rfl rfl rfl rfl) σ) (pa_cons (pv 0) (pa_cons (pv 1) pa_nil))))
      (pss_cons (ps_set (i := 4) sc_put_in.nd rfl (Or.inl rfl) (pe_cd D_shared_start (hr.mono (by omega)) (by rfl) (pa_cons (pe_fld (pv 0) rfl) (pa_cons (pv 2) pa_nil))))
      (pss_cons (ps_if (pt_cmpR op_ne (pv 4) (pe_fld (pv 0) rfl) (nomark _)) (pss_one (ps_ret (pe_cd D_parted (hr.mono (by omega)) (by rfl) (pa_cons (pv 0) (pa_cons (pv 4) (pa_cons (pv 2) (pa_cons (pv 3) pa_nil))))))) pss_nil)
      (pss_cons (ps_if (pt_cmpR op_eq (pv 2) (pv 4) (nomark _)) (pss_one (ps_ret (pe_mk G.mkN D_Ni (hr.mono (by omega)) (by rfl) G.c_Node (pa_cons (pv 4) (pa_cons (pv 3) (pa_cons (pe_fld (pv 0) rfl) pa_nil)))))) pss_nil)
      (pss_cons (ps_set (i := 5) sc_put_in.nd rfl (Or.inl rfl) (pe_ix ix_str (pv 2) (pe_callB call_len_str (by rfl) G.b_len PySem.boot_len (pa_cons (pv 4) pa_nil)) (fun _ _ => rfl)))
      (pss_cons (ps_set (i := 6) sc_put_in.nd rfl (Or.inl rfl) (pe_cx D_put_in (hr.mono (by omega)) (by rfl) (fun σ => passAt (takes_of rfl rfl rfl rfl) σ) (pa_cons (pe_md1 (pv 0) G.tN.cl G.m_Nk D_Nk (hr.mono (by omega)) (pa_cons (pv 5) pa_nil)) (pa_cons (pe_op op_add_str (pe_op op_add_str (pv 1) (pv 4)) (pv 5)) (pa_cons (pe_slice sl_str (pv 2) (po_some (pe_op op_add (pe_callB call_len_str (by rfl) G.b_len PySem.boot_len (pa_cons (pv 4) pa_nil)) pe_int)) po_none) (pa_cons (pv 3) pa_nil))))))
      (pss_one (ps_ret (pe_mk G.mkN D_Ni (hr.mono (by omega)) (by rfl) G.c_Node (pa_cons (pv 4) (pa_cons (pe_fld (pv 0) rfl) (pa_cons (pe_cd D_with_kid (hr.mono (by omega)) (by rfl) (pa_cons (pe_fld (pv 0) rfl) (pa_cons (pv 5) (pa_cons (pv 6) pa_nil)))) pa_nil))))))))))))), ?_⟩
    refine ⟨_, rfl, rfl, _, rfl, ?_⟩
    rw [hv.non]
    cases o with
    | none =>
      refine ⟨_, rfl, _, rfl, by show 0 ≤ sizeLine; decide, fun t ht' => ?_⟩
      have g1 : Gz K H (upd H t (.tup [])) := .new ht'
      have hleaf : Seal.ht (.node r (some x) []) ≤ 8 := by simp [Seal.ht, htK]; omega
      exact node_make (o := some x) (ks := []) ⟨t, rfl, .inl upd_same⟩ .nil (wf_leaf hr1 hvx) hleaf fun v' H2 g2 hr' => q v' H2 (g1.trans g2) hr'
    | some t =>
      refine ⟨_, rfl, _, rfl, t, v, way, rfl, hv, fun ⟨n', e⟩ => ?_, fun hns => ?_⟩
      · subst e
        have : putO (some (.stub n')) way r x = .error (.unseen way) := by simp only [putO, putIn]
        rw [this] at q
        exact q
      · cases t with
        | stub n' => exact absurd rfl (hns n')
        | node st vo ks =>
          obtain ⟨a, dx, lk, xs, rfl, ha, hl, hx⟩ := Rep.node.mp hv
          have hst := hw.stem
          obtain ⟨w1, w2, w3, w4, w5⟩ := Wf.node.mp hw.1
          refine ⟨_, rfl, a, _, dx, _, _, rfl, ha, G.tN.cl, G.nS, rfl, _, rfl, st, r, rfl, by omega, by omega, ?_⟩
          refine ⟨_, rfl, _, rfl, a, _, dx, _, _, rfl, ha, G.tN.cl, G.nS, rfl, rfl, _, rfl, ?_⟩
          rw [dec_S, putO_node] at *
          by_cases hp : st <+: r
          · have hlc := prefix_iff_lcp.mp hp
            rw [hlc, decide_eq_true rfl]
            obtain ⟨z, rfl⟩ := hp
            rw [rest_app] at q
            refine ⟨_, rfl, _, rfl, rfl, _, rfl, ?_⟩
            rw [dec_S]
            cases z with
            | nil =>
              rw [decide_eq_true (by simp)]
              have hwn : Wf (.node st (some x) ks) := Wf.node.mpr ⟨w1, (fun y e => by cases e; exact hvx), w3, (fun e => by cases e), w5⟩
              have h8n : Seal.ht (.node st (some x) ks) ≤ 8 := by have := hw.2; simp only [Seal.ht] at this ⊢; exact this
              refine ⟨_, rfl, _, rfl, _, rfl, a, _, dx, _, _, rfl, ha, G.tN.cl, G.nK, rfl, ?_⟩
              exact node_make (o := some x) ⟨lk, rfl, .inl hl⟩ hx hwn h8n fun v' H2 g2 hr' => q v' H2 g2 hr'
            | cons l r' =>
              rw [decide_eq_false (by simp)]
              have hr8' : r'.length ≤ 8 := by simp at hr8; omega
              have hr1' := (ltr_cons.mp (ltr_app.mp hr1).2)
              refine ⟨_, rfl, _, rfl, _, rfl, by rw [S_len]; exact sz (by omega), ?_⟩
              rw [S_len]
              refine ⟨_, _, l, rfl, rfl, by rw [S_len]; exact sz (by omega), by rw [S_list]; exact atI_nat (at_app st l r'), ?_⟩
              rw [S_one]
              refine ⟨_, rfl, a, dx, _, rfl, ha, rfl, _, rfl, st, vo, ks, _, l, rfl, hv, fun kid H1 g1 hkid => ?_⟩
              refine ⟨_, rfl, _, rfl, _, _, rfl, rfl, by rw [S_len, S_len]; exact sz (by omega), _, rfl, _, _, rfl, rfl, by rw [S_app, S_len, S_len]; exact sz (by simp; omega), ?_⟩
              rw [S_app, S_app]
              refine ⟨_, rfl, _, rfl, _, rfl, by rw [S_len]; exact sz (by omega), ?_⟩
              refine ⟨_, _, rfl, rfl, _, rfl, _, rfl, by rw [S_len]; exact sz (by simp at hr8 ⊢; omega), ?_⟩
              rw [S_len, show (st.length : Int) + 1 = ((st.length + 1 : Nat) : Int) by omega, cut_from, drop_app]
              simp only at q
              refine ⟨_, rfl, ?_⟩
              cases m with
              | zero => simp [hg] at hm
              | succ m =>
                have hkO := kat_wfO hw l
                refine hsp m _ _ _ _ rfl ⟨kat ks l, kid, way ++ st ++ [l], r', x, rfl, hkid, hkO, kat_hg hm, hr1'.2, by simp at hr8 ⊢; omega, hvx, g1.t hT, ?_⟩
                cases hres : putO (kat ks l) (way ++ st ++ [l]) r' x with
                | error e => rw [hres] at q; exact ErrAt.go q g1
                | ok o' =>
                  obtain ⟨t', rfl⟩ := putO_some hres
                  rw [hres] at q
                  intro kv' H2 g2 hkv
                  have g12 := g1.trans g2
                  refine ⟨_, rfl, _, rfl, a, _, dx, _, _, rfl, g12.ins ha, G.tN.cl, G.nV, rfl, _, rfl, a, _, dx, _, _, rfl, g12.ins ha, G.tN.cl, G.nK, rfl, _, rfl, _, rfl, ?_⟩
                  have hwt := putO_wf hkO hvx hr1'.2 hr8' hres
                  refine ⟨T, Rep K H2, ks, .ref lk, xs, l, t', kv', rfl, ⟨lk, rfl, .inl (g12.tup hl)⟩, RepP.keep g12.keep hx, w3, wf_few hw.1, hkv, g12.t hT, fun p H3 ys g3 h3 hy => ?_⟩
                  have hwn : Wf (.node st vo (wk l t' ks)) ∧ Seal.ht (.node st vo (wk l t' ks)) ≤ 8 := by
                    have := wf_put x hvx (.node st vo ks) way (st ++ l :: r') (.node st vo (wk l t' ks)) hw.1 hr1 (by
                      rw [putIn, rest_app]
                      simp only [putK_eq]
                      cases hk : kat ks l with
                      | none =>
                        rw [hk] at hres
                        simp only [putO, Except.ok.injEq, Option.some.injEq] at hres
                        rw [hres]
                      | some t0 =>
                        rw [hk] at hres
                        simp only [putO] at hres ⊢
                        cases hp : putIn t0 (way ++ st ++ [l]) r' x with
                        | ok t1 => rw [hp] at hres; simp only [Except.ok.injEq, Option.some.injEq] at hres; rw [hres]
                        | error e => rw [hp] at hres; cases hres)
                    exact ⟨this.1, Nat.le_trans this.2 (by have := hw.2; omega)⟩
                  exact node_make ⟨p, rfl, .inr h3⟩ (hy.imp (fun b _ v hv => Rep.keep g3.keep b.2 hv) fun _ _ h => h) hwn.1 hwn.2 fun v' H4 g4 hr' => q v' H4 (g12.trans (g3.trans g4)) hr'
          · have hlc : lcp st r ≠ st := fun e => hp (prefix_iff_lcp.mpr e)
            rw [decide_eq_false hlc]
            have hrn : rest? st r = none := by unfold rest?; rw [if_neg hp]
            rw [hrn] at q
            exact ⟨_, rfl, _, rfl, _, rfl, _, rfl, st, vo, ks, _, r, x, rfl, hv, hw, hp, hr1, by omega, hvx, hT, fun v' H2 g2 hr' => q v' H2 g2 hr'⟩
theorem D_put_in (n : Fn1 K mg "put_in" s_put_in) (G : TX K mg) (D_Ni : DefM P w K mg base 11 "Node" "__init__" ["self", "stem", "value", "kids"] (spNodeInit K)) (D_with_kid : Def P w K mg base CX0 2 "with_kid" ["kids", "letter", "part"] (spWithKid K))
    (D_parted : Def P w K mg base CX0 13 "parted" ["part", "start", "rest", "value"] (spParted K)) (D_shared_start : Def P w K mg base CX0 1 "shared_start" ["one", "other"] (spSharedStart K)) (D_need_seen : Def P w K mg base (CX P w) 3 "need_seen" ["part", "way"] (spSeen K)) (D_Nk : DefM P w K mg base 1 "Node" "kid_at" ["self", "letter"] (spKidAt K)) :
    ∀ m, Def P w K mg base (CX P w) (15 + m) "put_in" ["part", "way", "rest", "value"] (spPutIn K m) := by
  intro m
  induction m with
  | zero => exact D_put_step (j := 14) (by omega) n G D_Ni D_with_kid D_parted D_shared_start D_need_seen D_Nk ((n.noX sc_put_in bind_put_in).mono (by omega)) fun m' vs H Q E e => nomatch e
  | succ m ih => exact D_put_step (j := 15 + m) (by omega) n G D_Ni D_with_kid D_parted D_shared_start D_need_seen D_Nk ih fun m' vs H Q E e h => by cases e; exact h
theorem hg_wf {o : Option T} (h : WfO o) : hg o ≤ 9 := by
  cases o with
  | none => exact Nat.zero_le _
  | some t => exact Nat.succ_le_succ h.2
theorem doD_put {o : Option T} {k x : W} : doD o (.put k x) = putO o [] k x := by cases o <;> rfl
theorem D_put (n : Fn1 K mg "put" s_put) (G : TX K mg) (D_need_key : Def P w K mg base CX0 2 "need_key" ["key"] (spNeedKey K)) (D_need_value : Def P w K mg base CX0 2 "need_value" ["value"] (spNeedValue K)) (D_put_in : Def P w K mg base (CX P w) 24 "put_in" ["part", "way", "rest", "value"] (spPutIn K 9)) : Def P w K mg base (CX P w) 25 "put" ["tree", "key", "value"] (spPut K) := by
  refine n.mkX sc_put bind_put (fun vs H Q E h => ?_) (fun cdv A outer s H vs Q E hr h => ?_)
  · obtain ⟨_, _, _, _, rfl, _⟩ := h
    rfl
  · obtain ⟨o, v, k, x, rfl, hv, hw, hk, hx, hT, q⟩ := h
    refine ⟨_, (pss_cons (ps_expr (pe_cd D_need_key (hr.mono (by omega)) (by rfl) (pa_cons (pv 1) pa_nil)))
      (pss_cons (ps_expr (pe_cd D_need_value (hr.mono (by omega)) (by rfl) (pa_cons (pv 2) pa_nil)))
      (pss_one (ps_ret (pe_cx D_put_in (hr.mono (by omega)) (by rfl) (fun σ => passAt (takes_of rfl rfl rfl rfl) σ) (pa_cons (pv 0) (pa_cons (pe_gS G.FIRST) (pa_cons (pv 1) (pa_cons (pv 2) pa_nil))))))))), ?_⟩
    refine ⟨_, rfl, k, rfl, hk, fun H1 g1 => ⟨_, rfl, x, rfl, hx, fun H2 g2 => ?_⟩⟩
    have g := g1.trans g2
    rw [doD_put] at q
    exact ⟨_, rfl, _, rfl, _, rfl, o, v, [], k, x, rfl, RepO.keep g.keep hv, hw, hg_wf hw, hk.1, by simpa using hk.2, hx, g.t hT, q.go g⟩
end
end Seal
namespace Seal
open PySem PySem.Spec PyProof.Rows L2 LamX NdefX
/-! ### drop -/
theorem sc_drop_in : FnScope ["part", "way", "rest", "key", "letter", "kid"] ["part", "way", "rest", "key"] (defScope s_drop_in) := ⟨rfl, rfl, rfl, by decide +kernel, rfl, by decide +kernel, by decide +kernel⟩
theorem bind_drop_in : BindQ "drop_in" "drop_in" s_drop_in ["part", "way", "rest", "key"] := fun _ _ _ _ _ _ us hl => match us, hl with | [_, _, _, _], _ => rfl
theorem sc_drop : FnScope ["tree", "key"] ["tree", "key"] (defScope s_drop) := ⟨rfl, rfl, rfl, by decide +kernel, rfl, by decide +kernel, by decide +kernel⟩
theorem bind_drop : BindQ "drop" "drop" s_drop ["tree", "key"] := fun _ _ _ _ _ _ us hl => match us, hl with | [_, _], _ => rfl
def dropO : Option T → W → W → W → Except Err (Option T)
  | none, _, _, key => .error (.nokey key)
  | some t, way, r, key => dropIn t way r key
def spDropIn (K : PySem.W.Frag) (m : Nat) : Sp := fun vs H Q E => ∃ o v way r key, vs = [v, .str (S way), .str (S r), .str (S key)] ∧ RepO K H o v ∧ WfO o ∧ hg o ≤ m ∧ way.length + r.length ≤ 8 ∧ Tabs (tbs K) H ∧ OutO K H Q E (dropO o way r key)
def spDrop (K : PySem.W.Frag) : Sp := fun vs H Q E => ∃ o v k, vs = [v, .str (S k)] ∧ RepO K H o v ∧ WfO o ∧ IsKey k ∧ Tabs (tbs K) H ∧ OutO K H Q E (doD o (.drop k))
theorem dropO_node {s : W} {o : Option W} {ks : List (Nat × T)} {way r key : W} (u : Up ks) : dropO (some (.node s o ks)) way r key = match rest? s r with
    | none => .error (.nokey key)
    | some [] => if o = none then .error (.nokey key) else joinL way s none ks
    | some (l :: r') => match dropO (kat ks l) (way ++ s ++ [l]) r' key with
      | .ok o' => joinL way s o (lefts (wk l o' (ks.map fun p => (p.1, some p.2))))
      | .error e => .error e := by
  simp only [dropO]
  rw [dropIn]
  cases h : rest? s r with
  | none => rfl
  | some z =>
    cases z with
    | nil => rfl
    | cons l r' =>
      simp only [dropK_eq]
      cases kat ks l with
      | none => rfl
      | some t =>
        simp only
        cases dropIn t (way ++ s ++ [l]) r' key with
        | error e => rfl
        | ok o' =>
          cases o' with
          | none => simp only [lefts_wk_none u]
          | some t' => simp only [lefts_wk_some]
theorem up_map {ks : List (Nat × T)} (u : Up ks) : Up (ks.map fun p => (p.1, some p.2)) := List.pairwise_map.mpr u
theorem dropO_wf {o : Option T} {way r key : W} {t' : T} (hw : WfO o) (h : dropO o way r key = .ok (some t')) : ∃ t, o = some t ∧ Wf t' ∧ ht t' ≤ ht t := by
  cases o with
  | none => cases h
  | some t => exact ⟨t, rfl, wf_drop t way r key t' hw.1 h⟩
theorem prs_some {K : PySem.W.Frag} {H : Hp} {ks : List (Nat × T)} {xs : List V} (h : RepP K H ks xs) : Prs (RepO K H) H (ks.map fun p => (p.1, some p.2)) xs := by
  induction h with
  | nil => exact .nil
  | cons a b _ ih => exact .cons a b ih
section
variable {P : Program} {w : World} {K : PySem.W.Frag} {mg : Str → Option Value} {base : Heap}
theorem D_drop_step {m j : Nat} (hj : 14 ≤ j) {sp : Sp} (n : Fn1 K mg "drop_in" s_drop_in) (G : TX K mg) (XNoKey : EX K mg "NoKey" "key") (D_NoKey : DefM P w K mg base 1 "NoKey" "__init__" ["self", "key"] (spExc K "NoKey" "key")) (D_joined_up : Def P w K mg base (CX P w) 13 "joined_up" ["way", "stem", "value", "kids"] (spJoined K)) (D_with_kid : Def P w K mg base CX0 2 "with_kid" ["kids", "letter", "part"] (spWithKid K))
    (D_need_seen : Def P w K mg base (CX P w) 3 "need_seen" ["part", "way"] (spSeen K)) (D_Nk : DefM P w K mg base 1 "Node" "kid_at" ["self", "letter"] (spKidAt K))
    (D_drop_in : Def P w K mg base (CX P w) j "drop_in" ["part", "way", "rest", "key"] sp) (hsp : ∀ m' vs H Q E, m = m' + 1 → spDropIn K m' vs H Q E → sp vs H Q E) : Def P w K mg base (CX P w) (j + 1) "drop_in" ["part", "way", "rest", "key"] (spDropIn K m) := by
  refine n.mkX sc_drop_in bind_drop_in (fun vs H Q E h => ?_) (fun cdv A outer s H vs Q E hr h => ?_)
  · obtain ⟨_, _, _, _, _, rfl, _⟩ := h
    rfl
  · obtain ⟨o, v, way, r, key, rfl, hv, hw, hm, hr8, hT, q⟩ := h
    refine ⟨_, (pss_cons (ps_if (pt_cmpR op_isN (pv 0) pe_non (nomark _)) (pss_one (ps_raise rfl (takes_of rfl rfl rfl rfl) (pmk_ex XNoKey D_NoKey (hr.mono (by omega)) (by rfl) (pa_cons (pv 3) pa_nil)))) pss_nil)
      (pss_cons (ps_expr (pe_cx D_need_seen (hr.mono (by omega)) (by rfl) (fun σ => passAt (takes_of rfl rfl rfl rfl) σ) (pa_cons (pv 0) (pa_cons (pv 1) pa_nil))))
      (pss_cons (ps_if (pt_not (pt_val (pe_sw (pv 2) (pe_fld (pv 0) rfl)))) (pss_one (ps_raise rfl (takes_of rfl rfl rfl rfl) (pmk_ex XNoKey D_NoKey (hr.mono (by omega)) (by rfl) (pa_cons (pv 3) pa_nil)))) pss_nil)
      (pss_cons (ps_if (pt_cmpR op_eq (pv 2) (pe_fld (pv 0) rfl) (nomark _)) (pss_cons (ps_if (pt_cmpR op_isN (pe_fld (pv 0) rfl) pe_non (nomark _)) (pss_one (ps_raise rfl (takes_of rfl rfl rfl rfl) (pmk_ex XNoKey D_NoKey (hr.mono (by omega)) (by rfl) (pa_cons (pv 3) pa_nil)))) pss_nil)
      (pss_one (ps_ret (pe_cx D_joined_up (hr.mono (by omega)) (by rfl) (fun σ => passAt (takes_of rfl rfl rfl rfl) σ) (pa_cons (pv 1) (pa_cons (pe_fld (pv 0) rfl) (pa_cons pe_non (pa_cons (pe_fld (pv 0) rfl) pa_nil)))))))) pss_nil)
      (pss_cons (ps_set (i := 4) sc_drop_in.nd rfl (Or.inl rfl) (pe_ix ix_str (pv 2) (pe_callB call_len_str (by rfl) G.b_len PySem.boot_len (pa_cons (pe_fld (pv 0) rfl) pa_nil)) (fun _ _ => rfl)))
      (pss_cons (ps_set (i := 5) sc_drop_in.nd rfl (Or.inl rfl) (pe_cx D_drop_in (hr.mono (by omega)) (by rfl) (fun σ => passAt (takes_of rfl rfl rfl rfl) σ) (pa_cons (pe_md1 (pv 0) G.tN.cl G.m_Nk D_Nk (hr.mono (by omega)) (pa_cons (pv 4) pa_nil)) (pa_cons (pe_op op_add_str (pe_op op_add_str (pv 1) (pe_fld (pv 0) rfl)) (pv 4)) (pa_cons (pe_slice sl_str (pv 2) (po_some (pe_op op_add (pe_callB call_len_str (by rfl) G.b_len PySem.boot_len (pa_cons (pe_fld (pv 0) rfl) pa_nil)) pe_int)) po_none) (pa_cons (pv 3) pa_nil))))))
      (pss_one (ps_ret (pe_cx D_joined_up (hr.mono (by omega)) (by rfl) (fun σ => passAt (takes_of rfl rfl rfl rfl) σ) (pa_cons (pv 1) (pa_cons (pe_fld (pv 0) rfl) (pa_cons (pe_fld (pv 0) rfl) (pa_cons (pe_cd D_with_kid (hr.mono (by omega)) (by rfl) (pa_cons (pe_fld (pv 0) rfl) (pa_cons (pv 4) (pa_cons (pv 5) pa_nil)))) pa_nil))))))))))))), ?_⟩
    refine ⟨_, rfl, rfl, _, rfl, ?_⟩
    rw [hv.non]
    cases o with
    | none => exact ⟨_, rfl, raise_at fun d hd => q d _ (.new hd) upd_same⟩
    | some t =>
      refine ⟨_, rfl, _, rfl, t, v, way, rfl, hv, fun ⟨n', e⟩ => ?_, fun hns => ?_⟩
      · subst e
        have : dropO (some (.stub n')) way r key = .error (.unseen way) := by simp only [dropO, dropIn]
        rw [this] at q
        exact q
      · cases t with
        | stub n' => exact absurd rfl (hns n')
        | node st vo ks =>
          obtain ⟨a, dx, lk, xs, rfl, ha, hl, hx⟩ := Rep.node.mp hv
          have hst := hw.stem
          obtain ⟨w1, w2, w3, w4, w5⟩ := Wf.node.mp hw.1
          have h8 : st.length + htK ks ≤ 8 := by have := hw.2; simp only [ht] at this; exact this
          rw [dropO_node w3] at q
          refine ⟨_, rfl, ⟨_, rfl⟩, _, rfl, a, _, dx, _, _, rfl, ha, G.tN.cl, G.nS, rfl, _, _, rfl, rfl, _, rfl, ?_⟩
          rw [sw_S]
          by_cases hp : st <+: r
          · rw [decide_eq_true hp]
            obtain ⟨z, rfl⟩ := hp
            rw [rest_app] at q
            refine ⟨_, rfl, _, rfl, a, _, dx, _, _, rfl, ha, G.tN.cl, G.nS, rfl, rfl, _, rfl, ?_⟩
            rw [dec_S]
            cases z with
            | nil =>
              rw [decide_eq_true (by simp)]
              refine ⟨_, rfl, a, _, dx, _, _, rfl, ha, G.tN.cl, G.nV, rfl, rfl, _, rfl, ?_⟩
              rw [oS_non]
              cases vo with
              | none => exact ⟨_, rfl, raise_at fun d hd => q d _ (.new hd) upd_same⟩
              | some y =>
                simp only [reduceCtorEq, if_false] at q
                refine ⟨_, rfl, _, rfl, a, _, dx, _, _, rfl, ha, G.tN.cl, G.nS, rfl, _, rfl, a, _, dx, _, _, rfl, ha, G.tN.cl, G.nK, rfl, ?_⟩
                refine ⟨way, st, none, .ref lk, xs, ks.map fun p => (p.1, some p.2), rfl, by omega, ⟨lk, rfl, .inl hl⟩, prs_some hx, up_map w3, by rw [List.length_map]; exact wf_few hw.1, w1, (fun y e => by cases e), ?_, ?_, ?_⟩
                · rw [lefts_some]; exact w5
                · rw [lefts_some]; exact h8
                · rw [lefts_some]; exact q
            | cons l r' =>
              rw [decide_eq_false (by simp)]
              have hr8' : r'.length ≤ 8 := by simp at hr8; omega
              refine ⟨_, rfl, _, rfl, a, _, dx, _, _, rfl, ha, G.tN.cl, G.nS, rfl, _, rfl, by rw [S_len]; exact sz (by omega), ?_⟩
              rw [S_len]
              refine ⟨_, _, l, rfl, rfl, by rw [S_len]; exact sz (by omega), by rw [S_list]; exact atI_nat (at_app st l r'), ?_⟩
              rw [S_one]
              refine ⟨_, rfl, a, dx, _, rfl, ha, rfl, _, rfl, st, vo, ks, _, l, rfl, hv, fun kid H1 g1 hkid => ?_⟩
              have ha1 := g1.ins ha
              refine ⟨_, rfl, _, rfl, a, _, dx, _, _, rfl, ha1, G.tN.cl, G.nS, rfl, _, _, rfl, rfl, by rw [S_len, S_len]; exact sz (by omega), _, rfl, _, _, rfl, rfl, by rw [S_app, S_len, S_len]; exact sz (by simp; omega), ?_⟩
              rw [S_app, S_app]
              refine ⟨_, rfl, _, rfl, a, _, dx, _, _, rfl, ha1, G.tN.cl, G.nS, rfl, _, rfl, by rw [S_len]; exact sz (by omega), _, _, rfl, rfl, _, rfl, _, rfl, by rw [S_len]; exact sz (by simp at hr8 ⊢; omega), ?_⟩
              rw [S_len, show (st.length : Int) + 1 = ((st.length + 1 : Nat) : Int) by omega, cut_from, drop_app]
              simp only at q
              refine ⟨_, rfl, ?_⟩
              cases m with
              | zero => simp [hg] at hm
              | succ m =>
                have hkO := kat_wfO hw l
                refine hsp m _ _ _ _ rfl ⟨kat ks l, kid, way ++ st ++ [l], r', key, rfl, hkid, hkO, kat_hg hm, by simp at hr8 ⊢; omega, g1.t hT, ?_⟩
                cases hres : dropO (kat ks l) (way ++ st ++ [l]) r' key with
                | error e => rw [hres] at q; exact ErrAt.go q g1
                | ok o' =>
                  rw [hres] at q
                  intro kv' H2 g2 hkv
                  have g12 := g1.trans g2
                  have ha2 := g12.ins ha
                  refine ⟨_, rfl, _, rfl, a, _, dx, _, _, rfl, ha2, G.tN.cl, G.nS, rfl, _, rfl, a, _, dx, _, _, rfl, ha2, G.tN.cl, G.nV, rfl, _, rfl, a, _, dx, _, _, rfl, ha2, G.tN.cl, G.nK, rfl, _, rfl, _, rfl, ?_⟩
                  refine ⟨Option T, RepO K H2, ks.map fun p => (p.1, some p.2), .ref lk, xs, l, o', kv', rfl, ⟨lk, rfl, .inl (g12.tup hl)⟩, prs_some (RepP.keep g12.keep hx), up_map w3, by rw [List.length_map]; exact wf_few hw.1, hkv, g12.t hT, fun p H3 ys g3 h3 hy => ?_⟩
                  have hkids : (∀ p ∈ lefts (wk l o' (ks.map fun p => (p.1, some p.2))), Lt p.1 ∧ Wf p.2) ∧ htK (lefts (wk l o' (ks.map fun p => (p.1, some p.2)))) ≤ htK ks ∧ (wk l o' (ks.map fun p => (p.1, some p.2))).length ≤ 1000 := by
                    have hlk : (wk l o' (ks.map fun p => (p.1, some p.2))).length ≤ 1000 := by
                      have h1 := List.length_filter_le (fun p : Nat × Option T => decide (p.1 < l)) (ks.map fun p => (p.1, some p.2))
                      have h2 := List.length_filter_le (fun p : Nat × Option T => decide (l < p.1)) (ks.map fun p => (p.1, some p.2))
                      have h3 := wf_few26 hw.1
                      simp only [wk, List.length_append, List.length_cons, List.length_map] at h1 h2 ⊢
                      omega
                    have hsub : ∀ p ∈ lefts (wk l o' (ks.map fun p => (p.1, some p.2))), p ∈ ks ∨ ∃ t, o' = some t ∧ p = (l, t) := by
                      intro p hp
                      cases o' with
                      | none => rw [lefts_wk_none w3, mem_without] at hp; exact .inl hp.1
                      | some t' =>
                        rw [lefts_wk_some, mem_wk] at hp
                        rcases hp with hp | hp
                        · exact .inr ⟨t', rfl, hp⟩
                        · exact .inl hp.1
                    have hnew : ∀ t, o' = some t → Lt l ∧ Wf t ∧ 1 + ht t ≤ htK ks := by
                      rintro t rfl
                      obtain ⟨t0, e0, e1, e2⟩ := dropO_wf hkO hres
                      have hm0 := kat_mem e0
                      have h1 : 1 + ht t0 ≤ htK ks := ht_mem hm0
                      exact ⟨(w5 _ hm0).1, e1, by omega⟩
                    refine ⟨fun p hp => ?_, htK_le.mpr fun p hp => ?_, hlk⟩
                    · rcases hsub p hp with h | ⟨t, e, rfl⟩
                      · exact w5 p h
                      · obtain ⟨a1, a2, _⟩ := hnew t e; exact ⟨a1, a2⟩
                    · rcases hsub p hp with h | ⟨t, e, rfl⟩
                      · exact ht_mem h
                      · exact (hnew t e).2.2
                  refine ⟨way, st, vo, .ref p, ys, _, rfl, by omega, ⟨p, rfl, .inr h3⟩, hy.imp (fun b _ v hv => RepO.keep g3.keep hv) fun _ _ h => h, up_wk (up_map w3), hkids.2.2, w1, w2, hkids.1, by omega, q.go (g12.trans g3)⟩
          · rw [decide_eq_false hp]
            have hrn : rest? st r = none := by unfold rest?; rw [if_neg hp]
            rw [hrn] at q
            exact ⟨_, rfl, raise_at fun d hd => q d _ (.new hd) upd_same⟩
theorem D_drop_in (n : Fn1 K mg "drop_in" s_drop_in) (G : TX K mg) (XNoKey : EX K mg "NoKey" "key") (D_NoKey : DefM P w K mg base 1 "NoKey" "__init__" ["self", "key"] (spExc K "NoKey" "key")) (D_joined_up : Def P w K mg base (CX P w) 13 "joined_up" ["way", "stem", "value", "kids"] (spJoined K)) (D_with_kid : Def P w K mg base CX0 2 "with_kid" ["kids", "letter", "part"] (spWithKid K))
    (D_need_seen : Def P w K mg base (CX P w) 3 "need_seen" ["part", "way"] (spSeen K)) (D_Nk : DefM P w K mg base 1 "Node" "kid_at" ["self", "letter"] (spKidAt K)) :
    ∀ m, Def P w K mg base (CX P w) (15 + m) "drop_in" ["part", "way", "rest", "key"] (spDropIn K m) := by
  intro m
  induction m with
  | zero => exact D_drop_step (j := 14) (by omega) n G XNoKey D_NoKey D_joined_up D_with_kid D_need_seen D_Nk ((n.noX sc_drop_in bind_drop_in).mono (by omega)) fun m' vs H Q E e => nomatch e
  | succ m ih => exact D_drop_step (j := 15 + m) (by omega) n G XNoKey D_NoKey D_joined_up D_with_kid D_need_seen D_Nk ih fun m' vs H Q E e h => by cases e; exact h
theorem doD_drop {o : Option T} {k : W} : doD o (.drop k) = dropO o [] k k := by cases o <;> rfl
theorem D_drop (n : Fn1 K mg "drop" s_drop) (G : TX K mg) (D_need_key : Def P w K mg base CX0 2 "need_key" ["key"] (spNeedKey K)) (D_drop_in : Def P w K mg base (CX P w) 24 "drop_in" ["part", "way", "rest", "key"] (spDropIn K 9)) : Def P w K mg base (CX P w) 25 "drop" ["tree", "key"] (spDrop K) := by
  refine n.mkX sc_drop bind_drop (fun vs H Q E h => ?_) (fun cdv A outer s H vs Q E hr h => ?_)
  · obtain ⟨_, _, _, rfl, _⟩ := h
    rfl
  · obtain ⟨o, v, k, rfl, hv, hw, hk, hT, q⟩ := h
    refine ⟨_, (pss_cons (ps_expr (pe_cd D_need_key (hr.mono (by omega)) (by rfl) (pa_cons (pv 1) pa_nil)))
      (pss_one (ps_ret (pe_cx D_drop_in (hr.mono (by omega)) (by rfl) (fun σ => passAt (takes_of rfl rfl rfl rfl) σ) (pa_cons (pv 0) (pa_cons (pe_gS G.FIRST) (pa_cons (pv 1) (pa_cons (pv 1) pa_nil)))))))), ?_⟩
    refine ⟨_, rfl, k, rfl, hk, fun H1 g1 => ?_⟩
    rw [doD_drop] at q
    exact ⟨_, rfl, _, rfl, _, rfl, o, v, [], k, k, rfl, RepO.keep g1.keep hv, hw, hg_wf hw, by simpa using hk.2, g1.t hT, q.go g1⟩
end
/-! ### got -/
theorem sc_got : FnScope ["tree", "key", "part", "way", "rest", "letter"] ["tree", "key"] (defScope s_got) := ⟨rfl, rfl, rfl, by decide +kernel, rfl, by decide +kernel, by decide +kernel⟩
theorem bind_got : BindQ "got" "got" s_got ["tree", "key"] := fun _ _ _ _ _ _ us hl => match us, hl with | [_, _], _ => rfl
mutual
def gotIn : T → W → W → Except Err (Option W)
  | .stub _, way, _ => .error (.unseen way)
  | .node s v ks, way, r => match rest? s r with
    | none => .ok none
    | some [] => .ok v
    | some (l :: r') => gotK ks l (way ++ s ++ [l]) r'
def gotK : List (Nat × T) → Nat → W → W → Except Err (Option W)
  | [], _, _, _ => .ok none
  | (l', t) :: ks, l, way, r => if l' = l then gotIn t way r else gotK ks l way r
end
theorem gotK_eq : ∀ (ks : List (Nat × T)) (l : Nat) (way r : W), gotK ks l way r = match kat ks l with | some t => gotIn t way r | none => .ok none
  | [], _, _, _ => rfl
  | (l', t) :: ks, l, way, r => by
    rw [gotK, kat]
    by_cases h : l' = l
    · rw [if_pos h, if_pos h]
    · rw [if_neg h, if_neg h, gotK_eq ks l way r]
def gotO : Option T → W → W → Except Err (Option W)
  | none, _, _ => .ok none
  | some t, way, r => gotIn t way r
def OutV (K : PySem.W.Frag) (H : Hp) (Q : VK) (E : XK) : Except Err (Option W) → Prop
  | .ok o => ∀ H', Gz K H H' → Q (oS o) H'
  | .error e => ErrAt K H E e
def spGot (K : PySem.W.Frag) : Sp := fun vs H Q E => ∃ o v k, vs = [v, .str (S k)] ∧ RepO K H o v ∧ WfO o ∧ IsKey k ∧ OutV K H Q E (gotO o [] k)
section
variable {P : Program} {w : World} {K : PySem.W.Frag} {mg : Str → Option Value} {base : Heap}
theorem D_got (n : Fn1 K mg "got" s_got) (G : TX K mg) (D_need_key : Def P w K mg base CX0 2 "need_key" ["key"] (spNeedKey K)) (D_need_seen : Def P w K mg base (CX P w) 3 "need_seen" ["part", "way"] (spSeen K)) (D_Nk : DefM P w K mg base 1 "Node" "kid_at" ["self", "letter"] (spKidAt K)) : Def P w K mg base (CX P w) 4 "got" ["tree", "key"] (spGot K) := by
  refine n.mkX sc_got bind_got (fun vs H Q E h => ?_) (fun cdv A outer s H vs Q E hr h => ?_)
  · obtain ⟨_, _, _, rfl, _⟩ := h
    rfl
  · obtain ⟨o, v, k, rfl, hv, hw, hk, q⟩ := h
    refine ⟨_, (pss_cons (ps_expr (pe_cd D_need_key (hr.mono (by omega)) (by rfl) (pa_cons (pv 1) pa_nil)))
      (pss_cons (ps_par3 (i := 2) (j := 3) (k := 4) (by rfl) sc_got.nd rfl rfl rfl (by decide) (by decide) (by decide) rfl rfl rfl (pa_cons (pv 0) (pa_cons (pe_gS G.FIRST) (pa_cons (pv 1) pa_nil))) (by rfl))
      (pss_cons (ps_while (passes_of rfl) (pt_cmpR op_notN (pv 2) pe_non (nomark _)) (pss_cons (ps_expr (pe_cx D_need_seen (hr.mono (by omega)) (by rfl) (fun σ => passAt (takes_of rfl rfl rfl rfl) σ) (pa_cons (pv 2) (pa_cons (pv 3) pa_nil))))
      (pss_cons (ps_if (pt_cmpR op_eq (pv 4) (pe_fld (pv 2) rfl) (nomark _)) (pss_one (ps_ret (pe_fld (pv 2) rfl))) pss_nil)
      (pss_cons (ps_if (pt_not (pt_val (pe_sw (pv 4) (pe_fld (pv 2) rfl)))) (pss_one (ps_ret pe_non)) pss_nil)
      (pss_cons (ps_set (i := 5) sc_got.nd rfl (Or.inl rfl) (pe_ix ix_str (pv 4) (pe_callB call_len_str (by rfl) G.b_len PySem.boot_len (pa_cons (pe_fld (pv 2) rfl) pa_nil)) (fun _ _ => rfl)))
      (pss_cons (ps_set (i := 3) sc_got.nd rfl (Or.inl rfl) (pe_op op_add_str (pe_op op_add_str (pv 3) (pe_fld (pv 2) rfl)) (pv 5)))
      (pss_cons (ps_set (i := 4) sc_got.nd rfl (Or.inl rfl) (pe_slice sl_str (pv 4) (po_some (pe_op op_add (pe_callB call_len_str (by rfl) G.b_len PySem.boot_len (pa_cons (pe_fld (pv 2) rfl) pa_nil)) pe_int)) po_none))
      (pss_one (ps_set (i := 2) sc_got.nd rfl (Or.inl rfl) (pe_md1 (pv 2) G.tN.cl G.m_Nk D_Nk (hr.mono (by omega)) (pa_cons (pv 5) pa_nil)))))))))))
      (pss_one (ps_ret pe_non))))), ?_⟩
    refine ⟨_, rfl, k, rfl, hk, fun H0 g0 => ?_⟩
    refine ⟨_, rfl, _, rfl, _, _, _, rfl, ?_⟩
    refine ⟨fun m σ H' => Gz K H H' ∧ ∃ o' v' way r x, σ = [some v, some (.str (S k)), some v', some (.str (S way)), some (.str (S r)), x] ∧ RepO K H' o' v' ∧ WfO o' ∧ hg o' = m ∧ way.length + r.length ≤ 8 ∧ OutV K H Q E (gotO o' way r), ⟨_, g0, o, v, [], k, none, rfl, RepO.keep g0.keep hv, hw, rfl, by simpa using hk.2, q⟩, ?_⟩
    rintro m σ H' ⟨g, o', v', way, r, x, rfl, hv', hw', rfl, hr8, q'⟩
    refine ⟨_, rfl, rfl, _, rfl, ?_⟩
    rw [hv'.non]
    cases o' with
    | none => exact q' _ g
    | some t =>
      refine ⟨_, fun _ _ h => h, ?_⟩
      refine ⟨_, rfl, _, rfl, t, v', way, rfl, hv', fun ⟨n', e⟩ => ?_, fun hns => ?_⟩
      · subst e
        have : gotO (some (.stub n')) way r = .error (.unseen way) := by simp only [gotO, gotIn]
        rw [this] at q'
        exact ErrAt.go q' g
      · cases t with
        | stub n' => exact absurd rfl (hns n')
        | node st vo ks =>
          obtain ⟨a, dx, lk, xs, rfl, ha, hl, hx⟩ := Rep.node.mp hv'
          have hst := hw'.stem
          have hgot : gotO (some (.node st vo ks)) way r = match rest? st r with
            | none => .ok none
            | some [] => .ok vo
            | some (l :: r') => gotO (kat ks l) (way ++ st ++ [l]) r' := by
            simp only [gotO]
            rw [gotIn]
            cases rest? st r with
            | none => rfl
            | some z =>
              cases z with
              | nil => rfl
              | cons l r' => simp only [gotK_eq]; cases kat ks l <;> rfl
          rw [hgot] at q'
          refine ⟨_, rfl, _, rfl, a, _, dx, _, _, rfl, ha, G.tN.cl, G.nS, rfl, rfl, _, rfl, ?_⟩
          rw [dec_S]
          by_cases he : r = st
          · subst he
            rw [decide_eq_true rfl]
            rw [rest_self] at q'
            exact ⟨_, rfl, a, _, dx, _, _, rfl, ha, G.tN.cl, G.nV, rfl, q' _ g⟩
          · rw [decide_eq_false he]
            refine ⟨_, rfl, ⟨_, rfl⟩, _, rfl, a, _, dx, _, _, rfl, ha, G.tN.cl, G.nS, rfl, _, _, rfl, rfl, _, rfl, ?_⟩
            rw [sw_S]
            by_cases hp : st <+: r
            · rw [decide_eq_true hp]
              obtain ⟨z, rfl⟩ := hp
              rw [rest_app] at q'
              cases z with
              | nil => exact absurd (by simp) he
              | cons l r' =>
                simp only at q'
                refine ⟨_, rfl, _, rfl, a, _, dx, _, _, rfl, ha, G.tN.cl, G.nS, rfl, _, rfl, by rw [S_len]; exact sz (by omega), ?_⟩
                rw [S_len]
                refine ⟨_, _, l, rfl, rfl, by rw [S_len]; exact sz (by omega), by rw [S_list]; exact atI_nat (at_app st l r'), ?_⟩
                rw [S_one]
                refine ⟨_, rfl, _, rfl, a, _, dx, _, _, rfl, ha, G.tN.cl, G.nS, rfl, _, _, rfl, rfl, by rw [S_len, S_len]; exact sz (by omega), _, rfl, _, _, rfl, rfl, by rw [S_app, S_len, S_len]; exact sz (by simp; omega), ?_⟩
                rw [S_app, S_app]
                refine ⟨_, rfl, _, rfl, a, _, dx, _, _, rfl, ha, G.tN.cl, G.nS, rfl, _, rfl, by rw [S_len]; exact sz (by omega), _, _, rfl, rfl, _, rfl, _, rfl, by rw [S_len]; exact sz (by simp at hr8 ⊢; omega), ?_⟩
                rw [S_len, show (st.length : Int) + 1 = ((st.length + 1 : Nat) : Int) by omega, cut_from, drop_app]
                refine ⟨_, rfl, a, dx, _, rfl, ha, rfl, _, rfl, st, vo, ks, _, l, rfl, hv', fun kid H1 g1 hkid => ?_⟩
                have hh : hg (kat ks l) ≤ ht (.node st vo ks) := kat_hg (m := ht (.node st vo ks)) (Nat.le_refl _)
                refine ⟨_, Nat.lt_succ_of_le hh, g.trans g1, kat ks l, kid, way ++ st ++ [l], r', _, rfl, hkid, kat_wfO hw' l, rfl, by simp at hr8 ⊢; omega, q'⟩
            · rw [decide_eq_false hp]
              have hrn : rest? st r = none := by unfold rest?; rw [if_neg hp]
              rw [hrn] at q'
              exact q' _ g
end
end Seal
namespace Seal
open PySem PySem.Spec PyProof.Rows L2 LamX NdefX
/-! ### deeds -/
theorem sc_is_deed : FnScope ["thing", "word", "rest"] ["thing"] (defScope s_is_deed) := ⟨rfl, rfl, rfl, by decide +kernel, rfl, by decide +kernel, by decide +kernel⟩
theorem bind_is_deed : BindQ "is_deed" "is_deed" s_is_deed ["thing"] := fun _ _ _ _ _ _ us hl => match us, hl with | [_], _ => rfl
theorem sc_need_deeds : FnScope ["deeds", "at", "deed"] ["deeds"] (defScope s_need_deeds) := ⟨rfl, rfl, rfl, by decide +kernel, rfl, by decide +kernel, by decide +kernel⟩
theorem bind_need_deeds : BindQ "need_deeds" "need_deeds" s_need_deeds ["deeds"] := fun _ _ _ _ _ _ us hl => match us, hl with | [_], _ => rfl
theorem sc_done : FnScope ["tree", "deeds", "word", "key", "rest"] ["tree", "deeds"] (defScope s_done) := ⟨rfl, rfl, rfl, by decide +kernel, rfl, by decide +kernel, by decide +kernel⟩
theorem bind_done : BindQ "done" "done" s_done ["tree", "deeds"] := fun _ _ _ _ _ _ us hl => match us, hl with | [_, _], _ => rfl
def dV : Deed → List V
  | .put k x => [.str "put", .str (S k), .str (S x)]
  | .drop k => [.str "drop", .str (S k)]
def RepDeed (H : Hp) (d : Deed) (v : V) : Prop := ∃ a, v = .ref a ∧ H a = some (.tup (dV d))
def RepRow (H : Hp) : List Deed → List V → Prop := Paired (RepDeed H)
theorem RepRow.keep {H H' : Hp} (g : Keep H H') {row : List Deed} {xs : List V} (h : RepRow H row xs) : RepRow H' row xs := by
  induction h with
  | nil => exact .nil
  | cons a _ ih =>
    obtain ⟨b, e, hb⟩ := a
    exact .cons ⟨b, e, g.tup hb⟩ ih
theorem RepRow.at_ {H : Hp} : ∀ {row : List Deed} {xs : List V}, RepRow H row xs → ∀ {i : Nat} {x : V}, xs[i]? = some x → ∃ d, row[i]? = some d ∧ d ∈ row ∧ RepDeed H d x
  | _, _, .nil, i, x, h => by simp at h
  | _, _, .cons a b, 0, x, h => by
    simp at h
    subst h
    exact ⟨_, rfl, List.mem_cons_self, a⟩
  | _, _, .cons a b, i + 1, x, h => by
    obtain ⟨d, h1, h2, h3⟩ := RepRow.at_ b (i := i) (by simpa using h)
    exact ⟨d, by simpa using h1, List.mem_cons_of_mem _ h2, h3⟩
def spIsDeed (K : PySem.W.Frag) : Sp := fun vs H Q _ => ∃ d v, vs = [v] ∧ RepDeed H d v ∧ d.ok ∧ Ret K (.bl true) H Q
def spNeedDeeds (K : PySem.W.Frag) : Sp := fun vs H Q _ => ∃ row a xs, vs = [.ref a] ∧ H a = some (.lst xs) ∧ RepRow H row xs ∧ (∀ d ∈ row, d.ok) ∧ row.length ≤ 1000 ∧ Ret K .non H Q
def spDone (K : PySem.W.Frag) : Sp := fun vs H Q E => ∃ o v row a xs, vs = [v, .ref a] ∧ RepO K H o v ∧ WfO o ∧ H a = some (.lst xs) ∧ RepRow H row xs ∧ (∀ d ∈ row, d.ok) ∧ row.length ≤ 1000 ∧ Tabs (tbs K) H ∧ OutO K H Q E (doRow o row)
section
variable {P : Program} {w : World} {K : PySem.W.Frag} {mg : Str → Option Value} {base : Heap}
theorem D_is_deed (n : Fn1 K mg "is_deed" s_is_deed) (G : TX K mg) (D_is_key : Def P w K mg base CX0 1 "is_key" ["thing"] (spIsKey K)) (D_is_value : Def P w K mg base CX0 1 "is_value" ["thing"] (spIsValue K)) : Def P w K mg base CX0 2 "is_deed" ["thing"] (spIsDeed K) := by
  refine n.mk0 sc_is_deed bind_is_deed (fun vs H Q E h => ?_) (fun cdv A outer s H vs Q E hr h => ?_)
  · obtain ⟨_, _, rfl, _⟩ := h
    rfl
  · obtain ⟨d, v, rfl, ⟨a, rfl, ha⟩, hd, q⟩ := h
    refine ⟨_, (pss_cons (ps_if (PW.pt (pw_or (pt_not (pt_val (pe_callB call_isi (by rfl) G.b_isinstance (by decide +kernel) (pa_cons (pv 0) (pa_cons (pe_ty (n := "tuple") G.b_tuple (by decide +kernel)) pa_nil))))) (pw_or1 (pt_cmpR op_notIn_seq (pe_callB call_len (by rfl) G.b_len PySem.boot_len (pa_cons (pv 0) pa_nil)) (pe_tup (pa_cons pe_int (pa_cons pe_int pa_nil))) (by rfl))))) (pss_one (ps_ret pe_bl)) pss_nil)
      (pss_cons (ps_asg (pv 0) (pg_star rfl (pgs_cons (pg_name (i := 1) sc_is_deed.nd rfl (Or.inl rfl)) (pgs_star (pgs_cons (pg_name (i := 2) sc_is_deed.nd rfl (Or.inl rfl)) pgs_nil)))))
      (pss_cons (ps_if (PW.pt (pw_or (pt_not (pt_val (pe_callB call_isi (by rfl) G.b_isinstance (by decide +kernel) (pa_cons (pv 1) (pa_cons (pe_ty (n := "str") G.b_str (by decide +kernel)) pa_nil))))) (pw_or1 (pt_not (pt_val (pe_cd D_is_key (hr.mono (by omega)) (by rfl) (pa_cons (pe_ix ix_list (pv 2) pe_int (fun _ _ => rfl)) pa_nil))))))) (pss_one (ps_ret pe_bl)) pss_nil)
      (pss_cons (ps_if (pt_cmpR op_eq (pe_callB call_len (by rfl) G.b_len PySem.boot_len (pa_cons (pv 2) pa_nil)) pe_int (nomark _)) (pss_one (ps_ret (pe_cmpR op_eq (pv 1) pe_str (nomark _)))) pss_nil)
      (pss_one (ps_ret (pe_and (pe_cmpR op_eq (pv 1) pe_str (nomark _)) (pe_one (pe_cd D_is_value (hr.mono (by omega)) (by rfl) (pa_cons (pe_ix ix_list (pv 2) pe_int (fun _ _ => rfl)) pa_nil)))))))))), ?_⟩
    refine ⟨_, rfl, _, _, _, _, true, rfl, .ty "tuple", .base (.tup ha), kit_ty (by decide +kernel), true, rfl, ?_⟩
    cases d with
    | put k x =>
      refine ⟨_, rfl, _, 3, rfl, .inr ⟨_, .of ha, rfl⟩, by show 2 ≤ sizeLine; decide, fun t ht => ?_⟩
      have g1 : Gz K H (upd H t (.tup [.int 2, .int 3])) := .new ht
      refine ⟨t, _, rfl, .inr (.of upd_same), rfl, rfl, false, rfl, ?_⟩
      have ha1 := g1.tup ha
      refine ⟨_, rfl, a, _, rfl, .of ha1, by show 1 < 2; decide, by show 2 ≤ 3 + 1; decide, by show 3 ≤ 1000; decide, fun D hD => ?_⟩
      have g2 : Gz K (upd H t (.tup [.int 2, .int 3])) (upd (upd H t (.tup [.int 2, .int 3])) D (.lst [.str (S k), .str (S x)])) := .new hD
      refine ⟨_, _, rfl, _, _, rfl, rfl, ?_⟩
      refine ⟨_, rfl, _, _, _, _, true, rfl, .ty "str", .base (.str _), kit_ty (by decide +kernel), true, rfl, ?_⟩
      refine ⟨_, rfl, D, _, 0, _, rfl, rfl, .of upd_same, rfl, k, rfl, hd.1, fun H3 g3 => ⟨_, rfl, ?_⟩⟩
      have hD3 := g3.lst (b := D) upd_same id
      refine ⟨_, rfl, _, 2, rfl, .inl ⟨_, .of hD3, rfl⟩, rfl, _, rfl, ?_⟩
      refine ⟨_, rfl, rfl, _, rfl, ?_⟩
      refine ⟨_, rfl, D, _, 1, _, rfl, rfl, .of hD3, rfl, x, rfl, hd.2, fun H4 g4 => ?_⟩
      exact q _ (g1.trans (g2.trans (g3.trans g4)))
    | drop k =>
      refine ⟨_, rfl, _, 2, rfl, .inr ⟨_, .of ha, rfl⟩, by show 2 ≤ sizeLine; decide, fun t ht => ?_⟩
      have g1 : Gz K H (upd H t (.tup [.int 2, .int 3])) := .new ht
      refine ⟨t, _, rfl, .inr (.of upd_same), rfl, rfl, false, rfl, ?_⟩
      have ha1 := g1.tup ha
      refine ⟨_, rfl, a, _, rfl, .of ha1, by show 1 < 2; decide, by show 2 ≤ 2 + 1; decide, by show 2 ≤ 1000; decide, fun D hD => ?_⟩
      have g2 : Gz K (upd H t (.tup [.int 2, .int 3])) (upd (upd H t (.tup [.int 2, .int 3])) D (.lst [.str (S k)])) := .new hD
      refine ⟨_, _, rfl, _, _, rfl, rfl, ?_⟩
      refine ⟨_, rfl, _, _, _, _, true, rfl, .ty "str", .base (.str _), kit_ty (by decide +kernel), true, rfl, ?_⟩
      refine ⟨_, rfl, D, _, 0, _, rfl, rfl, .of upd_same, rfl, k, rfl, hd, fun H3 g3 => ⟨_, rfl, ?_⟩⟩
      have hD3 := g3.lst (b := D) upd_same id
      refine ⟨_, rfl, _, 1, rfl, .inl ⟨_, .of hD3, rfl⟩, rfl, _, rfl, ?_⟩
      exact ⟨_, rfl, rfl, q _ (g1.trans (g2.trans g3))⟩
theorem D_need_deeds (n : Fn1 K mg "need_deeds" s_need_deeds) (G : TX K mg) (D_is_deed : Def P w K mg base CX0 2 "is_deed" ["thing"] (spIsDeed K)) : Def P w K mg base CX0 3 "need_deeds" ["deeds"] (spNeedDeeds K) := by
  refine n.mk0 sc_need_deeds bind_need_deeds (fun vs H Q E h => ?_) (fun cdv A outer s H vs Q E hr h => ?_)
  · obtain ⟨_, _, _, rfl, _⟩ := h
    rfl
  · obtain ⟨row, a, xs, rfl, ha, hx, hok, hlen, q⟩ := h
    refine ⟨_, (pss_cons (ps_if (pt_not (pt_val (pe_callB call_isi (by rfl) G.b_isinstance (by decide +kernel) (pa_cons (pv 0) (pa_cons (pe_ty (n := "list") G.b_list (by decide +kernel)) pa_nil))))) (pss_one ps_never) pss_nil)
      (pss_one (ps_for PassesOwn.never rfl (pi_enum (by rfl) G.b_enumerate (pa_cons (pv 0) pa_nil)) (pg_tup rfl (pgs_cons (pg_name (i := 1) sc_need_deeds.nd rfl (Or.inl rfl)) (pgs_cons (pg_name (i := 2) sc_need_deeds.nd rfl (Or.inl rfl)) pgs_nil))) (pss_one (ps_if (pt_not (pt_val (pe_cd D_is_deed (hr.mono (by omega)) (by rfl) (pa_cons (pv 2) pa_nil)))) (pss_one ps_never) pss_nil))))), ?_⟩
    refine ⟨_, rfl, _, _, _, _, true, rfl, .ty "list", .base (.lst ha), kit_ty (by decide +kernel), true, rfl, ?_⟩
    refine ⟨_, rfl, a, xs, rfl, .of ha, ?_⟩
    refine for_it (walk_enum (xs := xs)) (fun i σ H' => Gz K H H' ∧ ∃ x y, σ = [some (.ref a), x, y]) ⟨.refl, _, _, rfl⟩ (fun i σ H' _ ⟨g, _⟩ => SqL.of (g.lst ha id)) ?_ ?_
    · rintro i x σ H' H'' hi ⟨g, y, z, rfl⟩ ⟨t, i', x', rfl, ht, rfl, hi1, hxi⟩
      obtain ⟨d, hd1, hd2, b, rfl, hb⟩ := hx.at_ hxi
      have g1 : Gz K H' (upd H' t (.tup [i', .ref b])) := .new ht
      refine ⟨t, _, rfl, .of upd_same, rfl, _, _, rfl, _, _, rfl, rfl, ?_⟩
      refine ⟨_, rfl, d, _, rfl, ⟨b, rfl, (g.trans g1).tup hb⟩, hok d hd2, fun H3 g3 => ⟨_, rfl, g.trans (g1.trans g3), _, _, rfl⟩⟩
    · rintro σ H' ⟨g, _⟩
      exact q _ g
theorem doRow_cons {o : Option T} {d : Deed} {r : List Deed} : doRow o (d :: r) = match doD o d with
    | .ok o' => doRow o' r
    | .error e => .error e := by
  rw [doRow]
  all_goals (cases doD o d <;> rfl)
theorem D_done (n : Fn1 K mg "done" s_done) (G : TX K mg) (D_need_deeds : Def P w K mg base CX0 3 "need_deeds" ["deeds"] (spNeedDeeds K)) (D_put : Def P w K mg base (CX P w) 25 "put" ["tree", "key", "value"] (spPut K)) (D_drop : Def P w K mg base (CX P w) 25 "drop" ["tree", "key"] (spDrop K)) : Def P w K mg base (CX P w) 26 "done" ["tree", "deeds"] (spDone K) := by
  refine n.mkX sc_done bind_done (fun vs H Q E h => ?_) (fun cdv A outer s H vs Q E hr h => ?_)
  · obtain ⟨_, _, _, _, _, rfl, _⟩ := h
    rfl
  · obtain ⟨o, v, row, a, xs, rfl, hv, hw, ha, hx, hok, hlen, hT, q⟩ := h
    refine ⟨_, (pss_cons (ps_expr (pe_cd D_need_deeds (hr.mono (by omega)) (by rfl) (pa_cons (pv 1) pa_nil)))
      (pss_cons (ps_for (passes_of rfl) rfl (pi_list (pv 1)) (pg_star rfl (pgs_cons (pg_name (i := 2) sc_done.nd rfl (Or.inl rfl)) (pgs_cons (pg_name (i := 3) sc_done.nd rfl (Or.inl rfl)) (pgs_star (pgs_cons (pg_name (i := 4) sc_done.nd rfl (Or.inl rfl)) pgs_nil))))) (pss_one (ps_set (i := 0) sc_done.nd rfl (Or.inl rfl) (pe_ifExp (pt_cmpR op_eq (pv 2) pe_str (nomark _)) (pe_cx D_put (hr.mono (by omega)) (by rfl) (fun σ => passAt (takes_of rfl rfl rfl rfl) σ) (pa_cons (pv 0) (pa_cons (pv 3) (pa_cons (pe_ix ix_list (pv 4) pe_int (fun _ _ => rfl)) pa_nil)))) (pe_cx D_drop (hr.mono (by omega)) (by rfl) (fun σ => passAt (takes_of rfl rfl rfl rfl) σ) (pa_cons (pv 0) (pa_cons (pv 3) pa_nil)))))))
      (pss_one (ps_ret (pv 0))))), ?_⟩
    refine ⟨_, rfl, row, a, xs, rfl, ha, hx, hok, hlen, fun H0 g0 => ?_⟩
    refine ⟨_, rfl, a, rfl, ⟨_, SqL.of (g0.lst ha id)⟩, ?_⟩
    refine for_it (walk_list (xs := xs)) (fun i σ H' => Gz K H H' ∧ ∃ o' v' y z u, σ = [some v', some (.ref a), y, z, u] ∧ RepO K H' o' v' ∧ WfO o' ∧ OutO K H Q E (doRow o' (row.drop i))) ⟨g0, o, v, _, _, _, rfl, RepO.keep g0.keep hv, hw, q⟩ (fun i σ H' _ ⟨g, _⟩ => SqL.of (g.lst ha id)) ?_ ?_
    · rintro i x σ H' H'' hi ⟨g, o', v', y, z, u, rfl, hv', hw', q'⟩ ⟨rfl, hxi⟩
      obtain ⟨d, hd1, hd2, b, rfl, hb⟩ := hx.at_ hxi
      have hdr : row.drop i = d :: row.drop (i + 1) := by
        have hi' : i < row.length := by
          by_cases hh : i < row.length
          · exact hh
          · rw [List.getElem?_eq_none (by omega)] at hd1; cases hd1
        rw [List.drop_eq_getElem_cons hi']
        rw [List.getElem?_eq_getElem hi'] at hd1
        rw [Option.some.inj hd1]
      rw [hdr, doRow_cons] at q'
      have hokd := hok d hd2
      have hb' := g.tup hb
      cases d with
      | put k x =>
        refine ⟨b, _, rfl, .of hb', by show 2 < 3; decide, by show 3 ≤ 3 + 1; decide, by show 3 ≤ 1000; decide, fun D hD => ?_⟩
        have g1 : Gz K H'' (upd H'' D (.lst [.str (S x)])) := .new hD
        refine ⟨_, _, rfl, _, _, rfl, _, _, rfl, rfl, ?_⟩
        refine ⟨_, rfl, rfl, _, rfl, ?_⟩
        refine ⟨_, rfl, _, rfl, _, rfl, D, _, 0, _, rfl, rfl, .of upd_same, rfl, o', v', k, x, rfl, RepO.keep g1.keep hv', hw', hokd.1, hokd.2, (g.trans g1).t hT, ?_⟩
        cases hres : doD o' (.put k x) with
        | error e => rw [hres] at q'; exact ErrAt.go q' (g.trans g1)
        | ok o2 =>
          rw [hres] at q'
          intro v2 H2 g2 hv2
          exact ⟨g.trans (g1.trans g2), o2, v2, _, _, _, rfl, hv2, wf_doD hw' hokd hres, q'⟩
      | drop k =>
        refine ⟨b, _, rfl, .of hb', by show 2 < 3; decide, by show 3 ≤ 2 + 1; decide, by show 2 ≤ 1000; decide, fun D hD => ?_⟩
        have g1 : Gz K H'' (upd H'' D (.lst [])) := .new hD
        refine ⟨_, _, rfl, _, _, rfl, _, _, rfl, rfl, ?_⟩
        refine ⟨_, rfl, rfl, _, rfl, ?_⟩
        refine ⟨_, rfl, _, rfl, o', v', k, rfl, RepO.keep g1.keep hv', hw', hokd, (g.trans g1).t hT, ?_⟩
        cases hres : doD o' (.drop k) with
        | error e => rw [hres] at q'; exact ErrAt.go q' (g.trans g1)
        | ok o2 =>
          rw [hres] at q'
          intro v2 H2 g2 hv2
          exact ⟨g.trans (g1.trans g2), o2, v2, _, _, _, rfl, hv2, wf_doD hw' hokd hres, q'⟩
    · rintro σ H' ⟨g, o', v', y, z, u, rfl, hv', hw', q'⟩
      have : row.drop xs.length = [] := List.drop_of_length_le (by rw [hx.length]; exact Nat.le_refl _)
      rw [this] at q'
      exact ⟨_, rfl, q' v' H' g hv'⟩
end
end Seal
namespace Seal
open PySem PySem.Spec PyProof.Rows L2 LamX NdefX
section
variable {X : Cx} {k : Nat} {x : Str} {ps : List Str} {sp : Sp} {p pos : Pos} {e : Expr} {es : List Expr} {t : TA}
/-- f(e, ..) of a def that may raise, where nothing is raised -/
theorem pe_cn (D : Def X.prog X.w X.K X.mg X.base (CX X.prog X.w) k x ps sp) (hr : Room k X.A) (hg : Gl X x) (ha : PA X (e :: es) t) (hdb : (x == ("__debug__" : Str)) = false := by decide)
    (he : starEach (e :: es) X.env = (false, eval e X.env) :: starEach es X.env := by rfl) (hpl : (backTo pos (starEach es X.env)).any (·.1) = false := by rfl) :
    PE X (.Call (.Name x p) (e :: es) [] pos) (tCallS sp (fun _ => E0) t) := by
  obtain ⟨fd, b, F⟩ := D.fn
  exact pe_callS F hr hg D.g D.kp b (fun σ pins H s e s' I ⟨a, B, H', cls, d, _, _, _, _, _, _, _, z⟩ => z.elim) ha hdb he hpl
end
/-! ### shown_at -/
theorem sc_shown_at : FnScope ["part", "whole", "rest", "way", "digest", "letter", "kid"] ["part", "whole", "rest", "way", "digest"] (defScope s_shown_at) := ⟨rfl, rfl, rfl, by decide +kernel, rfl, by decide +kernel, by decide +kernel⟩
theorem bind_shown_at : BindQ "shown_at" "shown_at" s_shown_at ["part", "whole", "rest", "way", "digest"] := fun _ _ _ _ _ _ us hl => match us, hl with | [_, _, _, _, _], _ => rfl
theorem sl_wf {N : T → Int → Prop} (hN : ∀ t n, Wf t → N t n → Num n) (s : T) : ∀ t, Sl N s t → Wf t → Wf s ∧ ht s ≤ ht t := by
  induction s using T.ind with
  | hs n =>
    intro t h hw
    have h : N t n := by simpa [Sl] using h
    exact ⟨by simpa [Wf] using hN t n hw h, by simp [ht]⟩
  | hn st v ks ih =>
    intro t h hw
    obtain ⟨ks', rfl, a⟩ := Sl.node.mp h
    obtain ⟨w1, w2, w3, w4, w5⟩ := Wf.node.mp hw
    have key : ∀ p ∈ ks, ∃ y, (p.1, y) ∈ ks' ∧ Wf p.2 ∧ ht p.2 ≤ ht y ∧ Lt p.1 := fun p hp => by
      obtain ⟨y, hy, hs⟩ := a.mem hp
      obtain ⟨h1, h2⟩ := ih p hp y hs (w5 _ hy).2
      exact ⟨y, hy, h1, h2, (w5 _ hy).1⟩
    refine ⟨Wf.node.mpr ⟨w1, w2, a.up w3, fun e => by rw [a.length]; exact w4 e, fun p hp => ?_⟩, ?_⟩
    · obtain ⟨y, _, h1, _, h3⟩ := key p hp
      exact ⟨h3, h1⟩
    · simp only [ht]
      have : htK ks ≤ htK ks' := htK_le.mpr fun p hp => by
        obtain ⟨y, hy, _, h2, _⟩ := key p hp
        have : 1 + ht y ≤ htK ks' := ht_mem hy
        omega
      omega
section
variable {P : Program} {w : World} {K : PySem.W.Frag} {mg : Str → Option Value} {base : Heap} (g : Dig P w K mg base)
theorem Dig.sl {D D' : List W} (h : D <+: D') {s t : T} (a : Sl (g.ND D) s t) : Sl (g.ND D') s t := Sl.mono (fun t n k => g.nd h k) s t a
def spShown (m : Nat) : Sp := fun vs H Q _ => ∃ s t vp vw way rest full D, vs = [vp, vw, .str (S rest), .str (S full), .ref g.fa] ∧ Rep K H s vp ∧ Rep K H t vw ∧ Sl (g.ND D) s t ∧ WfO (some t) ∧ Full t ∧ ht t < m ∧ rest.length ≤ 1000 ∧ (way ++ rest) ∈ sw s way ∧ g.St D H ∧ D.length + cnt t ≤ 10000000 ∧ Tabs (tbs K) H ∧
  ∀ D' H' s' r, D <+: D' → D'.length ≤ D.length + cnt t → g.St D' H' → Go (tbs K) g.Mt H H' → Rep K H' s' r → Sl (g.ND D') s' t → Grew s s' way (way ++ rest) → Q r H'
theorem sw_stub {n : Int} {way w : W} : w ∈ sw (.stub n) way ↔ w = way := by simp [sw]
theorem all2_wk {R R' : T → T → Prop} {ks ks' : List (Nat × T)} {l : Nat} {a' b : T} (h : All2 R ks ks') (u : Up ks') (hb : kat ks' l = some b) (hm : ∀ x y, R x y → R' x y) (ha : R' a' b) : All2 R' (wk l a' ks) ks' := by
  have h2 : All2 R' ks ks' := h.imp fun p _ y hy => hm _ _ hy
  have := h2.wk (l := l) ha
  rwa [wk_self u hb] at this
theorem stubs_all {Di : List W} : ∀ {ks : List (Nat × T)}, (∀ p ∈ ks, Known (g.val Di) Di p.2) → All2 (Sl (g.ND Di)) (ks.map fun p : Nat × T => (p.1, T.stub (numT (g.val Di) p.2))) ks
  | [], _ => .nil
  | p :: ks, h => .cons (by simpa [Sl] using (show g.ND Di p.2 _ from ⟨h p List.mem_cons_self, rfl⟩)) (stubs_all fun q hq => h q (List.mem_cons_of_mem _ hq))
theorem D_shown_step {m j : Nat} (hj : 21 ≤ j) {sp : Sp} (n : Fn1 K mg "shown_at" s_shown_at) (G : TX K mg) (D_Ni : DefM P w K mg base 11 "Node" "__init__" ["self", "stem", "value", "kids"] (spNodeInit K)) (D_with_kid : Def P w K mg base CX0 2 "with_kid" ["kids", "letter", "part"] (spWithKid K))
    (D_need_seen : Def P w K mg base (CX P w) 3 "need_seen" ["part", "way"] (spSeen K)) (D_Nk : DefM P w K mg base 1 "Node" "kid_at" ["self", "letter"] (spKidAt K)) (D_as_stub : Def P w K mg base CX0 20 "as_stub" ["tree", "digest"] (spStub g))
    (D_shown_at : Def P w K mg base CX0 j "shown_at" ["part", "whole", "rest", "way", "digest"] sp) (hsp : ∀ m' vs H Q E, m = m' + 1 → spShown g m' vs H Q E → sp vs H Q E) : Def P w K mg base CX0 (j + 1) "shown_at" ["part", "whole", "rest", "way", "digest"] (spShown g m) := by
  refine n.mk0 sc_shown_at bind_shown_at (fun vs H Q E h => ?_) (fun cdv A outer s H vs Q E hr h => ?_)
  · obtain ⟨_, _, _, _, _, _, _, _, rfl, _⟩ := h
    rfl
  · obtain ⟨sl, t, vp, vw, way, rest, full, D, rfl, hvp, hvw, hsl, hw, hfull, hm, hrl, hmem, hD, hc, hT, q⟩ := h
    refine ⟨_, (pss_cons (ps_if (pt_val (pe_callB call_isi (by rfl) G.b_isinstance (by decide +kernel) (pa_cons (pv 0) (pa_cons (pe_gR G.c_Stub) pa_nil)))) (pss_cons (ps_expr (pe_cn D_need_seen (hr.mono (by omega)) (by rfl) (pa_cons (pv 1) (pa_cons (pv 3) pa_nil))))
      (pss_one (ps_ret (pe_mk G.mkN D_Ni (hr.mono (by omega)) (by rfl) G.c_Node (pa_cons (pe_fld (pv 1) rfl) (pa_cons (pe_fld (pv 1) rfl) (pa_cons (pe_lc (own := [("letter", 5), ("kid", 6)]) (g := gTup K 2 (gCons (gName 5) (gCons (gName 6) gNil))) (tt := tYes) (by rfl) sc_shown_at.nd (pi_tup (pe_fld (pv 1) rfl)) (blkOk_by (N := ["part", "whole", "rest", "way", "digest", "letter", "kid"]) (sc := defScope s_shown_at) (by decide +kernel)) (fun _ _ _ _ _ => pg_tup rfl (pgs_cons (pg_name (i := 5) sc_shown_at.nd rfl (Or.inl rfl)) (pgs_cons (pg_name (i := 6) sc_shown_at.nd rfl (Or.inl rfl)) pgs_nil))) (fun _ _ _ _ _ => pts_nil) (fun _ _ _ _ _ => (pe_tup (pa_cons (pv 5) (pa_cons (pe_cd D_as_stub (hr.mono (by omega)) (by rfl) (pa_cons (pv 6) (pa_cons (pv 4) pa_nil))) pa_nil))))) pa_nil))))))) pss_nil)
      (pss_cons (ps_set (i := 5) sc_shown_at.nd rfl (Or.inl rfl) (pe_ix ix_str (pv 2) (pe_callB call_len_str (by rfl) G.b_len PySem.boot_len (pa_cons (pe_fld (pv 0) rfl) pa_nil)) (fun _ _ => rfl)))
      (pss_cons (ps_set (i := 6) sc_shown_at.nd rfl (Or.inl rfl) (pe_cd D_shown_at (hr.mono (by omega)) (by rfl) (pa_cons (pe_md1 (pv 0) G.tN.cl G.m_Nk D_Nk (hr.mono (by omega)) (pa_cons (pv 5) pa_nil)) (pa_cons (pe_md1 (pv 1) G.tN.cl G.m_Nk D_Nk (hr.mono (by omega)) (pa_cons (pv 5) pa_nil)) (pa_cons (pe_slice sl_str (pv 2) (po_some (pe_op op_add (pe_callB call_len_str (by rfl) G.b_len PySem.boot_len (pa_cons (pe_fld (pv 0) rfl) pa_nil)) pe_int)) po_none) (pa_cons (pv 3) (pa_cons (pv 4) pa_nil)))))))
      (pss_one (ps_ret (pe_mk G.mkN D_Ni (hr.mono (by omega)) (by rfl) G.c_Node (pa_cons (pe_fld (pv 0) rfl) (pa_cons (pe_fld (pv 0) rfl) (pa_cons (pe_cd D_with_kid (hr.mono (by omega)) (by rfl) (pa_cons (pe_fld (pv 0) rfl) (pa_cons (pv 5) (pa_cons (pv 6) pa_nil)))) pa_nil))))))))), ?_⟩
    cases t with
    | stub n' => exact absurd hfull full_not_stub
    | node st vo ks =>
      obtain ⟨wa, wdx, wl, wxs, rfl, hwa, hwl, hwx⟩ := Rep.node.mp hvw
      obtain ⟨w1, w2, w3, w4, w5⟩ := Wf.node.mp hw.1
      have hst := hw.stem
      have w26 := wf_few26 hw.1
      have hfk := Full.node.mp hfull
      cases sl with
      | stub n' =>
        obtain ⟨a, dx, rfl, ha⟩ := Rep.stub.mp hvp
        have hrest : rest = [] := by
          have := sw_stub.mp hmem
          simpa using this
        subst hrest
        refine ⟨_, rfl, _, _, _, _, true, rfl, .own _, G.tS.ty ha, G.kSS, _, rfl, ?_⟩
        refine ⟨_, rfl, _, rfl, .node st vo ks, _, full, rfl, hvw, (fun ⟨n2, e⟩ => nomatch e), fun _ => ?_⟩
        refine ⟨_, rfl, wa, _, wdx, _, _, rfl, hwa, G.tN.cl, G.nS, rfl, _, rfl, wa, _, wdx, _, _, rfl, hwa, G.tN.cl, G.nV, rfl, _, rfl, wa, _, wdx, _, _, rfl, hwa, G.tN.cl, G.nK, rfl, wl, rfl, ⟨_, SqT.of hwl⟩, fun N hN => ?_⟩
        refine lc_go (Ts := tbs K) (M := g.Mt) (walk_tup (xs := wxs)) hN (by rw [hwx.length]; omega) (g.has hD) (fun i acc H' => Go (tbs K) g.Mt H H' ∧ ∃ Di, D <+: Di ∧ Di.length ≤ D.length + cntK (ks.take i) ∧ g.St Di H' ∧ RepP K H' ((ks.take i).map fun p : Nat × T => (p.1, T.stub (numT (g.val Di) p.2))) acc ∧ ∀ p ∈ ks.take i, Known (g.val Di) Di p.2)
          (fun i acc H' H'' ⟨a, Di, b1, b2, b3, b4, b5⟩ g' => ⟨a.loc hN g', Di, b1, b2, g.keepD hD hN b3 g', b4.keep g'.keep, b5⟩) ⟨.refl, D, List.prefix_refl D, by simp, hD, .nil, fun p hp => by simp at hp⟩ (fun i acc H' _ ⟨g', _⟩ => SqT.of (g'.tup hwl)) ?_ ?_
        · rintro i acc y H' H'' R1 R2 hi ⟨g', Di, b1, b2, b3, b4, b5⟩ ⟨rfl, hxi⟩ r1 r2
          obtain ⟨l', b, p, v, hki, hm', rfl, hp, hbv⟩ := hwx.at_ hxi
          have hcl := cntK_take hki
          have hcle := cntK_take_le ks (i + 1)
          simp only [cnt] at hc
          refine ⟨p, _, rfl, SqT.of (g'.tup hp), rfl, _, _, rfl, _, _, rfl, rfl, rfl, ?_⟩
          refine ⟨_, rfl, _, rfl, _, rfl, some b, v, Di, rfl, Rep.keep g'.keep b hbv, hw.kids _ hm', b3, by simp only [cntO]; omega, fun D' H3 r c1 c2 c3 c4 c5 hr' => ?_⟩
          simp only [cntO] at c2
          refine ⟨by show 2 ≤ sizeLine; decide, fun t ht => ?_⟩
          have g5 : Gz K H3 (upd H3 t (.tup [.str (S [l']), r])) := .new ht
          have g4 : Go (tbs K) g.Mt H'' (upd H3 t (.tup [.str (S [l']), r])) := c4.news ht
          refine r1 _ _ g4 ⟨g'.trans g4, D', b1.trans c1, by omega, g.keep0 c3 g5, ?_, ?_⟩
          · rw [take_snoc hki, List.map_append]
            have e : (ks.take i).map (fun p : Nat × T => (p.1, T.stub (numT (g.val D') p.2))) = (ks.take i).map (fun p : Nat × T => (p.1, T.stub (numT (g.val Di) p.2))) := List.map_congr_left fun p hp => by rw [(g.known c1 (b5 p hp)).2]
            rw [e]
            exact (b4.keep g4.keep).snoc upd_same (Rep.keep g5.keep _ hr')
          · intro p hp
            rw [take_snoc hki] at hp
            rcases List.mem_append.mp hp with hp | hp
            · exact (g.known c1 (b5 p hp)).1
            · simp at hp; subst hp; exact c5 b rfl
        · rintro acc H' ⟨g', Di, b1, b2, b3, b4, b5⟩ h1 _
          rw [hwx.length, List.take_length] at b2 b4 b5
          simp only [cnt] at hc q
          have hall : All2 (Sl (g.ND Di)) (ks.map fun p : Nat × T => (p.1, T.stub (numT (g.val Di) p.2))) ks := stubs_all g b5
          have hsl' : Sl (g.ND Di) (.node st vo (ks.map fun p : Nat × T => (p.1, T.stub (numT (g.val Di) p.2)))) (.node st vo ks) := Sl.node.mpr ⟨ks, rfl, hall⟩
          have hwf := sl_wf (fun t n hw' k => by rw [k.2]; exact g.num_of (by omega) hw' k.1) _ _ hsl' hw.1
          refine node_make ⟨N, rfl, .inr h1⟩ b4 hwf.1 (Nat.le_trans hwf.2 hw.2) fun v' H2 g2 hr' => ?_
          refine q Di H2 _ v' b1 (by omega) (g.keep0 b3 g2) (g'.trans g2.any) hr' hsl' ?_
          rw [List.append_nil]
          exact grew_base fun p hp => by
            obtain ⟨p', _, rfl⟩ := List.mem_map.mp hp
            exact ⟨_, rfl⟩
      | node st2 vo2 ks2 =>
        obtain ⟨ks', e, hall⟩ := Sl.node.mp hsl
        cases e
        obtain ⟨a, dx, lk, xs, rfl, ha, hl, hx⟩ := Rep.node.mp hvp
        refine ⟨_, rfl, _, _, _, _, false, rfl, .own _, G.tN.ty ha, G.kNS, _, rfl, ?_⟩
        rw [sw, mem_swK] at hmem
        obtain ⟨⟨l, pa⟩, hpm, hpw⟩ := hmem
        obtain ⟨r', hr'⟩ := sw_pre pa hpw
        have hrest : rest = st ++ l :: r' := by
          have : way ++ (st ++ l :: r') = way ++ rest := by rw [← hr']; simp
          exact (List.append_cancel_left this).symm
        subst hrest
        have hlt : Up ks2 := hall.up w3
        have hka := kat_of_mem hlt hpm
        obtain ⟨pb, hkb, hab⟩ : ∃ b, kat ks l = some b ∧ Sl (g.ND D) pa b := by
          rcases hall.kat l with ⟨h, _⟩ | ⟨a1, b1, h1, h2, h3⟩
          · rw [hka] at h; cases h
          · rw [hka] at h1; cases h1; exact ⟨b1, h2, h3⟩
        have hbm := kat_mem hkb
        refine ⟨_, rfl, _, rfl, a, _, dx, _, _, rfl, ha, G.tN.cl, G.nS, rfl, _, rfl, by rw [S_len]; exact sz (by omega), ?_⟩
        rw [S_len]
        refine ⟨_, _, l, rfl, rfl, by rw [S_len]; exact sz (by omega), by rw [S_list]; exact atI_nat (at_app st l r'), ?_⟩
        rw [S_one]
        refine ⟨_, rfl, a, dx, _, rfl, ha, rfl, _, rfl, st, vo, ks2, _, l, rfl, hvp, fun kp H1 g1 hkp => ?_⟩
        refine ⟨_, rfl, wa, wdx, _, rfl, g1.ins hwa, rfl, _, rfl, st, vo, ks, _, l, rfl, Rep.keep g1.keep _ hvw, fun kw H2 g2 hkw => ?_⟩
        have g12 := g1.trans g2
        have hkp := RepO.keep g2.keep hkp
        rw [hka] at hkp
        rw [hkb] at hkw
        refine ⟨_, rfl, _, rfl, a, _, dx, _, _, rfl, g12.ins ha, G.tN.cl, G.nS, rfl, _, rfl, by rw [S_len]; exact sz (by omega), _, _, rfl, rfl, _, rfl, _, rfl, by rw [S_len]; exact sz (by omega), ?_⟩
        rw [S_len, show (st.length : Int) + 1 = ((st.length + 1 : Nat) : Int) by omega, cut_from, drop_app]
        refine ⟨_, rfl, _, rfl, ?_⟩
        cases m with
        | zero => exact absurd hm (by omega)
        | succ m =>
          have hcm : cnt pb ≤ cntK ks := by
            have := cntK_wk w3 hkb (b := .stub 0)
            simp only [cnt] at this
            omega
          simp only [cnt] at hc q
          have hhm : ht pb < m := by
            have : 1 + ht pb ≤ htK ks := ht_mem hbm
            simp only [ht] at hm
            omega
          refine hsp m _ _ _ _ rfl ⟨pa, pb, kp, kw, way ++ st ++ [l], r', full, D, rfl, hkp, hkw, hab, hw.kids _ hbm, hfk _ hbm, hhm, by simp at hrl; omega, by rw [hr']; exact hpw, g.keep0 hD g12, by omega, g12.t hT, fun D' H3 s' r c1 c2 c3 c4 c5 c6 c7 => ?_⟩
          have gg : Go (tbs K) g.Mt H H3 := g12.any.trans c4
          have ha3 := gg.ins ha
          refine ⟨_, rfl, a, _, dx, _, _, rfl, ha3, G.tN.cl, G.nS, rfl, _, rfl, a, _, dx, _, _, rfl, ha3, G.tN.cl, G.nV, rfl, _, rfl, a, _, dx, _, _, rfl, ha3, G.tN.cl, G.nK, rfl, _, rfl, _, rfl, ?_⟩
          refine ⟨T, Rep K H3, ks2, .ref lk, xs, l, s', r, rfl, ⟨lk, rfl, .inl (gg.tup hl)⟩, RepP.keep gg.keep hx, hlt, by rw [hall.length]; omega, c5, gg.t hT, fun p H4 ys g4 h4 hy => ?_⟩
          have hall' : All2 (Sl (g.ND D')) (wk l s' ks2) ks := all2_wk hall w3 hkb (fun x y h => g.sl c1 h) c6
          have hsl' : Sl (g.ND D') (.node st vo (wk l s' ks2)) (.node st vo ks) := Sl.node.mpr ⟨ks, rfl, hall'⟩
          have hwf := sl_wf (fun t n hw' k => by rw [k.2]; exact g.num_of (by omega) hw' k.1) _ _ hsl' hw.1
          refine node_make ⟨p, rfl, .inr h4⟩ (hy.imp (fun b _ v hv => Rep.keep g4.keep b.2 hv) fun _ _ h => h) hwf.1 (Nat.le_trans hwf.2 hw.2) fun v' H5 g5 hr'' => ?_
          have g45 := g4.trans g5
          refine q D' H5 _ v' c1 (by omega) (g.keep0 c3 g45) (gg.trans g45.any) hr'' hsl' ?_
          have e : way ++ st ++ [l] ++ r' = way ++ (st ++ l :: r') := by simp
          rw [e] at c7
          exact grew_step hlt hka c7
theorem D_shown (n : Fn1 K mg "shown_at" s_shown_at) (G : TX K mg) (D_Ni : DefM P w K mg base 11 "Node" "__init__" ["self", "stem", "value", "kids"] (spNodeInit K)) (D_with_kid : Def P w K mg base CX0 2 "with_kid" ["kids", "letter", "part"] (spWithKid K))
    (D_need_seen : Def P w K mg base (CX P w) 3 "need_seen" ["part", "way"] (spSeen K)) (D_Nk : DefM P w K mg base 1 "Node" "kid_at" ["self", "letter"] (spKidAt K)) (D_as_stub : Def P w K mg base CX0 20 "as_stub" ["tree", "digest"] (spStub g)) :
    ∀ m, Def P w K mg base CX0 (22 + m) "shown_at" ["part", "whole", "rest", "way", "digest"] (spShown g m) := by
  intro m
  induction m with
  | zero => exact D_shown_step g (j := 21) (by omega) n G D_Ni D_with_kid D_need_seen D_Nk D_as_stub ((n.no0 sc_shown_at bind_shown_at).mono (by omega)) fun m' vs H Q E e => nomatch e
  | succ m ih => exact D_shown_step g (j := 22 + m) (by omega) n G D_Ni D_with_kid D_need_seen D_Nk D_as_stub ih fun m' vs H Q E e h => by cases e; exact h
end
end Seal
namespace Seal
open PySem PySem.Spec PyProof.Rows L2 LamX NdefX
/-! ### a call by keywords only, in the order of the parameters turned round -/
structure DefF (P : Program) (w : World) (K : PySem.W.Frag) (mg : Str → Option Value) (base : Heap) (CX : CXT) (k : Nat) (x : Str) (st : Stmt) (ps : List Str) (sp : Sp) : Prop where
  g : mg x = some (.ref (He.ga K x))
  kp : PySem.W.keepIn K (.ref (He.ga K x)) = true
  fn : ∃ fd : FuncData, FnP K x st fd ∧ Binds K fd ps [] ∧ FnOk P w K mg base CX k (He.ga K x) fd ps sp
section
variable {P : Program} {w : World} {K : PySem.W.Frag} {mg : Str → Option Value} {base : Heap} {CX : CXT} {k : Nat} {sp : Sp} {N ps : List Str} {st : Stmt} {x : Str}
theorem DefF.toDef (D : DefF P w K mg base CX k x st ps sp) : Def P w K mg base CX k x ps sp := let ⟨fd, _, b, F⟩ := D.fn; ⟨D.g, D.kp, fd, b, F⟩
theorem Fn1.mkXF (n : Fn1 K mg x st) (sc : FnScope N ps (defScope st)) (hb : BindQ x x st ps) (hl : ∀ vs H Q E, sp vs H Q E → vs.length = ps.length)
    (hw : ∀ (cdv : Value) (A : Around) (outer : List Env) (s : Shared) (H : Hp) (vs : List V) (Q : VK) (E : XK), Room k (A.deeper (envOfC x (defScope st) s.heap.objs.size (He.ga K x) cdv)) → sp vs H Q E →
      ∃ t, PSs (cxOf (L2.CX P w) P w K mg base N x (defScope st) (He.ga K x) cdv A outer s H E) (defBody st) t ∧ t { nx := fun _ H' => Q .non H', rt := Q } (L2.start N vs) H) : DefF P w K mg base (L2.CX P w) (k + 1) x st ps sp := by
  obtain ⟨fd, F⟩ := n.fn
  exact ⟨n.g, F.kp, fd, F, F.bindsN hb, F.ok sc hl hw⟩
end
def BindR (x : Str) (st : Stmt) (ps ks : List Str) : Prop := ∀ (kV doc pm : Value) (an : Option Addr) (cdv ct : Value) (ws : List Value), ws.length = ps.length → bindArgs (PySem.W.fnOf x x (defArgs st) (defBody st) (defScope st) Value.none kV doc pm an cdv ct) ⟨[], ks.zip ws⟩ = pure (ps.zip ws.reverse)
def tCallR (sp : Sp) (E : XK) (tk : TA) : TE := fun σ H Q => tk σ H fun zs H2 => sp zs.reverse H2 Q E
theorem vals_snoc {vs : List V} {us : List Value} {v : V} {u : Value} (h : Vals vs us) (hv : RelV v u) : Vals (vs ++ [v]) (us ++ [u]) := by
  induction h with
  | nil => exact .cons hv .nil
  | cons a _ ih => exact .cons a ih
theorem vals_rev {vs : List V} {us : List Value} (h : Vals vs us) : Vals vs.reverse us.reverse := by
  induction h with
  | nil => exact .nil
  | cons a _ ih =>
    rw [List.reverse_cons, List.reverse_cons]
    exact vals_snoc ih a
section
variable {X : Cx} {k : Nat} {x : Str} {st : Stmt} {ps ks : List Str} {sp : Sp} {kws : List Keyword} {tk : TA} {p pos : Pos}
theorem pe_callR (D : DefF X.prog X.w X.K X.mg X.base (CX X.prog X.w) k x st ps sp) (hB : BindR x st ps ks) (hr : Room k X.A) (hg : Gl X x) (hkw : PK X kws tk)
    (hall : (backToKw pos (keywordEach kws X.env)).all (·.1.isSome) = true := by rfl) (hks : (backToKw pos (keywordEach kws X.env)).filterMap (·.1) = ks := by rfl) (hdb : (x == ("__debug__" : Str)) = false := by decide)
    (hpl : ((backTo pos (starEach [] X.env)).any (·.1) || (backToKw pos (keywordEach kws X.env)).any (·.1.isNone)) = false := by rfl) :
    PE X (.Call (.Name x p) [] kws pos) (tCallR sp E0 tk) := by
  obtain ⟨fd, Fp, b, F⟩ := D.fn
  refine ⟨fun pins s σ H Q I h => ?_⟩
  refine wpAny_Call_Name_kw (ld_glob I hg D.g ?_ hdb)
  refine PySem.W.callWith_KW0 (h₀ := X.base) I.ok.mod.kin D.kp hall ?_ hpl
  refine thn (hkw.run pos pins s σ H _ I h) fun ws s2 ⟨zs, H2, I2, rz, q2⟩ => ⟨I2.kIn, ?_⟩
  rw [hks]
  have r2 := vals_rev rz
  have hl : ws.length = ps.length := by
    have := F.len _ _ _ _ q2
    rw [r2.length, List.length_reverse] at this
    exact this
  have hto : BindsTo s2 fd ⟨[], ks.zip ws⟩ (ps.zip ws.reverse) := by
    obtain ⟨oc, od, dV, kV, doc, pm, an, cdv, ct, osl, rfl, lk, hcd, hD, hK⟩ := Fp.ex
    rcases hD with ⟨_, rfl⟩ | ⟨e, _⟩
    · exact BindsTo.of_eq (hB _ _ _ _ _ _ ws hl)
    · exact absurd rfl e
  refine wpAny_call (codeAny_mono (F.run X.A X.stack s2 H2 ⟨[], ks.zip ws⟩ ws.reverse zs.reverse Q E0 hr I2.env0 hto r2 q2) fun r s' hq => ?_)
  cases r with
  | error e =>
    obtain ⟨a, B, H', cls, d, _, _, _, _, _, _, _, z⟩ := hq
    exact z.elim
  | ok fl =>
    cases fl with
    | ret u => exact I2.after hq
    | next => exact False.elim hq
    | brk => exact False.elim hq
    | cont => exact False.elim hq
end
end Seal
namespace Seal
open PySem PySem.Spec PyProof.Rows L2 LamX NdefX
/-! ### needed -/
theorem sc_needed : FnScope ["tree", "deeds", "digest", "part", "lacks", "way", "e"] ["tree", "deeds", "digest"] (defScope s_needed) := ⟨rfl, rfl, rfl, by decide +kernel, rfl, by decide +kernel, by decide +kernel⟩
theorem bind_needed : BindQ "needed" "needed" s_needed ["tree", "deeds", "digest"] := fun _ _ _ _ _ _ us hl => match us, hl with | [_, _, _], _ => rfl
theorem sc_root_behind : FnScope ["root", "part", "deeds", "digest"] ["root", "part", "deeds", "digest"] (defScope s_root_behind) := ⟨rfl, rfl, rfl, by decide +kernel, rfl, by decide +kernel, by decide +kernel⟩
theorem bind_root_behind : BindQ "root_behind" "root_behind" s_root_behind ["root", "part", "deeds", "digest"] := fun _ _ _ _ _ _ us hl => match us, hl with | [_, _, _, _], _ => rfl
structure EU (K : PySem.W.Frag) : Prop where
  xf : XfC K (He.ga K "Unseen")
  uu : PySem.W.exmOne K (.ref (He.ga K "Unseen")) (.ref (He.ga K "Unseen")) = some true
  nu : PySem.W.exmOne K (.ref (He.ga K "NoKey")) (.ref (He.ga K "Unseen")) = some false
def cntS : Option T → Nat
  | none => 0
  | some t => cnt t
section
variable {P : Program} {w : World} {K : PySem.W.Frag} {mg : Str → Option Value} {base : Heap} (g : Dig P w K mg base)
/-- the slice that is needed -/
def NeedO (V : List W) (D : List W) : Option T → Option T → Prop
  | none, so => so = none
  | some t, so => ∃ s, so = some s ∧ Shn (g.ND D) V s t []
def spNeeded : Sp := fun vs H Q E => ∃ o v row a xs D C, vs = [v, .ref a, .ref g.fa] ∧ RepO K H o v ∧ IsTree o C ∧ H a = some (.lst xs) ∧ ¬ g.Mt a ∧ RepRow H row xs ∧ (∀ d ∈ row, d.ok) ∧ row.length ≤ 1000 ∧ Tabs (tbs K) H ∧ g.St D H ∧ D.length + (cntS o + 2) * (cntS o + 2) ≤ 10000000 ∧
  ((beh C row).2 = none → ∀ D' H' so r, D <+: D' → D'.length ≤ D.length + (cntS o + 2) * (cntS o + 2) → g.St D' H' → Go (tbs K) g.Mt H H' → RepO K H' so r → NeedO g (come o row) D' o so → Q r H') ∧
  ∀ k, (beh C row).2 = some k → ∀ d H' D', D <+: D' → D'.length ≤ D.length + (cntS o + 2) * (cntS o + 2) → g.St D' H' → Go (tbs K) g.Mt H H' → H' d = some (.xd [("key", .str (S k))]) → E (.ref (He.ga K "NoKey")) (some d) H'
theorem slO_some {N : T → Int → Prop} {s : T} {o : Option T} (h : SlO N (some s) o) : ∃ t, o = some t ∧ Sl N s t := by
  cases o with
  | none => exact h.elim
  | some t => exact ⟨t, rfl, h⟩
theorem slO_none {N : T → Int → Prop} {o : Option T} (h : SlO N none o) : o = none := by
  cases o with
  | none => rfl
  | some t => exact h.elim
theorem Dig.slO {D D' : List W} (h : D <+: D') {s t : Option T} (a : SlO (g.ND D) s t) : SlO (g.ND D') s t := by
  cases s with
  | none => rw [slO_none a]; trivial
  | some s => obtain ⟨t, rfl, h'⟩ := slO_some a; exact g.sl h h'
theorem Dig.wfO {D : List W} (hd : D.length ≤ 10000000) {s t : Option T} (a : SlO (g.ND D) s t) (h : WfO t) : WfO s := by
  cases s with
  | none => trivial
  | some s =>
    obtain ⟨t, rfl, h'⟩ := slO_some a
    obtain ⟨h1, h2⟩ := sl_wf (fun t n hw k => by rw [k.2]; exact g.num_of hd hw k.1) s t h' h.1
    exact ⟨h1, Nat.le_trans h2 h.2⟩
theorem slO_cnt {N : T → Int → Prop} {s t : Option T} (a : SlO N s t) : cntS s ≤ cntS t := by
  cases s with
  | none => exact Nat.zero_le _
  | some s => obtain ⟨t, rfl, h'⟩ := slO_some a; exact sl_cnt s t h'
theorem sw_len (t : T) : ∀ {way x : W}, x ∈ sw t way → x.length ≤ way.length + ht t := by
  induction t using T.ind with
  | hs n => intro way x h; simp [sw] at h; subst h; simp
  | hn s v ks ih =>
    intro way x h
    rw [sw, mem_swK] at h
    obtain ⟨p, hp, hx⟩ := h
    have h1 := ih p hp hx
    have h2 := ht_mem hp
    simp only [List.length_append, List.length_cons, List.length_nil] at h1
    simp only [ht]
    omega
theorem budget {c j : Nat} (h : j + 1 ≤ c) : (j + 1) * c + c ≤ (c + 2) * (c + 2) := by
  have : (j + 1) * c ≤ c * c := Nat.mul_le_mul_right c h
  have e : (c + 2) * (c + 2) = c * c + 4 * c + 4 := by rw [Nat.add_mul, Nat.mul_add]; omega
  omega
theorem D_neededF (n : Fn1 K mg "needed" s_needed) (G : TX K mg) (XUnseen : EX K mg "Unseen" "way") (U : EU K) (D_need_deeds : Def P w K mg base CX0 3 "need_deeds" ["deeds"] (spNeedDeeds K)) (D_as_stub : Def P w K mg base CX0 20 "as_stub" ["tree", "digest"] (spStub g)) (D_done : Def P w K mg base (CX P w) 26 "done" ["tree", "deeds"] (spDone K))
    (D_shown_at : Def P w K mg base CX0 31 "shown_at" ["part", "whole", "rest", "way", "digest"] (spShown g 9)) : DefF P w K mg base (CX P w) 32 "needed" s_needed ["tree", "deeds", "digest"] (spNeeded g) := by
  refine n.mkXF sc_needed bind_needed (fun vs H Q E h => ?_) (fun cdv A outer s H vs Q E hr h => ?_)
  · obtain ⟨_, _, _, _, _, _, _, rfl, _⟩ := h
    rfl
  · obtain ⟨o, v, row, a, xs, D, C, rfl, hv, hC, ha, hma, hx, hok, hlen, hT, hD, hcap, q1, q2⟩ := h
    have XF := U.xf
    have hwo := hC.wf
    refine ⟨_, (pss_cons (ps_expr (pe_cd D_need_deeds (hr.mono (by omega)) (by rfl) (pa_cons (pv 1) pa_nil)))
      (pss_cons (ps_par3 (i := 3) (j := 4) (k := 5) (by rfl) sc_needed.nd rfl rfl rfl (by decide) (by decide) (by decide) rfl rfl rfl (pa_cons (pe_cd D_as_stub (hr.mono (by omega)) (by rfl) (pa_cons (pv 0) (pa_cons (pv 2) pa_nil))) (pa_cons pe_bl (pa_cons (pe_gS G.FIRST) pa_nil))) (by rfl))
      (pss_cons (ps_while (passes_of rfl) (pt_val (pv 4)) (pss_cons (ps_set (i := 4) sc_needed.nd rfl (Or.inl rfl) pe_bl)
      (pss_cons (ps_try_as (i := 6) rfl rfl sc_needed.nd rfl rfl ⟨rfl, by decide, .inl XUnseen.g⟩ (takes_of rfl rfl rfl rfl) (fun W pn xe tk _ => (pss_one (ps_expr (pe_cx D_done (hr.mono (by omega)) (by rfl) (fun σ => passAt tk σ) (pa_cons (pv 3) (pa_cons (pv 1) pa_nil)))))) (fun a oe cls d pn hz hf => (pss_cons (ps_set (i := 4) sc_needed.nd rfl (Or.inl rfl) pe_bl)
      (pss_one (ps_set (i := 5) sc_needed.nd rfl (Or.inl rfl) (pe_xf XF XUnseen.noF hz hf (pv 6)))))))
      (pss_one (ps_if (pt_val (pv 4)) (pss_one (ps_set (i := 3) sc_needed.nd rfl (Or.inl rfl) (pe_cd D_shown_at (hr.mono (by omega)) (by rfl) (pa_cons (pv 3) (pa_cons (pv 0) (pa_cons (pv 5) (pa_cons (pv 5) (pa_cons (pv 2) pa_nil)))))))) pss_nil)))))
      (pss_one (ps_ret (pv 3)))))), ?_⟩
    refine ⟨_, rfl, row, a, xs, rfl, ha, hx, hok, hlen, fun H0 g0 => ?_⟩
    have hb0 : D.length + cntO o ≤ 10000000 := by
      have : cntO o ≤ (cntS o + 2) * (cntS o + 2) := by
        cases o with
        | none => simp [cntO, cntS]
        | some t =>
          simp only [cntO, cntS]
          exact Nat.le_trans (by omega : cnt t ≤ cnt t + 2) (Nat.le_mul_of_pos_left _ (by omega))
      omega
    refine ⟨_, rfl, _, rfl, o, v, D, rfl, RepO.keep g0.keep hv, hwo, g.keep0 hD g0, hb0, fun D1 H1 r c1 c2 c3 c4 c5 c6 => ?_⟩
    refine ⟨_, _, _, rfl, ?_⟩
    have gg1 : Go (tbs K) g.Mt H H1 := g0.any.trans c4
    refine ⟨fun m σ H' => ∃ Dk so pv b wv e, σ = [some v, some (.ref a), some (.ref g.fa), some pv, some (.bl b), some wv, e] ∧ Go (tbs K) g.Mt H H' ∧ D <+: Dk ∧ Dk.length ≤ D.length + 1 + (cntS so + 1) * cntS o ∧ g.St Dk H' ∧ RepO K H' so pv ∧ SlO (g.ND Dk) so o ∧ (∀ s, so = some s → ∀ x ∈ nw s [], x ∈ come o row) ∧
      (b = false → ∃ so', doRow so row = .ok so') ∧ m = 2 * (cntS o - cntS so) + (if b = true then 1 else 0), ?_, ?_⟩
    · refine ⟨_, D1, o.map fun t => .stub (numT (g.val D1) t), r, true, _, none, rfl, gg1, c1, ?_, c3, c6, ?_, ?_, (fun e => nomatch e), rfl⟩
      · cases o with
        | none => simp only [cntO] at c2; simp only [Option.map, cntS]; omega
        | some t => simp only [cntO] at c2; simp only [Option.map, cntS, cnt]; omega
      · cases o with
        | none => trivial
        | some t =>
          show Sl _ _ _
          simpa [Sl] using (show g.ND D1 t _ from ⟨c5 t rfl, rfl⟩)
      · intro s e x hx'
        cases o with
        | none => cases e
        | some t => cases e; simp [nw] at hx'
    · rintro m σ H' ⟨Dk, so, pv, b, wv, e, rfl, gg, hDk, hbk, hSt, hpv, hsl, hvis, hend, rfl⟩
      have hcs := slO_cnt hsl
      have hDcap : Dk.length ≤ D.length + (cntS o + 2) * (cntS o + 2) := by
        have h1 : (cntS so + 1) * cntS o ≤ (cntS o + 1) * cntS o := Nat.mul_le_mul_right _ (by omega)
        have h2 : (cntS o + 2) * (cntS o + 2) = (cntS o + 1) * cntS o + 3 * cntS o + 4 := by
          rw [Nat.add_mul, Nat.mul_add, Nat.add_mul]; omega
        omega
      refine ⟨_, rfl, _, rfl, ?_⟩
      cases b with
      | false =>
        obtain ⟨so', hrun⟩ := hend rfl
        have hdue : (beh C row).2 = none := by
          cases hb : (beh C row).2 with
          | none => rfl
          | some k =>
            have hrt := (row_tree hC hok).2 k hb
            rcases sl_row hsl hC hok with ⟨x1, x2, e1, e2, _⟩ | ⟨x, e1, _⟩ | ⟨k', e1, _⟩
            · rw [hrt] at e2; cases e2
            · rw [hrun] at e1; cases e1
            · rw [hrun] at e1; cases e1
        refine ⟨_, rfl, q1 hdue Dk H' so pv hDk hDcap hSt gg hpv ?_⟩
        cases o with
        | none =>
          cases so with
          | none => rfl
          | some s => exact (show False from hsl).elim
        | some t =>
          cases so with
          | none => exact (show False from hsl).elim
          | some s => exact ⟨s, rfl, shn_of s t [] hsl hC.1 hC.2.1 (needed_end hsl hC hok (hvis s rfl) hrun)⟩
      | true =>
        refine ⟨_, fun _ _ h => h, ?_⟩
        refine ⟨_, rfl, _, rfl, so, pv, row, a, xs, rfl, hpv, g.wfO (by omega) hsl hwo, gg.lst ha hma, hx.keep gg.keep, hok, hlen, gg.t hT, ?_⟩
        rcases sl_row hsl hC hok with ⟨so', o', e1, e2, e3, e4⟩ | ⟨x, e1, hxc, hxs⟩ | ⟨k, e1, e2⟩
        · rw [e1]
          intro v1 H2 g2 hv1
          refine ⟨_, rfl, _, rfl, _, ?_, Dk, so, pv, false, wv, e, rfl, gg.trans g2.any, hDk, hbk, g.keep0 hSt g2, RepO.keep g2.keep hpv, hsl, hvis, fun _ => ⟨so', e1⟩, rfl⟩
          simp
        · rw [e1]
          intro d H2 g2 hd
          refine ⟨true, U.uu, fun _ ea hea => ?_, (fun z => nomatch z)⟩
          cases so with
          | none => simp [swO] at hxs
          | some s =>
            obtain ⟨t, rfl, hst⟩ := slO_some hsl
            refine ⟨_, rfl, rfl, rfl, d, _, _, rfl, hd, rfl, ?_⟩
            refine ⟨_, rfl, _, rfl, ?_⟩
            have gg2 := gg.trans g2.any
            have hsw : ([] ++ x) ∈ sw s [] := hxs
            have hxl : x.length ≤ 1000 := by
              have h1 := sw_len s hxs
              have h2 := (g.wfO (by omega) hsl hwo).2
              simp at h1
              omega
            simp only [cntS] at hcap hbk hcs hDcap q1 q2
            have hct : Dk.length + cnt t ≤ 10000000 := by
              have h1 : (cnt s + 1) * cnt t ≤ (cnt t + 1) * cnt t := Nat.mul_le_mul_right _ (by omega)
              have h2 : (cnt t + 2) * (cnt t + 2) = (cnt t + 1) * cnt t + 3 * cnt t + 4 := by
                rw [Nat.add_mul, Nat.mul_add, Nat.add_mul]; omega
              omega
            refine ⟨_, rfl, _, rfl, _, rfl, _, rfl, _, rfl, s, t, pv, v, [], x, x, Dk, rfl, Rep.keep g2.keep s hpv, Rep.keep gg2.keep t hv, hst, hwo, hC.2.1, Nat.lt_succ_of_le hwo.2, hxl, hsw, g.keep0 hSt g2, hct, gg2.t hT, fun D' H3 s' r' d1 d2 d3 d4 d5 d6 d7 => ?_⟩
            have hc1 := d7.one
            have hc2 := sl_cnt s' t d6
            refine ⟨_, ?_, D', some s', r', true, _, none, rfl, gg2.trans d4, hDk.trans d1, ?_, d3, d5, d6, ?_, (fun e => nomatch e), rfl⟩
            · simp only [cntS]
              show 2 * (cnt t - cnt s') + 1 < 2 * (cnt t - cnt s) + 1
              omega
            · simp only [cntS]
              have : (cnt s' + 1) * cnt t = (cnt s + 1) * cnt t + cnt t := by rw [hc1, Nat.add_mul (cnt s + 1) 1]; omega
              omega
            · intro s2 e2 y hy
              cases e2
              rcases (d7.nodes y).mp hy with h | h
              · exact hvis s rfl y h
              · rw [h]; exact hxc
        · rw [e1]
          intro d H2 g2 hd
          refine ⟨false, U.nu, (fun z => nomatch z), fun _ => ?_⟩
          have hdue : (beh C row).2 = some k := by
            cases hb : (beh C row).2 with
            | none =>
              obtain ⟨o2, h2, _⟩ := (row_tree hC hok).1 hb
              rw [h2] at e2; cases e2
            | some k' =>
              have := (row_tree hC hok).2 k' hb
              rw [this] at e2
              cases e2
              rfl
          exact q2 k hdue d H2 Dk hDk hDcap (g.keep0 hSt g2) (gg.trans g2.any) hd
theorem wf_doRow : ∀ {row : List Deed} {o o' : Option T}, WfO o → (∀ d ∈ row, d.ok) → doRow o row = .ok o' → WfO o'
  | [], o, o', h, _, e => by rw [doRow] at e; cases e; exact h
  | d :: r, o, o', h, hd, e => by
    rw [doRow_cons] at e
    cases hx : doD o d with
    | error x => rw [hx] at e; cases e
    | ok o1 => rw [hx] at e; exact wf_doRow (wf_doD h (hd d List.mem_cons_self) hx) (fun x hx => hd x (List.mem_cons_of_mem _ hx)) e
def spRootBehind : Sp := fun vs H Q _ => ∃ n so so' vp row a xs D, vs = [.int n, vp, .ref a, .ref g.fa] ∧ RepO K H so vp ∧ WfO so ∧ H a = some (.lst xs) ∧ ¬ g.Mt a ∧ RepRow H row xs ∧ (∀ d ∈ row, d.ok) ∧ row.length ≤ 1000 ∧ doRow so row = .ok so' ∧ Tabs (tbs K) H ∧ g.St D H ∧ D.length + cntO so + cntO so' ≤ 10000000 ∧
  (∀ D', D <+: D' → KnownO (g.val D') D' so → numO (g.val D') so = n) ∧
  ∀ D' H', D <+: D' → D'.length ≤ D.length + cntO so + cntO so' → g.St D' H' → Go (tbs K) g.Mt H H' → KnownO (g.val D') D' so' → Q (.int (numO (g.val D') so')) H'
theorem D_root_behind (n : Fn1 K mg "root_behind" s_root_behind) (G : TX K mg) (D_need_root : Def P w K mg base CX0 20 "need_root" ["root", "tree", "digest"] (spNeedRoot g)) (D_number_of : Def P w K mg base CX0 19 "number_of" ["tree", "digest"] (spNumber g)) (D_done : Def P w K mg base (CX P w) 26 "done" ["tree", "deeds"] (spDone K)) : Def P w K mg base CX0 27 "root_behind" ["root", "part", "deeds", "digest"] (spRootBehind g) := by
  refine n.mk0 sc_root_behind bind_root_behind (fun vs H Q E h => ?_) (fun cdv A outer s H vs Q E hr h => ?_)
  · obtain ⟨_, _, _, _, _, _, _, _, rfl, _⟩ := h
    rfl
  · obtain ⟨m, so, so', vp, row, a, xs, D, rfl, hv, hw, ha, hma, hx, hok, hlen, hrun, hT, hD, hcap, hn, q⟩ := h
    refine ⟨_, (pss_cons (ps_expr (pe_cd D_need_root (hr.mono (by omega)) (by rfl) (pa_cons (pv 0) (pa_cons (pv 1) (pa_cons (pv 3) pa_nil)))))
      (pss_one (ps_ret (pe_cd D_number_of (hr.mono (by omega)) (by rfl) (pa_cons (pe_cn D_done (hr.mono (by omega)) (by rfl) (pa_cons (pv 1) (pa_cons (pv 2) pa_nil))) (pa_cons (pv 3) pa_nil)))))), ?_⟩
    refine ⟨_, rfl, _, rfl, _, rfl, so, vp, D, m, rfl, hv, hw, hD, by omega, fun D1 H1 c1 c2 c3 c4 c5 => ⟨hn D1 c1 c5, ?_⟩⟩
    refine ⟨_, rfl, _, rfl, so, vp, row, a, xs, rfl, RepO.keep c4.keep hv, hw, c4.lst ha hma, hx.keep c4.keep, hok, hlen, c4.t hT, ?_⟩
    rw [hrun]
    intro v2 H2 g2 hv2
    refine ⟨_, rfl, so', v2, D1, rfl, hv2, wf_doRow hw hok hrun, g.keep0 c3 g2, by omega, fun D3 H3 d1 d2 d3 d4 d5 => ?_⟩
    exact q D3 H3 (c1.trans d1) (by omega) d3 (c4.trans (g2.any.trans d4)) d5
end
end Seal
namespace Seal
open PySem PySem.Spec PyProof.Rows L2 LamX NdefX
/-! ### sets of texts -/
def keyT (e : Int × Value) : Str := match e.2 with
  | .str z _ => z
  | _ => Str.empty
def GoodT (P : Program) (w : World) (e : Int × Value) : Prop := ∃ z t, e = (KeyKind.hash (mixKind P w) (.inr z), Value.str z t)
structure TabT (P : Program) (w : World) (es : Array (Int × Value)) (t : SetTable) (zs : List Str) : Prop where
  good : ∀ e ∈ es.toList, GoodT P w e
  nd : (es.toList.map keyT).Nodup
  mem : ∀ z, z ∈ es.toList.map keyT ↔ z ∈ zs
  len : es.size ≤ zs.length
  fit : t.fits es.size = true
  ris : Ris t.place.toList
  led : w.params.followText "set-order" = true ∨ t.led = true
def SetW (P : Program) (w : World) (h : Heap) (a : Addr) (zs : List Str) : Prop := ∃ o es ep t, h.get? a = some o ∧ o.ExactSet ∧ o.data = .set es ep t ∧ TabT P w es t zs
theorem sb100 {n : Nat} (h : n ≤ 1000) : n < scanBound := Nat.lt_of_le_of_lt h (by decide)
theorem goodT_elems {P : Program} {w : World} {es : List (Int × Value)} (h : ∀ e ∈ es, GoodT P w e) : ElemsOf (mixKind P w) es := by
  intro e he
  obtain ⟨z, t, rfl⟩ := h e he
  exact ⟨⟨.inr z, kV_is (P := P) (w := w) (k := .inr z) ⟨t, rfl⟩, rfl⟩, key_scan (k := .inr z) ⟨t, rfl⟩⟩
theorem is_T {P : Program} {w : World} {z : Str} {e : Int × Value} (h : GoodT P w e) : KeyKind.is (mixKind P w) (.inr z) e.2 = decide (keyT e = z) := by
  obtain ⟨y, t, rfl⟩ := h
  show (y == z) = decide (y = z)
  by_cases h : y = z
  · simp [h]
  · simp [h]
theorem setT_tail {P : Program} {w : World} {A : Around} {E : Value → Shared → Prop} {s : Shared} {a : Addr} {g : Bool → Sem Unit} (hg : ∀ (b : Bool) (s₁ : Shared) (Q' : Unit → Shared → Prop), Q' () s₁ → wpAny (model P w) A (g b) Q' E s₁)
    {o : Obj} {es : Array (Int × Value)} {ep : Nat} {t : SetTable} (ho : s.heap.get? a = some o) (hex : o.ExactSet) (hd : o.data = .set es ep t) {es1 : Array (Int × Value)} {t2 : SetTable} {zs : List Str} (T : TabT P w es1 t2 zs) (hz : zs.length ≤ 1000) {wasDummy : Bool} {R : Option Bool → Shared → Prop}
    (hR : ∀ h', Heap.SameBut a s.heap h' → SetW P w h' a zs → R (some true) { heap := h', gens := s.gens, drawn := s.drawn, toks := s.toks, os := s.os }) :
    wpAny (model P w) A (do
      storeSet a es1 t2
      if (!wasDummy && t2.tooFull) = true then do
          g (relayAll t2 es1 (SetTable.grown es1.size)).2.2
          storeSet a (relayAll t2 es1 (SetTable.grown es1.size)).1 (relayAll t2 es1 (SetTable.grown es1.size)).2.1
          pure (some true)
        else pure (some true)) R E s := by
  have hsb : es1.size ≤ sizeLine := sz (by have := T.len; omega)
  refine wpAny_bind (wpAny_storeSet_of ho hd ?_ hsb)
  have ho1 := PpSet.storeB_at (es' := es1) (t' := t2) ho hd
  have sb1 := Heap.SameBut.update s.heap a (Obj.putSet es1 t2)
  by_cases h : (!wasDummy && t2.tooFull) = true
  · rw [if_pos h]
    have pm := relayAll_perm t2 es1 (SetTable.grown es1.size)
    have hf3 := relayAll_fits t2 es1 (SetTable.grown es1.size)
    have hr3 := relayAll_ris t2 es1 (SetTable.grown es1.size)
    have hl3 := relayAll_led t2 es1 (SetTable.grown es1.size)
    have hsz : (relayAll t2 es1 (SetTable.grown es1.size)).1.size = es1.size := by
      rw [← Array.length_toList, pm.length_eq, Array.length_toList]
    refine wpAny_bind (hg _ _ _ (wpAny_bind (wpAny_storeSet_of ho1 rfl ?_ (by rw [hsz]; exact hsb))))
    have ho2 := PpSet.storeB_at (es' := (relayAll t2 es1 (SetTable.grown es1.size)).1) (t' := (relayAll t2 es1 (SetTable.grown es1.size)).2.1) ho1 rfl
    refine wpAny_pure (hR _ (sb1.trans (Heap.SameBut.update _ a _)) ⟨_, _, _, _, ho2, hex, rfl, ?_⟩)
    exact ⟨fun e he => T.good e (pm.mem_iff.mp he), (pm.map keyT).nodup_iff.mpr T.nd, fun z => (pm.map keyT).mem_iff.trans (T.mem z), by rw [hsz]; exact T.len, hf3, hr3, by rw [hl3]; exact T.led⟩
  · rw [if_neg h]
    exact wpAny_pure (hR _ sb1 ⟨_, _, _, _, ho1, hex, rfl, T⟩)
theorem setT_add {P : Program} {w : World} {A : Around} {E : Value → Shared → Prop} {s : Shared} {a : Addr} {zs : List Str} {z : Str} {tk : Tok} {Q : Bool → Shared → Prop} (R : SetW P w s.heap a zs) (hz : zs.length ≤ 900) (hQ : ∀ b h', Heap.SameBut a s.heap h' → SetW P w h' a (zs ++ [z]) → Q b { heap := h', gens := s.gens, drawn := s.drawn, toks := s.toks, os := s.os }) :
    wpAny (model P w) A (setAddHashed a (.str z tk) (KeyKind.hash (mixKind P w) (.inr z))) Q E s := by
  obtain ⟨o, es, ep, t, ho, hex, hd, T⟩ := R
  have hkey : KeyKind.is (mixKind P w) (.inr z) (.str z tk) = true := kV_is (k := .inr z) ⟨tk, rfl⟩
  have hsc : Value.scannable (.str z tk) = true := key_scan (k := .inr z) ⟨tk, rfl⟩
  have hel := goodT_elems T.good
  have hb : es.size < scanBound := sb100 (by have := T.len; omega)
  unfold setAddHashed
  rw [setAddHashedIn.eq_def]
  refine wpAny_holding (wpAny_bind (wpAny_setState_of ho hd T.fit ?_))
  simp only [byScan_of hsc hb hel, if_true]
  unfold setAddByScan
  refine wpAny_bind (wpAny_bind (wpAny_rule (wpAny_bind (wpAny_setScan_of hkey ho hd T.fit hel ?_))))
  cases hfi : es.toList.findIdx? (fun e => KeyKind.is (mixKind P w) (.inr z) e.2) with
  | some j =>
    simp only
    refine wpAny_pure (wpAny_pure (hQ _ _ (Heap.SameBut.refl _ _) ⟨o, es, ep, t, ho, hex, hd, ?_⟩))
    obtain ⟨hj, hp, _⟩ := List.findIdx?_eq_some_iff_getElem.mp hfi
    have hm := List.getElem_mem hj
    have hk : keyT es.toList[j] = z := by
      have := is_T (P := P) (w := w) (z := z) (T.good _ hm)
      rw [hp] at this
      exact of_decide_eq_true this.symm
    have hzz : z ∈ zs := (T.mem z).mp (hk ▸ List.mem_map_of_mem hm)
    exact ⟨T.good, T.nd, fun y => (T.mem y).trans (by simp; intro e; rw [e]; exact hzz), by have := T.len; simp; omega, T.fit, T.ris, T.led⟩
  | none =>
    simp only
    have hn : ∀ e ∈ es.toList, keyT e ≠ z := fun e he k => by
      have h1 := List.findIdx?_eq_none_iff.mp hfi e he
      have h2 := is_T (P := P) (w := w) (z := z) (T.good e he)
      rw [k, decide_eq_true rfl] at h2
      rw [h2] at h1
      cases h1
    have pm := layNew_perm t es (KeyKind.hash (mixKind P w) (.inr z)) (.str z tk)
    have hf1 := layNew_fits t es (KeyKind.hash (mixKind P w) (.inr z)) (.str z tk)
    have hr1 := layNew_ris t es (KeyKind.hash (mixKind P w) (.inr z)) (.str z tk) T.ris
    have hl1 := layNew_led t es (KeyKind.hash (mixKind P w) (.inr z)) (.str z tk)
    generalize layNew t es (KeyKind.hash (mixKind P w) (.inr z)) (.str z tk) = L at *
    obtain ⟨es1, t1, wasDummy, gave⟩ := L
    simp only at pm hf1 hr1 hl1 ⊢
    have pc : es1.toList.Perm ((KeyKind.hash (mixKind P w) (.inr z), Value.str z tk) :: es.toList) := by
      refine pm.trans ?_
      rw [Array.toList_push]
      exact List.perm_append_singleton _ _
    have hsz : es1.size = es.size + 1 := by rw [← Array.length_toList, pc.length_eq, List.length_cons, Array.length_toList]
    have hTab : ∀ t2 : SetTable, t2.fits es1.size = true → Ris t2.place.toList → t2.led = t1.led → TabT P w es1 t2 (zs ++ [z]) := fun t2 f2 r2 l2 =>
      ⟨fun e he => by
        rcases List.mem_cons.mp (pc.mem_iff.mp he) with rfl | he
        · exact ⟨z, tk, rfl⟩
        · exact T.good e he,
      (pc.map keyT).nodup_iff.mpr (List.nodup_cons.mpr ⟨fun h => by
        obtain ⟨e, he, hk⟩ := List.mem_map.mp h
        exact hn e he hk, T.nd⟩),
      fun y => (pc.map keyT).mem_iff.trans (by
        rw [List.map_cons, List.mem_cons, List.mem_append, T.mem y]
        show y = z ∨ y ∈ zs ↔ _
        simp [Or.comm]),
      by rw [hsz]; have := T.len; simp; omega, f2, r2, by rw [l2, hl1]; exact T.led⟩
    have hall : ∀ b : Bool, TabT P w es1 (if b = true then t1 else { mask := t1.mask, place := t1.place, dummies := t1.dummies, finger := t1.finger, led := t1.led, moves := t1.moves, plain := false }) (zs ++ [z]) := fun b => by
      cases b with
      | true => exact hTab t1 hf1 hr1 rfl
      | false => exact hTab _ hf1 hr1 rfl
    have hz1 : (zs ++ [z]).length ≤ 1000 := by simp; omega
    have fin : ∀ b : Bool, ∀ h', Heap.SameBut a s.heap h' → SetW P w h' a (zs ++ [z]) → Q b { heap := h', gens := s.gens, drawn := s.drawn, toks := s.toks, os := s.os } := hQ
    cases gave with
    | false =>
      refine wpAny_bind (wpAny_pure ?_)
      by_cases hpl : t1.plain = true
      · rw [if_pos hpl, hashByValue_scannable 8 hsc]
        refine wpAny_bind (wpAny_pure (setT_tail ?_ ho hex hd (hall _) hz1 fun h' sb r => wpAny_pure (fin _ h' sb r)))
        intro b s₁ Q' q
        cases b
        · exact wpAny_pure q
        · exact wpAny_rule q
      · rw [if_neg hpl]
        refine wpAny_bind (wpAny_pure (setT_tail ?_ ho hex hd (hall _) hz1 fun h' sb r => wpAny_pure (fin _ h' sb r)))
        intro b s₁ Q' q
        cases b
        · exact wpAny_pure q
        · exact wpAny_rule q
    | true =>
      refine wpAny_bind (wpAny_rule ?_)
      by_cases hpl : t1.plain = true
      · rw [if_pos hpl, hashByValue_scannable 8 hsc]
        refine wpAny_bind (wpAny_pure (setT_tail ?_ ho hex hd (hall _) hz1 fun h' sb r => wpAny_pure (fin _ h' sb r)))
        intro b s₁ Q' q
        cases b
        · exact wpAny_pure q
        · exact wpAny_rule q
      · rw [if_neg hpl]
        refine wpAny_bind (wpAny_pure (setT_tail ?_ ho hex hd (hall _) hz1 fun h' sb r => wpAny_pure (fin _ h' sb r)))
        intro b s₁ Q' q
        cases b
        · exact wpAny_pure q
        · exact wpAny_rule q
/-! ### {e for x in xs if t} -/
def SetTO (P : Program) (w : World) (a : Addr) (zs : List Str) : HO := .ext fun h => SetW P w h a zs
theorem setTO_ok {P : Program} {w : World} {H : Hp} {h : Heap} {a : Addr} {zs : List Str} (R : SetW P w h a zs) : ObjOk P w H h a (SetTO P w a zs) := by
  refine ⟨R, ?_, ?_⟩
  · obtain ⟨o, es, ep, t, ho, _⟩ := R
    exact ⟨o, ho⟩
  · rintro h1 h2 ⟨o, es, ep, t, ho, r⟩ k
    exact ⟨o, es, ep, t, k o ho, r⟩
theorem setT_fresh {P : Program} {w : World} {h : Heap} : SetW P w (h.push { cls := .type "set", data := .set #[] 0 (SetTable.fresh 0 0 !w.params.followText "set-order") }) h.objs.size [] := by
  refine ⟨_, #[], 0, _, Heap.get?_push_size _ rfl, ⟨rfl, rfl, rfl⟩, rfl, ⟨(fun e he => by simp at he), by simp, fun z => by simp, by simp, rfl, ?_, ?_⟩⟩
  · exact (PpSet.setB_fresh w (h := h)).choose_spec.choose_spec.choose_spec.choose_spec.2.2.2.2.2.2.2.2.2.1 |> fun _ => by
      show Ris []
      first | exact .nil | constructor | simp [Ris]
  · cases e : w.params.followText "set-order" with
    | true => exact .inl rfl
    | false => exact .inr (by simp [SetTable.fresh])
def tScT (P : Program) (w : World) (wi : TI) (g : TG) (tt : L2.TT) (te : TE) (vs : List Nat) : TE := fun σ H Q => wi σ H fun J H1 => ∀ D, H1 D = none → ∃ W : Nat → Nat → Hp → Prop, (∃ m, W 0 m (upd H1 D (SetTO P w D []))) ∧ ∀ i m H, W i m H → (J.stop i H ∧ Q (.ref D) H) ∨ (J.go i H ∧ ∃ Nx : Hp → Prop, (∀ H', Nx H' → ∃ m', m' < m ∧ W (i + 1) m' H') ∧ ∀ x H', J.yld i H x H' →
  g x (wipe σ vs) H' fun σ2 H2 => wipe σ2 vs = wipe σ vs ∧ tt σ2 H2 fun b H3 => if b = true then te σ2 H3 fun y H4 => ∃ z zs, y = .str z ∧ H4 D = some (SetTO P w D zs) ∧ zs.length ≤ 900 ∧ Nx (upd H4 D (SetTO P w D (zs ++ [z]))) else Nx H3)
theorem addT_ok {X : Cx} {pins : List (Addr × Obj)} {σ : L2.St} {H : Hp} {s : Shared} {E : Value → Shared → Prop} {D : Addr} {zs : List Str} {z : Str} {tk : Tok} {Q : Value → Shared → Prop} (I : L2.Inv X pins σ H s) (hD : H D = some (SetTO X.prog X.w D zs)) (hz : zs.length ≤ 900)
    (hQ : ∀ s', L2.Inv X pins σ (upd H D (SetTO X.prog X.w D (zs ++ [z]))) s' → Q .none s') : wpAny (model X.prog X.w) X.A (call (.builtin "set.add") [.ref D, .str z tk]) Q E s := by
  obtain ⟨hW, _, _⟩ := I.hok D _ hD
  obtain ⟨o, es, ep, t, ho, hex, hd, T⟩ := id hW
  have hty : s.TypeIs (.ref D) "set" := ⟨o, ho, hex.1⟩
  refine wpAny_call_entry F.slot_set_add hty F.entry_set_add ?_ (F.args_set_add_2 (.ref D) (.str z tk))
  show wpAny _ _ (Builtin.«set.add» { pos := [.ref D, .str z tk] }) _ _ _
  unfold Builtin.«set.add»
  have h1 : Builtin.Frozenset.oneOther "add" { pos := [.ref D, .str z tk] } = pure (D, .str z tk) := rfl
  rw [h1]
  refine wpAny_bind (wpAny_pure ?_)
  refine wpAny_bind (wpAny_holding (wpAny_bind (KeyKind.pyHash (mixKind X.prog X.w) (k := .inr z) (kV_is (k := .inr z) ⟨tk, rfl⟩) ?_)))
  refine setT_add hW hz fun b h' sb new => ?_
  refine wpAny_pure ⟨.none, rfl, hQ _ ?_⟩
  have hex' : ∃ u, h'.get? D = some u := by
    obtain ⟨o, es, ep, t, ho, _⟩ := new
    exact ⟨o, ho⟩
  refine I.write (t' := s.toks + 1) (by rw [hD]; exact True.intro) (.inl rfl) (fun b u hb hu => (sb.2 b hb).trans hu) hex' (setTO_ok new)
theorem scT_core {X : Cx} {pins : List (Addr × Obj)} {s : Shared} {σ : L2.St} {H : Hp} {Q : VK} {elt tg iter : Expr} {ifs : List Expr} {scope : Scope} {own : List (Str × Nat)} {pos pos' : Pos} {wi : TI} {g : TG} {tt : L2.TT} {te : TE} {use : Option (Value → Sem Unit)} {Qf : Value → Shared → Prop} (hc : X.calm = true) (hN : X.N.Nodup) (hi : PI X tg iter wi) (ok : BlkOk X.N X.env.scope scope own)
    (hg : ∀ (s : Shared) (H : Hp) (C : Addr) (cl : List (Str × Addr)) (fp : List Addr), PG (X.blk s H scope (compEnvC scope cl C X.env) fp) tg g)
    (ht : ∀ (s : Shared) (H : Hp) (C : Addr) (cl : List (Str × Addr)) (fp : List Addr), PTs (X.blk s H scope (compEnvC scope cl C X.env) fp) ifs tt)
    (he : ∀ (s : Shared) (H : Hp) (C : Addr) (cl : List (Str × Addr)) (fp : List Addr), PE (X.blk s H scope (compEnvC scope cl C X.env) fp) elt te)
    (hs : ∀ x, foldedSetIterable iter X.env x = pure x) (I : L2.Inv X pins σ H s) (h : tScT X.prog X.w wi g tt te (own.map (·.2)) σ H Q)
    (hRR : ∀ D C s' m H', L2.Inv X pins σ H' s' → Q (.ref D) H' → s'.heap.Ns C m → FpOk X pins H' C → compPost (model X.prog X.w) X.A X.xe use Qf (.ref D) C (.ok .next) s') :
    wpAny (model X.prog X.w) X.A (comprehension (.SetComp elt [⟨tg, iter, ifs, 0⟩] scope pos) scope X.env pos' (newSet (.type "set")) false (eval iter X.env) use) Qf X.xe s := by
  refine wpAny_comprehension_free (use := use) rfl hs (closure_ok fun y hy e => ?_) ok.kind (fun y hy e => by rw [ok.uniq y hy, e]) (thn (hi.run pins s σ H _ I h) fun xv s1 hx => thn hx fun itv s2 h2 => ?_)
  · rcases ok.free y hy e with h | h
    · exact I.ok.has _ (.inl h)
    · exact I.ok.has _ (.inr h)
  obtain ⟨it, fp, tn, J, H2, e, I2, T, st2, f2, q⟩ := h2
  subst e
  refine PpSet.newSet_ok (newEnv_comp ?_)
  generalize hD : s2.heap.objs.size = D
  have hDn : H2 D = none := I2.hok.fresh (Nat.le_of_eq hD)
  obtain ⟨W, ⟨m0, w0⟩, turn⟩ := q D hDn
  generalize hs3 : ({ s2 with heap := s2.heap.push { cls := .type "set", data := .set #[] 0 (SetTable.fresh 0 0 !X.w.params.followText "set-order") } } : Shared) = s3
  have h3 : s3.heap = s2.heap.push { cls := .type "set", data := .set #[] 0 (SetTable.fresh 0 0 !X.w.params.followText "set-order") } := by rw [← hs3]
  have I3 : L2.Inv X pins σ (upd H2 D (SetTO X.prog X.w D [])) s3 := by
    rw [← hs3]
    refine I2.laid (t' := s2.toks) (fun b o e => Heap.get?_push_of_some _ e) (Nat.le_of_eq hD) ?_
    rw [← hD]
    exact setTO_ok setT_fresh
  have sz : ∀ b ∈ fp, b < s2.heap.objs.size := fun b hb => by
    obtain ⟨o, e, _⟩ := T.obj _ _ st2 b hb
    exact Heap.lt_size e
  have f3 : ∀ b ∈ fp, FpOk X pins (upd H2 D (SetTO X.prog X.w D [])) b ∧ b < s3.heap.objs.size := fun b hb => by
    have hlt := sz b hb
    refine ⟨⟨?_, (f2 b hb).2⟩, by rw [h3, Heap.size_push]; exact Nat.lt_succ_of_lt hlt⟩
    rw [upd_ne (by rw [← hD]; exact Nat.ne_of_lt hlt)]
    exact (f2 b hb).1
  have st3 : tn 0 s3.heap := T.keep _ _ _ st2 fun b _ o e => by rw [h3]; exact Heap.get?_push_of_some _ e
  have I4 := block_start I3 ok hN f3
  generalize hcl : cellsFrom (s3.heap.objs.size + 1) scope.names (cloFrom X.env.cells scope.names []) = cl at I4
  have pg := hg s3 (upd H2 D (SetTO X.prog X.w D [])) s3.heap.objs.size cl fp
  have pt := ht s3 (upd H2 D (SetTO X.prog X.w D [])) s3.heap.objs.size cl fp
  have pe := he s3 (upd H2 D (SetTO X.prog X.w D [])) s3.heap.objs.size cl fp
  show codeAny _ _ (.compStart (.SetComp elt [⟨tg, iter, ifs, 0⟩] scope pos) 0 (.ref it) (.ref D) (compEnvC scope cl s3.heap.objs.size X.env)) (compPost (model X.prog X.w) X.A X.xe use Qf (.ref D) s3.heap.objs.size) { s3 with heap := pushCells (s3.heap.push { cls := .type "dict", data := .dict #[] }) scope.names }
  have nfp : ∀ b ∈ fp, (upd H2 D (SetTO X.prog X.w D [])) b = none := fun b hb => (f3 b hb).1.1
  generalize hce : compEnvC scope cl s3.heap.objs.size X.env = ce at I4 pg pt pe ⊢
  have cL : ce.locals = s3.heap.objs.size := by subst hce; rfl
  generalize hH3 : upd H2 D (SetTO X.prog X.w D []) = H3 at I3 I4 pg pt pe w0 nfp f3
  generalize hs4 : ({ s3 with heap := pushCells (s3.heap.push { cls := .type "dict", data := .dict #[] }) scope.names } : Shared) = s4 at I4 ⊢
  have st4 : tn 0 s4.heap := T.keep _ _ _ st3 fun b _ o e => by rw [← hs4]; exact pushCells_keeps _ _ _ _ (Heap.get?_push_of_some _ e)
  have stat : ∀ {σ' : L2.St} {H' : Hp} {s' : Shared}, L2.Inv (X.blk s3 H3 scope ce fp) [] σ' H' s' → (∀ b ∈ fp, H' b = none) → ∀ b ∈ fp, FpOk (X.blk s3 H3 scope ce fp) [] H' b := fun {σ' H' s'} I' hn b hb =>
    ⟨hn b hb, (I'.ok.exf b hb).1, I'.ok.exfs b hb, .inl hb, fun x c e => (I'.ok.exf b hb).2 x c e, fun p hp => absurd (show p ∈ ([] : List (Addr × Obj)) ++ [] from hp) (by simp)⟩
  have loop : codeAny (model X.prog X.w) X.A (.compLoop (.SetComp elt [⟨tg, iter, ifs, 0⟩] scope pos) 0 (.ref it) (.ref D) ce) (compPost (model X.prog X.w) X.A X.xe use Qf (.ref D) s3.heap.objs.size) s4 := by
    refine PpSet.compLoopS_any (fun n s' => ∃ i H', L2.Inv (X.blk s3 H3 scope ce fp) [] (wipe σ (own.map (·.2))) H' s' ∧ tn i s'.heap ∧ (∀ b ∈ fp, H' b = none) ∧ W i n H') ?_ m0 ⟨0, H3, I4, st4, nfp, w0⟩
    rintro n s5 ⟨i, H5, I5, st5, n5, w5⟩
    rcases turn i n H5 w5 with ⟨stop, qq⟩ | ⟨go, Nx, hNx, step⟩
    · have td := T.done (X.blk s3 H3 scope ce fp) rfl rfl rfl hc i [] s5 _ H5 (fun _ _ => False) I5 (stat I5 n5) st5 stop
      refine thnF td fun r s6 ⟨hr, I6⟩ => ?_
      subst hr
      have I7 : L2.Inv X pins σ H5 s6 := I3.call' (ch := fp) I6.os I6.base I6.hok I6.bare fun b hb => ⟨(f3 b hb).1.2.2.2.1, (f3 b hb).1.2.1, (f3 b hb).1.2.2.2.2.1, (f3 b hb).1.2.2.2.2.2⟩
      have nC : H5 s3.heap.objs.size = none := by
        have z : H5 ce.locals = none := I6.free
        rw [cL] at z
        exact z
      obtain ⟨m, hn, _⟩ := I6.loc
      have hn : s6.heap.Ns ce.locals m := hn
      rw [cL] at hn
      exact hRR D s3.heap.objs.size s6 m H5 I7 qq hn (I3.fpOk (Nat.le_refl _) nC)
    · have ti := T.item (X.blk s3 H3 scope ce fp) rfl rfl rfl hc i [] s5 _ H5 (fun _ _ => False) I5 (stat I5 n5) st5 go
      refine thnF ti fun r s6 ⟨u, hr, h6⟩ => ?_
      subst hr
      refine thnF h6 fun _ s7 ⟨x, H7, I7, r7, y7, st7, n7⟩ => ?_
      have I7' := I7.pinned (stat I7 n7) (T.obj _ _ st7)
      refine thnF (pg.run _ s7 _ H7 x u _ I7' r7 (step x H7 y7)) fun _ s8 ⟨σ8, H8, I8, hw8, q8⟩ => ?_
      refine thnF (pt.run _ s8 σ8 H8 _ I8 q8) fun b s9 ⟨H9, I9, q9⟩ => ?_
      have fin : ∀ {s' : Shared} {H' : Hp}, L2.Inv (X.blk s3 H3 scope ce fp) ([] ++ pinsAt fp s7.heap) σ8 H' s' → Nx H' → ∃ m, m < n ∧ ∃ i H', L2.Inv (X.blk s3 H3 scope ce fp) [] (wipe σ (own.map (·.2))) H' s' ∧ tn i s'.heap ∧ (∀ b ∈ fp, H' b = none) ∧ W i m H' := fun {s' H'} I' nx => by
        obtain ⟨m', hm, w'⟩ := hNx H' nx
        have pin' : ∀ b ∈ fp, ∀ o, s7.heap.get? b = some o → s'.heap.get? b = some o ∧ H' b = none := fun b hb o e =>
          let z := I'.pin (b, o) (List.mem_append_right _ (List.mem_append_right _ (mem_pinsAt hb e)))
          ⟨z.1, z.2.1⟩
        have hl : (wipe σ (own.map (·.2))).length = σ8.length := by rw [← hw8, wipe_length]
        refine ⟨m', hm, i + 1, H', (I'.unpinned (pins := [])).weak hl (fun j v e => ?_), T.keep _ _ _ st7 fun b hb o e => (pin' b hb o e).1, fun b hb => ?_, w'⟩
        · rw [← hw8] at e
          exact (wipe_some e).1
        · obtain ⟨o, e, _⟩ := T.obj _ _ st7 b hb
          exact (pin' b hb o e).2
      cases b with
      | false =>
        simp only [Bool.false_eq_true, if_false] at q9 ⊢
        exact fin I9 q9
      | true =>
        simp only [if_true] at q9 ⊢
        refine thnF (pe.run _ s9 σ8 H9 _ I9 q9) fun z s10 ⟨yv, H10, I10, r10, zt, zs, ey, hD10, hz10, nx⟩ => ?_
        subst ey
        obtain ⟨tk, hz⟩ := (show ∃ tk, z = Value.str zt tk from r10)
        subst hz
        exact addT_ok (X := X.blk s3 H3 scope ce fp) I10 hD10 hz10 fun s11 I11 => fin I11 nx
  exact PpSet.codeAny_compStart_set loop (T.self X.A 0 _ _ _ st4 loop)
theorem pe_scT {X : Cx} {elt tg iter : Expr} {ifs : List Expr} {scope : Scope} {own : List (Str × Nat)} {pos : Pos} {wi : TI} {g : TG} {tt : L2.TT} {te : TE} (hc : X.calm = true) (hN : X.N.Nodup) (hi : PI X tg iter wi) (ok : BlkOk X.N X.env.scope scope own)
    (hg : ∀ (s : Shared) (H : Hp) (C : Addr) (cl : List (Str × Addr)) (fp : List Addr), PG (X.blk s H scope (compEnvC scope cl C X.env) fp) tg g)
    (ht : ∀ (s : Shared) (H : Hp) (C : Addr) (cl : List (Str × Addr)) (fp : List Addr), PTs (X.blk s H scope (compEnvC scope cl C X.env) fp) ifs tt)
    (he : ∀ (s : Shared) (H : Hp) (C : Addr) (cl : List (Str × Addr)) (fp : List Addr), PE (X.blk s H scope (compEnvC scope cl C X.env) fp) elt te)
    (hs : ∀ x, foldedSetIterable iter X.env x = pure x := by intro _; rfl) :
    PE X (.SetComp elt [⟨tg, iter, ifs, 0⟩] scope pos) (tScT X.prog X.w wi g tt te (own.map (·.2))) := by
  refine ⟨fun pins s σ H Q I h => ?_⟩
  rw [PpSet.eval_SetComp]
  refine scT_core hc hN hi ok hg ht he hs I h fun D C s' m H' I' q hn f => ⟨m, hn, fun h'' sb => ?_⟩
  obtain ⟨f0, f1, f2, f3, f4, f5⟩ := f
  exact ⟨.ref D, H', I'.turned (t' := s'.toks) (fun b o hb e => (sb.2 b hb).trans e) f0 f1 f3 f4 f5, rfl, q⟩
end Seal
namespace Seal
open PySem PySem.Spec PyProof.Rows L2 LamX NdefX
/-! ### sorted(set of texts) -/
theorem strs_of_good {P : Program} {w : World} : ∀ (vs : List Value), (∀ v ∈ vs, ∃ z t, v = Value.str z t) → ∃ ys, StrsAre vs ys ∧ ys = vs.map (fun v => keyT (0, v))
  | [], _ => ⟨[], .nil, rfl⟩
  | v :: vs, h => by
    obtain ⟨z, t, rfl⟩ := h v (List.mem_cons_self)
    obtain ⟨ys, a, b⟩ := strs_of_good (P := P) (w := w) vs fun u hu => h u (List.mem_cons_of_mem _ hu)
    exact ⟨z :: ys, .cons z t a, by rw [b]; rfl⟩
theorem sorted_setW {P : Program} {w : World} {A : Around} {E : Value → Shared → Prop} {s : Shared} {a : Addr} {zs : List Str} {Q : Value → Shared → Prop} (R : SetW P w s.heap a zs) (hh : A.handled = none) (h64 : ∀ ys : List Str, ys.Nodup → (∀ z, z ∈ ys ↔ z ∈ zs) → ys.length < 64) (hz : zs.length ≤ 1000)
    (hQ : ∀ s' p (out : Array Value) (c : Nat) (ys : List Str), (∀ b o, s.heap.get? b = some o → s'.heap.get? b = some o) → s'.gens = s.gens → s'.os = s.os → s.heap.objs.size ≤ p →
      s'.heap.get? p = some (seqObj "list" out c) → StrsAre out.toList ys → sortedS ys = true → ys.Nodup → (∀ z, z ∈ ys ↔ z ∈ zs) → Q (.ref p) s') :
    wpAny (model P w) A (call (.builtin "sorted") [.ref a]) Q E s := by
  obtain ⟨o, es, ep, t, ho, hex, hd, T⟩ := R
  refine Calls.call_function_entry kind_sorted plain_sorted entry_sorted (args_sorted1 _) ?_
  unfold Builtin.«sorted»
  refine wpAny_bind (m := checkCount "sorted" 1 1 _) (wpAny_pure ?_)
  refine wpAny_bind (L2.collect_set (A := A.in1) hh ⟨o, ho, hex.1, hd⟩ T.fit (sb100 (by have := T.len; omega)) T.ris T.led fun s1 vs k1 hz1 g1 o1 pm => ?_)
  obtain ⟨ys, hS, hys⟩ := strs_of_good (P := P) (w := w) vs fun v hv => by
    obtain ⟨e, he, q⟩ := List.mem_map.mp (pm.mem_iff.mp hv)
    obtain ⟨z, t, rfl⟩ := T.good e he
    exact ⟨z, t, q.symm⟩
  have pk : ys.Perm (es.toList.map keyT) := by
    have q := pm.map fun v => keyT (0, v)
    rw [List.map_map] at q
    rw [hys]
    exact q
  have hnd : ys.Nodup := pk.nodup_iff.mpr T.nd
  have hmem : ∀ z, z ∈ ys ↔ z ∈ zs := fun z => pk.mem_iff.trans (T.mem z)
  have hvl : vs.length < 64 := by
    have := h64 ys hnd hmem
    rw [hys, List.length_map] at this
    exact this
  refine wpAny_bind (wpAny_newList ?_ (by rw [sizeLine_eq]; omega))
  have hoL : (s1.heap.push (seqObj "list" vs.toArray 0)).get? s1.heap.objs.size = some (seqObj "list" vs.toArray 0) := Heap.get?_push_size _ rfl
  refine wpAny_bind (wpAny_holding (wpAny_call_entry slot_list_sort ⟨_, hoL, rfl⟩ entry_list_sort (list_sort_treeK strKind_oneLt hoL hS.keysOf (fun v₁ v₂ rest e => keyKind_strs (by rw [← e]; exact hS)) hvl fun st' hp hs => ⟨_, rfl, ?_⟩) (args_list_sort _)))
  obtain ⟨zs', a1, a2, a3⟩ := sorted_out_str hS hp hs
  obtain ⟨c, hc⟩ := sortedHeap_at (vs := vs) (out := (arrOf st').map (·.2)) hoL
  refine wpAny_pure ⟨_, rfl, hQ _ s1.heap.objs.size ((arrOf st').map (·.2)) c zs' (fun b u e => ?_) g1 o1 hz1 hc a1 a3 (a2.nodup_iff.mpr hnd) (fun k => a2.mem_iff.trans (hmem k))⟩
  have q := k1 b u e
  have hlt := Heap.lt_size q
  show (sortedHeap (s1.heap.push (seqObj "list" vs.toArray 0)) s1.heap.objs.size vs ((arrOf st').map (·.2))).get? b = some u
  rw [sortedHeap_old (Nat.ne_of_lt hlt) (by rw [size_push']; exact Nat.lt_succ_of_lt hlt)]
  exact Heap.get?_push_of_some _ q
def rSortedST (P : Program) (w : World) : List V → Hp → VK → Prop := fun vs H Q => ∃ (a : Addr) (zs : List Str), vs = [V.ref a] ∧ H a = some (SetTO P w a zs) ∧ zs.length ≤ 1000 ∧ (∀ ys : List Str, ys.Nodup → (∀ z, z ∈ ys ↔ z ∈ zs) → ys.length < 64) ∧
  ∀ (ys : List Str) (p : Addr), sortedS ys = true → ys.Nodup → (∀ z, z ∈ ys ↔ z ∈ zs) → H p = none → Q (.ref p) (upd H p (.lst (ys.map V.str)))
theorem cr_sortedST {X : Cx} (hc : X.calm = true) : CallR X (.builtin "sorted") (rSortedST X.prog X.w) := by
  intro pins s σ H vs us Q I r h
  obtain ⟨a, zs, rfl, ha, hz, h64, q⟩ := h
  obtain ⟨R, _, _⟩ := I.hok a _ ha
  rw [Vals.ref1 r]
  refine sorted_setW R (I.ok.hd hc) h64 hz fun s' p out c ys k g o hp hg hi hs hnd hm => ?_
  have hlen : (ys.map V.str).length ≤ sizeLine := by rw [List.length_map, sizeLine_eq]; have := h64 ys hnd hm; omega
  have hn : H p = none := I.hok.fresh hp
  have J : L2.Inv X pins σ (upd H p (.lst (ys.map V.str))) { s with heap := s'.heap, gens := s'.gens, drawn := s'.drawn, toks := s'.toks } :=
    I.call (ch := []) (Un.laid k hp hn) (I.hok.laid k hp ⟨hlen, out.toList, c, vals_of_strs hi, hg⟩) (by rw [g]; exact I.bare) (fun _ z => nomatch z)
  have e : s' = { s with heap := s'.heap, gens := s'.gens, drawn := s'.drawn, toks := s'.toks } := by
    cases s'
    cases s
    cases o
    rfl
  rw [e]
  exact ⟨.ref p, _, J, rfl, q ys p hs hnd hm hn⟩
/-! ### set(list of texts) -/
theorem SetW.keep {P : Program} {w : World} {h h' : Heap} {a : Addr} {zs : List Str} (R : SetW P w h a zs) (k : ∀ o, h.get? a = some o → h'.get? a = some o) : SetW P w h' a zs := by
  obtain ⟨o, es, ep, t, ho, r⟩ := R
  exact ⟨o, es, ep, t, k o ho, r⟩
section
variable {P : Program} {w : World} {A : Around} {E : Value → Shared → Prop} {s : Shared}
theorem set_update_strs {I : Addr} {fp wr : List Addr} {G : Array GenState → Array GenState → Prop} {n : Nat} {Pv : Nat → Value → Prop} {St : Nat → Shared → Prop} {R : Result → Shared → Prop}
    (W : WalksS P w A.in1 I fp wr G n Pv St) (S : Addr) (hSf : S ∉ fp) (xs : List Str) (hn : n = xs.length) (hfew : xs.length ≤ 900) (hval : ∀ i v, Pv i v → ∃ z t, xs[i]? = some z ∧ v = .str z t) :
    ∀ (k i : Nat) (s : Shared), n - i = k → i ≤ n → St i s → SetW P w s.heap S (xs.take i) →
      (∀ s', Moved (S :: wr) G s s' → SetW P w s'.heap S xs → R (.ok (.ret .none)) s') →
      codeAny (model P w) A (.builtin "set.update.loop" ⟨[.ref S, .ref I], []⟩) R s := by
  have hSw : S ∉ wr := fun h => hSf (W.sub _ h)
  have hsub : ∀ b ∈ wr, b ∈ S :: wr := fun b hb => List.mem_cons_of_mem _ hb
  intro k
  induction k with
  | zero =>
    intro i s hk' hi hst hS hR
    have hin : i = n := by omega
    subst hin
    refine codeAny_builtin F.entry_set_update_loop ?_
    rw [Around.under_plainId F.plain_set_update_loop _]
    show wpAny _ A.in1 (pyNext (.ref I) >>= _) _ _ s
    refine wpAny_bind (W.done s _ _ hst fun s' hm => ?_)
    show wpAny _ A.in1 (ret Value.none) _ _ s'
    rw [hn, List.take_length] at hS
    exact wpAny_pure (hR s' (hm.mono hsub) (hS.keep fun o e => hm.heap S o hSw e))
  | succ k ih =>
    intro i s hk' hi hst hS hR
    have hlt : i < n := by omega
    refine codeAny_builtin F.entry_set_update_loop ?_
    rw [Around.under_plainId F.plain_set_update_loop _]
    show wpAny _ A.in1 (pyNext (.ref I) >>= _) _ _ s
    refine wpAny_bind (W.item i s _ _ hlt hst fun v s' hP hst' hm => ?_)
    obtain ⟨z, t, hz, rfl⟩ := hval i v hP
    have hS' : SetW P w s'.heap S (xs.take i) := hS.keep fun o e => hm.heap S o hSw e
    show wpAny _ A.in1 (holding [Value.str z t] (setAdd S (.str z t)) >>= _) _ _ s'
    refine wpAny_bind (wpAny_holding ?_)
    unfold setAdd
    refine wpAny_holding ?_
    refine wpAny_bind (KeyKind.pyHash (mixKind P w) (k := .inr z) (kV_is (k := .inr z) ⟨t, rfl⟩) ?_)
    refine setT_add (s := { s' with toks := s'.toks + 1 }) hS' (by rw [List.length_take]; omega) fun b h' hsb hS2 => ?_
    have et : xs.take i ++ [z] = xs.take (i + 1) := by rw [List.take_add_one, hz]; rfl
    rw [et] at hS2
    refine wpAny_pure ⟨plainId_quiet F.plain_set_update_loop _, ih (i + 1) _ (by omega) hlt (W.frame _ s' _ _ hst' (Nat.le_succ _) fun b hb o e => ?_) hS2 fun s'' hm'' hS'' => ?_⟩
    · rw [hsb.2 b (fun h : b = S => hSf (by rw [← h]; exact hb))]; exact e
    · refine hR s'' (Moved.trans W.gtrans ((hm.mono hsub).then_heap (Nat.le_succ _) fun b o hb e => ?_) hm'') hS''
      rw [hsb.2 b (fun h : b = S => hb (by rw [h]; exact List.mem_cons_self))]; exact e
theorem call_set_strs {l : Addr} {items : Array Value} {xs : List Str} {Q : Value → Shared → Prop} (hh : A.handled = none) (hl : s.heap.IsList l items) (hit : StrsAre items.toList xs) (hfew : xs.length ≤ 900)
    (h : ∀ (h' : Heap) (tk : Nat), SetW P w h' s.heap.objs.size xs → (∀ b o, s.heap.get? b = some o → h'.get? b = some o) → Q (.ref s.heap.objs.size) { s with heap := h', toks := tk }) :
    wpAny (model P w) A (call (.type "set") [.ref l]) Q E s := by
  have hisz : items.size = xs.length := by
    rw [← Array.length_toList]
    exact hit.length
  obtain ⟨c, tl, hmro⟩ := F.called_set.mro
  have hmade := F.called_set.made
  have hsub := F.called_set.sub
  refine wpAny_call (codeAny_of_tree ?_)
  show wpAny _ _ (callAny (.type "set") _) _ _ _
  refine wpAny_pure ⟨Code.quiet_builtin _ (by decide +kernel), codeAny_builtin F.entry_type_call ?_⟩
  rw [Around.under_plain (weight_type_call_type "set" [.ref l] []) rfl]
  have h1 := F.called_set.notType
  have h2 := F.called_set.canCreate
  have hct := F.typeCall_set_1 (.ref l)
  repeat (any_goals (first | assumption | wp_step))
  refine codeAny_mono (code_set_led1 (.ref l) (E := E) (Q₁ := fun obj s₁ => obj = .ref s.heap.objs.size ∧ s₁ = { s with heap := s.heap.push { cls := .type "set", dict := none, data := .set #[] 0 (.fresh 0 0 (!w.params.followText "set-order")) } }) ⟨rfl, rfl⟩) fun r s₁ hr => ?_
  cases r with
  | error e => exact hr
  | ok fl =>
    cases fl with
    | ret obj =>
      obtain ⟨rfl, rfl⟩ := hr
      have hS : (s.heap.push { cls := .type "set", dict := none, data := .set #[] 0 (.fresh 0 0 (!w.params.followText "set-order")) }).get? s.heap.objs.size = some { cls := .type "set", dict := none, data := .set #[] 0 (.fresh 0 0 (!w.params.followText "set-order")) } := Heap.get?_push_size _ rfl
      have hT : Shared.TypeIs { s with heap := s.heap.push { cls := .type "set", dict := none, data := .set #[] 0 (.fresh 0 0 (!w.params.followText "set-order")) } } (.ref s.heap.objs.size) "set" := ⟨_, hS, rfl⟩
      have hli := F.called_set.init.lookup
      have hbi := F.called_set.init.bind (.ref s.heap.objs.size)
      repeat (any_goals (first | assumption | wp_step))
      refine codeAny_mono (codeAny_call_builtin (R := wants (fun r s₂ => r = .none ∧ ∃ h' tk, s₂ = { s with heap := h', toks := tk } ∧ SetW P w h' s.heap.objs.size xs ∧
          (∀ b o, s.heap.get? b = some o → h'.get? b = some o)) E) F.called_set.init.plain F.entry_set_init (check_set_init_1 hT ?_)) fun r₂ s₂ hr₂ => ?_
      · obtain ⟨ol, hol, hcl, nl, hdl⟩ := hl
        obtain ⟨ocls, odict, odata, oslots⟩ := ol
        simp only at hcl hdl
        subst hcl; subst hdl
        have hol' : (s.heap.push { cls := .type "set", dict := none, data := .set #[] 0 (.fresh 0 0 (!w.params.followText "set-order")) }).get? l = some { cls := .type "list", dict := odict, data := .seq items nl, slots := oslots } := Heap.get?_push_of_some _ hol
        have hsls := F.sub_list_set
        have hslf := F.sub_list_frozenset
        have hne : (Value.type "list" == Value.type "dict") = false := by decide
        have hl1 : (s.heap.push { cls := .type "set", dict := none, data := .set #[] 0 (.fresh 0 0 (!w.params.followText "set-order")) }).IsList l items := ⟨_, hol', rfl, nl, rfl⟩
        unfold Builtin.«set.__init__» noKeywords Builtin.Frozenset.updateFrom
        generalize hPI : pyIter = PI
        wp_walk
        subst hPI
        refine wpAny_pyIter_list hl1 ?_
        refine wpAny_bind (wpAny_runValue ?_)
        have hlS : l < s.heap.objs.size := Heap.lt_size hol
        have hh3 : A.in1.in1.in1.handled = none := by simp [hh]
        have hneI : l ≠ (s.heap.push { cls := .type "set", dict := none, data := .set #[] 0 (.fresh 0 0 (!w.params.followText "set-order")) }).objs.size := by
          rw [Heap.size_push]; exact Nat.ne_of_lt (Nat.lt_succ_of_lt hlS)
        have hSf : s.heap.objs.size ∉ [(s.heap.push { cls := .type "set", dict := none, data := .set #[] 0 (.fresh 0 0 (!w.params.followText "set-order")) }).objs.size, l] := by
          rw [Heap.size_push]; simp only [List.mem_cons, List.mem_singleton, List.not_mem_nil, or_false, not_or]
          exact ⟨Nat.ne_of_lt (Nat.lt_succ_self _), Nat.ne_of_gt hlS⟩
        have hval : ∀ (i : Nat) (v : Value), items[i]? = some v → ∃ z t, xs[i]? = some z ∧ v = .str z t := fun i v hv => by
          have q : items.toList[i]? = some v := by rw [Array.getElem?_toList]; exact hv
          obtain ⟨t, e⟩ := SS.strs_at hit i v q
          have hlt : i < xs.length := by
            rw [← hisz]
            exact (Array.getElem?_eq_some_iff.mp hv).1
          exact ⟨_, t, by rw [List.getD_eq_getElem?_getD, List.getElem?_eq_getElem hlt]; rfl, e⟩
        have none_of : ∀ b, s.heap.objs.size ≤ b → s.heap.get? b = none := fun b hb => by
          cases q : s.heap.get? b with
          | none => rfl
          | some o => exact absurd (Nat.lt_of_lt_of_le (Heap.lt_size q) hb) (Nat.lt_irrefl _)
        refine set_update_strs ((Walks.list hh3 _ l hneI items).toS) s.heap.objs.size hSf xs hisz hfew hval (items.size - 0) 0 _ (by omega) (Nat.zero_le _)
          ⟨⟨_, Heap.get?_push_size _ rfl, rfl, rfl⟩, (hl1.push _)⟩ ?hS0 ?hR
        case hS0 =>
          exact (setT_fresh (P := P) (w := w) (h := s.heap)).keep fun o e => Heap.get?_push_of_some _ e
        case hR =>
          intro s' hm hS'
          obtain ⟨h', g2, d', tk', os'⟩ := s'
          have eg : g2 = s.gens := hm.gens
          have ed : d' = s.drawn := hm.drawn
          have eo : os' = s.os := hm.os
          subst eg; subst ed; subst eo
          show wpAny _ _ _ _ _ _
          refine wpAny_pure ?_
          show wpAny _ _ (ret Value.none) _ _ _
          refine wpAny_pure ⟨rfl, h', tk', rfl, hS', fun b o e => ?_⟩
          have hb := Heap.lt_size e
          refine hm.heap b o ?_ (Heap.get?_push_of_some _ (Heap.get?_push_of_some _ e))
          simp only [List.mem_cons, List.mem_singleton, List.not_mem_nil, or_false, not_or, Heap.size_push]
          exact ⟨Nat.ne_of_lt hb, Nat.ne_of_lt (Nat.lt_succ_of_lt hb)⟩
      · cases r₂ with
        | error e => exact hr₂
        | ok fl₂ =>
          cases fl₂ with
          | ret r =>
            obtain ⟨rfl, h', tk, rfl, hS', hk'⟩ := hr₂
            repeat (any_goals (first | assumption | wp_step))
            exact h _ _ hS' hk'
          | _ => exact hr₂.elim
    | _ => exact hr.elim
end
def rSetOfS (K : PySem.W.Frag) (P : Program) (w : World) : List V → Hp → VK → Prop := fun xs H Q => ∃ (l : Addr) (zs : List Str), xs = [V.ref l] ∧ SqL K H l (zs.map V.str) ∧ zs.length ≤ 900 ∧ ∀ a, H a = none → Q (.ref a) (upd H a (SetTO P w a zs))
theorem cr_setOfS {X : Cx} (hc : X.calm = true) : CallR X (.type "set") (rSetOfS X.K X.prog X.w) := by
  intro pins s σ H xs us Q I r h
  obtain ⟨l, zs, rfl, hl, hf, q⟩ := h
  rw [Vals.ref1 r]
  obtain ⟨its, rv, pl, hz⟩ := I.list hl
  have hn : H s.heap.objs.size = none := I.hok.fresh (Nat.le_refl _)
  refine call_set_strs (P := X.prog) (w := X.w) (I.ok.hd hc) pl.isList (by simpa using strsAre_of rv) hf fun h' tk R k => ?_
  exact ⟨.ref s.heap.objs.size, upd H s.heap.objs.size (SetTO X.prog X.w s.heap.objs.size zs), I.laid (t' := tk) k (Nat.le_refl _) (setTO_ok R), rfl, q _ hn⟩
end Seal
namespace Seal
open PySem PySem.Spec PyProof.Rows L2 LamX NdefX
/-! ### contents as rows -/
def cn (rows : List (W × W)) : W → Option W := fun k => (rows.find? fun r => decide (r.1 = k)).map (·.2)
def KeysN (rows : List (W × W)) : Prop := (rows.map (·.1)).Nodup
theorem cn_nil {k : W} : cn [] k = none := rfl
theorem cn_cons {r : W × W} {rows : List (W × W)} {k : W} : cn (r :: rows) k = if r.1 = k then some r.2 else cn rows k := by
  unfold cn
  rw [List.find?_cons]
  by_cases h : r.1 = k
  · simp [h]
  · simp [h]
theorem cn_mem {rows : List (W × W)} {k x : W} (h : cn rows k = some x) : (k, x) ∈ rows := by
  induction rows with
  | nil => rw [cn_nil] at h; cases h
  | cons r rows ih =>
    rw [cn_cons] at h
    by_cases e : r.1 = k
    · rw [if_pos e] at h
      cases h
      rw [← e]
      exact List.mem_cons_self
    · rw [if_neg e] at h
      exact List.mem_cons_of_mem _ (ih h)
theorem cn_of_mem {rows : List (W × W)} (n : KeysN rows) {k x : W} (h : (k, x) ∈ rows) : cn rows k = some x := by
  induction rows with
  | nil => cases h
  | cons r rows ih =>
    obtain ⟨n1, n2⟩ := List.nodup_cons.mp n
    rw [cn_cons]
    rcases List.mem_cons.mp h with e | h'
    · rw [← e, if_pos rfl]
    · rw [if_neg fun e => n1 (by show r.1 ∈ _; rw [e]; exact List.mem_map_of_mem (f := (·.1)) h')]
      exact ih n2 h'
theorem cn_none {rows : List (W × W)} {k : W} : cn rows k = none ↔ ∀ x, (k, x) ∉ rows := by
  induction rows with
  | nil => simp [cn_nil]
  | cons r rows ih =>
    rw [cn_cons]
    by_cases e : r.1 = k
    · rw [if_pos e]
      simp only [reduceCtorEq, false_iff]
      intro h
      exact h r.2 (by rw [← e]; exact List.mem_cons_self)
    · rw [if_neg e, ih]
      constructor
      · intro h x hx
        rcases List.mem_cons.mp hx with e' | hx
        · exact e (by rw [← e'])
        · exact h x hx
      · exact fun h x hx => h x (List.mem_cons_of_mem _ hx)
/-- the rows as a dict's -/
def dkv (rows : List (W × W)) : List (Key × V) := rows.map fun r => (Sum.inr (S r.1), V.str (S r.2))
theorem dkv_keys (rows : List (W × W)) : (dkv rows).map Prod.fst = (rows.map fun r => S r.1).map Sum.inr := by
  unfold dkv
  rw [List.map_map, List.map_map]
  rfl
theorem valV_dkv {rows : List (W × W)} {k : W} : valV (dkv rows) (Sum.inr (S k)) = (cn rows k).map fun x => V.str (S x) := by
  induction rows with
  | nil => rfl
  | cons r rows ih =>
    rw [cn_cons]
    show valV ((Sum.inr (S r.1), V.str (S r.2)) :: dkv rows) _ = _
    by_cases e : r.1 = k
    · rw [valV_pos (by show Sum.inr (S r.1) = Sum.inr (S k); rw [e]), if_pos e]
      rfl
    · rw [valV_neg (fun h => e (S_inj.mp (Sum.inr.inj h))), if_neg e, ih]
theorem putK_new {rows : List (W × W)} {k x : W} (h : k ∉ rows.map (·.1)) : L2.putK (dkv rows) (Sum.inr (S k)) (V.str (S x)) = dkv (rows ++ [(k, x)]) := by
  unfold L2.putK
  rw [if_neg]
  · unfold dkv
    rw [List.map_append]
    rfl
  · intro hh
    obtain ⟨kv, hm, e⟩ := List.any_eq_true.mp hh
    obtain ⟨r, hr, rfl⟩ := List.mem_map.mp hm
    refine h ?_
    have := S_inj.mp (Sum.inr.inj (of_decide_eq_true e))
    rw [← this]
    exact List.mem_map_of_mem (f := (·.1)) hr
/-! ### between the least and the greatest -/
theorem lcp_between : ∀ {a b k : W}, ¬ k < a → ¬ b < k → lcp a b <+: k
  | [], b, k, _, _ => List.nil_prefix
  | x :: a, [], k, _, _ => List.nil_prefix
  | x :: a, y :: b, k, h1, h2 => by
    show (if x = y then x :: lcp a b else []) <+: k
    by_cases e : x = y
    · rw [if_pos e]
      subst e
      cases k with
      | nil => exact absurd (List.nil_lt_cons x a) h1
      | cons z k =>
        rw [List.cons_lt_cons_iff] at h1 h2
        have hz : z = x := by omega
        subst hz
        obtain ⟨t, ht⟩ := lcp_between (a := a) (b := b) (k := k) (fun h => h1 (.inr ⟨rfl, h⟩)) fun h => h2 (.inr ⟨rfl, h⟩)
        exact ⟨t, by rw [List.cons_append, ht]⟩
    · rw [if_neg e]
      exact List.nil_prefix
/-! ### the letters, sorted -/
theorem risingS_one : ∀ (ys : List Str) (l : Nat), risingS (S [l]) ys = true → (∀ y ∈ ys, ∃ m, y = S [m]) → (S [l] :: ys).Nodup → ∃ ls : List Nat, ys = ls.map (fun m => S [m]) ∧ (l :: ls).Pairwise (· < ·)
  | [], l, _, _, _ => ⟨[], rfl, List.pairwise_singleton _ _⟩
  | y :: ys, l, h, hy, hn => by
    obtain ⟨m, rfl⟩ := hy y List.mem_cons_self
    obtain ⟨n1, n2⟩ := List.nodup_cons.mp hn
    simp only [risingS, Bool.and_eq_true, Bool.not_eq_true', S_list] at h
    obtain ⟨h1, h2⟩ := h
    have hlm : l < m := by
      have a : ¬ m < l := by
        intro hlt
        have : ltCps [m] [l] = true := by simp [ltCps, hlt]
        rw [h1] at this
        cases this
      have b : l ≠ m := fun e => n1 (by rw [e]; exact List.mem_cons_self)
      omega
    obtain ⟨ls, e, hp⟩ := risingS_one ys m h2 (fun y hy' => hy y (List.mem_cons_of_mem _ hy')) n2
    refine ⟨m :: ls, by rw [e]; rfl, List.pairwise_cons.mpr ⟨fun z hz => ?_, hp⟩⟩
    rcases List.mem_cons.mp hz with rfl | hz
    · exact hlm
    · exact Nat.lt_trans hlm ((List.pairwise_cons.mp hp).1 z hz)
theorem letters_of {ys : List Str} (h : sortedS ys = true) (hn : ys.Nodup) (hy : ∀ y ∈ ys, ∃ m, y = S [m]) : ∃ ls : List Nat, ys = ls.map (fun m => S [m]) ∧ ls.Pairwise (· < ·) := by
  cases ys with
  | nil => exact ⟨[], rfl, .nil⟩
  | cons y ys =>
    obtain ⟨m, rfl⟩ := hy y List.mem_cons_self
    obtain ⟨ls, e, hp⟩ := risingS_one ys m h (fun y hy' => hy y (List.mem_cons_of_mem _ hy')) hn
    exact ⟨m :: ls, by rw [e]; rfl, hp⟩
/-! ### what lies behind a beginning -/
def seconds (n : Nat) (rows : List (W × W)) : List Nat := rows.filterMap fun r => r.1[n]?
def below (n l : Nat) (rows : List (W × W)) : List (W × W) := (rows.filter fun r => decide (r.1[n]? = some l)).map fun r => (r.1.drop (n + 1), r.2)
theorem pre_at {s k : W} (h : s <+: k) : k = s ∨ ∃ l t, k = s ++ l :: t := by
  obtain ⟨t, rfl⟩ := h
  cases t with
  | nil => exact .inl (List.append_nil s)
  | cons l t => exact .inr ⟨l, t, rfl⟩
theorem at_len {s t : W} {l : Nat} : (s ++ l :: t)[s.length]? = some l := by
  rw [List.getElem?_append_right (Nat.le_refl _), Nat.sub_self]
  rfl
theorem drop_len {s t : W} {l : Nat} : (s ++ l :: t).drop (s.length + 1) = t := by
  rw [show s.length + 1 = s.length + 1 from rfl, ← List.drop_drop, List.drop_left]
  rfl
theorem at_pre {s k : W} {l : Nat} (h : s <+: k) (e : k[s.length]? = some l) : k = s ++ l :: k.drop (s.length + 1) := by
  rcases pre_at h with rfl | ⟨m, t, rfl⟩
  · rw [List.getElem?_eq_none (Nat.le_refl _)] at e; cases e
  · rw [at_len] at e
    cases e
    rw [drop_len]
theorem below_mem {s : W} {l : Nat} {rows : List (W × W)} (hp : ∀ r ∈ rows, s <+: r.1) {k x : W} : (k, x) ∈ below s.length l rows ↔ (s ++ l :: k, x) ∈ rows := by
  unfold below
  simp only [List.mem_map, List.mem_filter, decide_eq_true_eq, Prod.mk.injEq]
  constructor
  · rintro ⟨r, ⟨hr, e⟩, rfl, rfl⟩
    have := at_pre (hp r hr) e
    rw [← this]
    exact hr
  · intro h
    exact ⟨_, ⟨h, at_len⟩, drop_len, rfl⟩
theorem below_keys {s : W} {l : Nat} {rows : List (W × W)} (hp : ∀ r ∈ rows, s <+: r.1) (n : KeysN rows) : KeysN (below s.length l rows) := by
  induction rows with
  | nil => exact List.nodup_nil
  | cons r rows ih =>
    obtain ⟨n1, n2⟩ := List.nodup_cons.mp n
    have ih := ih (fun r hr => hp r (List.mem_cons_of_mem _ hr)) n2
    unfold below at ih ⊢
    rw [List.filter_cons]
    by_cases e : r.1[s.length]? = some l
    · rw [if_pos (by simpa using e)]
      refine List.nodup_cons.mpr ⟨fun h => n1 ?_, ih⟩
      obtain ⟨q, hq, eq⟩ := List.mem_map.mp h
      obtain ⟨q', hq', rfl⟩ := List.mem_map.mp hq
      have hm := List.mem_filter.mp hq'
      have e2 := at_pre (hp q' (List.mem_cons_of_mem _ hm.1)) (of_decide_eq_true hm.2)
      have e1 := at_pre (hp r List.mem_cons_self) e
      have : r.1 = q'.1 := by
        rw [e1, e2]
        have eq : q'.1.drop (s.length + 1) = r.1.drop (s.length + 1) := eq
        rw [eq]
      show r.1 ∈ _
      rw [this]
      exact List.mem_map_of_mem (f := (·.1)) hm.1
    · rw [if_neg (by simpa using e)]
      exact ih
theorem cn_below {s : W} {l : Nat} {rows : List (W × W)} (hp : ∀ r ∈ rows, s <+: r.1) (n : KeysN rows) (k : W) : cn (below s.length l rows) k = cn rows (s ++ l :: k) := by
  cases e : cn rows (s ++ l :: k) with
  | some x => exact cn_of_mem (below_keys hp n) ((below_mem hp).mpr (cn_mem e))
  | none => exact cn_none.mpr fun x hx => cn_none.mp e x ((below_mem hp).mp hx)
end Seal
namespace Seal
open PySem PySem.Spec PyProof.Rows L2 LamX NdefX
theorem cr_min {X : Cx} (hc : X.calm = true) : CallR X (.builtin "min") (rPick false) := cr_pick (X := X) false hc
theorem cr_max {X : Cx} (hc : X.calm = true) : CallR X (.builtin "max") (rPick true) := cr_pick (X := X) true hc
theorem setTO_ne {P : Program} {w : World} {a : Addr} {zs : List Str} {c : Addr} {q : Str} : CodeO c q ≠ SetTO P w a zs := by
  intro e
  have hh : ∀ h : Heap, (∃ (oc : Obj) (vs : Array Value) (t : Tok), h.get? c = some oc ∧ oc.data = .fields vs ∧ vs[1]? = some (.str q t)) → SetW P w h a zs := fun h hx => by
    have : (HO.ext fun h => ∃ (oc : Obj) (vs : Array Value) (t : Tok), h.get? c = some oc ∧ oc.data = .fields vs ∧ vs[1]? = some (.str q t)) = HO.ext fun h => SetW P w h a zs := e
    injection this with this
    rw [← congrFun this h]
    exact hx
  let ob : Obj := { cls := .type "code", data := .fields #[.none, .str q 0] }
  have hg : ∀ (b : Addr) (o : Obj), (Heap.get? { (default : Heap) with objs := Array.replicate (c + 1) ob } b) = some o → o = ob := fun b o h => by
    unfold Heap.get? at h
    by_cases hb : b < c + 1
    · simp only [Array.getElem?_replicate, hb, if_true] at h
      exact (Option.some.inj h).symm
    · simp only [Array.getElem?_replicate, hb, if_false] at h
      cases h
  obtain ⟨o, es, ep, t, ho, hex, hd, _⟩ := hh { (default : Heap) with objs := Array.replicate (c + 1) ob } ⟨ob, _, 0, by unfold Heap.get?; simp only [Array.getElem?_replicate, Nat.lt_succ_self, if_true]; rfl, rfl, rfl⟩
  have this := hg _ _ ho
  rw [this] at hd
  cases hd
theorem Go.putT {Ts : Tbs} {M : MM} {H H1 : Hp} {p : Addr} {P : Program} {w : World} {zs zs' : List Str} (a : Go Ts M H H1) (hp : H p = none) (h : H1 p = some (SetTO P w p zs)) : Go Ts M H (upd H1 p (SetTO P w p zs')) := by
  have key : ∀ b u, H1 b = some u → u ≠ SetTO P w p zs → (upd H1 p (SetTO P w p zs')) b = some u := fun b u e n => by
    rw [upd_ne fun z => n (by rw [z, h] at e; exact (Option.some.inj e).symm)]
    exact e
  refine ⟨fun b u e z => ?_, fun t q hq => ?_⟩
  · rw [upd_ne (ne_of_none e hp)]
    exact a.k b u e z
  · obtain ⟨ps, a1, a2, a3⟩ := a.t t q hq
    refine ⟨ps, key _ _ a1 (fun z => by cases z), a2, fun pos cv hc => ?_⟩
    obtain ⟨c, e, hcc⟩ := a3 pos cv hc
    exact ⟨c, e, key _ _ hcc setTO_ne⟩
theorem sc_go {P : Program} {w : World} {Ts : Tbs} {M : MM} {J : It} {n : Nat} {G : Hp → Prop} {Y : Nat → Hp → V → Hp → Prop} (wk' : Walk J n G Y) {g : TG} {tt : L2.TT} {te : TE} {vs : List Nat} {σ : L2.St} {H1 : Hp} {D : Addr} {Qd : Hp → Prop} (hn : n ≤ 900)
    (A : Nat → List Str → Hp → Prop) (hA : ∀ i zs H zs' zs'', A i zs H → H D = some (SetTO P w D zs') → A i zs (upd H D (SetTO P w D zs''))) (h0 : A 0 [] (upd H1 D (SetTO P w D []))) (hG : ∀ i zs H, i ≤ n → A i zs H → G H)
    (hs : ∀ i zs x H H' (R1 : VK) (R2 : Hp → Prop), i < n → A i zs H → Y i H x H' → (∀ z H4, Go Ts M H H4 → A (i + 1) (zs ++ [z]) H4 → R1 (.str z) H4) → (∀ H3, Go Ts M H H3 → A (i + 1) zs H3 → R2 H3) →
      g x (wipe σ vs) H' fun σ2 H2 => wipe σ2 vs = wipe σ vs ∧ tt σ2 H2 fun b H3 => if b = true then te σ2 H3 R1 else R2 H3)
    (hd : ∀ zs H, A n zs H → H D = some (SetTO P w D zs) → zs.length ≤ n → Qd H) :
    ∃ W : Nat → Nat → Hp → Prop, (∃ m, W 0 m (upd H1 D (SetTO P w D []))) ∧ ∀ i m H, W i m H → (J.stop i H ∧ Qd H) ∨ (J.go i H ∧ ∃ Nx : Hp → Prop, (∀ H', Nx H' → ∃ m', m' < m ∧ W (i + 1) m' H') ∧ ∀ x H', J.yld i H x H' →
      g x (wipe σ vs) H' fun σ2 H2 => wipe σ2 vs = wipe σ vs ∧ tt σ2 H2 fun b H3 => if b = true then te σ2 H3 fun y H4 => ∃ z zs, y = .str z ∧ H4 D = some (SetTO P w D zs) ∧ zs.length ≤ 900 ∧ Nx (upd H4 D (SetTO P w D (zs ++ [z]))) else Nx H3) := by
  refine ⟨fun i m H => m = n - i ∧ i ≤ n ∧ ∃ zs, H D = some (SetTO P w D zs) ∧ zs.length ≤ i ∧ A i zs H, ⟨n, by simp, Nat.zero_le _, [], upd_same, Nat.le_refl _, h0⟩, ?_⟩
  rintro i m H ⟨rfl, hi, zs, hz, hl, p⟩
  have q := hG i zs H hi p
  by_cases hlt : i < n
  · refine .inr ⟨wk'.goes i H hlt q, fun H' => ∃ zs, H' D = some (SetTO P w D zs) ∧ zs.length ≤ i + 1 ∧ A (i + 1) zs H', fun H' p' => ⟨n - (i + 1), by omega, rfl, hlt, p'⟩, fun x H' y => ?_⟩
    refine hs i zs x H H' _ _ hlt p (wk'.yields i H x H' hlt q y) (fun z H4 g4 a4 => ?_) fun H3 g3 a3 => ⟨zs, g3.fix hz rfl, by omega, a3⟩
    have h4 := g4.fix hz rfl
    exact ⟨z, zs, rfl, h4, by omega, zs ++ [z], upd_same, by rw [List.length_append]; simp; omega, hA _ _ _ zs _ a4 h4⟩
  · have e : i = n := by omega
    subst e
    exact .inl ⟨wk'.stops H q, hd zs H p hz hl⟩
/-! ### a dict comprehension of rows -/
theorem dc_go {Ts : Tbs} {M : MM} {J : It} {n : Nat} {G : Hp → Prop} {Y : Nat → Hp → V → Hp → Prop} (wk' : Walk J n G Y) {g : TG} {tt : L2.TT} {tk tv : TE} {vs : List Nat} {σ : L2.St} {H1 : Hp} {D : Addr} {Qd : Hp → Prop} (hD : H1 D = none) (hn : n ≤ 50000) (hM : ∀ b, M b → H1 b ≠ none)
    (A : Nat → List (W × W) → Hp → Prop) (hA : ∀ i acc H H', A i acc H → Go Ts (fun b => b = D) H H' → A i acc H') (h0 : A 0 [] H1) (hG : ∀ i acc H, i ≤ n → A i acc H → G H)
    (hs : ∀ i acc x H H' (R2 : Hp → Prop) (R1 : V → V → Hp → Prop), i < n → A i acc H → Y i H x H' → (∀ k z H4, Go Ts M H H4 → k ∉ acc.map (·.1) → A (i + 1) (acc ++ [(k, z)]) H4 → R1 (.str (S k)) (.str (S z)) H4) → (∀ H3, Go Ts M H H3 → A (i + 1) acc H3 → R2 H3) →
      g x (wipe σ vs) H' fun σ2 H2 => wipe σ2 vs = wipe σ vs ∧ tt σ2 H2 fun b H3 => if b = true then tk σ2 H3 fun y H4 => tv σ2 H4 (R1 y) else R2 H3)
    (hd : ∀ acc H, A n acc H → H D = some (.dK (dkv acc)) → acc.length ≤ n → Qd H) :
    ∃ W : Nat → Nat → Hp → Prop, (∃ m, W 0 m (upd H1 D (.dK []))) ∧ ∀ i m H, W i m H →
      (J.stop i H ∧ Qd H) ∨ (J.go i H ∧ ∃ Nx : Hp → Prop, (∀ H', Nx H' → ∃ m', m' < m ∧ W (i + 1) m' H') ∧ ∀ x H', J.yld i H x H' → g x (wipe σ vs) H' fun σ2 H2 => wipe σ2 vs = wipe σ vs ∧ tt σ2 H2 fun b H3 =>
        if b = true then tk σ2 H3 fun y H4 => tv σ2 H4 fun z H5 => ∃ kvs k, y = kV k ∧ H5 D = some (.dK kvs) ∧ kvs.length < sizeLine ∧ Nx (upd H5 D (.dK (L2.putK kvs k z))) else Nx H3) := by
  refine ⟨fun i m H => m = n - i ∧ i ≤ n ∧ ∃ acc, H D = some (.dK (dkv acc)) ∧ acc.length ≤ i ∧ A i acc H, ⟨n, by simp, Nat.zero_le _, [], upd_same, Nat.le_refl _, hA 0 [] H1 _ h0 (.new hD)⟩, ?_⟩
  have nD : ¬ M D := fun z => hM D z hD
  rintro i m H ⟨rfl, hi, acc, hz, hl, p⟩
  have q := hG i acc H hi p
  by_cases hlt : i < n
  · refine .inr ⟨wk'.goes i H hlt q, fun H' => ∃ acc, H' D = some (.dK (dkv acc)) ∧ acc.length ≤ i + 1 ∧ A (i + 1) acc H', fun H' p' => ⟨n - (i + 1), by omega, rfl, hlt, p'⟩, fun x H' y => ?_⟩
    refine hs i acc x H H' _ (fun y z H5 => _) hlt p (wk'.yields i H x H' hlt q y) (fun k z H4 g4 hk a4 => ?_) fun H3 g3 a3 => ⟨acc, g3.dK hz nD, by omega, a3⟩
    have h4 := g4.dK hz nD
    refine ⟨dkv acc, .inr (S k), rfl, h4, szl (by unfold dkv; rw [List.length_map]; omega), acc ++ [(k, z)], ?_, by rw [List.length_append]; simp; omega, hA _ _ _ _ a4 (.set h4 rfl rfl rfl)⟩
    rw [upd_same, putK_new hk]
  · have e : i = n := by omega
    subst e
    exact .inl ⟨wk'.stops H q, hd acc H p hz hl⟩
end Seal
namespace Seal
open PySem PySem.Spec PyProof.Rows L2 LamX NdefX
/-! ### y = {k: v for ..} -/
theorem ps_setDc {X : Cx} {i : Nat} {y : Str} {py : Pos} {kx vx tg iter : Expr} {ifs : List Expr} {scope : Scope} {own : List (Str × Nat)} {pos spos : Pos} {wi : TI} {g : TG} {tt : L2.TT} {tk tv : TE} (hc : X.calm = true) (hN : X.N.Nodup) (hy : X.N[i]? = some y) (hyl : X.env.scope.names.lookup y = some .local)
    (hsw : swapsWith (.DictComp kx vx [⟨tg, iter, ifs, 0⟩] scope pos) (some (.Name y py)) spos.line X.env = pure true) (hi : PI X tg iter wi) (ok : BlkOk X.N X.env.scope scope own)
    (hg : ∀ (s : Shared) (H : Hp) (C : Addr) (cl : List (Str × Addr)) (fp : List Addr), PG (X.blk s H scope (compEnvC scope cl C X.env) fp) tg g) (ht : ∀ (s : Shared) (H : Hp) (C : Addr) (cl : List (Str × Addr)) (fp : List Addr), PTs (X.blk s H scope (compEnvC scope cl C X.env) fp) ifs tt)
    (hk : ∀ (s : Shared) (H : Hp) (C : Addr) (cl : List (Str × Addr)) (fp : List Addr), PE (X.blk s H scope (compEnvC scope cl C X.env) fp) kx tk)
    (he : ∀ (s : Shared) (H : Hp) (C : Addr) (cl : List (Str × Addr)) (fp : List Addr), PE (X.blk s H scope (compEnvC scope cl C X.env) fp) vx tv) (hs : ∀ x, foldedSetIterable iter X.env x = pure x := by intro _; rfl) :
    PS X (.Assign [.Name y py] (.DictComp kx vx [⟨tg, iter, ifs, 0⟩] scope pos) spos) (tAsg (tDc wi g tt tk tv (own.map (·.2))) (gName i)) := by
  refine ⟨fun pins s σ H D I h => ?_⟩
  rw [exec_Assign_Name_used _ _ _ _ hsw]
  refine wpAny_bind (wpAny_standAt (wpAny_bind ?_))
  show wpAny _ X.A (do let _ ← comprehension (.DictComp kx vx [⟨tg, iter, ifs, 0⟩] scope pos) scope X.env (firstIterPos [⟨tg, iter, ifs, 0⟩] pos) newDict false (eval iter X.env) (some (assign (.Name y py) X.env))) _ _ s
  have h : tDc wi g tt tk tv (own.map (·.2)) σ H (fun x H1 => gName i x σ H1 D.nx) := h
  refine wpAny_bind (thn (dc_core (Qf := fun _ s' => SP X pins D .next s') hc hN I hi ok hg ht hk he hs h fun L C s' m H' I' q hn f => ?_) fun _ s' hq => wpAny_pure (wpAny_pure hq))
  show wpAny _ _ (assign (.Name y py) X.env (.ref L)) _ _ _
  refine wpAny_assign_Name (store_ok2 (v := V.ref L) I' hN hy (.inl hyl) rfl (fun s2 I2 ⟨a, sb, ha⟩ => ?_) (.inr hyl))
  obtain ⟨f0, f1, f2, f3, f4, f5⟩ := f
  have haC : C ≠ a := by
    rcases ha with z | z
    · rw [z]; exact f1
    · exact fun e => f4 y a z e.symm
  refine ⟨m, hn.sameBut sb haC, fun h3 sb3 => ?_⟩
  exact ⟨_, H', I2.turned (t' := s2.toks) (fun b o hb e => (sb3.2 b hb).trans e) f0 f1 f3 f4 f5, q⟩
theorem sw_trueD {kx vx : Expr} {gs : List Comprehension} {scope : Scope} {pos py : Pos} {y : Str} {l : Nat} {env : Env} (hk : env.scope.kind = .function) (hy : env.scope.names.lookup y = some .local) (hl : (py.line == pos.line) = true)
    (ha : (scope.names.any fun (n, k) => n == y && (k == .local || k == .cell)) = false) : swapsWith (.DictComp kx vx gs scope pos) (some (.Name y py)) l env = pure true := by
  have ky : env.kindOf y = some .local := hy
  have hb : env.blockKind = .function := by unfold Env.blockKind; rw [hk]; rfl
  unfold swapsWith
  simp only [hb, ky, ha, Expr.pos, hl]
  rfl
end Seal
namespace Seal
open PySem PySem.Spec PyProof.Rows L2 LamX NdefX
theorem sc_tree_under : FnScope ["content", "stem", "at", "letters", "key", "kids", "letter", "below", "value"] ["content"] (defScope s_tree_under) := ⟨rfl, rfl, rfl, by decide +kernel, rfl, by decide +kernel, by decide +kernel⟩
theorem bind_tree_under : BindQ "tree_under" "tree_under" s_tree_under ["content"] := fun _ _ _ _ _ _ us hl => match us, hl with | [_], _ => rfl
theorem sc_tree_of : FnScope ["pairs", "rows", "key", "value"] ["pairs"] (defScope s_tree_of) := ⟨rfl, rfl, rfl, by decide +kernel, rfl, by decide +kernel, by decide +kernel⟩
theorem bind_tree_of : BindQ "tree_of" "tree_of" s_tree_of ["pairs"] := fun _ _ _ _ _ _ us hl => match us, hl with | [_], _ => rfl
theorem Go.lockIn {Ts : Tbs} {M : MM} {H : Hp} {d : Addr} {o : Obj} {kvs : List (Key × V)} (h : H d = some (.dK kvs)) (t : Tabs Ts H) : Tabs Ts (upd H d (.frz o (.dK kvs))) := by
  have key : ∀ b u, H b = some u → u ≠ .dK kvs → (upd H d (.frz o (.dK kvs))) b = some u := fun b u e n => by
    rw [upd_ne fun z => n (by rw [z, h] at e; exact (Option.some.inj e).symm)]
    exact e
  intro q hq
  obtain ⟨ps, a1, a2, a3⟩ := t q hq
  refine ⟨ps, key _ _ a1 (fun z => by cases z), a2, fun pos cv hc => ?_⟩
  obtain ⟨c, e, hcc⟩ := a3 pos cv hc
  exact ⟨c, e, key _ _ hcc (fun z => by cases z)⟩
theorem Go.unlock {Ts : Tbs} {M : MM} {H H' : Hp} {d : Addr} {o : Obj} {kvs : List (Key × V)} (h : H d = some (.dK kvs)) (a : Go Ts M (upd H d (.frz o (.dK kvs))) H') : Go Ts M H (upd H' d (.dK kvs)) := by
  have hd : H' d = some (.frz o (.dK kvs)) := a.fix upd_same rfl
  have key : ∀ b u, H' b = some u → u ≠ .frz o (.dK kvs) → (upd H' d (.dK kvs)) b = some u := fun b u e n => by
    rw [upd_ne fun z => n (by rw [z, hd] at e; exact (Option.some.inj e).symm)]
    exact e
  refine ⟨fun b u e z => ?_, fun t q hq => ?_⟩
  · by_cases hb : b = d
    · subst hb
      rw [h] at e
      cases e
      exact upd_same
    · rw [upd_ne hb]
      exact a.k b u (by rw [upd_ne hb]; exact e) z
  · obtain ⟨ps, a1, a2, a3⟩ := a.t (Go.lockIn (M := M) h t) q hq
    refine ⟨ps, key _ _ a1 (fun z => by cases z), a2, fun pos cv hc => ?_⟩
    obtain ⟨c, e, hcc⟩ := a3 pos cv hc
    exact ⟨c, e, key _ _ hcc (fun z => by cases z)⟩
theorem take1_at {k : W} {n : Nat} : (k.drop n).take (n + 1 - n) = (k[n]?).toList := by
  rw [show n + 1 - n = 1 by omega]
  cases e : k[n]? with
  | none =>
    rw [List.drop_eq_nil_of_le (List.getElem?_eq_none_iff.mp e)]
    rfl
  | some c =>
    have h : n < k.length := by
      by_cases h : n < k.length
      · exact h
      · rw [List.getElem?_eq_none (by omega)] at e; cases e
    rw [List.drop_eq_getElem_cons h]
    rw [List.getElem?_eq_getElem h] at e
    rw [Option.some.inj e]
    rfl
def RowOk (m : Nat) (r : W × W) : Prop := IsKey r.1 ∧ Vl r.2 ∧ r.1.length < m
def spTreeUnder (K : PySem.W.Frag) (m : Nat) : Sp := fun vs H Q _ => ∃ (rows : List (W × W)) (d : Addr), vs = [.ref d] ∧ H d = some (.dK (dkv rows)) ∧ KeysN rows ∧ rows.length ≤ 60 ∧ (∀ r ∈ rows, RowOk m r) ∧ 0 < m ∧ ∀ v o H', Gz K H H' → IsTree o (cn rows) → RepO K H' o v → Q v H'
section
variable {P : Program} {w : World} {K : PySem.W.Frag} {mg : Str → Option Value} {base : Heap}
theorem D_tu_step {m j : Nat} {sp : Sp} (hj : 12 ≤ j) (n : Fn1 K mg "tree_under" s_tree_under) (G : TX K mg) (D_Ni : DefM P w K mg base 11 "Node" "__init__" ["self", "stem", "value", "kids"] (spNodeInit K)) (D_shared_start : Def P w K mg base CX0 1 "shared_start" ["one", "other"] (spSharedStart K))
    (D_tree_under : Def P w K mg base CX0 j "tree_under" ["content"] sp) (hsp : ∀ m' vs H Q E, m = m' + 1 → spTreeUnder K m' vs H Q E → sp vs H Q E) : Def P w K mg base CX0 (j + 1) "tree_under" ["content"] (spTreeUnder K m) := by
  refine n.mk0 sc_tree_under bind_tree_under (fun vs H Q E h => ?_) (fun cdv A outer s H vs Q E hr h => ?_)
  · obtain ⟨_, _, rfl, _⟩ := h
    rfl
  · obtain ⟨rows, d, rfl, hd, hkn, hlen, hok, hm, q⟩ := h
    have hu := hu_of hr
    refine ⟨_, (pss_cons (ps_if (pt_cmpR op_eq (pe_callB call_lenD (by rfl) G.b_len PySem.boot_len (pa_cons (pv 0) pa_nil)) pe_int (nomark _)) (pss_one (ps_ret pe_non)) pss_nil)
      (pss_cons (ps_set (i := 1) sc_tree_under.nd rfl (Or.inl rfl) (pe_cd D_shared_start (hr.mono (by omega)) (by rfl) (pa_cons (pe_callB (cr_min rfl) (by rfl) G.b_min (by decide +kernel) (pa_cons (pv 0) pa_nil)) (pa_cons (pe_callB (cr_max rfl) (by rfl) G.b_max (by decide +kernel) (pa_cons (pv 0) pa_nil)) pa_nil))))
      (pss_cons (ps_set (i := 2) sc_tree_under.nd rfl (Or.inr rfl) (pe_callB call_len_str (by rfl) G.b_len PySem.boot_len (pa_cons (pv 1) pa_nil)))
      (pss_cons (ps_set (i := 3) sc_tree_under.nd rfl (Or.inl rfl) (pe_callB (cr_sortedST rfl) (by rfl) G.b_sorted (by decide +kernel) (pa_cons (pe_lock (pe_scT (own := [("key", 4)]) (g := gName 4) (by rfl) sc_tree_under.nd (pi_keys (pv 0)) (blkOk_by (N := ["content", "stem", "at", "letters", "key", "kids", "letter", "below", "value"]) (sc := defScope s_tree_under) (by decide +kernel)) (fun _ _ _ _ _ => pg_name (i := 4) sc_tree_under.nd rfl (Or.inl rfl)) (fun _ _ _ _ _ => pts_one (pt_cmpR op_gt (pe_callB call_len_str (by rfl) G.b_len PySem.boot_len (pa_cons (pv 4) pa_nil)) (pv 2) (nomark _))) (fun _ _ _ _ _ => (pe_ix ix_str (pv 4) (pv 2) (fun _ _ => rfl))))) pa_nil)))
      (pss_cons (ps_set (i := 5) sc_tree_under.nd rfl (Or.inl rfl) (pe_lst pa_nil))
      (pss_cons (ps_for PassesOwn.never rfl (pi_list (pv 3)) (pg_name (i := 6) sc_tree_under.nd rfl (Or.inr rfl)) (pss_cons (ps_lock (ps_setDc (i := 7) (own := [("key", 4), ("value", 8)]) (g := gTup K 2 (gCons (gName 4) (gCons (gName 8) gNil))) (by rfl) sc_tree_under.nd rfl rfl (sw_trueD rfl rfl rfl (by decide +kernel)) (pi_items (pv 0)) (blkOk_by (N := ["content", "stem", "at", "letters", "key", "kids", "letter", "below", "value"]) (sc := defScope s_tree_under) (by decide +kernel)) (fun _ _ _ _ _ => pg_tup rfl (pgs_cons (pg_name (i := 4) sc_tree_under.nd rfl (Or.inl rfl)) (pgs_cons (pg_name (i := 8) sc_tree_under.nd rfl (Or.inl rfl)) pgs_nil))) (fun _ _ _ _ _ => pts_one (pt_cmpR op_eq (pe_slice sl_str (pv 4) (po_some (pv 2)) (po_some (pe_op op_add (pv 2) pe_int))) (pv 6) (nomark _))) (fun _ _ _ _ _ => (pe_slice sl_str (pv 4) (po_some (pe_op op_add (pv 2) pe_int)) po_none)) (fun _ _ _ _ _ => (pv 8))))
      (pss_one (ps_expr (pe_bm PySem.F.plainAttrs_list PySem.F.slot_list_append PySem.F.type_list_append mt_append (pv 5) (pa_cons (pe_tup (pa_cons (pv 6) (pa_cons (pe_cd D_tree_under (hr.mono (by omega)) (by rfl) (pa_cons (pv 7) pa_nil)) pa_nil))) pa_nil))))))
      (pss_one (ps_ret (pe_mk G.mkN D_Ni (hr.mono (by omega)) (by rfl) G.c_Node (pa_cons (pv 1) (pa_cons (pe_dget1 hu (pv 0) (pv 1) ⟨rfl, rfl, rfl, rfl⟩) (pa_cons (pv 5) pa_nil)))))))))))), ?_⟩
    refine ⟨_, rfl, d, _, rfl, hd, rfl, _, rfl, ?_⟩
    have hdl : (dkv rows).length = rows.length := by unfold dkv; rw [List.length_map]
    by_cases he : rows = []
    · subst he
      rw [decide_eq_true (by rfl)]
      exact q _ none _ .refl (fun k => rfl) rfl
    have hne : rows.length ≠ 0 := fun e => he (List.length_eq_zero_iff.mp e)
    rw [decide_eq_false (show ¬ V.int ((dkv rows).length : Int) = V.int 0 from fun h => by injection h with h; rw [hdl] at h; omega)]
    refine ⟨_, rfl, d, _, _, rfl, hd, dkv_keys rows, by simpa using he, fun z1 hz1 hl1 => ?_⟩
    refine ⟨_, rfl, d, _, _, rfl, hd, dkv_keys rows, by simpa using he, fun z2 hz2 hl2 => ?_⟩
    obtain ⟨r1, hr1, rfl⟩ := List.mem_map.mp hz1
    obtain ⟨r2, hr2, rfl⟩ := List.mem_map.mp hz2
    refine ⟨_, _, rfl, by have := (hok r1 hr1).1.2; omega, by have := (hok r2 hr2).1.2; omega, ?_⟩
    generalize hst : lcp r1.1 r2.1 = st
    have hpre : ∀ r ∈ rows, st <+: r.1 := fun r hr' => by
      rw [← hst]
      have a := hl1 (S r.1) (List.mem_map_of_mem (f := fun r => S r.1) hr')
      have b := hl2 (S r.1) (List.mem_map_of_mem (f := fun r => S r.1) hr')
      simp only [S_list, Bool.false_eq_true, if_false, if_true] at a b
      exact lcp_between a b
    have hgr : ∀ z, (∀ k x, cn rows k = some x → z <+: k) → z <+: st := fun z hz => by
      rw [← hst]
      exact lcp_great (hz r1.1 r1.2 (cn_of_mem hkn hr1)) (hz r2.1 r2.2 (cn_of_mem hkn hr2))
    have hst8 : st.length ≤ 8 := Nat.le_trans (hpre r1 hr1).length_le (hok r1 hr1).1.2
    have hstL : Ltr st := fun c hc => (hok r1 hr1).1.1 c ((hpre r1 hr1).subset hc)
    refine ⟨_, rfl, _, rfl, by rw [S_len]; exact sz (by omega), ?_⟩
    refine ⟨d, _, hd, trivial, fun od => ?_⟩
    refine ⟨_, rfl, d, od, rfl, .inl ⟨_, upd_same, fun D hD => ?_⟩⟩
    refine sc_go (Ts := tbs K) (M := M0) walk_keys (by rw [hdl]; omega) (fun i zs H' => Gz K (upd H d (.frz od (.dK (dkv rows)))) H' ∧ zs = (seconds st.length (rows.take i)).map fun l => S [l])
      (fun i zs H' zs' zs'' ⟨a, b⟩ hz => ⟨a.putT hD hz, b⟩) ⟨.new hD, rfl⟩ (fun i zs H' _ ⟨a, _⟩ => a.fix upd_same rfl) ?_ ?_
    · rintro i zs x H' H'' R1 R2 hi ⟨g, rfl⟩ ⟨rfl, k, v, hkv, rfl⟩ r1 r2
      obtain ⟨r, hr', er⟩ : ∃ r, rows[i]? = some r ∧ (k, v) = (Sum.inr (S r.1), V.str (S r.2)) := by
        unfold dkv at hkv
        rw [List.getElem?_map] at hkv
        cases e : rows[i]? with
        | none => rw [e] at hkv; cases hkv
        | some r => rw [e] at hkv; exact ⟨r, rfl, (Option.some.inj hkv).symm⟩
      cases er
      have hrm := List.mem_of_getElem? hr'
      have h8 := (hok r hrm).1.2
      have hsec : seconds st.length (rows.take (i + 1)) = seconds st.length (rows.take i) ++ (r.1[st.length]?).toList := by
        unfold seconds
        rw [take_snoc hr', List.filterMap_append]
        congr 1
      refine ⟨rfl, _, rfl, _, rfl, by rw [S_len]; exact sz (by omega), _, rfl, _, _, rfl, rfl, _, rfl, ?_⟩
      by_cases hlt : st.length < r.1.length
      · rw [decide_eq_true (by rw [S_len, S_len]; omega)]
        obtain ⟨c, hc⟩ := S_at hlt
        refine ⟨_, rfl, _, rfl, _, _, c, rfl, rfl, by rw [S_len]; exact sz (by omega), by rw [S_list]; exact atI_nat hc, ?_⟩
        rw [S_one]
        refine r1 _ _ .refl ⟨g, ?_⟩
        rw [hsec, hc, List.map_append]
        rfl
      · rw [decide_eq_false (by rw [S_len, S_len]; omega)]
        refine r2 _ .refl ⟨g, ?_⟩
        rw [hsec, List.getElem?_eq_none (by omega)]
        simp
    · rintro zs H' ⟨g, hzs⟩ hz hl
      have hz' : H' d = some (.frz od (.dK (dkv rows))) := g.fix upd_same rfl
      refine ⟨hz', ?_⟩
      have g1 : Gz K H (upd H' d (.dK (dkv rows))) := g.unlock hd
      have hDd : D ≠ d := fun e => by rw [e, hz'] at hz; cases hz
      rw [hdl, List.take_length] at hzs
      rw [hdl] at hl
      have hletter : ∀ l ∈ seconds st.length rows, Lt l := fun l hl' => by
        obtain ⟨r, hr', e⟩ := List.mem_filterMap.mp hl'
        exact (hok r hr').1.1 l (List.mem_of_getElem? e)
      have hlets : ∀ ys : List Str, sortedS ys = true → ys.Nodup → (∀ z, z ∈ ys ↔ z ∈ zs) → ∃ ls : List Nat, ys = ls.map (fun m => S [m]) ∧ ls.Pairwise (· < ·) ∧ ∀ l, l ∈ ls ↔ l ∈ seconds st.length rows := fun ys h1 h2 h3 => by
        obtain ⟨ls, e, hp⟩ := letters_of h1 h2 fun y hy => by
          have := (h3 y).mp hy
          rw [hzs] at this
          obtain ⟨l, _, e⟩ := List.mem_map.mp this
          exact ⟨l, e.symm⟩
        refine ⟨ls, e, hp, fun l => ?_⟩
        have := h3 (S [l])
        rw [e, hzs] at this
        constructor
        · intro h
          obtain ⟨l', hl', e'⟩ := List.mem_map.mp (this.mp (List.mem_map_of_mem (f := fun m => S [m]) h))
          have := S_inj.mp e'
          cases this
          exact hl'
        · intro h
          obtain ⟨l', hl', e'⟩ := List.mem_map.mp (this.mpr (List.mem_map_of_mem (f := fun m => S [m]) h))
          have := S_inj.mp e'
          cases this
          exact hl'
      have few : ∀ ys : List Str, ys.Nodup → (∀ z, z ∈ ys ↔ z ∈ zs) → ys.length < 64 := by
        intro ys h2 h3
        have hsub : ys.length ≤ zs.length := List.Nodup.length_le_of_subset h2 fun z hz => (h3 z).mp hz
        omega
      refine ⟨D, zs, rfl, by rw [upd_ne hDd]; exact hz, by omega, few, fun ys p hs1 hs2 hs3 hp => ?_⟩
      obtain ⟨ls, rfl, hls, hmem⟩ := hlets ys hs1 hs2 hs3
      have hll : ls.length < 64 := by
        have := few _ hs2 hs3
        rwa [List.length_map] at this
      have g2 := g1.trans (.new (o := .lst ((ls.map fun m => S [m]).map V.str)) hp)
      have hp2 : (upd (upd H' d (.dK (dkv rows))) p (.lst ((ls.map fun m => S [m]).map V.str))) p = some (.lst ((ls.map fun m => S [m]).map V.str)) := upd_same
      generalize hH2 : upd (upd H' d (.dK (dkv rows))) p (.lst ((ls.map fun m => S [m]).map V.str)) = H2 at g2 hp2 ⊢
      refine ⟨by show 0 ≤ sizeLine; decide, fun kl hkl => ?_⟩
      have g3 : Gz K H2 (upd H2 kl (.lst [])) := .new hkl
      refine ⟨_, rfl, p, rfl, ⟨_, SqL.of (g3.lst hp2 id)⟩, ?_⟩
      refine for_it (walk_list (xs := (ls.map fun m => S [m]).map V.str)) (fun i σ H4 => Gz K H2 H4 ∧ ∃ ys ks, H4 kl = some (.lst ys) ∧ ks.map (·.1) = ls.take i ∧ RepP K H4 ks ys ∧
        (∀ q ∈ ks, Lt q.1 ∧ Wf q.2 ∧ Full q.2 ∧ (∃ k x, cn rows (st ++ q.1 :: k) = some x) ∧ ∀ k, look q.2 k = cn rows (st ++ q.1 :: k)) ∧ ∃ a b c e, σ = [some (.ref d), some (.str (S st)), some (.int ((S st).length : Nat)), some (.ref p), a, some (.ref kl), b, c, e])
        ⟨g3, [], [], upd_same, rfl, .nil, (fun q hq => by cases hq), _, _, _, _, rfl⟩ (fun i σ H4 _ ⟨g, _⟩ => SqL.of (g.lst hp2 id)) ?_ ?_
      · rintro i x σ H5 H4 hi ⟨g4, ys4, ks, hk4, hks, hrep, hkt, a, b, c, e, rfl⟩ ⟨rfl, hxi⟩
        obtain ⟨l, hli, rfl⟩ : ∃ l, ls[i]? = some l ∧ x = V.str (S [l]) := by
          rw [List.map_map, List.getElem?_map] at hxi
          cases e : ls[i]? with
          | none => rw [e] at hxi; cases hxi
          | some l => rw [e] at hxi; exact ⟨l, rfl, (Option.some.inj hxi).symm⟩
        have hlm := List.mem_of_getElem? hli
        obtain ⟨r0, hr0, er0⟩ := List.mem_filterMap.mp ((hmem l).mp hlm)
        have hd4 : H4 d = some (.dK (dkv rows)) := (g2.trans g4).dK hd id
        refine ⟨d, _, hd4, trivial, fun od' => ?_⟩
        refine ⟨_, rfl, d, od', _, rfl, upd_same, fun B hB => ?_⟩
        refine dc_go (Ts := tbs K) (M := M0) walk_items hB (by rw [hdl]; omega) m0_ne (fun i acc H' => Gz K (upd H4 d (.frz od' (.dK (dkv rows)))) H' ∧ acc = below st.length l (rows.take i))
          (fun i acc H' H'' ⟨a, b⟩ g => ⟨a.loc hB g, b⟩) ⟨.refl, rfl⟩ (fun i acc H' _ ⟨a, _⟩ => a.fix upd_same rfl) ?_ ?_
        · rintro i2 acc x H6 H7 R2 R1 hi2 ⟨g6, rfl⟩ ⟨T, y, z, rfl, hT, rfl, hy, hz'⟩ r1 r2
          obtain ⟨r, hr', rfl, rfl⟩ : ∃ r, rows[i2]? = some r ∧ y = V.str (S r.1) ∧ z = V.str (S r.2) := by
            cases e : rows[i2]? with
            | none =>
              simp only [dkv, List.getElem?_map, e] at hy
              cases hy
            | some r =>
              simp only [dkv, List.getElem?_map, e] at hy hz'
              exact ⟨r, rfl, (Option.some.inj hy).symm, (Option.some.inj hz').symm⟩
          have hrm := List.mem_of_getElem? hr'
          have h8 := (hok r hrm).1.2
          have gT : Gz K H6 (upd H6 T (.tup [V.str (S r.1), V.str (S r.2)])) := .new hT
          refine ⟨T, _, rfl, SqT.of upd_same, rfl, _, _, rfl, _, _, rfl, rfl, rfl, ?_⟩
          have hcut : cutS (S r.1) (some ((S st).length : Nat)) (some (((S st).length : Nat) + 1)) = S (r.1[st.length]?).toList := by
            rw [S_len, show ((st.length : Nat) : Int) + 1 = ((st.length + 1 : Nat) : Int) by omega, cut_mid, take1_at]
          refine ⟨_, rfl, _, rfl, _, rfl, _, rfl, _, _, rfl, rfl, _, rfl, _, rfl, by rw [S_len]; exact sz (by omega), _, rfl, rfl, _, rfl, ?_⟩
          rw [hcut]
          have hbel : below st.length l (rows.take (i2 + 1)) = below st.length l (rows.take i2) ++ if r.1[st.length]? = some l then [(r.1.drop (st.length + 1), r.2)] else [] := by
            unfold below
            rw [take_snoc hr', List.filter_append, List.map_append]
            congr 1
            by_cases hc : r.1[st.length]? = some l
            · simp [hc]
            · simp [hc]
          by_cases hc : r.1[st.length]? = some l
          · rw [decide_eq_true (by rw [hc]; rfl)]
            have hcut2 : cutS (S r.1) (some (((S st).length : Nat) + 1)) none = S (r.1.drop (st.length + 1)) := by
              rw [S_len, show ((st.length : Nat) : Int) + 1 = ((st.length + 1 : Nat) : Int) by omega, cut_from]
            refine ⟨_, rfl, _, rfl, _, _, rfl, rfl, _, rfl, _, rfl, by rw [S_len]; exact sz (by omega), _, rfl, ?_⟩
            rw [hcut2]
            rw [if_pos hc] at hbel
            refine r1 _ _ _ gT ?_ ⟨g6.trans gT, hbel.symm⟩
            have hall : KeysN (below st.length l (rows.take (i2 + 1))) := below_keys (fun q hq => hpre q (List.mem_of_mem_take hq)) (by
              unfold KeysN at hkn ⊢
              rw [List.map_take]
              exact hkn.sublist (List.take_sublist _ _))
            rw [hbel] at hall
            unfold KeysN at hall
            rw [List.map_append, List.nodup_append] at hall
            intro hin
            exact hall.2.2 _ hin _ List.mem_cons_self rfl
          · rw [decide_eq_false (fun h => hc (by
              injection h with h
              have := S_inj.mp h
              cases e : r.1[st.length]? with
              | none => rw [e] at this; cases this
              | some m => rw [e] at this; simp at this; rw [this]))]
            rw [if_neg hc, List.append_nil] at hbel
            exact r2 _ gT ⟨g6.trans gT, hbel.symm⟩
        · rintro acc H6 ⟨g6, rfl⟩ h6 _
          rw [hdl, List.take_length] at h6
          refine ⟨g6.fix upd_same rfl, ?_⟩
          have g7 : Gz K H4 (upd H6 d (.dK (dkv rows))) := g6.unlock hd4
          have hBd : B ≠ d := fun e => by rw [e, upd_same] at hB; cases hB
          have hB7 : (upd H6 d (.dK (dkv rows))) B = some (.dK (dkv (below st.length l rows))) := by rw [upd_ne hBd]; exact h6
          generalize upd H6 d (.dK (dkv rows)) = H7 at g7 hB7 ⊢
          have hk7 : H7 kl = some (.lst ys4) := g7.lst hk4 id
          have hi' : i < ls.length := by
            by_cases h : i < ls.length
            · exact h
            · rw [List.getElem?_eq_none (by omega)] at hli; cases hli
          have hkl4 : ys4.length = i := by
            rw [hrep.length, ← List.length_map (f := (·.1)), hks, List.length_take]
            omega
          obtain ⟨m', rfl⟩ : ∃ m', m = m' + 1 := ⟨m - 1, by omega⟩
          have e0 := at_pre (hpre r0 hr0) er0
          have hb0 : (r0.1.drop (st.length + 1), r0.2) ∈ below st.length l rows := (below_mem hpre).mpr (by rw [← e0]; exact hr0)
          have hrow : ∀ r ∈ below st.length l rows, RowOk m' r := fun r hr' => by
            obtain ⟨k, x⟩ := r
            have hm := (below_mem hpre).mp hr'
            obtain ⟨⟨a1, a2⟩, a3, a4⟩ := hok _ hm
            simp only [List.length_append, List.length_cons] at a2 a4
            exact ⟨⟨fun c hc => a1 c (List.mem_append_right _ (List.mem_cons_of_mem _ hc)), by show k.length ≤ 8; omega⟩, a3, by show k.length < m'; omega⟩
          refine ⟨_, rfl, .inl ⟨rfl, _, SqL.of hk7⟩, _, rfl, _, rfl, hsp m' _ _ _ _ rfl ⟨below st.length l rows, B, rfl, hB7, below_keys hpre hkn, ?_, hrow, ?_, fun v o H8 g8 hT hR => ?_⟩⟩
          · unfold below
            rw [List.length_map]
            exact Nat.le_trans (List.length_filter_le _ _) hlen
          · have := (hrow _ hb0).2.2
            omega
          cases o with
          | none =>
            have := cn_of_mem (below_keys hpre hkn) hb0
            rw [hT] at this
            cases this
          | some t =>
            refine ⟨by show 2 ≤ sizeLine; decide, fun tp htp => ?_⟩
            have g9 : Gz K H8 (upd H8 tp (.tup [.str (S [l]), v])) := .new htp
            have hk9 := (g8.trans g9).lst hk7 id
            refine ⟨kl, ys4, _, rfl, rfl, hk9, szl (by omega), ?_⟩
            have gs : Go (tbs K) (fun b => b = kl) (upd H8 tp (.tup [.str (S [l]), v])) (upd (upd H8 tp (.tup [.str (S [l]), v])) kl (.lst (ys4 ++ [.ref tp]))) := .set hk9 rfl rfl rfl
            refine ⟨(g4.trans (g7.trans (g8.trans g9))).put hkl hk9 rfl rfl, ys4 ++ [.ref tp], ks ++ [(l, t)], upd_same, ?_, ?_, ?_, _, _, _, _, rfl⟩
            · rw [List.map_append, hks, take_snoc hli]
              rfl
            · refine ((hrep.keep (g7.trans (g8.trans g9)).keep).keep gs.keep).snoc (gs.fix upd_same rfl) ?_
              exact Rep.keep gs.keep t (Rep.keep g9.keep t hR)
            · obtain ⟨t1, t2, t3, t4⟩ := hT
              intro q hq
              rcases List.mem_append.mp hq with hq | hq
              · exact hkt q hq
              · have := List.mem_singleton.mp hq
                subst this
                refine ⟨hletter l ((hmem l).mp hlm), t1, t2, ⟨r0.1.drop (st.length + 1), r0.2, ?_⟩, fun k => ?_⟩
                · rw [← e0]
                  exact cn_of_mem hkn hr0
                · rw [t4, cn_below hpre hkn]
      · rintro σ H4 ⟨g4, ys4, ks, hk4, hks, hrep, hkt, a, b, c, e, rfl⟩
        rw [List.length_map, List.length_map, List.take_length] at hks
        have hd4 : H4 d = some (.dK (dkv rows)) := (g2.trans g4).dK hd id
        have hget : (valV (dkv rows) (Sum.inr (S st))).getD V.non = oS (cn rows st) := by
          rw [valV_dkv]
          cases cn rows st <;> rfl
        have hall : ∀ l k x, cn rows (st ++ l :: k) = some x → ∃ p ∈ ks, p.1 = l := fun l k x hx => by
          have h1 : l ∈ seconds st.length rows := List.mem_filterMap.mpr ⟨_, cn_mem hx, at_len⟩
          have h2 := (hmem l).mpr h1
          rw [← hks] at h2
          obtain ⟨p, hp, e⟩ := List.mem_map.mp h2
          exact ⟨p, hp, e⟩
        have hup : Up ks := by
          have := hls
          rw [← hks, List.pairwise_map] at this
          exact this
        have hT : IsTree (some (.node st (cn rows st) ks)) (cn rows) := node_of hstL (fun k x hx => ⟨(hok _ (cn_mem hx)).2.1, (hok _ (cn_mem hx)).1.2⟩) (fun k x hx => hpre _ (cn_mem hx)) hgr
          ⟨r1.1, r1.2, cn_of_mem hkn hr1⟩ hup hkt hall
        refine ⟨_, rfl, _, rfl, d, rfl, .inl ⟨_, .inl hd4⟩, _, rfl, _, DGet.k (k := Sum.inr (S st)) hd4, _, rfl, ?_⟩
        rw [hget]
        exact node_make ⟨kl, rfl, .inr hk4⟩ hrep hT.1 hT.2.2.1 fun v H5 g5 hR => q v _ H5 (g2.trans (g4.trans g5)) hT hR
theorem D_tree_under_at (n : Fn1 K mg "tree_under" s_tree_under) (G : TX K mg) (D_Ni : DefM P w K mg base 11 "Node" "__init__" ["self", "stem", "value", "kids"] (spNodeInit K)) (D_shared_start : Def P w K mg base CX0 1 "shared_start" ["one", "other"] (spSharedStart K)) (m : Nat) :
    Def P w K mg base CX0 (13 + m) "tree_under" ["content"] (spTreeUnder K m) := by
  induction m with
  | zero => exact D_tu_step (j := 12) (by omega) n G D_Ni D_shared_start ((n.no0 sc_tree_under bind_tree_under).mono (by omega)) fun m' vs H Q E e => nomatch e
  | succ m ih => exact D_tu_step (j := 13 + m) (by omega) n G D_Ni D_shared_start ih fun m' vs H Q E e h => by cases e; exact h
theorem mergeK_rows : ∀ (b a : List (W × W)), KeysN (a ++ b) → mergeK (dkv a) (dkv b) = dkv (a ++ b)
  | [], a, _ => by rw [List.append_nil]; rfl
  | r :: b, a, h => by
    have h2 : KeysN ((a ++ [r]) ++ b) := by rw [List.append_assoc]; exact h
    have hn : r.1 ∉ a.map (·.1) := by
      unfold KeysN at h
      rw [List.map_append, List.nodup_append] at h
      exact fun hin => h.2.2 _ hin _ List.mem_cons_self rfl
    have := mergeK_rows b (a ++ [r]) h2
    rw [← putK_new hn] at this
    rw [List.append_assoc] at this
    exact this
theorem paired_at {α β : Type} {F : α → β → Prop} : ∀ {l₁ : List α} {l₂ : List β}, Paired F l₁ l₂ → ∀ {i : Nat} {a : α}, l₁[i]? = some a → ∃ b, l₂[i]? = some b ∧ F a b
  | _, _, .nil, i, a, h => by simp at h
  | _, _, .cons x y, 0, a, h => by
    simp at h
    subst h
    exact ⟨_, rfl, x⟩
  | _, _, .cons x y, i + 1, a, h => by
    obtain ⟨b, h1, h2⟩ := paired_at y (i := i) (by simpa using h)
    exact ⟨b, by simpa using h1, h2⟩
def spTreeOf (K : PySem.W.Frag) : Sp := fun vs H Q _ => ∃ (rows : List (W × W)) (d : Addr), vs = [.ref d] ∧ H d = some (.dK (dkv rows)) ∧ KeysN rows ∧ rows.length ≤ 60 ∧ (∀ r ∈ rows, IsKey r.1 ∧ Vl r.2) ∧ ∀ v o H', Gz K H H' → IsTree o (cn rows) → RepO K H' o v → Q v H'
theorem D_tree_of (n : Fn1 K mg "tree_of" s_tree_of) (G : TX K mg) (D_need_key : Def P w K mg base CX0 2 "need_key" ["key"] (spNeedKey K)) (D_need_value : Def P w K mg base CX0 2 "need_value" ["value"] (spNeedValue K))
    (D_tree_under : Def P w K mg base CX0 22 "tree_under" ["content"] (spTreeUnder K 9)) : Def P w K mg base CX0 23 "tree_of" ["pairs"] (spTreeOf K) := by
  refine n.mk0 sc_tree_of bind_tree_of (fun vs H Q E h => ?_) (fun cdv A outer s H vs Q E hr h => ?_)
  · obtain ⟨_, _, rfl, _⟩ := h
    rfl
  · obtain ⟨rows, d, rfl, hd, hkn, hlen, hok, q⟩ := h
    refine ⟨_, (pss_cons (ps_set (i := 1) sc_tree_of.nd rfl (Or.inl rfl) (pe_ifExp (pt_val (pe_callB call_isi (by rfl) G.b_isinstance (by decide +kernel) (pa_cons (pv 0) (pa_cons (pe_ty (n := "dict") G.b_dict (by decide +kernel)) pa_nil)))) (LiI.pe_listItems rfl (pv 0) (by rfl) G.b_list (by decide +kernel)) (pv 0)))
      (pss_cons (ps_for PassesOwn.never rfl (pi_list (pv 1)) (pg_tup rfl (pgs_cons (pg_name (i := 2) sc_tree_of.nd rfl (Or.inl rfl)) (pgs_cons (pg_name (i := 3) sc_tree_of.nd rfl (Or.inl rfl)) pgs_nil))) (pss_cons (ps_expr (pe_cd D_need_key (hr.mono (by omega)) (by rfl) (pa_cons (pv 2) pa_nil)))
      (pss_one (ps_expr (pe_cd D_need_value (hr.mono (by omega)) (by rfl) (pa_cons (pv 3) pa_nil))))))
      (pss_one (ps_ret (pe_cd D_tree_under (hr.mono (by omega)) (by rfl) (pa_cons (pe_callTy (call_dictP rfl) (by rfl) G.b_dict (by decide +kernel) (pa_cons (pv 1) pa_nil)) pa_nil)))))), ?_⟩
    refine ⟨_, rfl, _, _, _, _, true, rfl, .ty "dict", .base (.dK hd), kit_ty (by decide +kernel), true, rfl, ?_⟩
    refine ⟨_, rfl, d, _, rfl, hd, fun H1 p ts hsame hp hts hpts hlst hpair => ?_⟩
    have g1 : Gz K H H1 := .same hsame
    refine ⟨_, rfl, p, rfl, ⟨_, SqL.of hlst⟩, ?_⟩
    refine for_it (walk_list (xs := ts.map V.ref)) (fun i σ H' => Gz K H1 H' ∧ ∃ a b, σ = [some (.ref d), some (.ref p), a, b]) ⟨.refl, _, _, rfl⟩ (fun i σ H' _ ⟨g, _⟩ => SqL.of (g.lst hlst id)) ?_ ?_
    · rintro i x σ H3 H2 hi ⟨g, a, b, rfl⟩ ⟨rfl, hxi⟩
      obtain ⟨t, ht, rfl⟩ : ∃ t, ts[i]? = some t ∧ x = V.ref t := by
        rw [List.getElem?_map] at hxi
        cases e : ts[i]? with
        | none => rw [e] at hxi; cases hxi
        | some t => rw [e] at hxi; exact ⟨t, rfl, (Option.some.inj hxi).symm⟩
      obtain ⟨kv, hkv, htup⟩ := paired_at hpair ht
      obtain ⟨r, hr', rfl⟩ := List.mem_map.mp (show kv ∈ dkv rows from List.mem_of_getElem? hkv)
      have ht2 := g.tup htup
      refine ⟨t, _, rfl, .of ht2, rfl, _, _, rfl, _, _, rfl, rfl, ?_⟩
      exact ⟨_, rfl, r.1, rfl, (hok r hr').1, fun H4 g4 => ⟨_, rfl, r.2, rfl, (hok r hr').2, fun H5 g5 => ⟨g.trans (g4.trans g5), _, _, rfl⟩⟩⟩
    · rintro σ H' ⟨g, a, b, rfl⟩
      refine ⟨_, rfl, p, ts, dkv rows, rfl, SqL.of (g.lst hlst id), ?_, fun D hD => ?_⟩
      · exact L2.Paired.mapP hpair fun t kv h => SqT.of (g.tup h)
      · rw [show mergeK [] (dkv rows) = dkv rows from mergeK_rows rows [] hkn]
        exact ⟨rows, D, rfl, upd_same, hkn, hlen, fun r hr' => ⟨(hok r hr').1, (hok r hr').2, Nat.lt_succ_of_le (hok r hr').1.2⟩, by omega, fun v o H2 g2 => q v o H2 (g1.trans (g.trans ((Go.new hD).trans g2)))⟩
end
end Seal
namespace Seal
open PySem PySem.Spec PyProof.Rows L2 LamX NdefX
theorem sc_L_begun : FnScope ["_law_script", "_law_cells", "_law_cell"] ["_law_script"] (defScope s_L_begun) := ⟨rfl, rfl, rfl, by decide +kernel, rfl, by decide +kernel, by decide +kernel⟩
theorem bind_L_begun : BindQ "_law_begun" "_law_begun" s_L_begun ["_law_script"] := fun _ _ _ _ _ _ us hl => match us, hl with | [_], _ => rfl
theorem sc_L_draw : FnScope ["_law_state", "_law_many", "_law_cells", "_law_at", "_law_cell"] ["_law_state", "_law_many"] (defScope s_L_draw) := ⟨rfl, rfl, rfl, by decide +kernel, rfl, by decide +kernel, by decide +kernel⟩
theorem bind_L_draw : BindQ "_law_draw" "_law_draw" s_L_draw ["_law_state", "_law_many"] := fun _ _ _ _ _ _ us hl => match us, hl with | [_, _], _ => rfl
/-- the state of the draws: at st, its cells at b -/
def StAt (H : Hp) (st b : Addr) : Prop := ∃ (ns : List Int) (a x : Int), H st = some (.lst [.ref b, .int a, .int x]) ∧ H b = some (.lst (ns.map V.int)) ∧ ns ≠ [] ∧ ns.length ≤ 1000 ∧ (∀ n ∈ ns, 0 ≤ n) ∧ 0 ≤ a ∧ 0 ≤ x ∧ x < 2147483647
def Ms (st b : Addr) : MM := fun c => c = st ∨ c = b
theorem StAt.go {Ts : Tbs} {M : MM} {H H' : Hp} {st b : Addr} (h : StAt H st b) (g : Go Ts M H H') (h1 : ¬ M st) (h2 : ¬ M b) : StAt H' st b := by
  obtain ⟨ns, a, x, e1, e2, r⟩ := h
  exact ⟨ns, a, x, g.lst e1 h1, g.lst e2 h2, r⟩
theorem StAt.keep {K : PySem.W.Frag} {H H' : Hp} {st b : Addr} (h : StAt H st b) (g : Gz K H H') : StAt H' st b := h.go g id id
theorem StAt.ne {H : Hp} {st b : Addr} (h : StAt H st b) : st ≠ b := by
  obtain ⟨ns, a, x, e1, e2, r⟩ := h
  intro e
  rw [← e, e1] at e2
  cases ns with
  | nil => cases e2
  | cons n ns => cases e2
theorem StAt.hasM {H : Hp} {st b : Addr} (h : StAt H st b) : ∀ c, Ms st b c → H c ≠ none := by
  obtain ⟨ns, a, x, e1, e2, r⟩ := h
  rintro c (rfl | rfl)
  · rw [e1]; simp
  · rw [e2]; simp
theorem ixN_nat {n k : Nat} (h : k < n) : ixN n (k : Int) = some k := by
  unfold ixN
  rw [if_pos (by omega), if_pos (by omega)]
  rfl
theorem log_ok {m : Int} (h : m ≤ 10 ^ 29) (h0 : 0 < m) : m.natAbs.log2 < 9000 := by
  have hn : m.natAbs < 2 ^ 100 := by
    have : (10 : Int) ^ 29 = 100000000000000000000000000000 := by decide
    have : (2 : Nat) ^ 100 = 1267650600228229401496703205376 := by decide
    omega
  have := (Nat.log2_lt (k := 100) (show m.natAbs ≠ 0 by omega)).mpr hn
  omega
theorem dpAll_ints {K : PySem.W.Frag} {H : Hp} : ∀ ns : List Int, DpAll K H (ns.map V.int) (ns.map PyData.int)
  | [] => .nil
  | n :: ns => .cons (.int n) (dpAll_ints ns)
theorem eqv_nil {ds : List PyData} : PyData.eqv (.list ds) (.list []) = decide (ds = []) := by
  cases ds with
  | nil => rfl
  | cons _ _ => rfl
def spBegun (K : PySem.W.Frag) : Sp := fun vs H Q _ => ∃ (s : Addr) (ns : List Int), vs = [.ref s] ∧ SqL K H s (ns.map V.int) ∧ (∀ H', Gz K H H' → SqL K H' s (ns.map V.int)) ∧ ns.length ≤ 1000 ∧ ∀ st b H', Gz K H H' → StAt H' st b → Q (.ref st) H'
def spDraw (K : PySem.W.Frag) : Sp := fun vs H Q _ => ∃ (st b : Addr) (m : Int), vs = [.ref st, .int m] ∧ StAt H st b ∧ 0 < m ∧ m ≤ 10 ^ 29 ∧ ∀ (r : Int) H', 0 ≤ r → r < m → Go (tbs K) (Ms st b) H H' → StAt H' st b → Q (.int r) H'
section
variable {P : Program} {w : World} {K : PySem.W.Frag} {mg : Str → Option Value} {base : Heap}
theorem D_L_draw (n : Fn1 K mg "_law_draw" s_L_draw) (G : TX K mg) : Def P w K mg base CX0 1 "_law_draw" ["_law_state", "_law_many"] (spDraw K) := by
  refine n.mk0 sc_L_draw bind_L_draw (fun vs H Q E h => ?_) (fun cdv A outer s H vs Q E hr h => ?_)
  · obtain ⟨_, _, _, rfl, _⟩ := h
    rfl
  · obtain ⟨st, b, m, rfl, hS, hm, hm29, q⟩ := h
    have hne := hS.ne
    obtain ⟨ns, a, x, e1, e2, hns, hnl, hn0, ha, hx, hx2⟩ := hS
    refine ⟨_, (pss_cons (ps_set (i := 2) sc_L_draw.nd rfl (Or.inl rfl) (pe_ix ix_list (pv 0) pe_int (fun _ _ => rfl)))
      (pss_cons (ps_set (i := 3) sc_L_draw.nd rfl (Or.inl rfl) (pe_op op_mod (pe_ix ix_list (pv 0) pe_int (fun _ _ => rfl)) (pe_callB call_len (by rfl) G.b_len PySem.boot_len (pa_cons (pv 2) pa_nil))))
      (pss_cons (ps_set (i := 4) sc_L_draw.nd rfl (Or.inl rfl) (pe_ix ix_list (pv 2) (pv 3) (fun _ _ => rfl)))
      (pss_cons (ps_if (pt_cmpR op_ge (pv 4) (pe_op op_pow pe_int pe_int) (nomark _)) (pss_cons (ps_asg (pe_op op_fdivW (pv 4) (pv 1)) (pg_sub (pv 2) (pv 3) set_list))
      (pss_one (ps_ret (pe_op op_mod (pv 4) (pv 1))))) pss_nil)
      (pss_cons (ps_asg (pe_op op_add (pe_ix ix_list (pv 0) pe_int (fun _ _ => rfl)) pe_int) (pg_sub (pv 0) pe_int set_list))
      (pss_cons (ps_asg (pe_op op_mod (pe_op op_add (pe_op op_add (pe_op op_mul (pe_ix ix_list (pv 0) pe_int (fun _ _ => rfl)) pe_int) (pv 4)) pe_int) pe_int) (pg_sub (pv 0) pe_int set_list))
      (pss_one (ps_ret (pe_op op_mod (pe_op op_fdivW (pe_op op_mod (pe_op op_mul (pe_ix ix_list (pv 0) pe_int (fun _ _ => rfl)) (pe_ix ix_list (pv 0) pe_int (fun _ _ => rfl))) pe_int) pe_int) (pv 1)))))))))), ?_⟩
    have hl : 0 < ns.length := by cases ns with
      | nil => exact absurd rfl hns
      | cons _ _ => simp
    have l1 : SqL K H st [.ref b, .int a, .int x] := .of e1
    refine ⟨_, rfl, st, _, 0, _, rfl, rfl, l1, rfl, ?_⟩
    refine ⟨_, rfl, st, _, 1, _, rfl, rfl, l1, rfl, ?_⟩
    refine ⟨_, rfl, .ref b, ns.length, rfl, .inl ⟨_, .of e2, by rw [List.length_map]⟩, _, _, rfl, rfl, by omega, ?_⟩
    obtain ⟨at_, hat, hlt⟩ : ∃ k : Nat, a % (ns.length : Int) = (k : Int) ∧ k < ns.length := by
      have h1 := Int.emod_nonneg a (show (ns.length : Int) ≠ 0 by omega)
      have h2 := Int.emod_lt_of_pos a (show 0 < (ns.length : Int) by omega)
      exact ⟨(a % (ns.length : Int)).toNat, by omega, by omega⟩
    show gName 3 (V.int (a % (ns.length : Int))) _ _ _
    rw [hat]
    have hcell : (ns.map V.int)[at_]? = some (V.int ns[at_]) := by rw [List.getElem?_map, List.getElem?_eq_getElem hlt]; rfl
    have hc0 := hn0 ns[at_] (List.getElem_mem hlt)
    generalize hcc : ns[at_] = cell at hcell hc0
    refine ⟨_, rfl, _, rfl, b, _, (at_ : Int), _, rfl, rfl, .of e2, atI_nat hcell, ?_⟩
    refine ⟨_, rfl, _, _, rfl, rfl, ⟨by omega, by omega, by decide⟩, _, _, rfl, rfl, _, rfl, ?_⟩
    by_cases hbig : (10 : Int) ^ (18 : Int).toNat ≤ cell
    · rw [decide_eq_true (by omega)]
      refine ⟨_, rfl, _, rfl, _, _, rfl, rfl, ⟨hm, log_ok hm29 hm⟩, _, rfl, _, rfl, b, _, (at_ : Int), at_, rfl, rfl, e2, ixN_nat (by rw [List.length_map]; exact hlt), ?_⟩
      refine ⟨_, rfl, _, rfl, _, _, rfl, rfl, hm, ?_⟩
      refine q _ _ (Int.emod_nonneg _ (by omega)) (Int.emod_lt_of_pos _ hm) (.set e2 rfl rfl (.inr rfl)) ⟨ns.set at_ (cell / m), a, x, ?_, ?_, ?_, by rw [List.length_set]; exact hnl, ?_, ha, hx, hx2⟩
      · rw [upd_ne hne]; exact e1
      · rw [upd_same, List.map_set]
      · intro h
        have := congrArg List.length h
        rw [List.length_set] at this
        simp at this
        exact hns this
      · intro z hz
        rcases List.mem_or_eq_of_mem_set hz with h | h
        · exact hn0 z h
        · rw [h]
          exact Int.ediv_nonneg hc0 (by omega)
    · rw [decide_eq_false (by omega)]
      refine ⟨_, rfl, st, _, 1, _, rfl, rfl, l1, rfl, _, _, rfl, rfl, _, rfl, st, _, 1, 1, rfl, rfl, e1, rfl, ?_⟩
      refine ⟨_, rfl, st, _, 2, _, rfl, rfl, .of upd_same, rfl, _, _, rfl, rfl, .inr ⟨by decide, by decide⟩, _, rfl, _, _, rfl, rfl, _, _, rfl, rfl, _, _, rfl, rfl, (show (0 : Int) < 2147483647 by decide), _, rfl, st, _, 2, 2, rfl, rfl, upd_same, rfl, ?_⟩
      have x0 := Int.emod_nonneg (x * 48271 + cell + 12345) (show (2147483647 : Int) ≠ 0 by decide)
      have x1 := Int.emod_lt_of_pos (x * 48271 + cell + 12345) (show (0 : Int) < 2147483647 by decide)
      refine ⟨_, rfl, st, _, 2, _, rfl, rfl, .of upd_same, rfl, _, rfl, st, _, 2, _, rfl, rfl, .of upd_same, rfl, _, _, rfl, rfl, .inr ⟨?_, ?_⟩, _, _, rfl, rfl, (show (0 : Int) < 2147483629 by decide), _, _, rfl, rfl, ⟨by decide, by decide⟩, _, rfl, _, _, rfl, rfl, hm, ?_⟩
      · show -(2 ^ 64) < (x * 48271 + cell + 12345) % 2147483647
        omega
      · show (x * 48271 + cell + 12345) % 2147483647 < 2 ^ 64
        omega
      refine q _ _ (Int.emod_nonneg _ (by omega)) (Int.emod_lt_of_pos _ hm) ((Go.set e1 rfl rfl (.inl rfl)).trans (.set upd_same rfl rfl (.inl rfl))) ⟨ns, a + 1, (x * 48271 + cell + 12345) % 2147483647, upd_same, ?_, hns, hnl, hn0, by omega, x0, x1⟩
      rw [upd_ne hne.symm, upd_ne hne.symm]
      exact e2
theorem D_L_begun (n : Fn1 K mg "_law_begun" s_L_begun) (G : TX K mg) : Def P w K mg base CX0 1 "_law_begun" ["_law_script"] (spBegun K) := by
  refine n.mk0 sc_L_begun bind_L_begun (fun vs H Q E h => ?_) (fun cdv A outer s H vs Q E hr h => ?_)
  · obtain ⟨_, _, rfl, _⟩ := h
    rfl
  · obtain ⟨sa, ns, rfl, hs, hsk, hl, q⟩ := h
    have hu : _ < cLine := hr.units
    refine ⟨_, (pss_cons (ps_setLc (i := 1) (own := [("_law_cell", 2)]) (g := gName 2) (tt := tYes) (by rfl) sc_L_begun.nd rfl rfl (sw_true rfl rfl rfl (by decide +kernel)) (pi_list (pv 0)) (blkOk_by (N := ["_law_script", "_law_cells", "_law_cell"]) (sc := defScope s_L_begun) (by decide +kernel)) (fun _ _ _ _ _ => pg_name (i := 2) sc_L_begun.nd rfl (Or.inl rfl)) (fun _ _ _ _ _ => pts_nil) (fun _ _ _ _ _ => (pe_callB call_abs (by rfl) G.b_abs (by decide +kernel) (pa_cons (pv 2) pa_nil))))
      (pss_cons (ps_if (pt_cmpR (op_eqD hr.units) (pv 1) (pe_lst pa_nil) (nomark _)) (pss_one (ps_set (i := 1) sc_L_begun.nd rfl (Or.inl rfl) (pe_lst (pa_cons pe_int pa_nil)))) pss_nil)
      (pss_one (ps_ret (pe_lst (pa_cons (pv 1) (pa_cons pe_int (pa_cons pe_int pa_nil)))))))), ?_⟩
    refine ⟨_, rfl, sa, rfl, ⟨_, hs⟩, fun D hD => ?_⟩
    refine lc_go (Ts := tbs K) (M := M0) (walk_list (xs := ns.map V.int)) hD (by rw [List.length_map]; omega) m0_ne (fun i acc H' => Gz K H H' ∧ ∃ ms : List Int, acc = ms.map V.int ∧ ms.length = i ∧ ∀ n ∈ ms, 0 ≤ n) (fun i acc H' H'' ⟨a, b⟩ g => ⟨a.loc hD g, b⟩) ⟨.refl, [], rfl, rfl, by simp⟩ (fun i acc H' _ ⟨g, _⟩ => hsk H' g) ?_ ?_
    · rintro i acc x H' H'' R1 R2 hi ⟨g, ms, rfl, hml, hm0⟩ ⟨rfl, hxi⟩ r1 r2
      obtain ⟨z, hz, rfl⟩ : ∃ z, ns[i]? = some z ∧ x = V.int z := by
        rw [List.getElem?_map] at hxi
        cases e : ns[i]? with
        | none => rw [e] at hxi; cases hxi
        | some z => rw [e] at hxi; exact ⟨z, rfl, (Option.some.inj hxi).symm⟩
      refine ⟨rfl, _, rfl, _, rfl, ?_⟩
      refine r1 _ _ .refl ⟨g, ms ++ [if z < 0 then -z else z], by rw [List.map_append]; rfl, by simp; omega, fun n hn => ?_⟩
      rcases List.mem_append.mp hn with h | h
      · exact hm0 n h
      · have := List.mem_singleton.mp h
        rw [this]
        split <;> omega
    · rintro acc H' ⟨g, ms, rfl, hml, hm0⟩ h1 _
      rw [List.length_map] at hml
      refine ⟨_, rfl, by show 0 ≤ sizeLine; decide, fun e he => ?_⟩
      have ge : Gz K H' (upd H' e (.lst [])) := .new he
      have h1e := ge.lst h1 id
      refine ⟨_, _, .lst (.of h1e) (dpAll_ints ms), .lst (.of upd_same) .nil, PySem.W.ke_shaped_ints ms, rfl, _, rfl, ?_⟩
      rw [eqv_nil]
      by_cases hm : ms = []
      · subst hm
        rw [decide_eq_true (by rfl)]
        refine ⟨by show 1 ≤ sizeLine; decide, fun c hc => ?_⟩
        have gc : Gz K (upd H' e (.lst [])) (upd (upd H' e (.lst [])) c (.lst [.int 1])) := .new hc
        refine ⟨_, rfl, by show 3 ≤ sizeLine; decide, fun st hst => ?_⟩
        have gs : Gz K (upd (upd H' e (.lst [])) c (.lst [.int 1])) (upd (upd (upd H' e (.lst [])) c (.lst [.int 1])) st (.lst [.ref c, .int 0, .int 1])) := .new hst
        refine q st c _ (g.trans (ge.trans (gc.trans gs))) ⟨[1], 0, 1, upd_same, gs.lst upd_same id, by simp, by decide, by simp, by decide, by decide, by decide⟩
      · rw [decide_eq_false (by simpa using hm)]
        refine ⟨_, rfl, by show 3 ≤ sizeLine; decide, fun st hst => ?_⟩
        have gs : Gz K (upd H' e (.lst [])) (upd (upd H' e (.lst [])) st (.lst [.ref D, .int 0, .int 1])) := .new hst
        refine q st D _ (g.trans (ge.trans gs)) ⟨ms, 0, 1, upd_same, gs.lst h1e id, hm, by omega, hm0, by decide, by decide, by decide⟩
end
end Seal
namespace Seal
open PySem PySem.Spec PyProof.Rows L2 LamX NdefX
theorem sc_L_letters : FnScope ["_law_state", "_law_letters_here", "_law_first", "_law_many", "_law_k"] ["_law_state"] (defScope s_L_letters) := ⟨rfl, rfl, rfl, by decide +kernel, rfl, by decide +kernel, by decide +kernel⟩
theorem bind_L_letters : BindQ "_law_letters" "_law_letters" s_L_letters ["_law_state"] := fun _ _ _ _ _ _ us hl => match us, hl with | [_], _ => rfl
theorem sc_L_key : FnScope ["_law_state", "_law_letters_here", "_law_keys", "_law_way", "_law_tail", "_law_k", "_law_word_here", "_law_at"] ["_law_state", "_law_letters_here", "_law_keys"] (defScope s_L_key) := ⟨rfl, rfl, rfl, by decide +kernel, rfl, by decide +kernel, by decide +kernel⟩
theorem bind_L_key : BindQ "_law_key" "_law_key" s_L_key ["_law_state", "_law_letters_here", "_law_keys"] := fun _ _ _ _ _ _ us hl => match us, hl with | [_, _, _], _ => rfl
theorem sc_L_value : FnScope ["_law_state", "_law_signs", "_law_way", "_law_many", "_law_k"] ["_law_state"] (defScope s_L_value) := ⟨rfl, rfl, rfl, by decide +kernel, rfl, by decide +kernel, by decide +kernel⟩
theorem bind_L_value : BindQ "_law_value" "_law_value" s_L_value ["_law_state"] := fun _ _ _ _ _ _ us hl => match us, hl with | [_], _ => rfl
abbrev Gm (K : PySem.W.Frag) (st b : Addr) (H H' : Hp) : Prop := Go (tbs K) (Ms st b) H H'
theorem StAt.notM {H : Hp} {st b c : Addr} (h : StAt H st b) (hc : H c = none) : ¬ Ms st b c := fun hm => h.hasM c hm hc
def alph : W := (List.range 26).map (· + 97)
theorem alph_eq : ("abcdefghijklmnopqrstuvwxyz" : Str) = S alph := by decide +kernel
theorem alph_at {k : Nat} (h : k < 26) : alph[k]? = some (k + 97) := by
  unfold alph
  rw [List.getElem?_map, List.getElem?_range h]
  rfl
theorem join_ones (cs : W) : Txt.join (S []) ((cs.map fun c => [c]).map S) = S cs := by
  rw [glued_nil]
  congr 1
  induction cs with
  | nil => rfl
  | cons c cs ih => rw [List.map_cons, List.flatten_cons, ih]; rfl
theorem ones_sum (cs : W) : (((cs.map fun c => [c]).map S).map (·.length)).sum = cs.length := by
  induction cs with
  | nil => rfl
  | cons c cs ih =>
    rw [List.map_cons, List.map_cons, List.map_cons, List.sum_cons, ih, S_len]
    simp
    omega
theorem join_ok {cs : W} (h : cs.length ≤ 1000) : (((cs.map fun c => [c]).map S).map (·.length)).sum + ((cs.map fun c => [c]).map S).length * (S []).length ≤ 16777216 := by
  rw [ones_sum, S_len]
  simp
  omega
def spLetters (K : PySem.W.Frag) : Sp := fun vs H Q _ => ∃ (st b : Addr), vs = [.ref st] ∧ StAt H st b ∧ ∀ (ls : W) H', Ltr ls → ls ≠ [] → ls.length ≤ 26 → Gm K st b H H' → StAt H' st b → Q (.str (S ls)) H'
section
variable {P : Program} {w : World} {K : PySem.W.Frag} {mg : Str → Option Value} {base : Heap}
theorem D_L_letters (n : Fn1 K mg "_law_letters" s_L_letters) (G : TX K mg) (D_L_draw : Def P w K mg base CX0 1 "_law_draw" ["_law_state", "_law_many"] (spDraw K)) : Def P w K mg base CX0 2 "_law_letters" ["_law_state"] (spLetters K) := by
  refine n.mk0 sc_L_letters bind_L_letters (fun vs H Q E h => ?_) (fun cdv A outer s H vs Q E hr h => ?_)
  · obtain ⟨_, _, rfl, _⟩ := h
    rfl
  · obtain ⟨st, b, rfl, hS, q⟩ := h
    refine ⟨_, (pss_cons (ps_set (i := 1) sc_L_letters.nd rfl (Or.inr rfl) pe_str)
      (pss_cons (ps_asg (pe_tup (pa_cons (pe_cd D_L_draw (hr.mono (by omega)) (by rfl) (pa_cons (pv 0) (pa_cons pe_int pa_nil))) (pa_cons (pe_ix ix_list (pe_lst (pa_cons pe_int (pa_cons pe_int (pa_cons pe_int (pa_cons pe_int pa_nil))))) (pe_cd D_L_draw (hr.mono (by omega)) (by rfl) (pa_cons (pv 0) (pa_cons pe_int pa_nil))) (fun _ _ => rfl)) pa_nil))) (pg_tup rfl (pgs_cons (pg_name (i := 2) sc_L_letters.nd rfl (Or.inr rfl)) (pgs_cons (pg_name (i := 3) sc_L_letters.nd rfl (Or.inl rfl)) pgs_nil))))
      (pss_one (ps_ret (pe_join pe_str (pe_lc (own := [("_law_k", 4)]) (g := gName 4) (tt := tYes) (by rfl) sc_L_letters.nd (pi_range1 rfl G.b_range (pa_cons (pv 3) pa_nil)) (blkOk_by (N := ["_law_state", "_law_letters_here", "_law_first", "_law_many", "_law_k"]) (sc := defScope s_L_letters) (by decide +kernel)) (fun _ _ _ _ _ => pg_name (i := 4) sc_L_letters.nd rfl (Or.inl rfl)) (fun _ _ _ _ _ => pts_nil) (fun _ _ _ _ _ => (pe_ix ix_str (pv 1) (pe_op op_mod (pe_op op_add (pv 2) (pv 4)) pe_int) (fun _ _ => rfl))))))))), ?_⟩
    refine ⟨_, rfl, st, b, _, rfl, hS, by decide, by decide, fun r1 H1 r10 r11 g1 s1 => ?_⟩
    refine ⟨by show 4 ≤ sizeLine; decide, fun L hL => ?_⟩
    have gL : Gz K H1 (upd H1 L (.lst [.int 2, .int 2, .int 3, .int 26])) := .new hL
    have hLm := s1.notM hL
    refine ⟨_, rfl, st, b, _, rfl, s1.keep gL, by decide, by decide, fun r2 H2 r20 r21 g2 s2 => ?_⟩
    obtain ⟨m, hm, hm2, hm26⟩ : ∃ m : Nat, atI [V.int 2, V.int 2, V.int 3, V.int 26] r2 = some (V.int (m : Int)) ∧ 2 ≤ m ∧ m ≤ 26 := by
      obtain rfl | rfl | rfl | rfl : r2 = 0 ∨ r2 = 1 ∨ r2 = 2 ∨ r2 = 3 := by omega
      · exact ⟨2, rfl, by omega, by omega⟩
      · exact ⟨2, rfl, by omega, by omega⟩
      · exact ⟨3, rfl, by omega, by omega⟩
      · exact ⟨26, rfl, by omega, by omega⟩
    refine ⟨L, _, r2, _, rfl, rfl, .of (g2.lst upd_same hLm), hm, by show 2 ≤ sizeLine; decide, fun T hT => ?_⟩
    have gT : Gz K H2 (upd H2 T (.tup [.int r1, .int m])) := .new hT
    have gA : Gm K st b H (upd H2 T (.tup [.int r1, .int m])) := g1.trans (gL.any.trans (g2.trans gT.any))
    have sA := s2.keep gT
    refine ⟨T, _, rfl, SqT.of upd_same, rfl, _, _, rfl, _, _, rfl, rfl, ?_⟩
    refine ⟨⟨_, rfl⟩, _, rfl, (m : Int), rfl, by omega, by omega, fun D hD => ?_⟩
    refine lc_go (Ts := tbs K) (M := M0) (walk_range (lo := 0) (n := (m : Int).toNat)) hD (by omega) m0_ne (fun i acc H' => Gz K (upd H2 T (.tup [.int r1, .int m])) H' ∧ ∃ cs : W, acc = cs.map (fun c => V.str (S [c])) ∧ cs.length = i ∧ Ltr cs) (fun i acc H' H'' ⟨a, b⟩ g => ⟨a.loc hD g, b⟩) ⟨.refl, [], rfl, rfl, fun c hc => by cases hc⟩ (fun _ _ _ _ _ => trivial) ?_ ?_
    · rintro i acc x H' H'' R1 R2 hi ⟨g, cs, rfl, hl, hc⟩ ⟨rfl, rfl⟩ r1' r2'
      obtain ⟨k, hk, hk26⟩ : ∃ k : Nat, (r1 + (0 + (i : Nat) : Int)) % 26 = (k : Int) ∧ k < 26 := by
        have h1 := Int.emod_nonneg (r1 + (0 + (i : Nat) : Int)) (show (26 : Int) ≠ 0 by decide)
        have h2 := Int.emod_lt_of_pos (r1 + (0 + (i : Nat) : Int)) (show (0 : Int) < 26 by decide)
        exact ⟨((r1 + (0 + (i : Nat) : Int)) % 26).toNat, by omega, by omega⟩
      refine ⟨rfl, _, rfl, _, rfl, _, rfl, _, _, rfl, rfl, _, _, rfl, rfl, (show (0 : Int) < 26 by decide), _, _, k + 97, rfl, rfl, by decide, ?_, ?_⟩
      · rw [hk, alph_eq, S_list]
        exact atI_nat (alph_at hk26)
      rw [S_one]
      refine r1' _ _ .refl ⟨g, cs ++ [k + 97], by rw [List.map_append]; rfl, by simp; omega, fun c hcc => ?_⟩
      rcases List.mem_append.mp hcc with h | h
      · exact hc c h
      · have := List.mem_singleton.mp h
        subst this
        exact ⟨by omega, by omega⟩
    · rintro acc H' ⟨g, cs, rfl, hl, hc⟩ h1 _
      refine ⟨_, D, (cs.map fun c => [c]).map S, rfl, rfl, .inl (.of (by rw [List.map_map, List.map_map]; exact h1)), ?_, ?_⟩
      · exact join_ok (by omega)
      show Q (V.str (Txt.join (S []) _)) _
      rw [join_ones]
      have hlm : cs.length = m := by rw [hl]; omega
      refine q cs _ hc (fun e => by rw [e] at hlm; simp at hlm; omega) (by omega) (gA.trans g.any) (sA.keep g)
end
theorem strOk_S {k : W} (h : ∀ c ∈ k, c < 0x110000) : PyData.strOk (S k) = true := by
  unfold PyData.strOk S
  rw [List.all_toArray, List.all_eq_true]
  exact fun c hc => decide_eq_true (h c hc)
theorem shaped_strs {ks : List W} (h : ∀ k ∈ ks, ∀ c ∈ k, c < 0x110000) : SeqAt.shaped (.list (ks.map fun k => PyData.str (S k))) = true := by
  have h1 : PyData.canLayAll0 (ks.map fun k => PyData.str (S k)) = true := by
    induction ks with
    | nil => rfl
    | cons k ks ih =>
      rw [List.map_cons, PyData.canLayAll0, ih fun k hk => h k (List.mem_cons_of_mem _ hk), PyData.canLay0, strOk_S (h k List.mem_cons_self)]
      rfl
  have h2 : PyData.depthAll (ks.map fun k => PyData.str (S k)) = 0 := by
    clear h h1
    induction ks with
    | nil => rfl
    | cons k ks ih => rw [List.map_cons, PyData.depthAll, ih]; rfl
  simp [SeqAt.shaped, PyData.canLay0, PyData.depth, h1, h2]
theorem dpAll_strs {K : PySem.W.Frag} {H : Hp} : ∀ ks : List W, DpAll K H (ks.map fun k => V.str (S k)) (ks.map fun k => PyData.str (S k))
  | [] => .nil
  | n :: ns => .cons (.str _) (dpAll_strs ns)
theorem IsKey.cps {k : W} (h : IsKey k) : ∀ c ∈ k, c < 0x110000 := fun c hc => by
  have := (h.1 c hc).2
  omega
def spKey (K : PySem.W.Frag) : Sp := fun vs H Q _ => ∃ (st b : Addr) (ls : W) (ka : Addr) (ks : List W), vs = [.ref st, .str (S ls), .ref ka] ∧ StAt H st b ∧ Ltr ls ∧ ls ≠ [] ∧ ls.length ≤ 26 ∧ H ka = some (.lst (ks.map fun k => V.str (S k))) ∧ ¬ Ms st b ka ∧ ks.length ≤ 1000 ∧ (∀ k ∈ ks, IsKey k) ∧
  ∀ (k : W) H', IsKey k → Gm K st b H H' → StAt H' st b → Q (.str (S k)) H'
def spValue (K : PySem.W.Frag) : Sp := fun vs H Q _ => ∃ (st b : Addr), vs = [.ref st] ∧ StAt H st b ∧ ∀ (x : W) H', Vl x → Gm K st b H H' → StAt H' st b → Q (.str (S x)) H'
section
variable {P : Program} {w : World} {K : PySem.W.Frag} {mg : Str → Option Value} {base : Heap}
theorem D_L_key (n : Fn1 K mg "_law_key" s_L_key) (G : TX K mg) (D_L_draw : Def P w K mg base CX0 1 "_law_draw" ["_law_state", "_law_many"] (spDraw K)) : Def P w K mg base CX0 2 "_law_key" ["_law_state", "_law_letters_here", "_law_keys"] (spKey K) := by
  refine n.mk0 sc_L_key bind_L_key (fun vs H Q E h => ?_) (fun cdv A outer s H vs Q E hr h => ?_)
  · obtain ⟨_, _, _, _, _, rfl, _⟩ := h
    rfl
  · obtain ⟨st, b, ls, ka, ks, rfl, hS, hls, hln, hl26, hka, hkm, hkl, hks, q⟩ := h
    have hu := hu_of hr
    refine ⟨_, (pss_cons (ps_set (i := 3) sc_L_key.nd rfl (Or.inl rfl) (pe_cd D_L_draw (hr.mono (by omega)) (by rfl) (pa_cons (pv 0) (pa_cons pe_int pa_nil))))
      (pss_cons (ps_set (i := 4) sc_L_key.nd rfl (Or.inl rfl) (pe_join pe_str (pe_lc (own := [("_law_k", 5)]) (g := gName 5) (tt := tYes) (by rfl) sc_L_key.nd (pi_range1 rfl G.b_range (pa_cons (pe_ix ix_list (pe_lst (pa_cons pe_int (pa_cons pe_int (pa_cons pe_int (pa_cons pe_int (pa_cons pe_int pa_nil)))))) (pe_cd D_L_draw (hr.mono (by omega)) (by rfl) (pa_cons (pv 0) (pa_cons pe_int pa_nil))) (fun _ _ => rfl)) pa_nil)) (blkOk_by (N := ["_law_state", "_law_letters_here", "_law_keys", "_law_way", "_law_tail", "_law_k", "_law_word_here", "_law_at"]) (sc := defScope s_L_key) (by decide +kernel)) (fun _ _ _ _ _ => pg_name (i := 5) sc_L_key.nd rfl (Or.inl rfl)) (fun _ _ _ _ _ => pts_nil) (fun _ _ _ _ _ => (pe_ix ix_str (pv 1) (pe_cd D_L_draw (hr.mono (by omega)) (by rfl) (pa_cons (pv 0) (pa_cons (pe_callB call_len_str (by rfl) G.b_len PySem.boot_len (pa_cons (pv 1) pa_nil)) pa_nil))) (fun _ _ => rfl))))))
      (pss_cons (ps_if (PW.pt (pw_or (pt_cmpR (op_eqD hr.units) (pv 2) (pe_lst pa_nil) (nomark _)) (pw_or1 (pt_cmpR op_lt (pv 3) pe_int (nomark _))))) (pss_one (ps_ret (pv 4))) pss_nil)
      (pss_cons (ps_set (i := 6) sc_L_key.nd rfl (Or.inl rfl) (pe_ix ix_list (pv 2) (pe_cd D_L_draw (hr.mono (by omega)) (by rfl) (pa_cons (pv 0) (pa_cons (pe_callB call_len (by rfl) G.b_len PySem.boot_len (pa_cons (pv 2) pa_nil)) pa_nil))) (fun _ _ => rfl)))
      (pss_cons (ps_set (i := 7) sc_L_key.nd rfl (Or.inl rfl) (pe_cd D_L_draw (hr.mono (by omega)) (by rfl) (pa_cons (pv 0) (pa_cons (pe_op op_add (pe_callB call_len_str (by rfl) G.b_len PySem.boot_len (pa_cons (pv 6) pa_nil)) pe_int) pa_nil))))
      (pss_cons (ps_if (pt_cmpR op_lt (pv 3) pe_int (nomark _)) (pss_one (ps_ret (pe_slice sl_str (pv 6) po_none (po_some (pv 7))))) pss_nil)
      (pss_cons (ps_if (pt_cmpR op_lt (pv 3) pe_int (nomark _)) (pss_one (ps_ret (pe_slice sl_str (pe_op op_add_str (pv 6) (pv 4)) po_none (po_some pe_int)))) pss_nil)
      (pss_one (ps_ret (pe_slice sl_str (pe_op op_add_str (pe_op op_add_str (pe_slice sl_str (pv 6) po_none (po_some (pv 7))) (pv 4)) (pe_slice sl_str (pv 6) (po_some (pe_op op_sub (pe_op op_add (pv 7) (pv 3)) pe_int)) po_none)) po_none (po_some pe_int))))))))))), ?_⟩
    refine ⟨_, rfl, st, b, _, rfl, hS, by decide, by decide, fun way H1 w0 w1 g1 s1 => ?_⟩
    refine ⟨⟨_, rfl⟩, by show 5 ≤ sizeLine; decide, fun L hL => ?_⟩
    have gL : Gz K H1 (upd H1 L (.lst [.int 0, .int 1, .int 2, .int 3, .int 8])) := .new hL
    have hLm := s1.notM hL
    refine ⟨_, rfl, st, b, _, rfl, s1.keep gL, by decide, by decide, fun r2 H2 r20 r21 g2 s2 => ?_⟩
    obtain ⟨m, hm, hm8⟩ : ∃ m : Nat, atI [V.int 0, V.int 1, V.int 2, V.int 3, V.int 8] r2 = some (V.int (m : Int)) ∧ m ≤ 8 := by
      obtain rfl | rfl | rfl | rfl | rfl : r2 = 0 ∨ r2 = 1 ∨ r2 = 2 ∨ r2 = 3 ∨ r2 = 4 := by omega
      · exact ⟨0, rfl, by omega⟩
      · exact ⟨1, rfl, by omega⟩
      · exact ⟨2, rfl, by omega⟩
      · exact ⟨3, rfl, by omega⟩
      · exact ⟨8, rfl, by omega⟩
    refine ⟨L, _, r2, _, rfl, rfl, .of (g2.lst upd_same hLm), hm, (m : Int), rfl, by omega, by omega, fun D hD => ?_⟩
    have gA : Gm K st b H H2 := g1.trans (gL.any.trans g2)
    have hDm := s2.notM hD
    refine lc_go (Ts := tbs K) (M := Ms st b) (walk_range (lo := 0) (n := (m : Int).toNat)) hD (by omega) s2.hasM (fun i acc H' => Gm K st b H2 H' ∧ StAt H' st b ∧ ∃ cs : W, acc = cs.map (fun c => V.str (S [c])) ∧ cs.length = i ∧ Ltr cs)
      (fun i acc H' H'' ⟨a, a2, b⟩ g => ⟨a.loc hD g, a2.go g (fun e => hDm (.inl e.symm)) (fun e => hDm (.inr e.symm)), b⟩) ⟨.refl, s2, [], rfl, rfl, fun c hc => by cases hc⟩ (fun _ _ _ _ _ => trivial) ?_ ?_
    · rintro i acc x H' H'' R1 R2 hi ⟨g, s', cs, rfl, hl, hc⟩ ⟨rfl, rfl⟩ r1' r2'
      have hlp : 0 < ls.length := by cases ls with
        | nil => exact absurd rfl hln
        | cons _ _ => simp
      refine ⟨rfl, _, rfl, _, rfl, _, rfl, _, rfl, by rw [S_len]; exact sz (by omega), st, b, _, rfl, s', by rw [S_len]; omega, by rw [S_len]; omega, fun r3 H3 r30 r31 g3 s3 => ?_⟩
      rw [S_len] at r31
      obtain ⟨k, rfl⟩ : ∃ k : Nat, r3 = (k : Int) := ⟨r3.toNat, by omega⟩
      have hkl : k < ls.length := by omega
      obtain ⟨c, hck⟩ := S_at hkl
      refine ⟨_, _, c, rfl, rfl, by rw [S_len]; exact sz (by omega), by rw [S_list]; exact atI_nat hck, ?_⟩
      rw [S_one]
      refine r1' _ _ g3 ⟨g.trans g3, s3, cs ++ [c], by rw [List.map_append]; rfl, by simp; omega, fun c' hcc => ?_⟩
      rcases List.mem_append.mp hcc with h | h
      · exact hc c' h
      · have := List.mem_singleton.mp h
        subst this
        exact hls _ (List.mem_of_getElem? hck)
    · rintro acc H' ⟨g, s', cs, rfl, hl, hc⟩ h1 _
      refine ⟨_, D, (cs.map fun c => [c]).map S, rfl, rfl, .inl (.of (by rw [List.map_map, List.map_map]; exact h1)), ?_, ?_⟩
      · exact join_ok (by omega)
      show gName 4 (V.str (Txt.join (S []) _)) _ _ _
      rw [join_ones]
      have hcl : cs.length ≤ 8 := by omega
      have gB : Gm K st b H H' := gA.trans g
      have hka' := gB.lst hka hkm
      have kcs : IsKey cs := ⟨hc, hcl⟩
      refine ⟨_, rfl, by show 0 ≤ sizeLine; decide, fun e he => ?_⟩
      have ge : Gz K H' (upd H' e (.lst [])) := .new he
      have hka2 := ge.lst hka' id
      have se := s'.keep ge
      have gE : Gm K st b H (upd H' e (.lst [])) := gB.trans ge.any
      refine ⟨_, _, .lst (.of hka2) (dpAll_strs ks), .lst (.of upd_same) .nil, shaped_strs fun k hk => (hks k hk).cps, rfl, _, rfl, ?_⟩
      rw [eqv_nil]
      by_cases hk0 : ks = []
      · subst hk0
        rw [decide_eq_true (by rfl)]
        exact ⟨_, rfl, q cs _ kcs gE se⟩
      rw [decide_eq_false (by simpa using hk0)]
      refine ⟨_, rfl, _, _, rfl, rfl, _, rfl, ?_⟩
      by_cases hw4 : way < 4
      · rw [decide_eq_true hw4]
        exact ⟨_, rfl, q cs _ kcs gE se⟩
      rw [decide_eq_false hw4]
      have hkp : 0 < ks.length := by cases ks with
        | nil => exact absurd rfl hk0
        | cons _ _ => simp
      refine ⟨_, rfl, _, rfl, _, rfl, .ref ka, ks.length, rfl, .inl ⟨_, .of hka2, by rw [List.length_map]⟩, st, b, _, rfl, se, by omega, by omega, fun r3 H3 r30 r31 g3 s3 => ?_⟩
      obtain ⟨j, rfl⟩ : ∃ j : Nat, r3 = (j : Int) := ⟨r3.toNat, by omega⟩
      have hj : j < ks.length := by omega
      obtain ⟨wd, hwd⟩ : ∃ wd, ks[j]? = some wd := ⟨ks[j], by simp [hj]⟩
      have kwd := hks wd (List.mem_of_getElem? hwd)
      have hw8 := kwd.2
      have hka3 := g3.lst hka2 hkm
      refine ⟨ka, _, (j : Int), _, rfl, rfl, .of hka3, atI_nat (by rw [List.getElem?_map, hwd]; rfl), ?_⟩
      refine ⟨_, rfl, _, rfl, _, rfl, by rw [S_len]; exact sz (by omega), _, _, rfl, rfl, st, b, _, rfl, s3, by rw [S_len]; omega, by rw [S_len]; omega, fun r4 H4 r40 r41 g4 s4 => ?_⟩
      rw [S_len] at r41
      obtain ⟨p, rfl⟩ : ∃ p : Nat, r4 = (p : Int) := ⟨r4.toNat, by omega⟩
      have gZ : Gm K st b H H4 := gE.trans (g3.trans g4)
      have ltake : ∀ {k : W}, Ltr k → ∀ m, Ltr (k.take m) := fun h m c hc => h c (List.mem_of_mem_take hc)
      have ldrop : ∀ {k : W}, Ltr k → ∀ m, Ltr (k.drop m) := fun h m c hc => h c (List.mem_of_mem_drop hc)
      have lapp : ∀ {k l : W}, Ltr k → Ltr l → Ltr (k ++ l) := fun h h' c hc => (List.mem_append.mp hc).elim (h c) (h' c)
      refine ⟨_, rfl, _, _, rfl, rfl, _, rfl, ?_⟩
      by_cases hw6 : way < 6
      · rw [decide_eq_true hw6]
        refine ⟨_, rfl, _, rfl, _, rfl, _, rfl, by rw [S_len]; exact sz (by omega), ?_⟩
        rw [cut_to]
        exact q _ _ ⟨ltake kwd.1 p, by rw [List.length_take]; omega⟩ gZ s4
      rw [decide_eq_false hw6]
      refine ⟨_, rfl, _, _, rfl, rfl, _, rfl, ?_⟩
      by_cases hw8' : way < 8
      · rw [decide_eq_true hw8']
        refine ⟨_, rfl, _, rfl, _, _, rfl, rfl, by rw [S_len, S_len]; exact sz (by omega), _, rfl, _, rfl, by rw [S_app, S_len]; exact sz (by rw [List.length_append]; omega), ?_⟩
        rw [S_app, show (8 : Int) = ((8 : Nat) : Int) from rfl, cut_to]
        exact q _ _ ⟨ltake (lapp kwd.1 hc) 8, by rw [List.length_take]; omega⟩ gZ s4
      rw [decide_eq_false hw8']
      have hA : cutS (S wd) none (some (p : Int)) = S (wd.take p) := cut_to
      have hB : cutS (S wd) (some ((p : Int) + way - 8)) none = S (wd.drop (p + way.toNat - 8)) := by
        rw [show (p : Int) + way - 8 = ((p + way.toNat - 8 : Nat) : Int) by omega, cut_from]
      have lA : (wd.take p).length ≤ 8 := by rw [List.length_take]; omega
      have lB : (wd.drop (p + way.toNat - 8)).length ≤ 8 := by rw [List.length_drop]; omega
      refine ⟨_, rfl, _, rfl, _, rfl, _, rfl, by rw [S_len]; exact sz (by omega), _, rfl, _, _, rfl, rfl, by rw [hA, S_len, S_len]; exact sz (by omega), _, rfl, _, rfl, _, rfl, _, _, rfl, rfl, _, _, rfl, rfl, _, rfl, _, rfl, by rw [S_len]; exact sz (by omega),
        _, _, rfl, rfl, by rw [hA, hB, S_app, S_len, S_len]; exact sz (by rw [List.length_append]; omega), _, rfl, _, rfl, by rw [hA, hB, S_app, S_app, S_len]; exact sz (by rw [List.length_append, List.length_append]; omega), ?_⟩
      rw [hA, hB, S_app, S_app, show (8 : Int) = ((8 : Nat) : Int) from rfl, cut_to]
      exact q _ _ ⟨ltake (lapp (lapp (ltake kwd.1 p) hc) (ldrop kwd.1 _)) 8, by rw [List.length_take]; omega⟩ gZ s4
theorem menu_at {r : Int} (h0 : 0 ≤ r) (h5 : r < 5) : ∃ x : W, atI [V.str "", V.str "-", V.str "=1:x;a1", V.str ";b#4", V.str "none"] r = some (V.str (S x)) ∧ Vl x := by
  obtain rfl | rfl | rfl | rfl | rfl : r = 0 ∨ r = 1 ∨ r = 2 ∨ r = 3 ∨ r = 4 := by omega
  · exact ⟨[], rfl, by decide, by decide⟩
  · exact ⟨[45], rfl, by decide, by decide⟩
  · exact ⟨[61, 49, 58, 120, 59, 97, 49], rfl, by decide, by decide⟩
  · exact ⟨[59, 98, 35, 52], rfl, by decide, by decide⟩
  · exact ⟨[110, 111, 110, 101], rfl, by decide, by decide⟩
def sgs : Str := " !\"#$&'()*+,-./0123456789:;<=>?@ABCDEFGHIJKLMNOPQRSTUVWXYZ[\\]^_`abcdefghijklmnopqrstuvwxyz{|}~"
theorem sgs_ok : ∀ c ∈ sgs.cps.toList, 32 ≤ c ∧ c ≤ 126 := by decide +kernel
theorem sgs_len : sgs.length = 94 := by decide +kernel
theorem D_L_value (n : Fn1 K mg "_law_value" s_L_value) (G : TX K mg) (D_L_draw : Def P w K mg base CX0 1 "_law_draw" ["_law_state", "_law_many"] (spDraw K)) : Def P w K mg base CX0 2 "_law_value" ["_law_state"] (spValue K) := by
  refine n.mk0 sc_L_value bind_L_value (fun vs H Q E h => ?_) (fun cdv A outer s H vs Q E hr h => ?_)
  · obtain ⟨_, _, rfl, _⟩ := h
    rfl
  · obtain ⟨st, b, rfl, hS, q⟩ := h
    have hu := hu_of hr
    refine ⟨_, (pss_cons (ps_set (i := 1) sc_L_value.nd rfl (Or.inr rfl) pe_str)
      (pss_cons (ps_set (i := 2) sc_L_value.nd rfl (Or.inl rfl) (pe_cd D_L_draw (hr.mono (by omega)) (by rfl) (pa_cons (pv 0) (pa_cons pe_int pa_nil))))
      (pss_cons (ps_if (pt_cmpR op_lt (pv 2) pe_int (nomark _)) (pss_one (ps_ret (pe_ix ix_list (pe_lst (pa_cons pe_str (pa_cons pe_str (pa_cons pe_str (pa_cons pe_str (pa_cons pe_str pa_nil)))))) (pv 2) (fun _ _ => rfl)))) pss_nil)
      (pss_cons (ps_set (i := 3) sc_L_value.nd rfl (Or.inl rfl) (pe_ix ix_list (pe_lst (pa_cons pe_int (pa_cons pe_int (pa_cons (pe_cd D_L_draw (hr.mono (by omega)) (by rfl) (pa_cons (pv 0) (pa_cons pe_int pa_nil))) pa_nil)))) (pe_op op_sub (pv 2) pe_int) (fun _ _ => rfl)))
      (pss_one (ps_ret (pe_join pe_str (pe_lc (own := [("_law_k", 4)]) (g := gName 4) (tt := tYes) (by rfl) sc_L_value.nd (pi_range1 rfl G.b_range (pa_cons (pv 3) pa_nil)) (blkOk_by (N := ["_law_state", "_law_signs", "_law_way", "_law_many", "_law_k"]) (sc := defScope s_L_value) (by decide +kernel)) (fun _ _ _ _ _ => pg_name (i := 4) sc_L_value.nd rfl (Or.inl rfl)) (fun _ _ _ _ _ => pts_nil) (fun _ _ _ _ _ => (pe_ix ix_str (pv 1) (pe_cd D_L_draw (hr.mono (by omega)) (by rfl) (pa_cons (pv 0) (pa_cons (pe_callB call_len_str (by rfl) G.b_len PySem.boot_len (pa_cons (pv 1) pa_nil)) pa_nil))) (fun _ _ => rfl))))))))))), ?_⟩
    refine ⟨_, rfl, st, b, _, rfl, hS, by decide, by decide, fun way H1 w0 w1 g1 s1 => ?_⟩
    refine ⟨_, rfl, _, _, rfl, rfl, _, rfl, ?_⟩
    by_cases hw5 : way < 5
    · rw [decide_eq_true hw5]
      refine ⟨by show 5 ≤ sizeLine; decide, fun L hL => ?_⟩
      have gL : Gz K H1 (upd H1 L (.lst [.str "", .str "-", .str "=1:x;a1", .str ";b#4", .str "none"])) := .new hL
      obtain ⟨x, hx, hv⟩ := menu_at w0 hw5
      refine ⟨_, rfl, L, _, way, _, rfl, rfl, .of upd_same, hx, ?_⟩
      exact q x _ hv (g1.trans gL.any) (s1.keep gL)
    rw [decide_eq_false hw5]
    refine ⟨_, rfl, st, b, _, rfl, s1, by decide, by decide, fun r2 H2 r20 r21 g2 s2 => ?_⟩
    refine ⟨by show 3 ≤ sizeLine; decide, fun L hL => ?_⟩
    have gL : Gz K H2 (upd H2 L (.lst [.int 3, .int 40, .int r2])) := .new hL
    obtain ⟨m, hm, hm40⟩ : ∃ m : Nat, atI [V.int 3, V.int 40, V.int r2] (way - 5) = some (V.int (m : Int)) ∧ m ≤ 40 := by
      obtain h | h | h : way - 5 = 0 ∨ way - 5 = 1 ∨ way - 5 = 2 := by omega
      · rw [h]; exact ⟨3, rfl, by omega⟩
      · rw [h]; exact ⟨40, rfl, by omega⟩
      · rw [h]; exact ⟨r2.toNat, by show some (V.int r2) = _; rw [show ((r2.toNat : Nat) : Int) = r2 by omega], by omega⟩
    refine ⟨_, rfl, _, _, rfl, rfl, L, _, way - 5, _, rfl, rfl, .of upd_same, hm, ?_⟩
    have s3 := s2.keep gL
    have gA : Gm K st b H (upd H2 L (.lst [.int 3, .int 40, .int r2])) := g1.trans (g2.trans gL.any)
    generalize upd H2 L (.lst [.int 3, .int 40, .int r2]) = H3 at s3 gA ⊢
    refine ⟨⟨_, rfl⟩, _, rfl, (m : Int), rfl, by omega, by omega, fun D hD => ?_⟩
    have hDm := s3.notM hD
    refine lc_go (Ts := tbs K) (M := Ms st b) (walk_range (lo := 0) (n := (m : Int).toNat)) hD (by omega) s3.hasM (fun i acc H' => Gm K st b H3 H' ∧ StAt H' st b ∧ ∃ cs : W, acc = cs.map (fun c => V.str (S [c])) ∧ cs.length = i ∧ ∀ c ∈ cs, 32 ≤ c ∧ c ≤ 126)
      (fun i acc H' H'' ⟨a, a2, b⟩ g => ⟨a.loc hD g, a2.go g (fun e => hDm (.inl e.symm)) (fun e => hDm (.inr e.symm)), b⟩) ⟨.refl, s3, [], rfl, rfl, fun c hc => by cases hc⟩ (fun _ _ _ _ _ => trivial) ?_ ?_
    · rintro i acc x H' H'' R1 R2 hi ⟨g, s', cs, rfl, hl, hc⟩ ⟨rfl, rfl⟩ r1' r2'
      refine ⟨rfl, _, rfl, _, rfl, _, rfl, sgs, rfl, by decide, st, b, _, rfl, s', ?_, ?_, fun r3 H3 r30 r31 g3 s3 => ?_⟩
      · rw [sgs_len]; decide
      · rw [sgs_len]; decide
      rw [sgs_len] at r31
      obtain ⟨k, rfl⟩ : ∃ k : Nat, r3 = (k : Int) := ⟨r3.toNat, by omega⟩
      have hkl : k < sgs.cps.toList.length := by
        have := sgs_len
        rw [Array.length_toList]
        show k < sgs.length
        omega
      obtain ⟨c, hck⟩ := S_at hkl
      refine ⟨sgs, _, c, rfl, rfl, by decide, atI_nat hck, ?_⟩
      rw [S_one]
      refine r1' _ _ g3 ⟨g.trans g3, s3, cs ++ [c], by rw [List.map_append]; rfl, by simp; omega, fun c' hcc => ?_⟩
      rcases List.mem_append.mp hcc with h | h
      · exact hc c' h
      · have := List.mem_singleton.mp h
        subst this
        exact sgs_ok _ (List.mem_of_getElem? hck)
    · rintro acc H' ⟨g, s', cs, rfl, hl, hc⟩ h1 _
      refine ⟨_, D, (cs.map fun c => [c]).map S, rfl, rfl, .inl (.of (by rw [List.map_map, List.map_map]; exact h1)), ?_, ?_⟩
      · exact join_ok (by omega)
      show Q (V.str (Txt.join (S []) _)) _
      rw [join_ones]
      exact q cs _ ⟨by omega, hc⟩ (gA.trans g) s'
end
end Seal
namespace Seal
open PySem PySem.Spec PyProof.Rows L2 LamX NdefX
/-! ### rows put and dropped -/
def putR (rows : List (W × W)) (k x : W) : List (W × W) := if k ∈ rows.map (·.1) then rows.map (fun r => if r.1 = k then (r.1, x) else r) else rows ++ [(k, x)]
def dropR (rows : List (W × W)) (k : W) : List (W × W) := rows.filter fun r => decide (r.1 ≠ k)
theorem putK_rows {rows : List (W × W)} {k x : W} : L2.putK (dkv rows) (Sum.inr (S k)) (V.str (S x)) = dkv (putR rows k x) := by
  by_cases h : k ∈ rows.map (·.1)
  · unfold putR
    rw [if_pos h]
    unfold L2.putK
    rw [if_pos]
    · unfold dkv
      rw [List.map_map, List.map_map]
      refine List.map_congr_left fun r hr => ?_
      show (if (Sum.inr (S r.1) : Key) = Sum.inr (S k) then _ else _) = _
      by_cases e : r.1 = k
      · rw [if_pos (by rw [e])]
        show _ = ((Sum.inr (S (if r.1 = k then (r.1, x) else r).1), V.str (S (if r.1 = k then (r.1, x) else r).2)) : Key × V)
        rw [if_pos e]
      · rw [if_neg (fun h' => e (S_inj.mp (Sum.inr.inj h')))]
        show _ = ((Sum.inr (S (if r.1 = k then (r.1, x) else r).1), V.str (S (if r.1 = k then (r.1, x) else r).2)) : Key × V)
        rw [if_neg e]
    · obtain ⟨r, hr, e⟩ := List.mem_map.mp h
      refine List.any_eq_true.mpr ⟨_, List.mem_map_of_mem (f := fun r : W × W => ((Sum.inr (S r.1), V.str (S r.2)) : Key × V)) hr, ?_⟩
      rw [decide_eq_true_iff]
      have e : r.1 = k := e
      show (Sum.inr (S r.1) : Key) = _
      rw [e]
  · rw [putK_new h]
    unfold putR
    rw [if_neg h]
theorem dropK_rows {rows : List (W × W)} {k : W} : L2.dropK (dkv rows) (Sum.inr (S k)) = dkv (dropR rows k) := by
  unfold L2.dropK dkv dropR
  rw [List.filter_map]
  congr 1
  refine List.filter_congr fun r hr => ?_
  show decide ((Sum.inr (S r.1) : Key) ≠ Sum.inr (S k)) = decide (r.1 ≠ k)
  by_cases e : r.1 = k
  · simp [e]
  · have : ¬ S r.1 = S k := fun h => e (S_inj.mp h)
    simp [e, this]
theorem putR_keys {rows : List (W × W)} {k x : W} (n : KeysN rows) : KeysN (putR rows k x) := by
  unfold putR KeysN at *
  by_cases h : k ∈ rows.map (·.1)
  · rw [if_pos h, List.map_map]
    have : rows.map ((·.1) ∘ fun r : W × W => if r.1 = k then (r.1, x) else r) = rows.map (·.1) := List.map_congr_left fun r _ => by
      show (if r.1 = k then (r.1, x) else r).1 = r.1
      split <;> rfl
    rw [this]
    exact n
  · rw [if_neg h, List.map_append, List.nodup_append]
    refine ⟨n, by simp, fun a ha c hc e => ?_⟩
    have := List.mem_singleton.mp hc
    rw [this] at e
    have e : a = k := e
    exact h (by rw [← e]; exact ha)
theorem dropR_keys {rows : List (W × W)} {k : W} (n : KeysN rows) : KeysN (dropR rows k) := by
  unfold dropR KeysN at *
  exact n.sublist (List.filter_sublist.map _)
theorem putR_len {rows : List (W × W)} {k x : W} : (putR rows k x).length ≤ rows.length + 1 := by
  unfold putR
  split
  · rw [List.length_map]; omega
  · rw [List.length_append]; simp
theorem dropR_len {rows : List (W × W)} {k : W} : (dropR rows k).length ≤ rows.length := List.length_filter_le _ _
theorem putR_mem {rows : List (W × W)} {k x : W} {r : W × W} (h : r ∈ putR rows k x) : r = (k, x) ∨ r ∈ rows := by
  unfold putR at h
  split at h
  · obtain ⟨q, hq, e⟩ := List.mem_map.mp h
    by_cases c : q.1 = k
    · rw [if_pos c] at e
      exact .inl (by rw [← e, c])
    · rw [if_neg c] at e
      exact .inr (by rw [← e]; exact hq)
  · rcases List.mem_append.mp h with h | h
    · exact .inr h
    · exact .inl (List.mem_singleton.mp h)
theorem dropR_mem {rows : List (W × W)} {k : W} {r : W × W} (h : r ∈ dropR rows k) : r ∈ rows := (List.mem_filter.mp h).1
theorem cn_drop {rows : List (W × W)} {k k' : W} : cn (dropR rows k) k' = if k' = k then none else cn rows k' := by
  induction rows with
  | nil => simp [dropR, cn_nil]
  | cons r rows ih =>
    unfold dropR at ih ⊢
    rw [List.filter_cons]
    by_cases e : r.1 = k
    · rw [if_neg (by simp [e]), ih, cn_cons]
      by_cases e2 : k' = k
      · rw [if_pos e2, if_pos e2]
      · rw [if_neg e2, if_neg e2, if_neg (fun h => e2 (by rw [← h, e]))]
    · rw [if_pos (by simp [e]), cn_cons, ih, cn_cons]
      by_cases e2 : k' = k
      · subst e2
        rw [if_neg e, if_pos rfl, if_pos rfl]
      · rw [if_neg e2, if_neg e2]
theorem cn_put {rows : List (W × W)} {k x k' : W} (n : KeysN rows) : cn (putR rows k x) k' = if k' = k then some x else cn rows k' := by
  by_cases h : k ∈ rows.map (·.1)
  · unfold putR
    rw [if_pos h]
    clear n
    induction rows with
    | nil => cases h
    | cons r rows ih =>
      rw [List.map_cons, cn_cons, cn_cons]
      by_cases e : r.1 = k
      · rw [if_pos e]
        by_cases e2 : k' = k
        · rw [if_pos e2, if_pos (by show r.1 = k'; rw [e, e2])]
        · rw [if_neg e2, if_neg (by show ¬ r.1 = k'; rw [e]; exact fun h => e2 h.symm), if_neg (by rw [e]; exact fun h => e2 h.symm)]
          by_cases h2 : k ∈ rows.map (·.1)
          · rw [ih h2, if_neg e2]
          · congr 1
            rw [show rows.map (fun r : W × W => if r.1 = k then (r.1, x) else r) = rows from by
              conv => rhs; rw [← List.map_id rows]
              exact List.map_congr_left fun q hq => by
                rw [if_neg fun e' => h2 (by rw [← e']; exact List.mem_map_of_mem (f := (·.1)) hq)]
                rfl]
      · rw [if_neg e]
        have h2 : k ∈ rows.map (·.1) := by
          rw [List.map_cons] at h
          rcases List.mem_cons.mp h with h | h
          · exact absurd h.symm e
          · exact h
        rw [ih h2]
        by_cases e2 : k' = k
        · subst e2
          rw [if_neg e, if_pos rfl, if_pos rfl]
        · rw [if_neg e2, if_neg e2]
  · unfold putR
    rw [if_neg h]
    induction rows with
    | nil =>
      rw [List.nil_append, cn_cons, cn_nil]
      by_cases e : k' = k
      · rw [if_pos e, if_pos (by rw [e])]
      · rw [if_neg e, if_neg (fun h => e h.symm)]
    | cons r rows ih =>
      have h2 : k ∉ rows.map (·.1) := fun h' => h (List.mem_cons_of_mem _ h')
      rw [List.cons_append, cn_cons, cn_cons, ih (List.nodup_cons.mp n).2 h2]
      by_cases e2 : k' = k
      · subst e2
        rw [if_neg (fun e => h (by rw [← e]; exact List.mem_cons_self)), if_pos rfl, if_pos rfl]
      · rw [if_neg e2, if_neg e2]
end Seal
namespace Seal
open PySem PySem.Spec PyProof.Rows L2 LamX NdefX
theorem sc_L_content : FnScope ["_law_state", "_law_letters_here", "_law_most", "_law_content_here", "_law_k"] ["_law_state", "_law_letters_here", "_law_most"] (defScope s_L_content) := ⟨rfl, rfl, rfl, by decide +kernel, rfl, by decide +kernel, by decide +kernel⟩
theorem bind_L_content : BindQ "_law_content" "_law_content" s_L_content ["_law_state", "_law_letters_here", "_law_most"] := fun _ _ _ _ _ _ us hl => match us, hl with | [_, _, _], _ => rfl
def RowG (r : W × W) : Prop := IsKey r.1 ∧ Vl r.2
def spContent (K : PySem.W.Frag) : Sp := fun vs H Q _ => ∃ (st b : Addr) (ls : W) (m : Nat), vs = [.ref st, .str (S ls), .int (m : Int)] ∧ StAt H st b ∧ Ltr ls ∧ ls ≠ [] ∧ ls.length ≤ 26 ∧ m ≤ 50 ∧
  ∀ (rows : List (W × W)) (d : Addr) H', KeysN rows → rows.length ≤ m → (∀ r ∈ rows, RowG r) → H' d = some (.dK (dkv rows)) → ¬ Ms st b d → H d = none → Gm K st b H H' → StAt H' st b → Q (.ref d) H'
section
variable {P : Program} {w : World} {K : PySem.W.Frag} {mg : Str → Option Value} {base : Heap}
theorem D_L_content (n : Fn1 K mg "_law_content" s_L_content) (G : TX K mg) (D_L_draw : Def P w K mg base CX0 1 "_law_draw" ["_law_state", "_law_many"] (spDraw K))
    (D_L_key : Def P w K mg base CX0 2 "_law_key" ["_law_state", "_law_letters_here", "_law_keys"] (spKey K)) (D_L_value : Def P w K mg base CX0 2 "_law_value" ["_law_state"] (spValue K)) : Def P w K mg base CX0 3 "_law_content" ["_law_state", "_law_letters_here", "_law_most"] (spContent K) := by
  refine n.mk0 sc_L_content bind_L_content (fun vs H Q E h => ?_) (fun cdv A outer s H vs Q E hr h => ?_)
  · obtain ⟨_, _, _, _, rfl, _⟩ := h
    rfl
  · obtain ⟨st, b, ls, m, rfl, hS, hls, hln, hl26, hm, q⟩ := h
    have hu := hu_of hr
    refine ⟨_, (pss_cons (ps_set (i := 3) sc_L_content.nd rfl (Or.inl rfl) pe_dnewK)
      (pss_cons (ps_for PassesOwn.never rfl (pi_range1 rfl G.b_range (pa_cons (pe_cd D_L_draw (hr.mono (by omega)) (by rfl) (pa_cons (pv 0) (pa_cons (pe_op op_add (pv 2) pe_int) pa_nil))) pa_nil)) (pg_name (i := 4) sc_L_content.nd rfl (Or.inl rfl)) (pss_one (ps_dput hu (pv 3) (pe_cd D_L_key (hr.mono (by omega)) (by rfl) (pa_cons (pv 0) (pa_cons (pv 1) (pa_cons (pe_callTy (call_listD rfl) (by rfl) G.b_list (by decide +kernel) (pa_cons (pv 3) pa_nil)) pa_nil)))) (pe_cd D_L_value (hr.mono (by omega)) (by rfl) (pa_cons (pv 0) pa_nil)) rfl)))
      (pss_one (ps_ret (pv 3))))), ?_⟩
    refine fun d hd => ?_
    have gd : Gz K H (upd H d (.dK [])) := .new hd
    have hdm := hS.notM hd
    refine ⟨_, rfl, _, rfl, _, _, rfl, rfl, st, b, _, rfl, hS.keep gd, by omega, by omega, fun r H1 r0 r1 g1 s1 => ?_⟩
    refine ⟨r, rfl, by omega, by omega, ?_⟩
    refine for_it (walk_range (lo := 0) (n := r.toNat)) (fun i σ H' => Gm K st b H H' ∧ StAt H' st b ∧ ∃ rows k, H' d = some (.dK (dkv rows)) ∧ KeysN rows ∧ rows.length ≤ i ∧ (∀ r ∈ rows, RowG r) ∧ σ = [some (.ref st), some (.str (S ls)), some (.int m), some (.ref d), k]) ?_ (fun _ _ _ _ _ => trivial) ?_ ?_
    · exact ⟨gd.any.trans g1, s1, [], _, g1.dK upd_same hdm, List.nodup_nil, Nat.zero_le _, (fun r hr => by cases hr), rfl⟩
    · rintro i x σ H5 H4 hi ⟨g, s', rows, k, hdd, hkn, hl, hok, rfl⟩ ⟨rfl, rfl⟩
      refine ⟨_, rfl, st, b, rfl, s', fun v H6 hv g6 s6 => ?_⟩
      have hd6 := g6.dK hdd hdm
      refine ⟨_, rfl, _, rfl, _, rfl, _, rfl, d, _, rfl, .inl hd6, fun p hp => ?_⟩
      have ek : (dkv rows).map (fun kv => kV kv.1) = (rows.map (·.1)).map (fun k => V.str (S k)) := by
        unfold dkv
        rw [List.map_map, List.map_map]
        rfl
      rw [ek]
      have gp : Gz K H6 (upd H6 p (.lst ((rows.map (·.1)).map (fun k => V.str (S k))))) := .new hp
      refine ⟨st, b, ls, p, rows.map (·.1), rfl, s6.keep gp, hls, hln, hl26, upd_same, s6.notM hp, by rw [List.length_map]; omega, (fun k hk => by
        obtain ⟨r, hr, rfl⟩ := List.mem_map.mp hk
        exact (hok r hr).1), fun key H7 hkey g7 s7 => ?_⟩
      have hd7 := g7.dK (gp.dK hd6 id) hdm
      refine ⟨d, _, rfl, DPut.k (k := Sum.inr (S key)) hd7 (szl (by unfold dkv; rw [List.length_map]; omega)), ?_⟩
      rw [putK_rows]
      have gA : Gm K st b H H7 := g.trans (g6.trans (gp.any.trans g7))
      have gs : Go (tbs K) (fun c => c = d) H7 (upd H7 d (.dK (dkv (putR rows key v)))) := .set hd7 rfl rfl rfl
      refine ⟨gA.put hd hd7 rfl rfl, s7.go gs (fun e => hdm (.inl e.symm)) (fun e => hdm (.inr e.symm)), putR rows key v, _, upd_same, putR_keys hkn, Nat.le_trans putR_len (by omega), fun r hr => ?_, rfl⟩
      rcases putR_mem hr with rfl | h
      · exact ⟨hkey, hv⟩
      · exact hok r h
    · rintro σ H' ⟨g, s', rows, k, hdd, hkn, hl, hok, rfl⟩
      exact ⟨_, rfl, q rows d H' hkn (by omega) hok hdd hdm hd g s'⟩
end
end Seal
namespace Seal
open PySem PySem.Spec PyProof.Rows L2 LamX NdefX
theorem sc_L_told : FnScope ["_law_whole"] ["_law_whole"] (defScope s_L_told) := ⟨rfl, rfl, rfl, by decide +kernel, rfl, by decide +kernel, by decide +kernel⟩
theorem bind_L_told : BindQ "_law_told" "_law_told" s_L_told ["_law_whole"] := fun _ _ _ _ _ _ us hl => match us, hl with | [_], _ => rfl
def spLTold (K : PySem.W.Frag) : Sp := fun vs H Q _ => ∃ (o : Option T) (v : V), vs = [v] ∧ RepO K H o v ∧ WfO o ∧ ∀ v' H', Gz K H H' → RepDO H' o v' → Q v' H'
section
variable {P : Program} {w : World} {K : PySem.W.Frag} {mg : Str → Option Value} {base : Heap}
theorem D_L_told (n : Fn1 K mg "_law_told" s_L_told) (G : TX K mg) (D_St : DefM P w K mg base 1 "Stub" "told" ["self"] (spStubTold K)) (D_Nt : DefM P w K mg base 11 "Node" "told" ["self"] (spNodeTold K 9)) : Def P w K mg base CX0 12 "_law_told" ["_law_whole"] (spLTold K) := by
  refine n.mk0 sc_L_told bind_L_told (fun vs H Q E h => ?_) (fun cdv A outer s H vs Q E hr h => ?_)
  · obtain ⟨_, _, rfl, _⟩ := h
    rfl
  · obtain ⟨o, v, rfl, hv, hw, q⟩ := h
    refine ⟨_, (pss_cons (ps_if (pt_cmpR op_isN (pv 0) pe_non (nomark _)) (pss_one (ps_ret pe_non)) pss_nil)
      (pss_one (ps_ret (pe_ifExp (pt_val (pe_callB call_isi (by rfl) G.b_isinstance (by decide +kernel) (pa_cons (pv 0) (pa_cons (pe_gR G.c_Part) pa_nil)))) (PE.or' (pe_md0 (pv 0) G.tS.cl G.m_St D_St (hr.mono (by omega))) (pe_md0 (pv 0) G.tN.cl G.m_Nt D_Nt (hr.mono (by omega)))) pe_str)))), ?_⟩
    cases o with
    | none =>
      cases hv
      exact ⟨_, rfl, rfl, _, rfl, q _ _ .refl rfl⟩
    | some t =>
      refine ⟨_, rfl, rfl, _, rfl, ?_⟩
      rw [RepO.non hv]
      cases t with
      | stub n' =>
        obtain ⟨a, dx, rfl, ha⟩ := Rep.stub.mp hv
        refine ⟨_, rfl, _, _, _, _, true, rfl, .own _, G.tS.ty ha, G.kSP, true, rfl, ?_⟩
        exact .inl ⟨_, rfl, a, dx, _, rfl, ha, rfl, n', _, rfl, hv, fun d H3 g3 hd => q _ _ g3 hd⟩
      | node st x ks =>
        obtain ⟨a, dx, l, xs, rfl, ha, hl, hx⟩ := Rep.node.mp hv
        refine ⟨_, rfl, _, _, _, _, true, rfl, .own _, G.tN.ty ha, G.kNP, true, rfl, ?_⟩
        exact .inr ⟨_, rfl, a, dx, _, rfl, ha, rfl, st, x, ks, _, rfl, hv, wf_few hw.1, fun p hp => ⟨by have h1 := ht_mem hp; have h2 := hw.2; simp only [ht] at h2; omega, (hw.kids _ hp).1⟩, fun d H3 g3 hd => q _ _ g3 hd⟩
end
end Seal
namespace Seal
open PySem PySem.Spec PyProof.Rows L2 LamX NdefX
theorem sc_L_ways : FnScope ["_law_told_here", "_law_way", "_law_found", "_law_letter", "_law_kid"] ["_law_told_here", "_law_way"] (defScope s_L_ways) := ⟨rfl, rfl, rfl, by decide +kernel, rfl, by decide +kernel, by decide +kernel⟩
theorem bind_L_ways : BindQ "_law_ways" "_law_ways" s_L_ways ["_law_told_here", "_law_way"] := fun _ _ _ _ _ _ us hl => match us, hl with | [_, _], _ => rfl
def nwO (o : Option T) (way : W) : List W := match o with | some t => nw t way | none => []
def FullO (o : Option T) : Prop := match o with | some t => Full t | none => True
def htO (o : Option T) : Nat := match o with | some t => ht t + 1 | none => 0
theorem nwK_len : ∀ {ks : List (Nat × T)} {b : W}, (∀ p ∈ ks, ∀ way, (nw p.2 way).length ≤ cnt p.2) → (nwK ks b).length ≤ cntK ks
  | [], b, _ => by simp [nwK]
  | (l, t) :: r, b, h => by
    rw [nwK, List.length_append, cntK]
    have h1 := h (l, t) List.mem_cons_self (b ++ [l])
    have h2 := nwK_len (ks := r) (b := b) fun p hp => h p (List.mem_cons_of_mem _ hp)
    simp only at h1
    omega
theorem nw_len (t : T) : ∀ way, (nw t way).length ≤ cnt t := by
  induction t using T.ind with
  | hs n => intro way; simp [nw]
  | hn s v ks ih =>
    intro way
    rw [nw, List.length_cons, cnt]
    have := nwK_len (b := way ++ s) ih
    omega
theorem nwK_app : ∀ {a b : List (Nat × T)} {w : W}, nwK (a ++ b) w = nwK a w ++ nwK b w
  | [], b, w => rfl
  | (l, t) :: r, b, w => by
    rw [List.cons_append, nwK, nwK, nwK_app, List.append_assoc]
def spWays (K : PySem.W.Frag) (m : Nat) : Sp := fun vs H Q _ => ∃ (o : Option T) (v : V) (way : W), vs = [v, .str (S way)] ∧ RepDO H o v ∧ FullO o ∧ WfO o ∧ htO o < m ∧ cntO o ≤ 10000 ∧ way.length + 2 * htO o ≤ 1000 ∧ ∀ l H', Gz K H H' → H' l = some (.lst ((nwO o way).map fun z => V.str (S z))) → Q (.ref l) H'
section
variable {P : Program} {w : World} {K : PySem.W.Frag} {mg : Str → Option Value} {base : Heap}
theorem D_ways_step {m j : Nat} {sp : Sp} (hj : 1 ≤ j) (n : Fn1 K mg "_law_ways" s_L_ways) (G : TX K mg) (D_L_ways : Def P w K mg base CX0 j "_law_ways" ["_law_told_here", "_law_way"] sp) (hsp : ∀ m' vs H Q E, m = m' + 1 → spWays K m' vs H Q E → sp vs H Q E) : Def P w K mg base CX0 (j + 1) "_law_ways" ["_law_told_here", "_law_way"] (spWays K m) := by
  refine n.mk0 sc_L_ways bind_L_ways (fun vs H Q E h => ?_) (fun cdv A outer s H vs Q E hr h => ?_)
  · obtain ⟨_, _, _, rfl, _⟩ := h
    rfl
  · obtain ⟨o, v, way, rfl, hv, hf, hw, hm, hc, hwl, q⟩ := h
    refine ⟨_, (pss_cons (ps_if (pt_cmpR op_isN (pv 0) pe_non (nomark _)) (pss_one (ps_ret (pe_lst pa_nil))) pss_nil)
      (pss_cons (ps_set (i := 2) sc_L_ways.nd rfl (Or.inl rfl) (pe_lst (pa_cons (pv 1) pa_nil)))
      (pss_cons (ps_for PassesOwn.never rfl (pi_tup (pe_ix ix_tup (pv 0) pe_int (fun _ _ => rfl))) (pg_tup rfl (pgs_cons (pg_name (i := 3) sc_L_ways.nd rfl (Or.inl rfl)) (pgs_cons (pg_name (i := 4) sc_L_ways.nd rfl (Or.inl rfl)) pgs_nil))) (pss_one (ps_set (i := 2) sc_L_ways.nd rfl (Or.inl rfl) (pe_op op_cat (pv 2) (pe_cd D_L_ways (hr.mono (by omega)) (by rfl) (pa_cons (pv 4) (pa_cons (pe_op op_add_str (pe_op op_add_str (pv 1) (pe_ix ix_tup (pv 0) pe_int (fun _ _ => rfl))) (pv 3)) pa_nil)))))))
      (pss_one (ps_ret (pv 2)))))), ?_⟩
    cases o with
    | none =>
      cases hv
      exact ⟨_, rfl, rfl, _, rfl, by show 0 ≤ sizeLine; decide, fun l hl => q l _ (.new hl) upd_same⟩
    | some t =>
      cases t with
      | stub n' => exact hf.elim
      | node st x ks =>
        have hv : RepD H (.node st x ks) v := hv
        rw [RepD] at hv
        obtain ⟨a, l, xs, rfl, ha, hl, hxk⟩ := hv
        have hx := repDK_iff.mp hxk
        refine ⟨_, rfl, rfl, _, rfl, ?_⟩
        refine ⟨_, rfl, by show 1 ≤ sizeLine; decide, fun F hF => ?_⟩
        have gF : Gz K H (upd H F (.lst [.str (S way)])) := .new hF
        refine ⟨_, rfl, a, _, 3, _, rfl, rfl, SqT.of (gF.tup ha), rfl, l, rfl, ⟨_, SqT.of (gF.tup hl)⟩, ?_⟩
        refine for_it (walk_tup (xs := xs)) (fun i σ H' => Gz K H H' ∧ ∃ F y z, σ = [some (.ref a), some (.str (S way)), some (.ref F), y, z] ∧ H' F = some (.lst ((way :: nwK (ks.take i) (way ++ st)).map fun z => V.str (S z)))) ⟨gF, F, _, _, rfl, upd_same⟩ (fun i σ H' _ ⟨g, _⟩ => SqT.of (g.tup hl)) ?_ ?_
        · rintro i x' σ H5 H4 hi ⟨g, F', y, z, rfl, hF'⟩ ⟨rfl, hxi⟩
          obtain ⟨l', b, p, v', hki, hm', rfl, hp, hbv⟩ := hx.at_ hxi
          have hst8 := hw.stem
          have hff : Full (.node st x ks) := hf
          have hcl := cntK_take hki
          have hcle := cntK_take_le ks (i + 1)
          have hkc : cnt b ≤ 10000 := by simp only [cntO, cnt] at hc; omega
          have hkl : (nwK (ks.take i) (way ++ st)).length ≤ 10000 := by
            have := nwK_len (ks := ks.take i) (b := way ++ st) fun p _ => nw_len p.2
            simp only [cntO, cnt] at hc
            omega
          refine ⟨p, _, rfl, SqT.of (g.tup hp), rfl, _, _, rfl, _, _, rfl, rfl, ?_⟩
          obtain ⟨m', rfl⟩ : ∃ m', m = m' + 1 := ⟨m - 1, by omega⟩
          have hht : 1 + ht b ≤ htK ks := ht_mem hm'
          simp only [htO, ht] at hm hwl
          refine ⟨_, rfl, _, rfl, _, rfl, _, rfl, a, _, 1, _, rfl, rfl, SqT.of (g.tup ha), rfl, _, _, rfl, rfl, by rw [S_len, S_len]; exact sz (by omega), _, rfl, _, _, rfl, rfl, by rw [S_app, S_len, S_len]; exact sz (by rw [List.length_append]; simp; omega), ?_⟩
          rw [S_app, S_app]
          refine hsp m' _ _ _ _ rfl ⟨some b, v', _, rfl, RepD.keep g.keep b hbv, Full.node.mp hff _ hm', hw.kids _ hm', by simp only [htO]; omega, hkc, by simp only [htO, List.length_append, List.length_cons, List.length_nil]; omega, fun l2 H6 g6 hl2 => ?_⟩
          have hF6 := g6.lst hF' id
          have hnl := nw_len b (way ++ st ++ [l'])
          refine ⟨F', l2, _, _, rfl, rfl, hF6, hl2, sz (by rw [List.length_map, List.length_map, List.length_cons]; show _ + (nw b _).length ≤ _; omega), fun p2 hp2 => ?_⟩
          refine ⟨g.trans (g6.trans (.new hp2)), p2, _, _, rfl, ?_⟩
          rw [upd_same, take_snoc hki, nwK_app, nwK, nwK, List.append_nil, ← List.map_append]
          rfl
        · rintro σ H' ⟨g, F', y, z, rfl, hF'⟩
          rw [hx.length, List.take_length] at hF'
          exact ⟨_, rfl, q F' H' g hF'⟩
theorem D_L_ways_at (n : Fn1 K mg "_law_ways" s_L_ways) (G : TX K mg) (m : Nat) : Def P w K mg base CX0 (2 + m) "_law_ways" ["_law_told_here", "_law_way"] (spWays K m) := by
  induction m with
  | zero => exact D_ways_step (j := 1) (by omega) n G (n.no0 sc_L_ways bind_L_ways) fun m' vs H Q E e => nomatch e
  | succ m ih => exact D_ways_step (j := 2 + m) (by omega) n G ih fun m' vs H Q E e h => by cases e; exact h
end
end Seal
namespace Seal
open PySem PySem.Spec PyProof.Rows L2 LamX NdefX
theorem sc_L_behind : FnScope ["_law_content_here", "_law_row_here", "_law_later", "_law_deed"] ["_law_content_here", "_law_row_here"] (defScope s_L_behind) := ⟨rfl, rfl, rfl, by decide +kernel, rfl, by decide +kernel, by decide +kernel⟩
theorem bind_L_behind : BindQ "_law_behind" "_law_behind" s_L_behind ["_law_content_here", "_law_row_here"] := fun _ _ _ _ _ _ us hl => match us, hl with | [_, _], _ => rfl
/-- the rows behind a row of deeds; the key that lacks -/
def behR : List (W × W) → List Deed → List (W × W) × Option W
  | rows, [] => (rows, none)
  | rows, .put k x :: r => behR (putR rows k x) r
  | rows, .drop k :: r => if (cn rows k).isSome then behR (dropR rows k) r else (rows, some k)
def spBehind (K : PySem.W.Frag) : Sp := fun vs H Q _ => ∃ (rows : List (W × W)) (d : Addr) (row : List Deed) (a : Addr) (xs : List V), vs = [.ref d, .ref a] ∧ H d = some (.dK (dkv rows)) ∧ KeysN rows ∧ rows.length ≤ 60 ∧ (∀ r ∈ rows, RowG r) ∧ H a = some (.lst xs) ∧ RepRow H row xs ∧ (∀ e ∈ row, e.ok) ∧ row.length ≤ 60 ∧
  ∀ (t d2 : Addr) (v : V) H', H d2 = none → Gz K H H' → H' t = some (.tup [.ref d2, v]) → H' d2 = some (.dK (dkv (behR rows row).1)) →
    (match (behR rows row).2 with | none => v = .non | some k => ∃ u, v = .ref u ∧ H' u = some (.tup [.str "NoKey", .str (S k)])) → Q (.ref t) H'
section
variable {P : Program} {w : World} {K : PySem.W.Frag} {mg : Str → Option Value} {base : Heap}
theorem D_L_behind (n : Fn1 K mg "_law_behind" s_L_behind) (G : TX K mg) : Def P w K mg base CX0 1 "_law_behind" ["_law_content_here", "_law_row_here"] (spBehind K) := by
  refine n.mk0 sc_L_behind bind_L_behind (fun vs H Q E h => ?_) (fun cdv A outer s H vs Q E hr h => ?_)
  · obtain ⟨_, _, _, _, _, rfl, _⟩ := h
    rfl
  · obtain ⟨rows, d, row, a, xs, rfl, hd, hkn, hl, hok, ha, hx, hdk, hrl, q⟩ := h
    have hu := hu_of hr
    refine ⟨_, (pss_cons (ps_set (i := 2) sc_L_behind.nd rfl (Or.inl rfl) (pe_callTy call_dictD (by rfl) G.b_dict (by decide +kernel) (pa_cons (pv 0) pa_nil)))
      (pss_cons (ps_for PassesOwn.never rfl (pi_list (pv 1)) (pg_name (i := 3) sc_L_behind.nd rfl (Or.inl rfl)) (pss_one (ps_if (pt_cmpR op_eq (pe_ix ix_tup (pv 3) pe_int (fun _ _ => rfl)) pe_str (nomark _)) (pss_one (ps_dput hu (pv 2) (pe_ix ix_tup (pv 3) pe_int (fun _ _ => rfl)) (pe_ix ix_tup (pv 3) pe_int (fun _ _ => rfl)) rfl)) (pss_one (ps_if (pt_cmp (pc_din hu (pe_ix ix_tup (pv 3) pe_int (fun _ _ => rfl)) (pv 2))) (pss_one (ps_expr (pe_dpop1 (pv 2) (pe_ix ix_tup (pv 3) pe_int (fun _ _ => rfl)) ⟨rfl, rfl, rfl, rfl⟩))) (pss_one (ps_ret (pe_tup (pa_cons (pv 2) (pa_cons (pe_tup (pa_cons pe_str (pa_cons (pe_ix ix_tup (pv 3) pe_int (fun _ _ => rfl)) pa_nil))) pa_nil))))))))))
      (pss_one (ps_ret (pe_tup (pa_cons (pv 2) (pa_cons pe_non pa_nil))))))), ?_⟩
    refine ⟨_, rfl, d, _, rfl, .inl hd, fun p hp => ?_⟩
    have gp : Gz K H (upd H p (.dK (dkv rows))) := .new hp
    refine ⟨_, rfl, a, rfl, ⟨_, SqL.of (gp.lst ha id)⟩, ?_⟩
    refine for_it (walk_list (xs := xs)) (fun i σ H' => Gz K H H' ∧ ∃ rows' y, σ = [some (.ref d), some (.ref a), some (.ref p), y] ∧ H' p = some (.dK (dkv rows')) ∧ KeysN rows' ∧ rows'.length ≤ 60 + i ∧ behR rows' (row.drop i) = behR rows row) ⟨gp, rows, _, rfl, upd_same, hkn, by omega, rfl⟩ (fun i σ H' _ ⟨g, _⟩ => SqL.of (g.lst ha id)) ?_ ?_
    · rintro i x σ H5 H4 hi ⟨g, rows', y, rfl, hp', hkn', hl', hb⟩ ⟨rfl, hxi⟩
      obtain ⟨e, he1, he2, t, rfl, ht⟩ := hx.at_ hxi
      have hir : i < row.length := by
        by_cases hh : i < row.length
        · exact hh
        · rw [List.getElem?_eq_none (by omega)] at he1; cases he1
      have hdr : row.drop i = e :: row.drop (i + 1) := by
        rw [List.drop_eq_getElem_cons hir]
        rw [List.getElem?_eq_getElem hir] at he1
        rw [Option.some.inj he1]
      rw [hdr] at hb
      have ht' := g.tup ht
      cases e with
      | put k x =>
        refine ⟨_, rfl, t, _, 0, _, rfl, rfl, SqT.of ht', rfl, rfl, _, rfl, ?_⟩
        refine ⟨_, rfl, t, _, 2, _, rfl, rfl, SqT.of ht', rfl, _, rfl, _, rfl, t, _, 1, _, rfl, rfl, SqT.of ht', rfl, p, _, rfl, DPut.k (k := Sum.inr (S k)) hp' (szl (by unfold dkv; rw [List.length_map]; omega)), ?_⟩
        rw [putK_rows]
        exact ⟨g.put hp hp' rfl rfl, putR rows' k x, _, rfl, upd_same, putR_keys hkn', Nat.le_trans putR_len (by omega), hb⟩
      | drop k =>
        refine ⟨_, rfl, t, _, 0, _, rfl, rfl, SqT.of ht', rfl, rfl, _, rfl, ?_⟩
        refine ⟨_, rfl, t, _, 1, _, rfl, rfl, SqT.of ht', rfl, _, rfl, p, _, rfl, DGet.k (k := Sum.inr (S k)) hp', _, rfl, ?_⟩
        rw [valV_dkv]
        cases hcn : cn rows' k with
        | some x =>
          refine ⟨_, rfl, p, rfl, .inl ⟨_, .inl hp'⟩, _, rfl, t, _, 1, _, rfl, rfl, SqT.of ht', rfl, _, Sum.inr (S k), _, hp', rfl, by rw [valV_dkv, hcn]; rfl, ?_⟩
          rw [dropK_rows]
          refine ⟨g.put hp hp' rfl rfl, dropR rows' k, _, rfl, upd_same, dropR_keys hkn', Nat.le_trans dropR_len (by omega), ?_⟩
          rw [behR, hcn] at hb
          exact hb
        | none =>
          rw [behR, hcn] at hb
          have hb' : (rows', some k) = behR rows row := hb
          refine ⟨_, rfl, _, rfl, t, _, 1, _, rfl, rfl, SqT.of ht', rfl, by show 2 ≤ sizeLine; decide, fun u hu' => ⟨by show 2 ≤ sizeLine; decide, fun t2 ht2 => ?_⟩⟩
          have g1 : Gz K H4 (upd H4 u (.tup [.str "NoKey", .str (S k)])) := .new hu'
          have g2 := g1.trans (.new (o := .tup [.ref p, .ref u]) ht2)
          have g3 : Gz K (upd H4 u (.tup [.str "NoKey", .str (S k)])) (upd (upd H4 u (.tup [.str "NoKey", .str (S k)])) t2 (.tup [.ref p, .ref u])) := .new ht2
          refine q t2 p (.ref u) _ hp (g.trans g2) upd_same ?_ ?_
          · rw [← hb']
            exact g2.dK hp' id
          · rw [← hb']
            exact ⟨u, rfl, g3.tup upd_same⟩
    · rintro σ H' ⟨g, rows', y, rfl, hp', hkn', hl', hb⟩
      have hxl : xs.length = row.length := hx.length.symm
      rw [hxl, List.drop_length] at hb
      have hb' : (rows', none) = behR rows row := hb
      refine ⟨_, rfl, by show 2 ≤ sizeLine; decide, fun t ht => ?_⟩
      have gt : Gz K H' (upd H' t (.tup [.ref p, .non])) := .new ht
      refine q t p .non _ hp (g.trans gt) upd_same ?_ ?_
      · rw [← hb']
        exact gt.dK hp' id
      · rw [← hb']
end
end Seal
namespace Seal
open PySem PySem.Spec PyProof.Rows L2 LamX NdefX
theorem sc_L_number : FnScope ["_law_told_here", "_law_maker"] ["_law_told_here", "_law_maker"] (defScope s_L_number) := ⟨rfl, rfl, rfl, by decide +kernel, rfl, by decide +kernel, by decide +kernel⟩
theorem bind_L_number : BindQ "_law_number" "_law_number" s_L_number ["_law_told_here", "_law_maker"] := fun _ _ _ _ _ _ us hl => match us, hl with | [_, _], _ => rfl
theorem sc_L_text : FnScope ["_law_told_here", "_law_maker", "_law_text_here", "_law_letter", "_law_kid"] ["_law_told_here", "_law_maker"] (defScope s_L_text) := ⟨rfl, rfl, rfl, by decide +kernel, rfl, by decide +kernel, by decide +kernel⟩
theorem bind_L_text : BindQ "_law_text" "_law_text" s_L_text ["_law_told_here", "_law_maker"] := fun _ _ _ _ _ _ us hl => match us, hl with | [_, _], _ => rfl
section
variable {P : Program} {w : World} {K : PySem.W.Frag} {mg : Str → Option Value} {base : Heap} (g : Dig P w K mg base)
/-- the number of what is told -/
def spLNum (m : Nat) : Sp := fun vs H Q _ => ∃ o v D, vs = [v, .ref g.fa] ∧ RepDO H o v ∧ WfO o ∧ kidsLt m o ∧ g.St D H ∧ D.length + cntO o ≤ 10000000 ∧
  ∀ D' H', D <+: D' → D'.length ≤ D.length + cntO o → g.St D' H' → Go (tbs K) g.Mt H H' → KnownO (g.val D') D' o → Q (.int (numO (g.val D') o)) H'
def spLText (m : Nat) : Sp := fun vs H Q _ => ∃ o v D, vs = [v, .ref g.fa] ∧ RepDO H o v ∧ WfO o ∧ (∀ n, o ≠ some (.stub n)) ∧ kidsLt m o ∧ g.St D H ∧ D.length + cntO o ≤ 10000000 ∧
  ∀ D' H', D <+: D' → D'.length + 1 ≤ D.length + cntO o → g.St D' H' → Go (tbs K) g.Mt H H' → (∀ s x ks, o = some (.node s x ks) → ∀ p ∈ ks, Known (g.val D') D' p.2) → Q (.str (S (txO (g.val D') o))) H'
theorem D_lnum_step {n : Nat} {j : Nat} (hj : 1 ≤ j) (nn : Fn1 K mg "_law_number" s_L_number) (G : TX K mg) (D_L_text : Def P w K mg base CX0 j "_law_text" ["_law_told_here", "_law_maker"] (spLText g n)) : Def P w K mg base CX0 (j + 1) "_law_number" ["_law_told_here", "_law_maker"] (spLNum g n) := by
  refine nn.mk0 sc_L_number bind_L_number (fun vs H Q E h => ?_) (fun cdv A outer s H vs Q E hr h => ?_)
  · obtain ⟨_, _, _, rfl, _⟩ := h
    rfl
  · obtain ⟨o, v, D, rfl, hv, hw, hk, hD, hc, q⟩ := h
    refine ⟨_, (pss_cons (ps_if (PW.pt (pw_and (pt_cmpR op_notN (pv 0) pe_non (nomark _)) (pw_and1 (pt_cmpR op_eq (pe_ix ix_tup (pv 0) pe_int (fun _ _ => rfl)) pe_str (nomark _))))) (pss_one (ps_ret (pe_ix ix_tup (pv 0) pe_int (fun _ _ => rfl)))) pss_nil)
      (pss_one (ps_ret (pe_callH (i := 1) g.call (hr.mono (by omega)) rfl (Or.inl rfl) (pa_cons (pe_cd D_L_text (hr.mono (by omega)) (by rfl) (pa_cons (pv 0) (pa_cons (pv 1) pa_nil))) pa_nil))))), ?_⟩
    have hr1 : Room 1 _ := hr.mono hj
    cases o with
    | none =>
      cases hv
      refine ⟨_, rfl, rfl, _, rfl, ?_⟩
      refine ⟨rfl, g.fn hD, _, rfl, _, rfl, none, _, D, rfl, rfl, trivial, (fun n' e => nomatch e), (fun s x ks e => nomatch e), hD, hc, fun D' H' c1 c2 c3 c4 c5 => ?_⟩
      refine ⟨g.fn c3, D', [], rfl, by simp, c3, by simp only [cntO] at c2 hc; omega, fun D2 H2 e1 e2 e3 e4 e5 => ?_⟩
      exact q D2 H2 (c1.trans e1) (by omega) e4 (c4.trans e5) e2
    | some t =>
      cases t with
      | stub n' =>
        have hv : RepD H (.stub n') v := hv
        rw [RepD] at hv
        obtain ⟨a, rfl, ha⟩ := hv
        refine ⟨_, rfl, rfl, _, rfl, _, rfl, a, _, 0, _, rfl, rfl, SqT.of ha, rfl, rfl, _, rfl, ?_⟩
        refine ⟨_, rfl, a, _, 1, _, rfl, rfl, SqT.of ha, rfl, ?_⟩
        have := q D H (List.prefix_refl D) (by omega) hD .refl (by simp [KnownO, Known])
        simpa only [numO, numT] using this
      | node st x ks =>
        have hv0 : RepDO H (some (.node st x ks)) v := hv
        have hv : RepD H (.node st x ks) v := hv
        rw [RepD] at hv
        obtain ⟨a, l, xs, rfl, ha, hl, hxk⟩ := hv
        refine ⟨_, rfl, rfl, _, rfl, _, rfl, a, _, 0, _, rfl, rfl, SqT.of ha, rfl, rfl, _, rfl, ?_⟩
        have hva : ∀ y, x = some y → Vl y := (Wf.node.mp hw.1).2.1
        refine ⟨rfl, g.fn hD, _, rfl, _, rfl, some (.node st x ks), _, D, rfl, hv0, hw, fun n' e => (by cases e), hk, hD, hc, fun D' H' c1 c2 c3 c4 c5 => ?_⟩
        have c5 := c5 _ _ _ rfl
        have hlen : (txtT (g.val D') st x ks).length ≤ 2000 := by
          have h1 := startW_len hw.stem hva
          have h2 := txtK_len (V := g.val D') (ks := ks) fun p hp => g.num_of (by omega) (hw.kids _ hp).1 (c5 p hp)
          have h3 := wf_few26 hw.1
          simp only [txtT, List.length_append]
          omega
        refine ⟨g.fn c3, D', _, rfl, hlen, c3, by omega, fun D2 H2 e1 e2 e3 e4 e5 => ?_⟩
        have st2 : ∀ p ∈ ks, Known (g.val D2) D2 p.2 ∧ numT (g.val D2) p.2 = numT (g.val D') p.2 := fun p hp => g.known e1 (c5 p hp)
        have et : txtT (g.val D2) st x ks = txtT (g.val D') st x ks := by
          unfold txtT
          rw [txtK_congr fun p hp => (st2 p hp).2]
        have := q D2 H2 (c1.trans e1) (by omega) e4 (c4.trans e5) (Known.node.mpr ⟨fun p hp => (st2 p hp).1, by rw [et]; exact e2⟩)
        have en : numO (g.val D2) (some (.node st x ks)) = g.val D2 (txtT (g.val D2) st x ks) := by simp only [numO, numT]; rfl
        rw [en, et] at this
        exact this
theorem D_ltext_step {n : Nat} {j : Nat} (hj : 1 ≤ j) {sp : Sp} (nt : Fn1 K mg "_law_text" s_L_text) (G : TX K mg) (D_L_number : Def P w K mg base CX0 j "_law_number" ["_law_told_here", "_law_maker"] sp)
    (hsp : ∀ H (v : V) (Q : VK) E t D, RepD H t v → WfO (some t) → ht t < n → g.St D H → D.length + cnt t ≤ 10000000 → (∀ D' H', D <+: D' → D'.length ≤ D.length + cnt t → g.St D' H' → Go (tbs K) g.Mt H H' → Known (g.val D') D' t → Q (.int (numT (g.val D') t)) H') → sp [v, .ref g.fa] H Q E) :
    Def P w K mg base CX0 (j + 1) "_law_text" ["_law_told_here", "_law_maker"] (spLText g n) := by
  refine nt.mk0 sc_L_text bind_L_text (fun vs H Q E h => ?_) (fun cdv A outer s H vs Q E hr h => ?_)
  · obtain ⟨_, _, _, rfl, _⟩ := h
    rfl
  · obtain ⟨o, v, D, rfl, hv, hw, hns, hk, hD, hc, q⟩ := h
    refine ⟨_, (pss_cons (ps_if (pt_cmpR op_isN (pv 0) pe_non (nomark _)) (pss_one (ps_ret pe_str)) pss_nil)
      (pss_cons (ps_set (i := 2) sc_L_text.nd rfl (Or.inl rfl) (pe_op op_add_str (pe_ix ix_tup (pv 0) pe_int (fun _ _ => rfl)) (pe_ifExp (pt_cmpR op_isN (pe_ix ix_tup (pv 0) pe_int (fun _ _ => rfl)) pe_non (nomark _)) pe_str (pe_op op_add_str (pe_op op_add_str (pe_op op_add_str pe_str (pe_callTy call_str_int (by rfl) G.b_str (by decide +kernel) (pa_cons (pe_callB call_len_str (by rfl) G.b_len PySem.boot_len (pa_cons (pe_ix ix_tup (pv 0) pe_int (fun _ _ => rfl)) pa_nil)) pa_nil))) pe_str) (pe_ix ix_tup (pv 0) pe_int (fun _ _ => rfl))))))
      (pss_cons (ps_for PassesOwn.never rfl (pi_tup (pe_ix ix_tup (pv 0) pe_int (fun _ _ => rfl))) (pg_tup rfl (pgs_cons (pg_name (i := 3) sc_L_text.nd rfl (Or.inl rfl)) (pgs_cons (pg_name (i := 4) sc_L_text.nd rfl (Or.inl rfl)) pgs_nil))) (pss_one (ps_set (i := 2) sc_L_text.nd rfl (Or.inl rfl) (pe_op op_add_str (pe_op op_add_str (pe_op op_add_str (pv 2) pe_str) (pv 3)) (pe_callTy call_str_int (by rfl) G.b_str (by decide +kernel) (pa_cons (pe_cd D_L_number (hr.mono (by omega)) (by rfl) (pa_cons (pv 4) (pa_cons (pv 1) pa_nil))) pa_nil))))))
      (pss_one (ps_ret (pv 2)))))), ?_⟩
    cases o with
    | none =>
      cases hv
      exact ⟨_, rfl, rfl, _, rfl, q D H (List.prefix_refl D) (by simp [cntO]) hD .refl fun s x ks e => nomatch e⟩
    | some t =>
      cases t with
      | stub n' => exact absurd rfl (hns n')
      | node st x ks =>
        have hv : RepD H (.node st x ks) v := hv
        rw [RepD] at hv
        obtain ⟨a, l, xs, rfl, ha, hl, hxk⟩ := hv
        have hx := repDK_iff.mp hxk
        have w5 := wf_few26 hw.1
        have hst := hw.stem
        have hva : ∀ y, x = some y → Vl y := (Wf.node.mp hw.1).2.1
        refine ⟨_, rfl, rfl, _, rfl, ?_⟩
        refine ⟨_, rfl, a, _, 1, _, rfl, rfl, SqT.of ha, rfl, _, rfl, a, _, 2, _, rfl, rfl, SqT.of ha, rfl, rfl, _, rfl, ?_⟩
        rw [oS_non]
        have hsl : (startW st x).length ≤ 52 := startW_len hst hva
        obtain ⟨tx, htx⟩ : ∃ tx, tx = startW st x := ⟨_, rfl⟩
        have hq : ∀ D' H', D <+: D' → D'.length + 1 ≤ D.length + cntO (some (.node st x ks)) → g.St D' H' → Go (tbs K) g.Mt H H' → (∀ p ∈ ks, Known (g.val D') D' p.2) → Q (.str (S (tx ++ txtK (g.val D') ks))) H' := fun D' H' c1 c2 c3 c4 c5 => by
          have := q D' H' c1 c2 c3 c4 fun s' x' ks' e => by cases e; exact c5
          rw [htx]; exact this
        rw [← htx] at hsl
        simp only [cntO, cnt] at hc hq
        clear q
        cases x
        case' none =>
          refine ⟨_, _, rfl, rfl, by rw [show ("-" : Str) = S [45] from rfl, S_len, S_len]; exact sz (by simp; omega), ?_⟩
          rw [show ("-" : Str) = S [45] from rfl, S_app, show st ++ [45] = tx from htx.symm]
        case' some x =>
          have hx' := hva x rfl
          have hd := digs_len (n := x.length) (by omega) (k := 2) (by omega) (by have := hx'.1; omega)
          have h40 := hx'.1
          refine ⟨_, rfl, a, _, 2, _, rfl, rfl, SqT.of ha, rfl, ?_⟩
          refine ⟨_, rfl, by rw [S_len]; exact sz (by omega), ?_⟩
          rw [S_len]
          refine ⟨_, rfl, ?_, _, _, rfl, rfl, ?_⟩
          · have : (x.length : Int).natAbs.log2 ≤ x.length := by
              rw [Int.natAbs_natCast]
              exact Nat.log2_le_self _
            omega
          rw [← S_digs, show ("=" : Str) = S [61] from rfl]
          refine ⟨by rw [S_len, S_len]; exact sz (by simp; omega), _, _, rfl, rfl, ?_, _, rfl, a, _, 2, _, rfl, rfl, SqT.of ha, rfl, _, _, rfl, rfl, ?_, _, _, rfl, rfl, ?_, ?_⟩
          · rw [show (":" : Str) = S [58] from rfl, S_app, S_len, S_len]; exact sz (by simp; omega)
          · rw [show (":" : Str) = S [58] from rfl, S_app, S_app, S_len, S_len]; exact sz (by simp; omega)
          · rw [show (":" : Str) = S [58] from rfl, S_app, S_app, S_app, S_len, S_len]; exact sz (by simp; omega)
          rw [show (":" : Str) = S [58] from rfl, S_app, S_app, S_app, S_app, show st ++ ([61] ++ digs ↑x.length ++ [58] ++ x) = tx from by rw [htx]; simp [startW]]
        all_goals
          refine ⟨_, rfl, a, _, 3, _, rfl, rfl, SqT.of ha, rfl, l, rfl, ⟨_, SqT.of hl⟩, ?_⟩
          refine for_it (walk_tup (xs := xs)) (fun i σ H' => Go (tbs K) g.Mt H H' ∧ ∃ Di y z, D <+: Di ∧ Di.length ≤ D.length + cntK (ks.take i) ∧ g.St Di H' ∧ (∀ p ∈ ks.take i, Known (g.val Di) Di p.2) ∧ σ = [some (.ref a), some (.ref g.fa), some (.str (S (tx ++ txtK (g.val Di) (ks.take i)))), y, z])
            ⟨.refl, D, none, none, List.prefix_refl D, by simp, hD, (fun p hp => by simp at hp), by simp [txtK]; rfl⟩ (fun i σ H' _ ⟨g', _⟩ => SqT.of (g'.tup hl)) ?_ ?_
          · rintro i y σ H' H'' hi ⟨g', Di, y1, z1, b1, b2, b3, b5, rfl⟩ ⟨rfl, hxi⟩
            obtain ⟨l', b, p, v, hki, hm, rfl, hp, hbv⟩ := hx.at_ hxi
            have hcl := cntK_take hki
            have hcle := cntK_take_le ks (i + 1)
            have htk : (txtK (g.val Di) (ks.take i)).length ≤ 33 * 26 := by
              have h1 := txtK_len (V := g.val Di) (ks := ks.take i) fun p hp => g.num_of (by omega) (hw.kids _ (List.mem_of_mem_take hp)).1 (b5 p hp)
              have h2 : (ks.take i).length ≤ 26 := by rw [List.length_take]; omega
              omega
            refine ⟨p, _, rfl, SqT.of (g'.tup hp), rfl, _, _, rfl, _, _, rfl, rfl, ?_⟩
            refine ⟨_, rfl, _, _, rfl, rfl, by rw [show (";" : Str) = S [59] from rfl, S_len, S_len]; exact sz (by simp; omega), _, rfl, _, _, rfl, rfl, by rw [show (";" : Str) = S [59] from rfl, S_app, S_len, S_len]; exact sz (by simp; omega), _, rfl, _, rfl, ?_⟩
            refine hsp H'' v _ _ b Di (RepD.keep g'.keep b hbv) (hw.kids _ hm) (hk _ _ _ rfl _ hm) b3 (by omega) fun D' H3 c1 c2 c3 c4 c5 => ?_
            have hnb := g.num_of (D := D') (by omega) (hw.kids _ hm).1 c5
            have hdl : (digs (numT (g.val D') b)).length ≤ 31 := digs31 hnb
            refine ⟨_, rfl, digs_log hnb, _, _, rfl, rfl, ?_, ?_⟩
            · rw [← S_digs, show (";" : Str) = S [59] from rfl, S_app, S_app, S_len, S_len]; exact sz (by simp only [List.length_append, List.length_cons, List.length_nil]; omega)
            rw [← S_digs, show (";" : Str) = S [59] from rfl, S_app, S_app, S_app]
            have st2 : ∀ p ∈ ks.take i, Known (g.val D') D' p.2 ∧ numT (g.val D') p.2 = numT (g.val Di) p.2 := fun p hp => g.known c1 (b5 p hp)
            refine ⟨g'.trans c4, D', some (.str (S [l'])), some v, b1.trans c1, by omega, c3, ?_, ?_⟩
            · intro p hp
              rw [take_snoc hki] at hp
              rcases List.mem_append.mp hp with hp | hp
              · exact (st2 p hp).1
              · simp at hp; subst hp; exact c5
            · have e : txtK (g.val D') (ks.take (i + 1)) = txtK (g.val Di) (ks.take i) ++ 59 :: l' :: digs (numT (g.val D') b) := by
                rw [take_snoc hki, txtK_app, txtK_congr fun p hp => (st2 p hp).2]
                simp [txtK]
              rw [e]
              simp
          · rintro σ H' ⟨g', Di, y1, z1, b1, b2, b3, b5, rfl⟩
            rw [hx.length, List.take_length] at b2 b5
            rw [hx.length, List.take_length]
            exact ⟨_, rfl, hq Di H' b1 (by omega) b3 g' b5⟩
theorem D_lnumbers (nt : Fn1 K mg "_law_text" s_L_text) (nn : Fn1 K mg "_law_number" s_L_number) (G : TX K mg) :
    ∀ m, Def P w K mg base CX0 (2 * m + 2) "_law_text" ["_law_told_here", "_law_maker"] (spLText g m) ∧ Def P w K mg base CX0 (2 * m + 3) "_law_number" ["_law_told_here", "_law_maker"] (spLNum g m) := by
  intro m
  induction m with
  | zero =>
    have h1 := D_ltext_step g (n := 0) (j := 1) (by omega) nt G (nn.no0 sc_L_number bind_L_number) fun H v Q E t D _ _ h => absurd h (by omega)
    exact ⟨h1, D_lnum_step g (by omega) nn G h1⟩
  | succ m ih =>
    have h1 := D_ltext_step g (n := m + 1) (j := 2 * m + 3) (by omega) nt G ih.2 fun H v Q E t D a1 a2 a3 a4 a5 a6 => ⟨some t, v, D, rfl, a1, a2, kidsLt_of a3, a4, a5, a6⟩
    exact ⟨h1, D_lnum_step g (j := 2 * m + 4) (by omega) nn G h1⟩
/-- _law_number of every tree that is told -/
def spLNumber : Sp := fun vs H Q _ => ∃ o v D, vs = [v, .ref g.fa] ∧ RepDO H o v ∧ WfO o ∧ g.St D H ∧ D.length + cntO o ≤ 10000000 ∧
  ∀ D' H', D <+: D' → D'.length ≤ D.length + cntO o → g.St D' H' → Go (tbs K) g.Mt H H' → KnownO (g.val D') D' o → Q (.int (numO (g.val D') o)) H'
theorem D_L_number (nt : Fn1 K mg "_law_text" s_L_text) (nn : Fn1 K mg "_law_number" s_L_number) (G : TX K mg) : Def P w K mg base CX0 19 "_law_number" ["_law_told_here", "_law_maker"] (spLNumber g) :=
  (D_lnumbers g nt nn G 8).2.imp fun vs H Q E h => by
    obtain ⟨o, v, D, e, a1, a2, a3⟩ := h
    refine ⟨o, v, D, e, a1, a2, fun s x ks e p hp => ?_, a3⟩
    subst e
    have := ht_mem hp
    have := a2.2
    simp only [ht] at this
    omega
end
end Seal
namespace Seal
open PySem PySem.Spec PyProof.Rows L2 LamX NdefX
/-! ### a dict against the empty one -/
def rEqE : R2 := fun x y H Q => ∃ a b ks, x = .ref a ∧ y = .ref b ∧ H a = some (.dK ks) ∧ H b = some (.dK []) ∧ Q (.bl (decide (ks = []))) H
def rNeE : R2 := fun x y H Q => ∃ a b ks, x = .ref a ∧ y = .ref b ∧ H a = some (.dK ks) ∧ H b = some (.dK []) ∧ Q (.bl (!decide (ks = []))) H
section
variable {X : Cx}
theorem kv_nil {va : List (Key × Value)} {ks : List (Key × V)} (r : KV ks va) : decide (ks = []) = (va.length == ([] : List (Key × Value)).length && true) := by
  have h := r.length
  cases ks with
  | nil => cases va with
    | nil => rfl
    | cons _ _ => simp at h
  | cons _ _ => cases va with
    | nil => simp at h
    | cons _ _ => rfl
theorem op_eqE (hu : X.A.units + 1 < cLine) : OpR X (compareOp .Eq) rEqE := by
  intro pins s σ H x y v u Q I rx ry h
  obtain ⟨a, b, ks, rfl, rfl, ea, eb, q⟩ := h
  obtain rfl : v = Value.ref a := rx
  obtain rfl : u = Value.ref b := ry
  obtain ⟨_, ya, va, ra, da⟩ := (show ObjOk X.prog X.w H s.heap a (.dK ks) from I.hok a _ ea)
  obtain ⟨_, yb, vb, rb, db⟩ := (show ObjOk X.prog X.w H s.heap b (.dK []) from I.hok b _ eb)
  cases rb
  refine PySem.W.keq_eq (knd := mixKind X.prog X.w) (r := true) ya yb da db (by omega) (fun hl => ?_) (fin_bl I q (kv_nil ra))
  cases va with
  | nil => exact .nil
  | cons _ _ => simp at hl
theorem op_neE (hu : X.A.units + 1 < cLine) : OpR X (compareOp .NotEq) rNeE := by
  intro pins s σ H x y v u Q I rx ry h
  obtain ⟨a, b, ks, rfl, rfl, ea, eb, q⟩ := h
  obtain rfl : v = Value.ref a := rx
  obtain rfl : u = Value.ref b := ry
  obtain ⟨_, ya, va, ra, da⟩ := (show ObjOk X.prog X.w H s.heap a (.dK ks) from I.hok a _ ea)
  obtain ⟨_, yb, vb, rb, db⟩ := (show ObjOk X.prog X.w H s.heap b (.dK []) from I.hok b _ eb)
  cases rb
  refine PySem.W.keq_ne (knd := mixKind X.prog X.w) (r := true) ya yb da db (by omega) (fun hl => ?_) (fin_bl I q (congrArg (fun b => !b) (kv_nil ra)))
  cases va with
  | nil => exact .nil
  | cons _ _ => simp at hl
end
end Seal
namespace Seal
open PySem PySem.Spec PyProof.Rows L2 LamX NdefX
/-! ### tuples that are known to the object -/
/-- a tuple: tracked by its items (false), or known to the object, without a dict (true) -/
def TpO (b : Bool) (ys : List V) (u : HO) : Prop := if b = true then ∃ o : Obj, o.dict = none ∧ u = .frz o (.tup ys) else u = .tup ys
theorem TpO.fix {b : Bool} {ys : List V} {u : HO} (h : TpO b ys u) : Fix u = true := by
  unfold TpO at h
  split at h
  · obtain ⟨o, _, rfl⟩ := h
    rfl
  · rw [h]; rfl
theorem TpO.sq {K : PySem.W.Frag} {H : Hp} {a : Addr} {b : Bool} {ys : List V} {u : HO} (h : TpO b ys u) (e : H a = some u) : SqT K H a ys := by
  unfold TpO at h
  split at h
  · obtain ⟨o, _, rfl⟩ := h
    exact .inl (.inr ⟨o, e⟩)
  · rw [h] at e; exact .of e
def rTupB (K : PySem.W.Frag) (b : Bool) : List V → Hp → VK → Prop := fun xs H Q => ∃ p ys, xs = [.ref p] ∧ SqL K H p ys ∧ ∀ l u, H l = none → TpO b ys u → Q (.ref l) (upd H l u)
theorem cr_tupB {X : Cx} {b : Bool} : CallR X (.type "tuple") (rTupB X.K b) := by
  intro pins s σ H xs us Q I r h
  obtain ⟨p, ys, rfl, hq, q⟩ := h
  obtain ⟨u, rfl, rx⟩ := vals1 r
  cases rx
  obtain ⟨its, r', pl, hz⟩ := I.list hq
  have hlen := r'.length
  refine call_tuple_list pl.isList (fun h' kp => ?_) (by simp only [List.size_toArray] <;> omega)
  have I1 : Inv X pins σ H { s with heap := h' } := I.kept (t' := s.toks) kp
  have hn := I1.hok.fresh (Nat.le_refl _)
  have hg : (h'.push { cls := .type "tuple", data := .seq its.toArray }).get? h'.objs.size = some ({ cls := .type "tuple", data := .seq its.toArray } : Obj) := Heap.get?_push_size _ rfl
  cases b with
  | false =>
    have I2 : Inv X pins σ (upd H h'.objs.size (.tup ys)) { s with heap := h'.push { cls := .type "tuple", data := .seq its.toArray } } :=
      I1.laid (t' := s.toks) (fun b o e => Heap.get?_push_of_some _ e) (Nat.le_refl _) (show ObjOk X.prog X.w _ _ _ (.tup ys) from ⟨hz, its, r', IsTup.new _ _⟩)
    exact ⟨.ref h'.objs.size, _, I2, rfl, q _ _ hn rfl⟩
  | true =>
    have I2 : Inv X pins σ (upd H h'.objs.size (.frz { cls := .type "tuple", data := .seq its.toArray } (.tup ys))) { s with heap := h'.push { cls := .type "tuple", data := .seq its.toArray } } :=
      I1.laid (t' := s.toks) (fun b o e => Heap.get?_push_of_some _ e) (Nat.le_refl _) ⟨hg, show ObjOk X.prog X.w _ _ _ (.tup ys) from ⟨hz, its, r', IsTup.new _ _⟩⟩
    exact ⟨.ref h'.objs.size, _, I2, rfl, q _ _ hn ⟨_, rfl, rfl⟩⟩
/-! ### dict of such a tuple -/
theorem choose_at {α : Type} {P : Nat → α → Value → Prop} : ∀ (l : List α), (∀ j q, l[j]? = some q → ∃ u, P j q u) → ∃ us : List Value, us.length = l.length ∧ ∀ j q, l[j]? = some q → ∃ u, us[j]? = some u ∧ P j q u := by
  intro l
  induction l generalizing P with
  | nil => exact fun _ => ⟨[], rfl, fun j q e => by simp at e⟩
  | cons a l ih =>
    intro h
    obtain ⟨u, hu⟩ := h 0 a rfl
    obtain ⟨us, h1, h2⟩ := ih (P := fun j q u => P (j + 1) q u) fun j q e => h (j + 1) q (by simpa using e)
    refine ⟨u :: us, by simp [h1], fun j q e => ?_⟩
    cases j with
    | zero =>
      simp at e
      subst e
      exact ⟨u, rfl, hu⟩
    | succ j =>
      obtain ⟨u', h3, h4⟩ := h2 j q (by simpa using e)
      exact ⟨u', by simpa using h3, h4⟩
def rDictT (K : PySem.W.Frag) : List V → Hp → VK → Prop := fun xs H Q => ∃ (a : Addr) (ob : Obj) (ps : List Addr) (kvs : List (Key × V)), xs = [.ref a] ∧ ob.dict = none ∧ H a = some (.frz ob (.tup (ps.map V.ref))) ∧ Paired (fun p kv => SqT K H p [kV kv.1, kv.2]) ps kvs ∧
    ∀ p, H p = none → Q (.ref p) (upd H p (.dK (mergeK [] kvs)))
theorem cr_dictT {X : Cx} (hcalm : X.calm = true) : CallR X (.type "dict") (rDictT X.K) := by
  intro pins s σ H xs us Q I r q
  obtain ⟨a, ob, ps, kvs, rfl, hod, ha, hp, q⟩ := q
  obtain ⟨u, rfl, rx⟩ := vals1 r
  cases rx
  obtain ⟨e1, hz, its, rv, ot, e2, hc, n, hd⟩ := (show ObjOk X.prog X.w H s.heap a (.frz ob (.tup (ps.map V.ref))) from I.hok a _ ha)
  rw [e1] at e2
  cases e2
  have ei := refs_at rv
  subst ei
  rw [List.length_map] at hz
  obtain ⟨prs, rel, hl, hpr⟩ := pairs_of I hp
  obtain ⟨us, hul, hu⟩ := choose_at (P := fun j (q : Key × Value) u => ∃ b, ps[j]? = some b ∧ IsTup s.heap b #[u, q.2] ∧ keyIs q.1 u = true) prs fun j q e => by
    obtain ⟨b, u, e1, e2, e3⟩ := hpr j q e
    exact ⟨u, b, e1, e2, e3⟩
  have hz2 : (us.zip (prs.map (·.2))).length = prs.length := by rw [List.length_zip, List.length_map, hul, Nat.min_self]
  have at_ : ∀ j k v, (us.zip (prs.map (·.2)))[j]? = some (k, v) → ∃ (q : Key × Value) (b : Addr), prs[j]? = some q ∧ q.2 = v ∧ ps[j]? = some b ∧ IsTup s.heap b #[k, v] ∧ keyIs q.1 k = true := fun j k v e => by
    rw [List.getElem?_zip_eq_some] at e
    obtain ⟨h1, h2⟩ := e
    rw [List.getElem?_map] at h2
    cases eq : prs[j]? with
    | none => rw [eq] at h2; cases h2
    | some q =>
      rw [eq] at h2
      obtain ⟨u, h3, b, h4, h5, h6⟩ := hu j q eq
      rw [h1] at h3
      cases h3
      have h2 : q.2 = v := Option.some.inj h2
      rw [h2] at h5
      exact ⟨q, b, eq, h2, h4, h5, h6⟩
  refine PySem.call_dict_pairs (knd := mixKind X.prog X.w) (kvs := prs) (PairArg.tuple a (ps.map Value.ref).toArray (fun j => ps.getD j 0) (us.zip (prs.map (·.2)))) (I.ok.hd hcalm) ⟨⟨ob, n, e1, hc, hod, hd⟩, by rw [hz2, hl]; simp, fun j k v e => ?_⟩ ⟨hz2.symm, fun j k v e => ?_⟩ (by rw [hz2, hl]; exact hz) fun h' tk hd' k => ?_
  · obtain ⟨q, b, h1, h2, h3, ⟨o, h4, h5, n', h6⟩, h7⟩ := at_ j k v e
    refine ⟨by simp [h3], .inl ⟨o, ?_, h5, n', h6⟩⟩
    show s.heap.get? (ps.getD j 0) = some o
    rw [List.getD_eq_getElem?_getD, h3]
    exact h4
  · obtain ⟨q, b, h1, h2, h3, h4, h5⟩ := at_ j k v e
    exact ⟨q.1, by rw [h1, ← h2], h5⟩
  · have hm : (s.heap.objs.size == sysModules) = false := beq_eq_false_iff_ne.mpr (Nat.ne_of_gt I.big)
    have hlen : (mergeK [] kvs).length ≤ sizeLine := by
      refine Nat.le_trans (length_mergeK kvs []) ?_
      rw [List.length_nil, Nat.zero_add, rel.length, hl]
      exact hz
    exact ⟨.ref s.heap.objs.size, upd H s.heap.objs.size (.dK (mergeK [] kvs)), I.laid (t' := tk) (fun b o e => k b o (by simp) e) (Nat.le_refl _) (show ObjOk X.prog X.w _ _ _ (.dK (mergeK [] kvs)) from ⟨hlen, hm, merged [] prs, KV.merge rel .nil, hd'⟩), rfl, q _ (I.hok.fresh (Nat.le_refl _))⟩
/-! ### what is told, its kids' tuples tracked or known -/
mutual
def RepDg (b : Bool) (H : Hp) : T → V → Prop
  | .stub n, v => ∃ a, v = .ref a ∧ H a = some (.tup [.str "stub", .int n])
  | .node s o ks, v => ∃ a l xs u, v = .ref a ∧ H a = some (.tup [.str "node", .str (S s), oS o, .ref l]) ∧ H l = some u ∧ TpO b xs u ∧ RepDgK b H ks xs
def RepDgK (b : Bool) (H : Hp) : List (Nat × T) → List V → Prop
  | [], xs => xs = []
  | (l, t) :: r, xs => ∃ p v xs', xs = .ref p :: xs' ∧ H p = some (.tup [.str (S [l]), v]) ∧ RepDg b H t v ∧ RepDgK b H r xs'
end
theorem repDgK_iff {b : Bool} {H : Hp} : ∀ {ks : List (Nat × T)} {xs : List V}, RepDgK b H ks xs ↔ Prs (RepDg b H) H ks xs
  | [], xs => by
    rw [RepDgK]
    exact ⟨fun h => h ▸ .nil, fun h => by cases h; rfl⟩
  | (l, t) :: r, xs => by
    rw [RepDgK]
    constructor
    · rintro ⟨p, v, xs', rfl, a, b, c⟩
      exact .cons a b (repDgK_iff.mp c)
    · intro h
      cases h with
      | cons a b c => exact ⟨_, _, _, rfl, a, b, repDgK_iff.mpr c⟩
theorem RepDg.stub {b : Bool} {H : Hp} {n : Int} {v : V} : RepDg b H (.stub n) v ↔ ∃ a, v = .ref a ∧ H a = some (.tup [.str "stub", .int n]) := by rw [RepDg]
theorem RepDg.node {b : Bool} {H : Hp} {s : W} {o : Option W} {ks : List (Nat × T)} {v : V} : RepDg b H (.node s o ks) v ↔ ∃ a l xs u, v = .ref a ∧ H a = some (.tup [.str "node", .str (S s), oS o, .ref l]) ∧ H l = some u ∧ TpO b xs u ∧ Prs (RepDg b H) H ks xs := by
  rw [RepDg]
  simp only [repDgK_iff]
theorem RepDg.keep {b : Bool} {H H' : Hp} (g : Keep H H') (t : T) : ∀ {v : V}, RepDg b H t v → RepDg b H' t v := by
  induction t using T.ind with
  | hs n =>
    intro v h
    obtain ⟨a, e, h⟩ := RepDg.stub.mp h
    exact RepDg.stub.mpr ⟨a, e, g.tup h⟩
  | hn s o ks ih =>
    intro v h
    obtain ⟨a, l, xs, u, e, h, h1, hu, h2⟩ := RepDg.node.mp h
    exact RepDg.node.mpr ⟨a, l, xs, u, e, g.tup h, g l u h1 hu.fix, hu, h2.keep (fun b hb v hv => ih b hb hv) g⟩
abbrev RepQg (b : Bool) (H : Hp) : List (Nat × T) → List V → Prop := Prs (RepDg b H) H
theorem RepQg.keep {b : Bool} {H H' : Hp} {ks : List (Nat × T)} {xs : List V} (g : Keep H H') (h : RepQg b H ks xs) : RepQg b H' ks xs := Prs.keep h (fun _ _ _ => RepDg.keep g _) g
def RepDgO (b : Bool) (H : Hp) : Option T → V → Prop
  | none, v => v = .non
  | some t, v => RepDg b H t v
theorem RepDgO.keep {b : Bool} {H H' : Hp} (g : Keep H H') {o : Option T} {v : V} (h : RepDgO b H o v) : RepDgO b H' o v := by
  cases o with
  | none => exact h
  | some t => exact RepDg.keep g t h
theorem repDg_false {H : Hp} (t : T) : ∀ {v : V}, RepDg false H t v → RepD H t v := by
  induction t using T.ind with
  | hs n =>
    intro v h
    exact RepD.stub.mpr (RepDg.stub.mp h)
  | hn s o ks ih =>
    intro v h
    obtain ⟨a, l, xs, u, e, h, h1, hu, h2⟩ := RepDg.node.mp h
    have hu : u = .tup xs := hu
    rw [hu] at h1
    exact RepD.node.mpr ⟨a, l, xs, e, h, h1, h2.keep (fun b hb v hv => ih b hb hv) fun _ _ e _ => e⟩
theorem repDgO_false {H : Hp} {o : Option T} {v : V} (h : RepDgO false H o v) : RepDO H o v := by
  cases o with
  | none => exact h
  | some t => exact repDg_false t h
theorem Prs.to_dict {β : Type} {R : β → V → Prop} {H : Hp} {ks : List (Nat × β)} {xs : List V} (h : Prs R H ks xs) : ∃ (ps : List Addr) (vs : List V), xs = ps.map V.ref ∧ vs.length = ks.length ∧ Paired (fun (p : Addr) (kv : Key × V) => H p = some (.tup [kV kv.1, kv.2])) ps (ks.zip vs |>.map fun q => (Sum.inr (S [q.1.1]), q.2)) ∧ ∀ (i : Nat) (b : Nat × β) (v : V), ks[i]? = some b → vs[i]? = some v → R b.2 v := by
  induction h with
  | nil => exact ⟨[], [], rfl, rfl, .nil, fun i b v e => by simp at e⟩
  | @cons l b p v r xs h hv t ih =>
    obtain ⟨ps, vs, e1, e2, e3, e4⟩ := ih
    refine ⟨p :: ps, v :: vs, by rw [e1]; rfl, by simp [e2], .cons h e3, fun i b' v' h1 h2 => ?_⟩
    cases i with
    | zero =>
      simp at h1 h2
      subst h1 h2
      exact hv
    | succ i => exact e4 i b' v' (by simpa using h1) (by simpa using h2)
theorem mergeK_nodup : ∀ (b a : List (Key × V)), ((a ++ b).map (·.1)).Nodup → mergeK a b = a ++ b
  | [], a, _ => by rw [List.append_nil]; rfl
  | r :: b, a, h => by
    have h2 : (((a ++ [r]) ++ b).map (·.1)).Nodup := by rw [List.append_assoc]; exact h
    have hn : r.1 ∉ a.map (·.1) := by
      rw [List.map_append, List.nodup_append] at h
      exact fun hin => h.2.2 _ hin _ List.mem_cons_self rfl
    have := mergeK_nodup b (a ++ [r]) h2
    have e : L2.putK a r.1 r.2 = a ++ [r] := by
      unfold L2.putK
      rw [if_neg]
      intro hh
      obtain ⟨kv, hm, e⟩ := List.any_eq_true.mp hh
      exact hn (by rw [← of_decide_eq_true e]; exact List.mem_map_of_mem (f := (·.1)) hm)
    rw [List.append_assoc] at this
    show mergeK (L2.putK a r.1 r.2) b = _
    rw [e]
    exact this
/-- the dict of a part's kids -/
theorem kids_dict {β : Type} {R : β → V → Prop} {ks : List (Nat × β)} {vs : List V} (u : Up ks) (hl : vs.length = ks.length) (h : ∀ (i : Nat) (b : Nat × β) (v : V), ks[i]? = some b → vs[i]? = some v → R b.2 v) :
    mergeK [] (ks.zip vs |>.map fun q => ((Sum.inr (S [q.1.1]), q.2) : Key × V)) = (ks.zip vs |>.map fun q => ((Sum.inr (S [q.1.1]), q.2) : Key × V)) ∧
    ∀ l, match kat ks l with | some b => ∃ v, valV (ks.zip vs |>.map fun q => ((Sum.inr (S [q.1.1]), q.2) : Key × V)) (Sum.inr (S [l])) = some v ∧ R b v | none => valV (ks.zip vs |>.map fun q => ((Sum.inr (S [q.1.1]), q.2) : Key × V)) (Sum.inr (S [l])) = none := by
  refine ⟨mergeK_nodup _ [] ?_, fun l => ?_⟩
  · rw [List.nil_append, List.map_map]
    have e : ((ks.zip vs).map ((·.1) ∘ fun q => ((Sum.inr (S [q.1.1]), q.2) : Key × V))) = ks.map fun p => (Sum.inr (S [p.1]) : Key) := by
      have : ((ks.zip vs).map ((·.1) ∘ fun q => ((Sum.inr (S [q.1.1]), q.2) : Key × V))) = ((ks.zip vs).map (·.1)).map fun p => (Sum.inr (S [p.1]) : Key) := by
        rw [List.map_map]
        rfl
      rw [this, List.map_fst_zip (by omega)]
    rw [e]
    refine List.pairwise_map.mpr (u.imp fun {a b} hab he => ?_)
    have := S_inj.mp (Sum.inr.inj he)
    simp at this
    omega
  · induction ks generalizing vs with
    | nil => rfl
    | cons p ks ih =>
      cases vs with
      | nil => simp at hl
      | cons v vs =>
        have hi := ih (List.pairwise_cons.mp u).2 (vs := vs) (by simpa using hl) fun i b v' h1 h2 => h (i + 1) b v' (by rw [List.getElem?_cons_succ]; exact h1) (by rw [List.getElem?_cons_succ]; exact h2)
        obtain ⟨m, b⟩ := p
        show match kat ((m, b) :: ks) l with | some b => _ | none => _
        unfold kat
        by_cases e : m = l
        · rw [if_pos e]
          exact ⟨v, valV_pos (by show Sum.inr (S [m]) = Sum.inr (S [l]); rw [e]), h 0 (m, b) v rfl rfl⟩
        · rw [if_neg e]
          have en : valV (((m, b) :: ks).zip (v :: vs) |>.map fun q => ((Sum.inr (S [q.1.1]), q.2) : Key × V)) (Sum.inr (S [l])) = valV (ks.zip vs |>.map fun q => ((Sum.inr (S [q.1.1]), q.2) : Key × V)) (Sum.inr (S [l])) :=
            valV_neg (fun h => e (by have := S_inj.mp (Sum.inr.inj h); simpa using this))
          rw [en]
          exact hi
end Seal
namespace Seal
open PySem PySem.Spec PyProof.Rows L2 LamX NdefX
theorem sc_L_tree : FnScope ["_law_content_here", "_law_keys", "_law_size", "_law_one", "_law_kids", "_law_letter", "_law_below"] ["_law_content_here"] (defScope s_L_tree) := ⟨rfl, rfl, rfl, by decide +kernel, rfl, by decide +kernel, by decide +kernel⟩
theorem bind_L_tree : BindQ "_law_tree" "_law_tree" s_L_tree ["_law_content_here"] := fun _ _ _ _ _ _ us hl => match us, hl with | [_], _ => rfl
def spLTree (b : Bool) (K : PySem.W.Frag) (m : Nat) : Sp := fun vs H Q _ => ∃ (rows : List (W × W)) (d : Addr), vs = [.ref d] ∧ H d = some (.dK (dkv rows)) ∧ KeysN rows ∧ rows.length ≤ 60 ∧ (∀ r ∈ rows, RowOk m r) ∧ 0 < m ∧ ∀ v o H', Gz K H H' → IsTree o (cn rows) → RepDgO b H' o v → Q v H'
theorem perm_lift {α β : Type} {f : α → β} {l l' : List β} (h : l.Perm l') : ∀ xs : List α, l = xs.map f → ∃ zs : List α, zs.Perm xs ∧ l' = zs.map f := by
  induction h with
  | nil =>
    intro xs e
    cases xs with
    | nil => exact ⟨[], .refl _, rfl⟩
    | cons a b => cases e
  | cons x h ih =>
    intro xs e
    cases xs with
    | nil => cases e
    | cons a b =>
      injection e with e1 e2
      obtain ⟨zs, hz, e'⟩ := ih b e2
      exact ⟨a :: zs, hz.cons a, by rw [List.map_cons, ← e1, ← e']⟩
  | swap x y l =>
    intro xs e
    cases xs with
    | nil => cases e
    | cons a b =>
      cases b with
      | nil =>
        injection e with e1 e2
        cases e2
      | cons c b =>
        injection e with e1 e2
        injection e2 with e2 e3
        exact ⟨c :: a :: b, .swap _ _ _, by rw [List.map_cons, List.map_cons, ← e1, ← e2, ← e3]⟩
  | trans h1 h2 i1 i2 =>
    intro xs e
    obtain ⟨zs, hz, e1⟩ := i1 xs e
    obtain ⟨ws, hw, e2⟩ := i2 zs e1
    exact ⟨ws, hw.trans hz, e2⟩
theorem keysN_perm {rs rows : List (W × W)} (h : rs.Perm rows) (n : KeysN rows) : KeysN rs := by
  unfold KeysN at *
  exact (h.map _).nodup_iff.mpr n
theorem cn_perm {rs rows : List (W × W)} (h : rs.Perm rows) (n : KeysN rows) : cn rs = cn rows := by
  funext k
  have n2 : KeysN rs := keysN_perm h n
  cases e : cn rows k with
  | some x => exact cn_of_mem n2 (h.mem_iff.mpr (cn_mem e))
  | none => exact cn_none.mpr fun x hx => cn_none.mp e x (h.mem_iff.mp hx)
theorem letters_eq {ys : List Str} {sec : List Nat} (h1 : sortedS ys = true) (h2 : ys.Nodup) (h3 : ∀ z, z ∈ ys ↔ z ∈ sec.map fun l => S [l]) : ∃ ls : List Nat, ys = ls.map (fun m => S [m]) ∧ ls.Pairwise (· < ·) ∧ ∀ l, l ∈ ls ↔ l ∈ sec := by
  obtain ⟨ls, e, hp⟩ := letters_of h1 h2 fun y hy => by
    obtain ⟨l, _, e⟩ := List.mem_map.mp ((h3 y).mp hy)
    exact ⟨l, e.symm⟩
  refine ⟨ls, e, hp, fun l => ?_⟩
  have := h3 (S [l])
  rw [e] at this
  constructor
  · intro h
    obtain ⟨l', hl', e'⟩ := List.mem_map.mp (this.mp (List.mem_map_of_mem (f := fun m => S [m]) h))
    have := S_inj.mp e'
    cases this
    exact hl'
  · intro h
    obtain ⟨l', hl', e'⟩ := List.mem_map.mp (this.mpr (List.mem_map_of_mem (f := fun m => S [m]) h))
    have := S_inj.mp e'
    cases this
    exact hl'
theorem paired_snoc {α β : Type} {F : α → β → Prop} {l₁ : List α} {l₂ : List β} (h : Paired F l₁ l₂) {a : α} {b : β} (hab : F a b) : Paired F (l₁ ++ [a]) (l₂ ++ [b]) := by
  induction h with
  | nil => exact .cons hab .nil
  | cons x _ ih => exact .cons x ih
section
variable {P : Program} {w : World} {K : PySem.W.Frag} {mg : Str → Option Value} {base : Heap}
theorem D_lt_step {b : Bool} {m j : Nat} {sp : Sp} (hj : 1 ≤ j) (n : Fn1 K mg "_law_tree" s_L_tree) (G : TX K mg) (D_L_tree : Def P w K mg base CX0 j "_law_tree" ["_law_content_here"] sp) (hsp : ∀ m' vs H Q E, m = m' + 1 → spLTree b K m' vs H Q E → sp vs H Q E) : Def P w K mg base CX0 (j + 1) "_law_tree" ["_law_content_here"] (spLTree b K m) := by
  refine n.mk0 sc_L_tree bind_L_tree (fun vs H Q E h => ?_) (fun cdv A outer s H vs Q E hr h => ?_)
  · obtain ⟨_, _, rfl, _⟩ := h
    rfl
  · obtain ⟨rows, d, rfl, hd, hkn, hlen, hok, hm, q⟩ := h
    have hu := hu_of hr
    refine ⟨_, (pss_cons (ps_if (pt_cmpR (op_eqE hu) (pv 0) pe_dnewK (nomark _)) (pss_one (ps_ret pe_non)) pss_nil)
      (pss_cons (ps_set (i := 1) sc_L_tree.nd rfl (Or.inr rfl) (pe_callB (call_sortedD rfl) (by rfl) G.b_sorted (by decide +kernel) (pa_cons (pv 0) pa_nil)))
      (pss_cons (ps_set (i := 2) sc_L_tree.nd rfl (Or.inr rfl) pe_int)
      (pss_cons (ps_while PassesOwn.never (PW.pt (pw_and (pt_cmpR op_lt (pv 2) (pe_callB call_len_str (by rfl) G.b_len PySem.boot_len (pa_cons (pe_ix ix_list (pv 1) pe_int (fun _ _ => rfl)) pa_nil)) (nomark _)) (pw_and1 (pt_val (pe_callB (cr_all rfl) (by rfl) G.b_all (by decide +kernel) (pa_cons (pe_lc (own := [("_law_one", 3)]) (g := gName 3) (tt := tYes) (te := (tOp rEq (tSl rSlS (tVar 3) tNoPart (tPart (tOp (rI0 fun i j => .int (i + j)) (tVar 2) (tC (.int 1))))) (tSl rSlS (tOp (rIxL K) (tVar 1) (tC (.int 0))) tNoPart (tPart (tOp (rI0 fun i j => .int (i + j)) (tVar 2) (tC (.int 1))))))) (by rfl) sc_L_tree.nd (pi_list (pv 1)) (blkOk_by (N := ["_law_content_here", "_law_keys", "_law_size", "_law_one", "_law_kids", "_law_letter", "_law_below"]) (sc := defScope s_L_tree) (by decide +kernel)) (fun _ _ _ _ _ => pg_name (i := 3) sc_L_tree.nd rfl (Or.inl rfl)) (fun _ _ _ _ _ => pts_nil) (fun _ _ _ _ _ => (pe_cmpR op_eq (pe_slice sl_str (pv 3) po_none (po_some (pe_op op_add (pv 2) pe_int))) (pe_slice sl_str (pe_ix ix_list (pv 1) pe_int (fun _ _ => rfl)) po_none (po_some (pe_op op_add (pv 2) pe_int))) (nomark _)))) pa_nil)))))) (pss_one (ps_aug (i := 2) sc_L_tree.nd rfl (Or.inr rfl) pe_int ip_add)))
      (pss_cons (ps_set (i := 4) sc_L_tree.nd rfl (Or.inl rfl) (pe_lst pa_nil))
      (pss_cons (ps_for PassesOwn.never rfl (pi_list (pe_callB (cr_sortedST rfl) (by rfl) G.b_sorted (by decide +kernel) (pa_cons (pe_callTy (cr_setOfS rfl) (by rfl) G.b_set (by decide +kernel) (pa_cons (pe_lc (own := [("_law_one", 3)]) (g := gName 3) (by rfl) sc_L_tree.nd (pi_list (pv 1)) (blkOk_by (N := ["_law_content_here", "_law_keys", "_law_size", "_law_one", "_law_kids", "_law_letter", "_law_below"]) (sc := defScope s_L_tree) (by decide +kernel)) (fun _ _ _ _ _ => pg_name (i := 3) sc_L_tree.nd rfl (Or.inl rfl)) (fun _ _ _ _ _ => pts_one (pt_cmpR op_gt (pe_callB call_len_str (by rfl) G.b_len PySem.boot_len (pa_cons (pv 3) pa_nil)) (pv 2) (nomark _))) (fun _ _ _ _ _ => (pe_ix ix_str (pv 3) (pv 2) (fun _ _ => rfl)))) pa_nil)) pa_nil))) (pg_name (i := 5) sc_L_tree.nd rfl (Or.inr rfl)) (pss_cons (ps_set (i := 6) sc_L_tree.nd rfl (Or.inl rfl) (pe_callTy (call_dictP rfl) (by rfl) G.b_dict (by decide +kernel) (pa_cons (pe_lc (own := [("_law_one", 3)]) (g := gName 3) (tt := (tTest (tOp rEq (tSl rSlS (tVar 3) (tPart (tVar 2)) (tPart (tOp (rI0 fun i j => .int (i + j)) (tVar 2) (tC (.int 1))))) (tVar 5)))) (by rfl) sc_L_tree.nd (pi_list (pv 1)) (blkOk_by (N := ["_law_content_here", "_law_keys", "_law_size", "_law_one", "_law_kids", "_law_letter", "_law_below"]) (sc := defScope s_L_tree) (by decide +kernel)) (fun _ _ _ _ _ => pg_name (i := 3) sc_L_tree.nd rfl (Or.inl rfl)) (fun _ _ _ _ _ => pts_one (pt_cmpR op_eq (pe_slice sl_str (pv 3) (po_some (pv 2)) (po_some (pe_op op_add (pv 2) pe_int))) (pv 5) (nomark _))) (fun _ _ _ _ _ => (pe_tup (pa_cons (pe_slice sl_str (pv 3) (po_some (pe_op op_add (pv 2) pe_int)) po_none) (pa_cons (pe_dget hu (pv 0) (pv 3) (fun _ _ => rfl)) pa_nil))))) pa_nil)))
      (pss_one (ps_expr (pe_bm PySem.F.plainAttrs_list PySem.F.slot_list_append PySem.F.type_list_append mt_append (pv 4) (pa_cons (pe_tup (pa_cons (pv 5) (pa_cons (pe_cd D_L_tree (hr.mono (by omega)) (by rfl) (pa_cons (pv 6) pa_nil)) pa_nil))) pa_nil))))))
      (pss_one (ps_ret (pe_tup (pa_cons pe_str (pa_cons (pe_slice sl_str (pe_ix ix_list (pv 1) pe_int (fun _ _ => rfl)) po_none (po_some (pv 2))) (pa_cons (pe_dget1 hu (pv 0) (pe_slice sl_str (pe_ix ix_list (pv 1) pe_int (fun _ _ => rfl)) po_none (po_some (pv 2))) ⟨rfl, rfl, rfl, rfl⟩) (pa_cons (pe_callTy (cr_tupB (b := b)) (by rfl) G.b_tuple (by decide +kernel) (pa_cons (pv 4) pa_nil)) pa_nil))))))))))))), ?_⟩
    have hdl : (dkv rows).length = rows.length := by unfold dkv; rw [List.length_map]
    refine ⟨_, rfl, fun e he => ⟨d, e, _, rfl, rfl, (Go.new (Ts := tbs K) (M := M0) he).dK hd id, upd_same, _, rfl, ?_⟩⟩
    have ge : Gz K H (upd H e (.dK [])) := .new he
    by_cases hne0 : rows = []
    · subst hne0
      rw [decide_eq_true (by rfl)]
      exact q _ none _ ge (fun k => rfl) rfl
    have hne : rows.length ≠ 0 := fun e => hne0 (List.length_eq_zero_iff.mp e)
    rw [decide_eq_false (show ¬ dkv rows = [] from fun h => hne (by rw [← hdl, h]; rfl))]
    refine ⟨_, rfl, d, _, _, rfl, .inl (ge.dK hd id), dkv_keys rows, by rw [List.length_map]; omega, fun ys p hperm hsort hp => ?_⟩
    obtain ⟨rs, hrs, rfl⟩ := perm_lift hperm.symm rows rfl
    have hcn : cn rs = cn rows := cn_perm hrs hkn
    have hkn2 : KeysN rs := keysN_perm hrs hkn
    have hok2 : ∀ r ∈ rs, RowOk m r := fun r hr' => hok r (hrs.mem_iff.mp hr')
    have hlen2 : rs.length ≤ 60 := by rw [hrs.length_eq]; exact hlen
    obtain ⟨r1, rt, ers⟩ : ∃ r1 rt, rs = r1 :: rt := by
      cases rs with
      | nil => exact absurd hrs.length_eq.symm hne
      | cons a b => exact ⟨a, b, rfl⟩
    have hr1 : r1 ∈ rs := by rw [ers]; exact List.mem_cons_self
    have hk0 : ((rs.map fun r => S r.1).map V.str)[0]? = some (V.str (S r1.1)) := by rw [ers]; rfl
    have hk0' : atI ((rs.map fun r => S r.1).map V.str) 0 = some (V.str (S r1.1)) := atI_nat hk0
    have h18 := (hok2 r1 hr1).1.2
    have g1 := ge.trans (.new (o := .lst ((rs.map fun r => S r.1).map V.str)) hp)
    have hp1 : (upd (upd H e (.dK [])) p (.lst ((rs.map fun r => S r.1).map V.str))) p = some (.lst ((rs.map fun r => S r.1).map V.str)) := upd_same
    generalize upd (upd H e (.dK [])) p (.lst ((rs.map fun r => S r.1).map V.str)) = H1 at g1 hp1 ⊢
    refine ⟨fun k σ H' => Gz K H1 H' ∧ ∃ n : Nat, k + n = r1.1.length ∧ σ = [some (.ref d), some (.ref p), some (.int n), none, none, none, none] ∧ ∀ r ∈ rs, r.1.take n = r1.1.take n, ⟨r1.1.length, .refl, 0, rfl, rfl, fun r _ => rfl⟩, ?_⟩
    rintro k σ H2 ⟨g2, n, hkn', rfl, hall⟩
    refine ⟨_, rfl, _, rfl, p, _, 0, _, rfl, rfl, SqL.of (g2.lst hp1 id), hk0', _, rfl, by rw [S_len]; exact sz (by omega), _, _, rfl, rfl, _, rfl, ?_⟩
    rw [S_len]
    by_cases hlt : n < r1.1.length
    case' pos =>
      rw [decide_eq_true (by omega)]
      refine ⟨_, rfl, p, rfl, ⟨_, SqL.of (g2.lst hp1 id)⟩, fun D hD => ?_⟩
      refine lc_go (Ts := tbs K) (M := M0) (walk_list (xs := (rs.map fun r => S r.1).map V.str)) hD (by rw [List.length_map, List.length_map]; omega) m0_ne (fun i acc H' => Gz K H2 H' ∧ acc = ((rs.take i).map fun r => decide (r.1.take (n + 1) = r1.1.take (n + 1))).map V.bl) (fun i acc H' H'' ⟨a, b⟩ g => ⟨a.loc hD g, b⟩) ⟨.refl, rfl⟩ (fun i acc H' _ ⟨g, _⟩ => SqL.of ((g2.trans g).lst hp1 id)) ?_ ?_
      · rintro i acc x H' H'' R1 R2 hi ⟨g, hb⟩ ⟨rfl, hxi⟩ k1 k2
        obtain ⟨r, hri, rfl⟩ : ∃ r, rs[i]? = some r ∧ x = V.str (S r.1) := by
          rw [List.map_map, List.getElem?_map] at hxi
          cases e : rs[i]? with
          | none => rw [e] at hxi; cases hxi
          | some r => rw [e] at hxi; exact ⟨r, rfl, (Option.some.inj hxi).symm⟩
        have hr8 := (hok2 r (List.mem_of_getElem? hri)).1.2
        refine ⟨rfl, _, rfl, _, rfl, _, _, rfl, rfl, _, rfl, _, rfl, by rw [S_len]; exact sz (by omega), _, rfl, p, _, 0, _, rfl, rfl, SqL.of ((g2.trans g).lst hp1 id), hk0', _, rfl, _, _, rfl, rfl, _, rfl, _, rfl, by rw [S_len]; exact sz (by omega), rfl, ?_⟩
        rw [show ((n : Int) + 1) = ((n + 1 : Nat) : Int) by omega, cut_to, cut_to, dec_S]
        refine k1 _ _ .refl ⟨g, ?_⟩
        rw [take_snoc hri, List.map_append, List.map_append, ← hb]
        rfl
      rintro acc H' ⟨g, hb⟩ hD' _
      rw [List.length_map, List.length_map, List.take_length] at hb
      refine ⟨D, _, rfl, SqL.of (by rw [hD', hb]), _, rfl, ?_⟩
      by_cases hal : ∀ r ∈ rs, r.1.take (n + 1) = r1.1.take (n + 1)
      · rw [show ((rs.map fun r => decide (r.1.take (n + 1) = r1.1.take (n + 1))).all id) = true from by
          rw [List.all_eq_true]
          intro b hb
          obtain ⟨r, hr', rfl⟩ := List.mem_map.mp hb
          exact decide_eq_true (hal r hr')]
        refine ⟨fun σ' H' => ∃ m' < k, Gz K H1 H' ∧ ∃ n : Nat, m' + n = r1.1.length ∧ σ' = [some (.ref d), some (.ref p), some (.int n), none, none, none, none] ∧ ∀ r ∈ rs, r.1.take n = r1.1.take n, fun σ' H' ⟨m', h1, h2⟩ => ⟨m', h1, h2⟩, ?_⟩
        exact ⟨_, rfl, _, _, rfl, rfl, k - 1, by omega, g2.trans g, n + 1, by omega, rfl, hal⟩
      rw [show ((rs.map fun r => decide (r.1.take (n + 1) = r1.1.take (n + 1))).all id) = false from by
        rw [List.all_eq_false]
        obtain ⟨r, hr', hn⟩ : ∃ r ∈ rs, ¬ r.1.take (n + 1) = r1.1.take (n + 1) := Classical.byContradiction fun h => hal fun r hr' => Classical.byContradiction fun h' => h ⟨r, hr', h'⟩
        exact ⟨_, List.mem_map_of_mem (f := fun r : W × W => decide (r.1.take (n + 1) = r1.1.take (n + 1))) hr', by simpa using hn⟩]
      have hgr : ∀ z, (∀ r ∈ rs, z <+: r.1) → z <+: r1.1.take n := fun z hz => by
        by_cases hzn : z.length ≤ n
        · exact List.prefix_take_iff.mpr ⟨hz r1 hr1, hzn⟩
        · refine absurd (fun r hr' => ?_) hal
          obtain ⟨t, ht⟩ := hz r hr'
          obtain ⟨t1, ht1⟩ := hz r1 hr1
          rw [← ht, ← ht1, List.take_append_of_le_length (by omega), List.take_append_of_le_length (by omega)]
      have g1 := g1.trans (g2.trans g)
      have hp1 := (g2.trans g).lst hp1 id
      clear g2 g hb hD' hal hlt
      generalize H' = H2 at g1 hp1 ⊢
    case' neg =>
      rw [decide_eq_false (by omega)]
      have hgr : ∀ z, (∀ r ∈ rs, z <+: r.1) → z <+: r1.1.take n := fun z hz => by
        rw [List.take_of_length_le (by omega)]
        exact hz r1 hr1
      have g1 := g1.trans g2
      have hp1 := g2.lst hp1 id
      clear g2 hlt
    all_goals
      have hn1 : n ≤ r1.1.length := by omega
      generalize hst : r1.1.take n = st at hall hgr
      have hstn : st.length = n := by rw [← hst, List.length_take]; omega
      subst hstn
      clear hkn'
      have hpre : ∀ r ∈ rs, st <+: r.1 := fun r hr' => by
        rw [← hall r hr']
        exact List.take_prefix _ _
      have hst8 : st.length ≤ 8 := by omega
      have hstL : Ltr st := fun c hc => (hok2 r1 hr1).1.1 c ((hpre r1 hr1).subset hc)
      refine ⟨by show 0 ≤ sizeLine; decide, fun kl hkl => ?_⟩
      have g3 : Gz K H2 (upd H2 kl (.lst [])) := .new hkl
      refine ⟨_, rfl, p, rfl, ⟨_, SqL.of (g3.lst hp1 id)⟩, fun D hD => ?_⟩
      have hkeys : ∀ {i : Nat} {x : V}, ((rs.map fun r => S r.1).map V.str)[i]? = some x → ∃ r, rs[i]? = some r ∧ x = V.str (S r.1) := fun {i x} hxi => by
        rw [List.map_map, List.getElem?_map] at hxi
        cases e : rs[i]? with
        | none => rw [e] at hxi; cases hxi
        | some r => rw [e] at hxi; exact ⟨r, rfl, (Option.some.inj hxi).symm⟩
      refine lc_go (Ts := tbs K) (M := M0) (walk_list (xs := (rs.map fun r => S r.1).map V.str)) hD (by rw [List.length_map, List.length_map]; omega) m0_ne (fun i acc H' => Gz K (upd H2 kl (.lst [])) H' ∧ acc = ((seconds st.length (rs.take i)).map fun l => S [l]).map V.str) (fun i acc H' H'' ⟨a, b⟩ g => ⟨a.loc hD g, b⟩) ⟨.refl, rfl⟩ (fun i acc H' _ ⟨g, _⟩ => SqL.of ((g3.trans g).lst hp1 id)) ?_ ?_
      · rintro i acc x H' H'' R1 R2 hi ⟨g, hb⟩ ⟨rfl, hxi⟩ k1 k2
        obtain ⟨r, hri, rfl⟩ := hkeys hxi
        have hr8 := (hok2 r (List.mem_of_getElem? hri)).1.2
        have hsec : seconds st.length (rs.take (i + 1)) = seconds st.length (rs.take i) ++ (r.1[st.length]?).toList := by
          unfold seconds
          rw [take_snoc hri, List.filterMap_append]
          congr 1
        refine ⟨rfl, _, rfl, _, rfl, by rw [S_len]; exact sz (by omega), _, rfl, _, _, rfl, rfl, _, rfl, ?_⟩
        by_cases hlt : st.length < r.1.length
        · rw [decide_eq_true (by rw [S_len]; omega)]
          obtain ⟨c, hc⟩ := S_at hlt
          refine ⟨_, rfl, _, rfl, _, _, c, rfl, rfl, by rw [S_len]; exact sz (by omega), by rw [S_list]; exact atI_nat hc, ?_⟩
          rw [S_one]
          refine k1 _ _ .refl ⟨g, ?_⟩
          rw [hsec, hc, List.map_append, List.map_append, ← hb]
          rfl
        · rw [decide_eq_false (by rw [S_len]; omega)]
          refine k2 _ .refl ⟨g, ?_⟩
          rw [hsec, List.getElem?_eq_none (by omega), hb]
          simp
      rintro acc H3 ⟨g4, hb⟩ hD3 _
      rw [List.length_map, List.length_map, List.take_length] at hb
      subst hb
      have hletter : ∀ l ∈ seconds st.length rs, Lt l := fun l hl' => by
        obtain ⟨r, hr', e⟩ := List.mem_filterMap.mp hl'
        exact (hok2 r hr').1.1 l (List.mem_of_getElem? e)
      have hseclen : (seconds st.length rs).length ≤ 60 := Nat.le_trans (List.length_filterMap_le _ _) hlen2
      refine ⟨D, (seconds st.length rs).map fun l => S [l], rfl, SqL.of hD3, by rw [List.length_map]; omega, fun sa hsa => ?_⟩
      have g5 : Gz K H3 (upd H3 sa (SetTO P w sa ((seconds st.length rs).map fun l => S [l]))) := .new hsa
      refine ⟨sa, _, rfl, upd_same, by rw [List.length_map]; omega, fun ys h2 h3 => ?_, fun ys lq hs1 hs2 hs3 hq => ?_⟩
      · have hsub : ys.length ≤ ((seconds st.length rs).map fun l => S [l]).length := List.Nodup.length_le_of_subset h2 fun z hz => (h3 z).mp hz
        rw [List.length_map] at hsub
        omega
      obtain ⟨ls, rfl, hls, hmem⟩ := letters_eq hs1 hs2 hs3
      have hll : ls.length ≤ 60 := by
        have := List.Nodup.length_le_of_subset (hls.imp Nat.ne_of_lt) fun z hz => (hmem z).mp hz
        omega
      have g6 : Gz K H2 _ := g3.trans (g4.trans (g5.trans (.new (o := .lst ((ls.map fun m => S [m]).map V.str)) hq)))
      have hq6 : (upd (upd H3 sa (SetTO P w sa ((seconds st.length rs).map fun l => S [l]))) lq (.lst ((ls.map fun m => S [m]).map V.str))) lq = some (.lst ((ls.map fun m => S [m]).map V.str)) := upd_same
      have hkl6 := (g4.trans (g5.trans (.new (o := .lst ((ls.map fun m => S [m]).map V.str)) hq))).lst (b := kl) upd_same id
      have hlk : lq ≠ kl := fun e => by
        have h1 := (g4.trans g5).lst (b := kl) upd_same id
        rw [← e] at h1
        exact absurd (h1.symm.trans hq) (by simp)
      clear g3 g4 g5 hD hD3 hsa
      refine ⟨lq, rfl, ⟨_, SqL.of upd_same⟩, ?_⟩
      refine for_it (walk_list (xs := (ls.map fun m => S [m]).map V.str)) (fun i σ H5 => Gz K H2 H5 ∧ H5 lq = some (.lst ((ls.map fun m => S [m]).map V.str)) ∧ ∃ ys ks, H5 kl = some (.lst ys) ∧ ks.map (·.1) = ls.take i ∧ RepQg b H5 ks ys ∧
        (∀ q ∈ ks, Lt q.1 ∧ Wf q.2 ∧ Full q.2 ∧ (∃ k x, cn rs (st ++ q.1 :: k) = some x) ∧ ∀ k, look q.2 k = cn rs (st ++ q.1 :: k)) ∧ ∃ a b', σ = [some (.ref d), some (.ref p), some (.int st.length), none, some (.ref kl), a, b'])
        ⟨g6, hq6, [], [], hkl6, rfl, .nil, (fun q hq => by cases hq), _, _, rfl⟩ (fun i σ H5 _ ⟨g, h, _⟩ => SqL.of h) ?_ ?_
      · rintro i x σ H6 H5 hi ⟨g7, hq7, ys, ks, hkl7, hks, hrep, hkt, a, b', rfl⟩ ⟨rfl, hxi⟩
        obtain ⟨l, hli, rfl⟩ : ∃ l, ls[i]? = some l ∧ x = V.str (S [l]) := by
          rw [List.map_map, List.getElem?_map] at hxi
          cases e : ls[i]? with
          | none => rw [e] at hxi; cases hxi
          | some l => rw [e] at hxi; exact ⟨l, rfl, (Option.some.inj hxi).symm⟩
        have hlm := List.mem_of_getElem? hli
        obtain ⟨r0, hr0, er0⟩ := List.mem_filterMap.mp ((hmem l).mp hlm)
        have hd7 : H5 d = some (.dK (dkv rows)) := (g1.trans g7).dK hd id
        refine ⟨_, rfl, p, rfl, ⟨_, SqL.of (g7.lst hp1 id)⟩, fun B hB => ?_⟩
        refine lc_go (Ts := tbs K) (M := M0) (walk_list (xs := (rs.map fun r => S r.1).map V.str)) hB (by rw [List.length_map, List.length_map]; omega) m0_ne (fun i acc H' => Gz K H5 H' ∧ ∃ ps : List Addr, acc = ps.map V.ref ∧ Paired (fun (p : Addr) (kv : Key × V) => H' p = some (.tup [kV kv.1, kv.2])) ps (dkv (below st.length l (rs.take i)))) (fun i acc H' H'' ⟨a, ps, e, b⟩ g => ⟨a.loc hB g, ps, e, L2.Paired.mapP b fun _ _ h => g.tup h⟩) ⟨.refl, [], rfl, .nil⟩ (fun i acc H' _ ⟨g, _⟩ => SqL.of ((g7.trans g).lst hp1 id)) ?_ ?_
        · rintro i2 acc x H8 H7 R1 R2 hi2 ⟨g8, ps, rfl, hps⟩ ⟨rfl, hxi2⟩ k1 k2
          obtain ⟨r, hri, rfl⟩ := hkeys hxi2
          have hrm := List.mem_of_getElem? hri
          have hr8 := (hok2 r hrm).1.2
          have hbel : below st.length l (rs.take (i2 + 1)) = below st.length l (rs.take i2) ++ if r.1[st.length]? = some l then [(r.1.drop (st.length + 1), r.2)] else [] := by
            unfold below
            rw [take_snoc hri, List.filter_append, List.map_append]
            congr 1
            by_cases hc : r.1[st.length]? = some l
            · simp [hc]
            · simp [hc]
          refine ⟨rfl, _, rfl, _, rfl, _, rfl, _, rfl, _, _, rfl, rfl, _, rfl, _, rfl, by rw [S_len]; exact sz (by omega), _, rfl, rfl, _, rfl, ?_⟩
          rw [show ((st.length : Int) + 1) = ((st.length + 1 : Nat) : Int) by omega, cut_mid, take1_at]
          by_cases hc : r.1[st.length]? = some l
          · rw [decide_eq_true (by rw [hc]; rfl)]
            rw [if_pos hc] at hbel
            refine ⟨_, rfl, _, rfl, _, _, rfl, rfl, _, rfl, _, rfl, by rw [S_len]; exact sz (by omega), ?_⟩
            refine ⟨_, rfl, _, rfl, d, _, rfl, (by
              have := DGet.k (k := Sum.inr (S r.1)) ((g1.trans (g7.trans g8)).dK hd id)
              rw [valV_dkv, ← hcn, cn_of_mem hkn2 hrm] at this
              exact this), by show 2 ≤ sizeLine; decide, fun t ht => ?_⟩
            rw [show ((st.length : Int) + 1) = ((st.length + 1 : Nat) : Int) by omega, cut_from]
            have gt : Gz K H7 (upd H7 t (.tup [.str (S (r.1.drop (st.length + 1))), .str (S r.2)])) := .new ht
            refine k1 _ _ gt ⟨g8.trans gt, ps ++ [t], by rw [List.map_append]; rfl, ?_⟩
            rw [hbel, show dkv (below st.length l (rs.take i2) ++ [(r.1.drop (st.length + 1), r.2)]) = dkv (below st.length l (rs.take i2)) ++ [(Sum.inr (S (r.1.drop (st.length + 1))), V.str (S r.2))] from by unfold dkv; rw [List.map_append]; rfl]
            exact paired_snoc (L2.Paired.mapP hps fun _ _ h => gt.tup h) upd_same
          · rw [decide_eq_false (fun h => hc (by
              injection h with h
              have := S_inj.mp h
              cases e : r.1[st.length]? with
              | none => rw [e] at this; cases this
              | some m => rw [e] at this; simp at this; rw [this]))]
            rw [if_neg hc, List.append_nil] at hbel
            refine k2 _ .refl ⟨g8, ps, rfl, ?_⟩
            rw [hbel]
            exact hps
        · rintro acc H7 ⟨g8, ps, rfl, hps⟩ hB7 _
          rw [List.length_map, List.length_map, List.take_length] at hps
          have hb : KeysN (below st.length l rs) := below_keys hpre hkn2
          refine ⟨B, ps, _, rfl, SqL.of hB7, L2.Paired.mapP hps fun _ _ h => SqT.of h, fun c hc => ?_⟩
          rw [show mergeK [] (dkv (below st.length l rs)) = dkv (below st.length l rs) from mergeK_rows _ [] hb]
          have gc : Gz K H7 (upd H7 c (.dK (dkv (below st.length l rs)))) := .new hc
          have hkl8 := (g8.trans gc).lst hkl7 id
          obtain ⟨m', rfl⟩ : ∃ m', m = m' + 1 := ⟨m - 1, by omega⟩
          have e0 := at_pre (hpre r0 hr0) er0
          have hb0 : (r0.1.drop (st.length + 1), r0.2) ∈ below st.length l rs := (below_mem hpre).mpr (by rw [← e0]; exact hr0)
          have hrow : ∀ r ∈ below st.length l rs, RowOk m' r := fun r hr' => by
            obtain ⟨k, x⟩ := r
            have hm := (below_mem hpre).mp hr'
            obtain ⟨⟨a1, a2⟩, a3, a4⟩ := hok2 _ hm
            simp only [List.length_append, List.length_cons] at a2 a4
            exact ⟨⟨fun c hc => a1 c (List.mem_append_right _ (List.mem_cons_of_mem _ hc)), by show k.length ≤ 8; omega⟩, a3, by show k.length < m'; omega⟩
          refine ⟨_, rfl, .inl ⟨rfl, _, SqL.of hkl8⟩, _, rfl, _, rfl, hsp m' _ _ _ _ rfl ⟨below st.length l rs, c, rfl, upd_same, hb, ?_, hrow, ?_, fun v o H8 g9 hT hR => ?_⟩⟩
          · unfold below
            rw [List.length_map]
            exact Nat.le_trans (List.length_filter_le _ _) hlen2
          · have := (hrow _ hb0).2.2
            omega
          cases o with
          | none =>
            have := cn_of_mem hb hb0
            rw [hT] at this
            cases this
          | some t =>
            refine ⟨by show 2 ≤ sizeLine; decide, fun tp htp => ?_⟩
            have g10 : Gz K H8 (upd H8 tp (.tup [.str (S [l]), v])) := .new htp
            have g11 := g8.trans (gc.trans (g9.trans g10))
            have hkl9 := g11.lst hkl7 id
            refine ⟨kl, ys, _, rfl, rfl, hkl9, szl (by rw [hrep.length, ← List.length_map (f := (·.1)), hks, List.length_take]; omega), ?_⟩
            have gs : Go (tbs K) (fun b => b = kl) (upd H8 tp (.tup [.str (S [l]), v])) (upd (upd H8 tp (.tup [.str (S [l]), v])) kl (.lst (ys ++ [.ref tp]))) := .set hkl9 rfl rfl rfl
            refine ⟨(g7.trans g11).put hkl hkl9 rfl rfl, gs.lst (g11.lst hq7 id) hlk, ys ++ [.ref tp], ks ++ [(l, t)], upd_same, ?_, ?_, ?_, _, _, rfl⟩
            · rw [List.map_append, hks, take_snoc hli]
              rfl
            · refine ((hrep.keep g11.keep).keep gs.keep).snoc (gs.fix upd_same rfl) ?_
              exact RepDg.keep gs.keep t (RepDg.keep g10.keep t hR)
            · obtain ⟨t1, t2, t3, t4⟩ := hT
              intro q hq
              rcases List.mem_append.mp hq with hq | hq
              · exact hkt q hq
              · have := List.mem_singleton.mp hq
                subst this
                refine ⟨hletter l ((hmem l).mp hlm), t1, t2, ⟨r0.1.drop (st.length + 1), r0.2, ?_⟩, fun k => ?_⟩
                · rw [← e0]
                  exact cn_of_mem hkn2 hr0
                · rw [t4, cn_below hpre hkn2]
      · rintro σ H5 ⟨g7, hq7, ys, ks, hkl7, hks, hrep, hkt, a, b', rfl⟩
        rw [List.length_map, List.length_map, List.take_length] at hks
        have hd7 : H5 d = some (.dK (dkv rows)) := (g1.trans g7).dK hd id
        have hget : (valV (dkv rows) (Sum.inr (S st))).getD V.non = oS (cn rs st) := by
          rw [valV_dkv, hcn]
          cases cn rows st <;> rfl
        have hall2 : ∀ l k x, cn rs (st ++ l :: k) = some x → ∃ p ∈ ks, p.1 = l := fun l k x hx => by
          have h1 : l ∈ seconds st.length rs := List.mem_filterMap.mpr ⟨_, cn_mem hx, at_len⟩
          have h2 := (hmem l).mpr h1
          rw [← hks] at h2
          obtain ⟨p, hp, e⟩ := List.mem_map.mp h2
          exact ⟨p, hp, e⟩
        have hup : Up ks := by
          have := hls
          rw [← hks, List.pairwise_map] at this
          exact this
        have hT : IsTree (some (.node st (cn rs st) ks)) (cn rs) := node_of hstL (fun k x hx => ⟨(hok2 _ (cn_mem hx)).2.1, (hok2 _ (cn_mem hx)).1.2⟩) (fun k x hx => hpre _ (cn_mem hx)) (fun z hz => hgr z fun r hr' => hz _ _ (cn_of_mem hkn2 hr'))
          ⟨r1.1, r1.2, cn_of_mem hkn2 hr1⟩ hup hkt hall2
        refine ⟨_, rfl, p, _, 0, _, rfl, rfl, SqL.of (g7.lst hp1 id), hk0', _, rfl, _, rfl, _, rfl, by rw [S_len]; exact sz (by omega), ?_⟩
        rw [cut_to, hst]
        refine ⟨_, rfl, d, rfl, .inl ⟨_, .inl hd7⟩, _, rfl, p, _, 0, _, rfl, rfl, SqL.of (g7.lst hp1 id), hk0', _, rfl, _, rfl, _, rfl, by rw [S_len]; exact sz (by omega), ?_⟩
        rw [cut_to, hst]
        refine ⟨_, DGet.k (k := Sum.inr (S st)) hd7, ?_⟩
        rw [hget]
        refine ⟨_, rfl, kl, _, rfl, SqL.of hkl7, fun kt u hkt' hu' => ?_⟩
        refine ⟨by show 4 ≤ sizeLine; decide, fun r hr' => ?_⟩
        have ga : Gz K H5 (upd H5 kt u) := .new hkt'
        have gb : Gz K (upd H5 kt u) (upd (upd H5 kt u) r (.tup [.str "node", .str (S st), oS (cn rs st), .ref kt])) := .new hr'
        refine q _ (some (.node st (cn rs st) ks)) _ (g1.trans (g7.trans (ga.trans gb))) (by rw [← hcn]; exact hT) (RepDg.node.mpr ⟨r, kt, ys, u, rfl, upd_same, gb.fix upd_same hu'.fix, hu', hrep.keep (ga.trans gb).keep⟩)
theorem D_L_tree_at (b : Bool) (n : Fn1 K mg "_law_tree" s_L_tree) (G : TX K mg) (m : Nat) : Def P w K mg base CX0 (2 + m) "_law_tree" ["_law_content_here"] (spLTree b K m) := by
  induction m with
  | zero => exact D_lt_step (j := 1) (by omega) n G (n.no0 sc_L_tree bind_L_tree) fun m' vs H Q E e => nomatch e
  | succ m ih => exact D_lt_step (j := 2 + m) (by omega) n G ih fun m' vs H Q E e h => by cases e; exact h
/-- _law_tree of any content -/
def spLTreeOf (b : Bool) (K : PySem.W.Frag) : Sp := fun vs H Q _ => ∃ (rows : List (W × W)) (d : Addr), vs = [.ref d] ∧ H d = some (.dK (dkv rows)) ∧ KeysN rows ∧ rows.length ≤ 60 ∧ (∀ r ∈ rows, IsKey r.1 ∧ Vl r.2) ∧ ∀ v o H', Gz K H H' → IsTree o (cn rows) → RepDgO b H' o v → Q v H'
theorem D_L_tree (b : Bool) (n : Fn1 K mg "_law_tree" s_L_tree) (G : TX K mg) : Def P w K mg base CX0 11 "_law_tree" ["_law_content_here"] (spLTreeOf b K) :=
  (D_L_tree_at b n G 9).imp fun vs H Q E h => by
    obtain ⟨rows, d, e, h1, h2, h3, h4, h5⟩ := h
    exact ⟨rows, d, e, h1, h2, h3, fun r hr => ⟨(h4 r hr).1, (h4 r hr).2, Nat.lt_succ_of_le (h4 r hr).1.2⟩, by omega, h5⟩
end
end Seal
namespace Seal
/-! ### the walk of a key -/
mutual
/-- the parts on the way of a key, each with its way -/
def wlk : T → W → W → List (W × T)
  | .stub n, way, _ => [(way, .stub n)]
  | .node s v ks, way, r => (way, .node s v ks) :: match rest? s r with
    | some (l :: r') => wlkK ks l (way ++ s ++ [l]) r'
    | _ => []
def wlkK : List (Nat × T) → Nat → W → W → List (W × T)
  | [], _, _, _ => []
  | (l', t) :: ks, l, way, r => if l' = l then wlk t way r else wlkK ks l way r
end
def wlkO : Option T → W → W → List (W × T)
  | none, _, _ => []
  | some t, way, r => wlk t way r
theorem wlkK_eq : ∀ (ks : List (Nat × T)) (l : Nat) (way r : W), wlkK ks l way r = wlkO (kat ks l) way r
  | [], _, _, _ => rfl
  | (l', t) :: ks, l, way, r => by
    unfold wlkK kat
    split
    · rfl
    · exact wlkK_eq ks l way r
theorem wlk_node (s : W) (v : Option W) (ks : List (Nat × T)) (way r : W) : wlk (.node s v ks) way r = (way, .node s v ks) :: match rest? s r with
    | some (l :: r') => wlkO (kat ks l) (way ++ s ++ [l]) r'
    | _ => [] := by
  show (way, T.node s v ks) :: (match rest? s r with | some (l :: r') => wlkK ks l (way ++ s ++ [l]) r' | _ => []) = _
  cases rest? s r with
  | none => rfl
  | some q => cases q with
    | nil => rfl
    | cons l r' => simp only [wlkK_eq]
theorem wlk_ways (t : T) : ∀ (way r : W), (wlk t way r).map (·.1) = visP t way r := by
  induction t using T.ind with
  | hs n => intro way r; rfl
  | hn s v ks ih =>
    intro way r
    rw [wlk_node, visP_node, List.map_cons]
    congr 1
    cases rest? s r with
    | none => rfl
    | some q => cases q with
      | nil => rfl
      | cons l r' =>
        show (wlkO (kat ks l) _ _).map _ = match kat ks l with | some t => visP t (way ++ s ++ [l]) r' | none => []
        cases e : kat ks l with
        | none => rfl
        | some u => exact ih _ (kat_mem e) _ _
theorem wlk_ne (t : T) (way r : W) : wlk t way r ≠ [] := by
  cases t with
  | stub n => simp [wlk]
  | node s v ks => rw [wlk_node]; simp
/-- the walk's parts are seen, where all are -/
theorem wlk_full (t : T) : ∀ (way r : W), Full t → ∀ p ∈ wlk t way r, Full p.2 := by
  induction t using T.ind with
  | hs n => intro way r f; exact absurd f full_not_stub
  | hn s v ks ih =>
    intro way r f p hp
    rw [wlk_node] at hp
    rcases List.mem_cons.mp hp with rfl | hp
    · exact f
    · cases e : rest? s r with
      | none => rw [e] at hp; nomatch hp
      | some q => cases q with
        | nil => rw [e] at hp; nomatch hp
        | cons l r' =>
          rw [e] at hp
          cases ek : kat ks l with
          | none => simp only [ek] at hp; nomatch hp
          | some u =>
            simp only [ek] at hp
            exact ih _ (kat_mem ek) _ _ (Full.node.mp f _ (kat_mem ek)) p hp
theorem wlk_wf (t : T) : ∀ (way r : W), Wf t → ∀ p ∈ wlk t way r, Wf p.2 ∧ p.1.length + ht p.2 ≤ way.length + ht t := by
  induction t using T.ind with
  | hs n =>
    intro way r f p hp
    rw [wlk] at hp
    rw [List.mem_singleton.mp hp]
    exact ⟨f, Nat.le_refl _⟩
  | hn s v ks ih =>
    intro way r f p hp
    rw [wlk_node] at hp
    rcases List.mem_cons.mp hp with rfl | hp
    · exact ⟨f, Nat.le_refl _⟩
    · cases e : rest? s r with
      | none => rw [e] at hp; nomatch hp
      | some q => cases q with
        | nil => rw [e] at hp; nomatch hp
        | cons l r' =>
          rw [e] at hp
          cases ek : kat ks l with
          | none => simp only [ek] at hp; nomatch hp
          | some u =>
            simp only [ek] at hp
            obtain ⟨a, b⟩ := ih _ (kat_mem ek) _ _ ((Wf.node.mp f).2.2.2.2 _ (kat_mem ek)).2 p hp
            refine ⟨a, Nat.le_trans b ?_⟩
            have := ht_mem (kat_mem ek)
            simp only [ht, List.length_append, List.length_cons, List.length_nil] at this ⊢
            omega
theorem wlk_len (t : T) : ∀ (way r : W), (wlk t way r).length ≤ ht t + 1 := by
  induction t using T.ind with
  | hs n => intro way r; rw [wlk]; simp
  | hn s v ks ih =>
    intro way r
    rw [wlk_node, List.length_cons]
    cases e : rest? s r with
    | none => simp
    | some q => cases q with
      | nil => simp
      | cons l r' =>
        cases ek : kat ks l with
        | none => simp only [ek]; simp [wlkO]
        | some u =>
          simp only [ek]
          have := ih _ (kat_mem ek) (way ++ s ++ [l]) r'
          have := ht_mem (kat_mem ek)
          simp only [wlkO, ht] at *
          omega
/-- the kid that is left alone, by the walk -/
def loneW (ws : List (W × T)) : Option W := match ws.reverse with
  | (way, .node s _ []) :: (way2, .node s2 v2 ks2) :: _ => if v2 = none then only (way2 ++ s2) (ks2.filter fun p => decide ([p.1] ≠ way.drop (way.length - 1))) else none
  | (way, .node s _ ks) :: _ => only (way ++ s) ks
  | _ => none
theorem loneW_cons {a : W × T} {ws : List (W × T)} (h : 2 ≤ ws.length) : loneW (a :: ws) = loneW ws := by
  unfold loneW
  rw [List.reverse_cons]
  obtain ⟨x, y, r, e⟩ : ∃ x y r, ws.reverse = x :: y :: r := by
    match h' : ws.reverse with
    | [] => have h3 : ws.length = 0 := by rw [← List.length_reverse, h']; rfl
            omega
    | [_] => have h3 : ws.length = 1 := by rw [← List.length_reverse, h']; rfl
             omega
    | x :: y :: r => exact ⟨x, y, r, rfl⟩
  rw [e]
  obtain ⟨xw, xt⟩ := x
  obtain ⟨yw, yt⟩ := y
  cases xt with
  | stub n => rfl
  | node s v ks =>
    cases ks with
    | nil => cases yt <;> rfl
    | cons a b => rfl
theorem lone_walk (t : T) : ∀ (way r : W) (x : W), Wf t → Full t → look t r = some x → loneW (wlk t way r) = lone t way r := by
  induction t using T.ind with
  | hs n => intro way r x _ f; exact absurd f full_not_stub
  | hn s v ks ih =>
    intro way r x wf f hl
    rw [wlk_node, lone_node]
    rw [look_node] at hl
    cases e : rest? s r with
    | none => rw [e] at hl; cases hl
    | some q =>
      cases q with
      | nil =>
        show loneW [(way, .node s v ks)] = only (way ++ s) ks
        cases ks with
        | nil => rfl
        | cons a b => rfl
      | cons l r' =>
        rw [e] at hl
        simp only at hl ⊢
        cases ek : kat ks l with
        | none => rw [ek] at hl; cases hl
        | some u =>
          rw [ek] at hl
          have hl : look u r' = some x := hl
          have hm := kat_mem ek
          have wu := ((Wf.node.mp wf).2.2.2.2 _ hm).2
          have fu := Full.node.mp f _ hm
          simp only [wlkO]
          have ihu := ih _ hm (way ++ s ++ [l]) r' x wu fu hl
          cases u with
          | stub n => exact absurd fu full_not_stub
          | node s' v' ks' =>
            rw [look_node] at hl
            cases e' : rest? s' r' with
            | none => rw [e'] at hl; cases hl
            | some q' =>
              cases q' with
              | nil =>
                have hr' : r' = s' := by rw [rest_some e']; simp
                have hw : wlk (.node s' v' ks') (way ++ s ++ [l]) r' = [(way ++ s ++ [l], .node s' v' ks')] := by
                  rw [wlk_node, e']
                rw [hw] at ihu ⊢
                cases ks' with
                | nil =>
                  have hleaf : leafAt (.node s' v' []) r' = true := by rw [hr']; simp [leafAt]
                  rw [if_pos hleaf]
                  show (if v = none then only (way ++ s) (ks.filter fun p => decide ([p.1] ≠ (way ++ s ++ [l]).drop ((way ++ s ++ [l]).length - 1))) else none) = if v = none then only (way ++ s) (without l ks) else none
                  have hd : (way ++ s ++ [l]).drop ((way ++ s ++ [l]).length - 1) = [l] := by
                    rw [show (way ++ s ++ [l]).length - 1 = (way ++ s).length by simp, List.drop_left]
                  rw [hd]
                  unfold without
                  simp
                | cons a b =>
                  have hleaf : leafAt (.node s' v' (a :: b)) r' = false := by simp [leafAt]
                  rw [if_neg (by rw [hleaf]; simp)]
                  exact ihu
              | cons l2 r2 =>
                have h2 : 2 ≤ (wlk (.node s' v' ks') (way ++ s ++ [l]) r').length := by
                  rw [wlk_node, e']
                  rw [e'] at hl
                  simp only at hl ⊢
                  cases ek2 : kat ks' l2 with
                  | none => rw [ek2] at hl; cases hl
                  | some u2 =>
                    have := List.length_pos_iff.mpr (wlk_ne u2 (way ++ s ++ [l] ++ s' ++ [l2]) r2)
                    simp only [wlkO, List.length_cons]
                    omega
                rw [loneW_cons h2, ihu]
                have hleaf : leafAt (.node s' v' ks') r' = false := by
                  cases hb : leafAt (.node s' v' ks') r' with
                  | false => rfl
                  | true =>
                    have := (leaf_iff.mp hb).2
                    rw [← this] at e'
                    rw [rest_self] at e'
                    cases e'
                rw [if_neg (by rw [hleaf]; simp)]
theorem wlk_tail (t : T) (way r : W) : ∀ p ∈ (wlk t way r).tail, p.1 ≠ [] := by
  cases t with
  | stub n => intro p hp; simp [wlk] at hp
  | node s v ks =>
    intro p hp
    rw [wlk_node] at hp
    cases e : rest? s r with
    | none => rw [e] at hp; simp at hp
    | some q => cases q with
      | nil => rw [e] at hp; simp at hp
      | cons l r' =>
        rw [e] at hp
        simp only [List.tail_cons] at hp
        cases ek : kat ks l with
        | none => simp only [ek] at hp; nomatch hp
        | some u =>
          simp only [ek, wlkO] at hp
          have h1 : p.1 ∈ visP u (way ++ s ++ [l]) r' := by rw [← wlk_ways]; exact List.mem_map_of_mem (f := (·.1)) hp
          have := (visP_pre u h1).length_le
          intro e0
          rw [e0] at this
          simp at this
theorem wlk_last (t : T) (r : W) (f : Full t) (w : Wf t) (h8 : ht t ≤ 8) : ∃ pre way s v ks, wlk t [] r = pre ++ [(way, .node s v ks)] ∧ way.length ≤ 8 ∧ ht (.node s v ks) ≤ 8 ∧ Wf (.node s v ks) ∧
    (pre ≠ [] → way ≠ [] ∧ ∃ pre2 way2 s2 v2 ks2, pre = pre2 ++ [(way2, .node s2 v2 ks2)] ∧ way2.length ≤ 8 ∧ ht (.node s2 v2 ks2) ≤ 8 ∧ Wf (.node s2 v2 ks2)) := by
  have ok : ∀ p ∈ wlk t [] r, ∃ s v ks, p.2 = .node s v ks ∧ p.1.length ≤ 8 ∧ ht (.node s v ks) ≤ 8 ∧ Wf (.node s v ks) := fun p hp => by
    obtain ⟨w', t'⟩ := p
    have h1 := wlk_full t [] r f _ hp
    obtain ⟨h2, h3⟩ := wlk_wf t [] r w _ hp
    cases t' with
    | stub n => exact absurd h1 full_not_stub
    | node s v ks =>
      simp only [List.length_nil] at h3
      exact ⟨s, v, ks, rfl, by show w'.length ≤ 8; omega, by omega, h2⟩
  obtain ⟨pre, ⟨way, t1⟩, e⟩ : ∃ pre a, wlk t [] r = pre ++ [a] := ⟨_, _, (List.dropLast_concat_getLast (wlk_ne t [] r)).symm⟩
  obtain ⟨s, v, ks, rfl, h1, h2, h3⟩ := ok (way, t1) (by rw [e]; simp)
  refine ⟨pre, way, s, v, ks, e, h1, h2, h3, fun hp => ?_⟩
  obtain ⟨pre2, ⟨way2, t2⟩, rfl⟩ : ∃ pre2 a, pre = pre2 ++ [a] := ⟨_, _, (List.dropLast_concat_getLast hp).symm⟩
  obtain ⟨s2, v2, ks2, rfl, g1, g2, g3⟩ := ok (way2, t2) (by rw [e]; simp)
  refine ⟨wlk_tail t [] r (way, .node s v ks) ?_, pre2, way2, s2, v2, ks2, rfl, g1, g2, g3⟩
  rw [e]
  cases pre2 with
  | nil => simp
  | cons a b => simp
theorem loneW_one {pre : List (W × T)} {way s : W} {v : Option W} {ks : List (Nat × T)} (h : ks ≠ [] ∨ pre = []) : loneW (pre ++ [(way, .node s v ks)]) = only (way ++ s) ks := by
  unfold loneW
  rw [List.reverse_append]
  rcases h with h | rfl
  · cases ks with
    | nil => exact absurd rfl h
    | cons a b => rfl
  · cases ks <;> rfl
theorem loneW_two {pre : List (W × T)} {way s way2 s2 : W} {v v2 : Option W} {ks2 : List (Nat × T)} : loneW (pre ++ [(way2, .node s2 v2 ks2)] ++ [(way, .node s v [])]) = if v2 = none then only (way2 ++ s2) (ks2.filter fun p => decide ([p.1] ≠ way.drop (way.length - 1))) else none := by
  unfold loneW
  rw [List.reverse_append, List.reverse_append]
  rfl
end Seal
namespace Seal
open PySem PySem.Spec PyProof.Rows L2 LamX NdefX
/-! ### what is told, as data -/
def dO : Option W → PyData
  | none => .none
  | some x => .str (S x)
mutual
def dT : T → PyData
  | .stub n => .tuple [.str "stub", .int n]
  | .node s o ks => .tuple [.str "node", .str (S s), dO o, .tuple (dTK ks)]
def dTK : List (Nat × T) → List PyData
  | [] => []
  | (l, t) :: r => .tuple [.str (S [l]), dT t] :: dTK r
end
theorem dp_oS {K : PySem.W.Frag} {H : Hp} (o : Option W) : Dp K H (oS o) (dO o) := by
  cases o with
  | none => exact .non
  | some x => exact .str _
theorem dp_prs {K : PySem.W.Frag} {H : Hp} {R : T → V → Prop} {ks : List (Nat × T)} {xs : List V} (h : Prs R H ks xs) (f : ∀ p ∈ ks, ∀ v, R p.2 v → Dp K H v (dT p.2)) : DpAll K H xs (dTK ks) := by
  induction h with
  | nil => exact .nil
  | cons a b t ih => exact .cons (.tup (.of a) (.cons (.str _) (.cons (f _ List.mem_cons_self _ b) .nil))) (ih fun p hp => f p (List.mem_cons_of_mem _ hp))
theorem dp_told {K : PySem.W.Frag} {b : Bool} {H : Hp} (t : T) : ∀ {v : V}, RepDg b H t v → Dp K H v (dT t) := by
  induction t using T.ind with
  | hs n =>
    intro v h
    obtain ⟨a, rfl, h1⟩ := RepDg.stub.mp h
    exact .tup (.of h1) (.cons (.str _) (.cons (.int _) .nil))
  | hn s o ks ih =>
    intro v h
    obtain ⟨a, l, xs, u, rfl, h, h1, hu, h2⟩ := RepDg.node.mp h
    exact .tup (.of h) (.cons (.str _) (.cons (.str _) (.cons (dp_oS o) (.cons (.tup (hu.sq h1) (dp_prs h2 fun p hp v hv => ih p hp hv)) .nil))))
theorem dp_toldD {K : PySem.W.Frag} {H : Hp} (t : T) : ∀ {v : V}, RepD H t v → Dp K H v (dT t) := by
  induction t using T.ind with
  | hs n =>
    intro v h
    obtain ⟨a, rfl, h1⟩ := RepD.stub.mp h
    exact .tup (.of h1) (.cons (.str _) (.cons (.int _) .nil))
  | hn s o ks ih =>
    intro v h
    obtain ⟨a, l, xs, rfl, h, h1, h2⟩ := RepD.node.mp h
    exact .tup (.of h) (.cons (.str _) (.cons (.str _) (.cons (dp_oS o) (.cons (.tup (.of h1) (dp_prs h2 fun p hp v hv => ih p hp hv)) .nil))))
def dTO : Option T → PyData
  | none => .none
  | some t => dT t
theorem dp_toldO {K : PySem.W.Frag} {H : Hp} {o : Option T} {v : V} (h : RepDO H o v) : Dp K H v (dTO o) := by
  cases o with
  | none => cases h; exact .non
  | some t => exact dp_toldD t h
theorem ok_S {w : W} (h : ∀ c ∈ w, c < 1114112) : PyData.strOk (S w) = true := by
  unfold PyData.strOk
  rw [Array.all_eq_true_iff_forall_mem]
  intro c hc
  exact decide_eq_true (h c (by rw [← S_list w]; exact Array.mem_toList_iff.mpr hc))
theorem lay_dTK {ks : List (Nat × T)} (h : ∀ p ∈ ks, Lt p.1 ∧ (dT p.2).canLay0 = true) : PyData.canLayAll0 (dTK ks) = true := by
  induction ks with
  | nil => rw [dTK, PyData.canLayAll0]
  | cons p ks ih =>
    obtain ⟨l, t⟩ := p
    obtain ⟨h0, h1⟩ := h (l, t) List.mem_cons_self
    have h2 := ih fun p hp => h p (List.mem_cons_of_mem _ hp)
    have h3 : PyData.strOk (S [l]) = true := ok_S fun c hc => by rw [List.mem_singleton.mp hc]; have := h0.2; simp only at this; omega
    simp only [dTK, PyData.canLayAll0, PyData.canLay0, h2, h1, h3, Bool.and_true]
theorem lay_dO {o : Option W} (h : ∀ x, o = some x → Vl x) : (dO o).canLay0 = true := by
  cases o with
  | none => rw [dO, PyData.canLay0]
  | some x =>
    rw [dO, PyData.canLay0]
    exact ok_S fun c hc => by have := (h x rfl).2 c hc; omega
theorem lay_dT (t : T) : Wf t → (dT t).canLay0 = true := by
  induction t using T.ind with
  | hs n =>
    intro _
    have h1 : PyData.strOk "stub" = true := ok_S (w := [115, 116, 117, 98]) (by decide)
    simp only [dT, PyData.canLay0, PyData.canLayAll0, h1, Bool.and_true]
  | hn s o ks ih =>
    intro hw
    obtain ⟨w1, w2, w3, w4, w5⟩ := Wf.node.mp hw
    have h := lay_dTK (ks := ks) fun p hp => ⟨(w5 p hp).1, ih p hp (w5 p hp).2⟩
    have ho := lay_dO w2
    have h1 : PyData.strOk "node" = true := ok_S (w := [110, 111, 100, 101]) (by decide)
    have h2 : PyData.strOk (S s) = true := ok_S fun c hc => by have := (w1 c hc).2; omega
    simp only [dT, PyData.canLay0, PyData.canLayAll0, h, ho, h1, h2, Bool.and_true]
theorem depth_dTK {ks : List (Nat × T)} {n : Nat} (h : ∀ p ∈ ks, (dT p.2).depth ≤ n) : PyData.depthAll (dTK ks) ≤ n + 1 := by
  induction ks with
  | nil => simp [dTK, PyData.depthAll]
  | cons p ks ih =>
    obtain ⟨l, t⟩ := p
    have h1 := h (l, t) List.mem_cons_self
    have h2 := ih fun p hp => h p (List.mem_cons_of_mem _ hp)
    simp only [dTK, PyData.depthAll, PyData.depth] at h1 h2 ⊢
    omega
theorem depth_dT (t : T) : (dT t).depth ≤ 3 * ht t + 3 := by
  induction t using T.ind with
  | hs n => simp [dT, PyData.depth, PyData.depthAll, ht]
  | hn s o ks ih =>
    have h := depth_dTK (ks := ks) (n := 3 * (htK ks - 1) + 3) fun p hp => by
      have := ih p hp
      have := ht_mem hp
      omega
    have ho : (dO o).depth = 0 := by cases o <;> rfl
    have h0 : ks = [] → PyData.depthAll (dTK ks) = 0 := fun e => by rw [e]; rfl
    simp only [dT, PyData.depth, PyData.depthAll, ho, ht]
    by_cases e : ks = []
    · rw [h0 e]; omega
    · have : 1 ≤ htK ks := by
        obtain ⟨p, hp, e⟩ := htK_at e
        omega
      omega
theorem shaped_dT {t : T} (hw : Wf t) (h : ht t ≤ 8) : SeqAt.shaped (dT t) = true := by
  unfold SeqAt.shaped
  rw [lay_dT t hw, Bool.true_and]
  have := depth_dT t
  exact decide_eq_true (by omega)
theorem lay_dTO {o : Option T} (h : WfO o) : (dTO o).canLay0 = true := by
  cases o with
  | none => rw [dTO, PyData.canLay0]
  | some t => exact lay_dT t h.1
theorem shaped_dTO {o : Option T} (h : WfO o) : SeqAt.shaped (dTO o) = true := by
  cases o with
  | none => rfl
  | some t => exact shaped_dT h.1 h.2
theorem shaped_list {ks : List (Nat × T)} (h : ∀ p ∈ ks, Lt p.1 ∧ Wf p.2 ∧ ht p.2 ≤ 8) : SeqAt.shaped (.list (dTK ks)) = true := by
  unfold SeqAt.shaped
  have h1 : (PyData.list (dTK ks)).canLay0 = true := by
    rw [PyData.canLay0]
    exact lay_dTK fun p hp => ⟨(h p hp).1, lay_dT _ (h p hp).2.1⟩
  have h2 : (PyData.list (dTK ks)).depth ≤ 64 := by
    rw [PyData.depth]
    have := depth_dTK (ks := ks) (n := 27) fun p hp => by
      have h3 := depth_dT p.2
      have h4 := (h p hp).2.2
      omega
    omega
  rw [h1, Bool.true_and]
  exact decide_eq_true h2
end Seal
namespace Seal
open PySem PySem.Spec PyProof.Rows L2 LamX NdefX
/-! ### the walk of a key and the kid left alone -/
theorem sc_L_walk : FnScope ["_law_told_here", "_law_word_here", "_law_found", "_law_way"] ["_law_told_here", "_law_word_here"] (defScope s_L_walk) := ⟨rfl, rfl, rfl, by decide +kernel, rfl, by decide +kernel, by decide +kernel⟩
theorem bind_L_walk : BindQ "_law_walk" "_law_walk" s_L_walk ["_law_told_here", "_law_word_here"] := fun _ _ _ _ _ _ us hl => match us, hl with | [_, _], _ => rfl
theorem sc_L_lone : FnScope ["_law_walk_here", "_law_way", "_law_last", "_law_kids", "_law_gone", "_law_pair"] ["_law_walk_here"] (defScope s_L_lone) := ⟨rfl, rfl, rfl, by decide +kernel, rfl, by decide +kernel, by decide +kernel⟩
theorem bind_L_lone : BindQ "_law_lone" "_law_lone" s_L_lone ["_law_walk_here"] := fun _ _ _ _ _ _ us hl => match us, hl with | [_], _ => rfl
def WkAt (H : Hp) (q : W × T) (x : V) : Prop := ∃ p v, x = .ref p ∧ H p = some (.tup [.str (S q.1), v]) ∧ RepDg true H q.2 v
def RepWk (H : Hp) : List (W × T) → List V → Prop := Paired (WkAt H)
theorem RepWk.keep {H H' : Hp} (g : Keep H H') {ws : List (W × T)} {xs : List V} (h : RepWk H ws xs) : RepWk H' ws xs := by
  refine L2.Paired.mapP h fun q x hx => ?_
  obtain ⟨p, v, e, h1, h2⟩ := hx
  exact ⟨p, v, e, g.tup h1, RepDg.keep g _ h2⟩
theorem RepWk.keepAt {H H' : Hp} (g : Keep H H') {q : W × T} {x : V} (h : WkAt H q x) : WkAt H' q x := by
  obtain ⟨p, v, e, h1, h2⟩ := h
  exact ⟨p, v, e, g.tup h1, RepDg.keep g _ h2⟩
theorem RepDgO.non {b : Bool} {H : Hp} {o : Option T} {v : V} (h : RepDgO b H o v) : decide (v = .non) = o.isNone := by
  cases o with
  | none => rw [show v = .non from h]; rfl
  | some t =>
    cases t with
    | stub n => obtain ⟨a, rfl, _⟩ := RepDg.stub.mp (show RepDg b H _ v from h); rfl
    | node s x ks => obtain ⟨a, _, _, _, rfl, _⟩ := RepDg.node.mp (show RepDg b H _ v from h); rfl
def spWalk (K : PySem.W.Frag) : Sp := fun vs H Q _ => ∃ (o : Option T) (v : V) (w : W), vs = [v, .str (S w)] ∧ RepDgO true H o v ∧ WfO o ∧ w.length ≤ 8 ∧ ∀ (l : Addr) xs H', Gz K H H' → H' l = some (.lst xs) → RepWk H' (wlkO o [] w) xs → Q (.ref l) H'
section
variable {P : Program} {w : World} {K : PySem.W.Frag} {mg : Str → Option Value} {base : Heap}
theorem D_L_walk (n : Fn1 K mg "_law_walk" s_L_walk) (G : TX K mg) : Def P w K mg base CX0 1 "_law_walk" ["_law_told_here", "_law_word_here"] (spWalk K) := by
  refine n.mk0 sc_L_walk bind_L_walk (fun vs H Q E h => ?_) (fun cdv A outer s H vs Q E hr h => ?_)
  · obtain ⟨_, _, _, rfl, _⟩ := h
    rfl
  · obtain ⟨o, v, wd, rfl, hv, hw, hw8, q⟩ := h
    have hu := hu_of hr
    refine ⟨_, (pss_cons (ps_par (i := 2) (j := 3) (by rfl) sc_L_walk.nd rfl rfl (by decide) rfl rfl (pa_cons (pe_lst pa_nil) (pa_cons pe_str pa_nil)) (by rfl))
      (pss_cons (ps_while PassesOwn.never (pt_cmpR op_notN (pv 0) pe_non (nomark _)) (pss_cons (ps_expr (pe_bm PySem.F.plainAttrs_list PySem.F.slot_list_append PySem.F.type_list_append mt_append (pv 2) (pa_cons (pe_tup (pa_cons (pv 3) (pa_cons (pv 0) pa_nil))) pa_nil)))
      (pss_cons (ps_if (PW.pt (pw_or (pt_cmpR op_eq (pe_ix ix_tup (pv 0) pe_int (fun _ _ => rfl)) pe_str (nomark _)) (pw_or (pt_not (pt_val (pe_sw (pv 1) (pe_op op_add_str (pv 3) (pe_ix ix_tup (pv 0) pe_int (fun _ _ => rfl)))))) (pw_or1 (pt_cmpR op_eq (pv 1) (pe_op op_add_str (pv 3) (pe_ix ix_tup (pv 0) pe_int (fun _ _ => rfl))) (nomark _)))))) (pss_one (ps_ret (pv 2))) pss_nil)
      (pss_cons (ps_set (i := 3) sc_L_walk.nd rfl (Or.inl rfl) (pe_slice sl_str (pv 1) po_none (po_some (pe_op op_add (pe_callB call_len_str (by rfl) G.b_len PySem.boot_len (pa_cons (pe_op op_add_str (pv 3) (pe_ix ix_tup (pv 0) pe_int (fun _ _ => rfl))) pa_nil)) pe_int))))
      (pss_one (ps_set (i := 0) sc_L_walk.nd rfl (Or.inl rfl) (pe_dget1 hu (pe_callTy (cr_dictT rfl) (by rfl) G.b_dict (by decide +kernel) (pa_cons (pe_ix ix_tup (pv 0) pe_int (fun _ _ => rfl)) pa_nil)) (pe_ix ix_str (pv 3) (pe_un un_neg pe_int) (fun _ _ => rfl)) ⟨rfl, rfl, rfl, rfl⟩)))))))
      (pss_one (ps_ret (pv 2))))), ?_⟩
    refine ⟨by show 0 ≤ sizeLine; decide, fun F hF => ?_⟩
    have gF : Gz K H (upd H F (.lst [])) := .new hF
    refine ⟨_, _, rfl, ?_⟩
    refine ⟨fun k σ H' => ∃ (o' : Option T) (v' : V) (way r : W) (acc : List (W × T)) (xs : List V), σ = [some v', some (.str (S wd)), some (.ref F), some (.str (S way))] ∧ k = (match o' with | none => 0 | some t => ht t + 1) ∧ Gz K H H' ∧ RepDgO true H' o' v' ∧ WfO o' ∧ H' F = some (.lst xs) ∧ RepWk H' acc xs ∧ wd = way ++ r ∧ acc ++ wlkO o' way r = wlkO o [] wd ∧ acc.length ≤ 100 ∧ acc.length + k ≤ 20,
      ⟨_, o, v, [], wd, [], [], rfl, rfl, gF, hv.keep gF.keep, hw, upd_same, .nil, rfl, rfl, by simp, by
        cases o with
        | none => simp
        | some t => have := hw.2; simp; omega⟩, ?_⟩
    rintro k σ H1 ⟨o', v', way, r, acc, xs, rfl, rfl, g1, hv1, hw1, hF1, hacc, hwd, htot, hl, hl2⟩
    refine ⟨_, rfl, rfl, _, rfl, ?_⟩
    rw [hv1.non]
    cases o' with
    | none =>
      rw [wlkO, List.append_nil] at htot
      exact ⟨_, rfl, q F xs H1 g1 hF1 (by rw [← htot]; exact hacc)⟩
    | some t =>
      simp only at hl2
      refine ⟨fun σ' H' => ∃ m' < ht t + 1, (fun k σ H' => ∃ (o' : Option T) (v' : V) (way r : W) (acc : List (W × T)) (xs : List V), σ = [some v', some (.str (S wd)), some (.ref F), some (.str (S way))] ∧ k = (match o' with | none => 0 | some t => ht t + 1) ∧ Gz K H H' ∧ RepDgO true H' o' v' ∧ WfO o' ∧ H' F = some (.lst xs) ∧ RepWk H' acc xs ∧ wd = way ++ r ∧ acc ++ wlkO o' way r = wlkO o [] wd ∧ acc.length ≤ 100 ∧ acc.length + k ≤ 20) m' σ' H', fun σ' H' ⟨m', h1, h2⟩ => ⟨m', h1, h2⟩, ?_⟩
      refine ⟨_, rfl, .inl ⟨rfl, _, SqL.of hF1⟩, _, rfl, _, rfl, by show 2 ≤ sizeLine; decide, fun t' ht' => ?_⟩
      have g2 : Gz K H1 (upd H1 t' (.tup [.str (S way), v'])) := .new ht'
      have hF2 := g2.lst hF1 id
      refine ⟨F, xs, _, rfl, rfl, hF2, szl (by rw [← hacc.length]; omega), ?_⟩
      have gs : Go (tbs K) (fun b => b = F) (upd H1 t' (.tup [.str (S way), v'])) (upd (upd H1 t' (.tup [.str (S way), v'])) F (.lst (xs ++ [.ref t']))) := .set hF2 rfl rfl rfl
      have g3 := (g1.trans g2).put hF hF2 rfl rfl (o' := .lst (xs ++ [.ref t']))
      have gk : Keep H1 (upd (upd H1 t' (.tup [.str (S way), v'])) F (.lst (xs ++ [.ref t']))) := fun b o e f => gs.keep b o (g2.keep b o e f) f
      have hv3 : RepDg true _ t v' := RepDg.keep gk t hv1
      have hacc3 : RepWk (upd (upd H1 t' (.tup [.str (S way), v'])) F (.lst (xs ++ [.ref t']))) (acc ++ [(way, t)]) (xs ++ [.ref t']) := paired_snoc (hacc.keep gk) ⟨t', v', rfl, gs.fix upd_same rfl, hv3⟩
      have hF3 : (upd (upd H1 t' (.tup [.str (S way), v'])) F (.lst (xs ++ [.ref t']))) F = some (.lst (xs ++ [.ref t'])) := upd_same
      generalize upd (upd H1 t' (.tup [.str (S way), v'])) F (.lst (xs ++ [.ref t'])) = H3 at g3 hv3 hacc3 hF3 ⊢
      cases t with
      | stub n' =>
        obtain ⟨a, rfl, ha⟩ := RepDg.stub.mp hv3
        refine ⟨_, rfl, a, _, 0, _, rfl, rfl, SqT.of ha, rfl, rfl, _, rfl, ?_⟩
        exact ⟨_, rfl, q F _ H3 g3 hF3 (by rw [← htot]; exact hacc3)⟩
      | node st x ks =>
        obtain ⟨a, l, ys, u, rfl, ha, hlu, hut, hx⟩ := RepDg.node.mp hv3
        have hst := hw1.stem
        refine ⟨_, rfl, a, _, 0, _, rfl, rfl, SqT.of ha, rfl, rfl, _, rfl, ?_⟩
        have hwl : way.length ≤ 8 := by rw [hwd, List.length_append] at hw8; omega
        refine ⟨_, rfl, ⟨_, rfl⟩, _, rfl, _, rfl, a, _, 1, _, rfl, rfl, SqT.of ha, rfl, _, _, rfl, rfl, by rw [S_len, S_len]; exact sz (by omega), _, _, rfl, rfl, _, rfl, ?_⟩
        rw [S_app, sw_S]
        have hpre : (way ++ st <+: wd) = (st <+: r) := by rw [hwd]; exact propext (List.prefix_append_right_inj way)
        rw [wlkO, wlk_node] at htot
        by_cases hs : st <+: r
        · rw [decide_eq_true (by rw [hpre]; exact hs)]
          refine ⟨_, rfl, _, rfl, _, rfl, a, _, 1, _, rfl, rfl, SqT.of ha, rfl, _, _, rfl, rfl, by rw [S_len, S_len]; exact sz (by omega), rfl, _, rfl, ?_⟩
          rw [S_app, dec_S]
          obtain ⟨r', rfl⟩ := hs
          rw [rest_app] at htot
          cases r' with
          | nil =>
            rw [decide_eq_true (by rw [hwd]; simp)]
            exact ⟨_, rfl, q F _ H3 g3 hF3 (by rw [← htot]; exact hacc3)⟩
          | cons l' r' =>
            rw [decide_eq_false (by rw [hwd]; simp)]
            refine ⟨_, rfl, _, rfl, _, rfl, a, _, 1, _, rfl, rfl, SqT.of ha, rfl, _, _, rfl, rfl, by rw [S_len, S_len]; exact sz (by omega), _, rfl, by rw [S_app, S_len, List.length_append]; exact sz (by omega), _, _, rfl, rfl, _, rfl, _, rfl, by rw [S_len]; exact sz (by omega), ?_⟩
            have hcut : cutS (S wd) none (some (((S way ++ S st).length : Nat) + 1)) = S (way ++ st ++ [l']) := by
              rw [S_app, S_len, show (((way ++ st).length : Nat) : Int) + 1 = ((way ++ st ++ [l']).length : Nat) by simp; omega, cut_to]
              congr 1
              rw [hwd, show way ++ (st ++ l' :: r') = (way ++ st ++ [l']) ++ r' by simp, List.take_left]
            rw [hcut]
            obtain ⟨ob, hod, rfl⟩ := hut
            obtain ⟨ps, vs, rfl, hvl, hpv, hvr⟩ := hx.to_dict
            have w5 := Wf.node.mp hw1.1
            obtain ⟨hmg, hval⟩ := kids_dict w5.2.2.1 hvl hvr
            have h9 : (way ++ st ++ [l']).length ≤ 9 := by
              rw [hwd] at hw8
              simp only [List.length_append, List.length_cons, List.length_nil] at hw8 ⊢
              omega
            have hlast : atI (S (way ++ st ++ [l'])).cps.toList (-1) = some l' := by
              rw [S_list]
              unfold atI
              have e1 : ixN (way ++ st ++ [l']).length (-1) = some (way ++ st).length := by
                unfold ixN
                rw [if_neg (by decide), if_pos (by simp; omega)]
                congr 1
                simp
                omega
              rw [e1]
              simp
            refine ⟨_, rfl, a, _, 3, _, rfl, rfl, SqT.of ha, rfl, l, ob, ps, _, rfl, hod, hlu, L2.Paired.mapP hpv fun _ _ h => SqT.of h, fun c hc => ?_⟩
            have gc : Gz K H3 (upd H3 c (.dK (mergeK [] (ks.zip vs |>.map fun q => ((Sum.inr (S [q.1.1]), q.2) : Key × V))))) := .new hc
            rw [hmg] at gc ⊢
            refine ⟨c, rfl, .inl ⟨_, .inl upd_same⟩, _, rfl, _, rfl, _, _, l', rfl, rfl, by rw [S_len]; exact sz (by omega), hlast, _, DGet.k (k := Sum.inr (S [l'])) upd_same, ?_⟩
            have hv4 := hval l'
            have hk26 := ht_mem (ks := ks) (p := (l', .stub 0))
            cases ek : kat ks l' with
            | none =>
              rw [ek] at hv4
              have hv4 : valV _ _ = none := hv4
              rw [hv4]
              refine ⟨_, by show 0 < _; omega, none, .non, way ++ st ++ [l'], r', _, _, rfl, rfl, g3.trans gc, rfl, trivial, gc.lst hF3 id, hacc3.keep gc.keep, by rw [hwd]; simp, ?_, by simp; omega, by simp; omega⟩
              simp only [ek] at htot
              rw [← htot]
              simp [wlkO]
            | some u =>
              rw [ek] at hv4
              obtain ⟨v4, hv5, hv6⟩ : ∃ v, valV _ _ = some v ∧ RepDg true H3 u v := hv4
              rw [hv5]
              have hht : 1 + ht u ≤ htK ks := ht_mem (kat_mem ek)
              simp only [ht] at hl2
              refine ⟨_, by show ht u + 1 < _; simp only [ht]; omega, some u, v4, way ++ st ++ [l'], r', _, _, rfl, rfl, g3.trans gc, RepDg.keep gc.keep u hv6, hw1.kids _ (kat_mem ek), gc.lst hF3 id, hacc3.keep gc.keep, by rw [hwd]; simp, ?_, by simp; omega, by simp; omega⟩
              simp only [ek] at htot
              rw [← htot]
              simp [wlkO]
        · rw [decide_eq_false (by rw [hpre]; exact hs)]
          refine ⟨_, rfl, q F _ H3 g3 hF3 ?_⟩
          have : rest? st r = none := if_neg hs
          rw [this] at htot
          rw [← htot]; exact hacc3
theorem paired_last {α β : Type} {F : α → β → Prop} {a : α} : ∀ {l : List α} {xs : List β}, Paired F (l ++ [a]) xs → ∃ ys y, xs = ys ++ [y] ∧ Paired F l ys ∧ F a y
  | [], _, .cons h .nil => ⟨[], _, rfl, .nil, h⟩
  | b :: l, _, .cons h t => by
    obtain ⟨ys, y, e, h1, h2⟩ := paired_last (l := l) t
    exact ⟨_ :: ys, y, by rw [e]; rfl, .cons h h1, h2⟩
theorem atI_last {α : Type} {xs : List α} {x : α} : atI (xs ++ [x]) (-1) = some x := by
  unfold atI
  have e1 : ixN (xs ++ [x]).length (-1) = some xs.length := by
    unfold ixN
    rw [if_neg (by decide), if_pos (by simp; omega)]
    congr 1
    simp
    omega
  rw [e1]
  simp
theorem atI_last2 {α : Type} {xs : List α} {x y : α} : atI (xs ++ [x] ++ [y]) (-2) = some x := by
  unfold atI
  have e1 : ixN (xs ++ [x] ++ [y]).length (-2) = some xs.length := by
    unfold ixN
    rw [if_neg (by decide), if_pos (by simp; omega)]
    congr 1
    simp
    omega
  rw [e1]
  simp
def spLone (K : PySem.W.Frag) : Sp := fun vs H Q _ => ∃ (t : T) (w x : W) (l : Addr) (xs : List V), vs = [.ref l] ∧ H l = some (.lst xs) ∧ RepWk H (wlk t [] w) xs ∧ Wf t ∧ ht t ≤ 8 ∧ Full t ∧ look t w = some x ∧
  ∀ v H', Gz K H H' → (match lone t [] w with | none => v = .non | some z => ∃ a v', v = .ref a ∧ H' a = some (.tup [.str (S z), v'])) → Q v H'
theorem D_L_lone (n : Fn1 K mg "_law_lone" s_L_lone) (G : TX K mg) : Def P w K mg base CX0 1 "_law_lone" ["_law_walk_here"] (spLone K) := by
  refine n.mk0 sc_L_lone bind_L_lone (fun vs H Q E h => ?_) (fun cdv A outer s H vs Q E hr h => ?_)
  · obtain ⟨_, _, _, _, _, rfl, _⟩ := h
    rfl
  · obtain ⟨t, wd, xv, l, xs, rfl, hl, hx, hw, h8, hf, hlook, q⟩ := h
    have hu := hu_of hr
    refine ⟨_, (pss_cons (ps_asg (pe_ix ix_list (pv 0) (pe_un un_neg pe_int) (fun _ _ => rfl)) (pg_tup rfl (pgs_cons (pg_name (i := 1) sc_L_lone.nd rfl (Or.inl rfl)) (pgs_cons (pg_name (i := 2) sc_L_lone.nd rfl (Or.inl rfl)) pgs_nil))))
      (pss_cons (ps_set (i := 3) sc_L_lone.nd rfl (Or.inl rfl) (pe_callTy call_list_of (by rfl) G.b_list (by decide +kernel) (pa_cons (pe_ix ix_tup (pv 2) pe_int (fun _ _ => rfl)) pa_nil)))
      (pss_cons (ps_if (PW.pt (pw_and (pt_cmpR (op_eqD hr.units) (pv 3) (pe_lst pa_nil) (nomark _)) (pw_and1 (pt_cmpR op_gt (pe_callB call_len (by rfl) G.b_len PySem.boot_len (pa_cons (pv 0) pa_nil)) pe_int (nomark _))))) (pss_cons (ps_asg (pe_tup (pa_cons (pe_ix ix_str (pv 1) (pe_un un_neg pe_int) (fun _ _ => rfl)) (pa_cons (pe_ix ix_list (pv 0) (pe_un un_neg pe_int) (fun _ _ => rfl)) pa_nil))) (pg_tup rfl (pgs_cons (pg_name (i := 4) sc_L_lone.nd rfl (Or.inr rfl)) (pgs_cons (pg_tup rfl (pgs_cons (pg_name (i := 1) sc_L_lone.nd rfl (Or.inl rfl)) (pgs_cons (pg_name (i := 2) sc_L_lone.nd rfl (Or.inl rfl)) pgs_nil))) pgs_nil))))
      (pss_one (ps_if (pt_cmpR op_isN (pe_ix ix_tup (pv 2) pe_int (fun _ _ => rfl)) pe_non (nomark _)) (pss_one (ps_setLc (i := 3) (own := [("_law_pair", 5)]) (g := gName 5) (tt := (tTest (tOp rNe (tOp (rIxT K) (tVar 5) (tC (.int 0))) (tVar 4)))) (by rfl) sc_L_lone.nd rfl rfl (sw_true rfl rfl rfl (by decide +kernel)) (pi_tup (pe_ix ix_tup (pv 2) pe_int (fun _ _ => rfl))) (blkOk_by (N := ["_law_walk_here", "_law_way", "_law_last", "_law_kids", "_law_gone", "_law_pair"]) (sc := defScope s_L_lone) (by decide +kernel)) (fun _ _ _ _ _ => pg_name (i := 5) sc_L_lone.nd rfl (Or.inl rfl)) (fun _ _ _ _ _ => pts_one (pt_cmpR op_ne (pe_ix ix_tup (pv 5) pe_int (fun _ _ => rfl)) (pv 4) (nomark _))) (fun _ _ _ _ _ => (pv 5)))) pss_nil))) pss_nil)
      (pss_one (ps_ret (pe_ifExp (pt_cmpR op_eq (pe_callB call_len (by rfl) G.b_len PySem.boot_len (pa_cons (pv 3) pa_nil)) pe_int (nomark _)) (pe_tup (pa_cons (pe_op op_add_str (pe_op op_add_str (pv 1) (pe_ix ix_tup (pv 2) pe_int (fun _ _ => rfl))) (pe_ix ix_tup (pe_ix ix_list (pv 3) pe_int (fun _ _ => rfl)) pe_int (fun _ _ => rfl))) (pa_cons (pe_ix ix_tup (pe_ix ix_list (pv 3) pe_int (fun _ _ => rfl)) pe_int (fun _ _ => rfl)) pa_nil))) pe_non)))))), ?_⟩
    have hlw := lone_walk t [] wd xv hw hf hlook
    obtain ⟨pre, way, st, vv, ks, ews, hway8, hst8, hwn, hpre⟩ := wlk_last t wd hf hw h8
    rw [ews] at hlw hx
    obtain ⟨ys, y, rfl, hys, hy⟩ := paired_last hx
    obtain ⟨p, v, rfl, hp, hv⟩ := hy
    obtain ⟨a, lk, zs, u, rfl, ha, hlk, hut, hzs⟩ := RepDg.node.mp hv
    have w5 := Wf.node.mp hwn
    have k26 := wf_few26 hwn
    have hlenw : (ys ++ [V.ref p]).length ≤ 20 := by
      have := wlk_len t [] wd
      rw [ews] at this
      rw [← hx.length]
      omega
    refine ⟨_, rfl, _, rfl, l, _, -1, _, rfl, rfl, SqL.of hl, atI_last, p, _, rfl, SqT.of hp, rfl, _, _, rfl, _, _, rfl, rfl, ?_⟩
    refine ⟨_, rfl, a, _, 3, _, rfl, rfl, SqT.of ha, rfl, lk, _, rfl, .inr (hut.sq hlk), fun kl hkl => ?_⟩
    have g1 : Gz K H (upd H kl (.lst zs)) := .new hkl
    have hzs1 : RepQg true (upd H kl (.lst zs)) ks zs := RepQg.keep g1.keep hzs
    have hkl1 : (upd H kl (.lst zs)) kl = some (.lst zs) := upd_same
    have hx1 := RepWk.keep g1.keep hx
    have hys1 := RepWk.keep g1.keep hys
    have ha1 := g1.tup ha
    have hp1 := g1.tup hp
    have hl1 := g1.lst hl id
    generalize upd H kl (.lst zs) = H1 at g1 hzs1 hkl1 hx1 hys1 ha1 hp1 hl1 ⊢
    refine ⟨_, rfl, by show 0 ≤ sizeLine; decide, fun e he => ?_⟩
    have ge : Gz K H1 (upd H1 e (.lst [])) := .new he
    refine ⟨.list (dTK ks), .list [], .lst (.of (ge.lst hkl1 id)) (dp_prs (RepQg.keep ge.keep hzs1) fun p hp v hv => dp_told p.2 hv), .lst (.of upd_same) .nil, ?_, rfl, _, rfl, ?_⟩
    · exact shaped_list fun p hp => ⟨(w5.2.2.2.2 p hp).1, (w5.2.2.2.2 p hp).2, by have := ht_mem hp; simp only [ht] at hst8; omega⟩
    rw [eqv_nil]
    have hst : st.length ≤ 8 := by simp only [ht] at hst8; omega
    have fin : ∀ (H' : Hp) (wy st : W) (a kl lk : Addr) (K' : List (Nat × T)) (ys : List V) (vv : V) (gn pr : Option V), Gz K H H' → H' a = some (.tup [.str "node", .str (S st), vv, .ref lk]) → H' kl = some (.lst ys) → RepQg true H' K' ys → wy.length ≤ 8 → st.length ≤ 8 → lone t [] wd = only (wy ++ st) K' →
        tRet (tIf (tTest (tOp rEq (tCB (fun xs H_1 Q => ∃ x n, xs = [x] ∧ LenV K x H_1 n ∧ Q (V.int ↑n) H_1) (tCons (tVar 3) tNil)) (tC (V.int 1))))
          (tTup (tCons (tOp (fun x y H Q => ∃ i j, x = V.str i ∧ y = V.str j ∧ i.length + j.length ≤ sizeLine ∧ Q (V.str (i ++ j)) H) (tOp (fun x y H Q => ∃ i j, x = V.str i ∧ y = V.str j ∧ i.length + j.length ≤ sizeLine ∧ Q (V.str (i ++ j)) H) (tVar 1) (tOp (rIxT K) (tVar 2) (tC (V.int 1))))
            (tOp (rIxT K) (tOp (rIxL K) (tVar 3) (tC (V.int 0))) (tC (V.int 0)))) (tCons (tOp (rIxT K) (tOp (rIxL K) (tVar 3) (tC (V.int 0))) (tC (V.int 1))) tNil))) (tC V.non))
          { nx := fun x H' => Q V.non H', rt := Q } [some (.ref l), some (.str (S wy)), some (.ref a), some (.ref kl), gn, pr] H' := by
      intro H' wy st a kl lk K' ys vv gn pr g h1 h2 h3 h4 h5 h6
      refine ⟨_, rfl, _, ys.length, rfl, .inl ⟨_, .of h2, rfl⟩, rfl, _, rfl, ?_⟩
      have hl := h3.length
      by_cases e1 : ys.length = 1
      · rw [decide_eq_true (by rw [e1]; rfl)]
        obtain ⟨⟨c, t'⟩, rfl⟩ : ∃ p, K' = [p] := List.length_eq_one_iff.mp (by omega)
        obtain ⟨q', v', rfl, hq', hv'⟩ := h3.one rfl
        refine ⟨_, rfl, _, rfl, a, _, 1, _, rfl, rfl, SqT.of h1, rfl, _, _, rfl, rfl, by rw [S_len, S_len]; exact sz (by omega), ?_⟩
        refine ⟨_, rfl, kl, _, 0, _, rfl, rfl, SqL.of h2, rfl, q', _, 0, _, rfl, rfl, SqT.of hq', rfl, _, _, rfl, rfl, by rw [S_app, S_len, S_len]; exact sz (by rw [List.length_append]; simp; omega), ?_⟩
        refine ⟨_, rfl, kl, _, 0, _, rfl, rfl, SqL.of h2, rfl, q', _, 1, _, rfl, rfl, SqT.of hq', rfl, by show 2 ≤ sizeLine; decide, fun r hr => ?_⟩
        rw [S_app, S_app]
        refine q _ _ (g.trans (.new hr)) ?_
        rw [h6]
        exact ⟨r, v', rfl, upd_same⟩
      · rw [decide_eq_false (by intro h; injection h with h; omega)]
        refine q _ _ g ?_
        have : lone t [] wd = none := by
          rw [h6]
          cases K' with
          | nil => rfl
          | cons a b => cases b with
            | nil => simp at hl; omega
            | cons c d => rfl
        rw [this]
    by_cases hk : ks = []
    · subst hk
      rw [decide_eq_true (by rfl)]
      refine ⟨_, rfl, _, (ys ++ [V.ref p]).length, rfl, .inl ⟨_, .of (ge.lst hl1 id), rfl⟩, _, _, rfl, rfl, _, rfl, ?_⟩
      by_cases hpe : pre = []
      · subst hpe
        cases hys
        rw [decide_eq_false (by simp)]
        refine fin _ way st a kl lk [] zs _ _ _ (g1.trans ge) (ge.tup ha1) (ge.lst hkl1 id) (RepQg.keep ge.keep hzs1) hway8 hst ?_
        rw [← hlw, loneW_one (.inr rfl)]
      · obtain ⟨hwne, pre2, way2, st2, vv2, ks2, rfl, hway28, hst28, hwn2⟩ := hpre hpe
        obtain ⟨ys2, y2, rfl, hys2, hy2⟩ := paired_last hys1
        obtain ⟨p2, v2, rfl, hp2, hv2⟩ := RepWk.keepAt ge.keep hy2
        obtain ⟨a2, lk2, zs2, u2, rfl, ha2, hlk2, hut2, hzs2⟩ := RepDg.node.mp hv2
        have hst2 : st2.length ≤ 8 := by simp only [ht] at hst28; omega
        have k262 := wf_few26 hwn2
        rw [decide_eq_true (by simp; omega)]
        obtain ⟨wy0, cl, rfl⟩ : ∃ wy0 cl, way = wy0 ++ [cl] := ⟨_, _, (List.dropLast_concat_getLast hwne).symm⟩
        refine ⟨_, rfl, _, rfl, _, _, cl, rfl, rfl, by rw [S_len]; exact sz (by show (wy0 ++ [cl]).length ≤ 100000; omega), by rw [S_list]; exact atI_last, _, rfl, _, rfl, l, _, -2, _, rfl, rfl, SqL.of (ge.lst hl1 id), atI_last2, by show 2 ≤ sizeLine; decide, fun tt htt => ?_⟩
        rw [S_one]
        have gt : Gz K (upd H1 e (.lst [])) (upd (upd H1 e (.lst [])) tt (.tup [.str (S [cl]), .ref p2])) := .new htt
        refine ⟨tt, _, rfl, SqT.of upd_same, rfl, _, _, rfl, _, _, rfl, p2, _, rfl, SqT.of (gt.tup hp2), rfl, _, _, rfl, _, _, rfl, rfl, rfl, ?_⟩
        have g2 := g1.trans (ge.trans gt)
        have ha3 := gt.tup ha2
        have hlk3 := gt.fix hlk2 hut2.fix
        have hzs3 : RepQg true _ ks2 zs2 := RepQg.keep gt.keep hzs2
        have hkl3 := (ge.trans gt).lst hkl1 id
        have hzs0 := RepQg.keep (ge.trans gt).keep hzs1
        generalize upd (upd H1 e (.lst [])) tt (.tup [.str (S [cl]), .ref p2]) = H3 at g2 ha3 hlk3 hzs3 hkl3 hzs0 ⊢
        rw [loneW_two, show ((wy0 ++ [cl]).drop ((wy0 ++ [cl]).length - 1)) = [cl] by simp] at hlw
        refine ⟨_, rfl, a2, _, 2, _, rfl, rfl, SqT.of ha3, rfl, rfl, _, rfl, ?_⟩
        rw [oS_non]
        cases vv2 with
        | some x2 =>
          rw [if_neg (by simp)] at hlw
          exact fin _ way2 st2 a2 kl lk2 [] zs _ _ _ g2 ha3 hkl3 hzs0 hway28 hst2 hlw.symm
        | none =>
          rw [if_pos rfl] at hlw
          refine ⟨_, rfl, a2, _, 3, _, rfl, rfl, SqT.of ha3, rfl, lk2, rfl, ⟨_, hut2.sq hlk3⟩, fun D hD => ?_⟩
          refine lc_go (Ts := tbs K) (M := M0) (walk_tup (xs := zs2)) hD (by rw [hzs3.length]; omega) m0_ne (fun i acc H' => Gz K H3 H' ∧ RepQg true H' ((ks2.take i).filter fun p => decide ([p.1] ≠ [cl])) acc) (fun i acc H' H'' ⟨a, b⟩ g => ⟨a.loc hD g, RepQg.keep g.keep b⟩) ⟨.refl, .nil⟩ (fun i acc H' _ ⟨g, _⟩ => hut2.sq (g.fix hlk3 hut2.fix)) ?_ ?_
          · rintro i acc x H' H'' R1 R2 hi ⟨g, hb⟩ ⟨rfl, hxi⟩ k1 k2
            obtain ⟨l', b, q', v', hki, hm, rfl, hq', hbv⟩ := hzs3.at_ hxi
            refine ⟨rfl, _, rfl, q', _, 0, _, rfl, rfl, SqT.of (g.tup hq'), rfl, _, rfl, rfl, _, rfl, ?_⟩
            rw [dec_S]
            have hft : ((ks2.take (i + 1)).filter fun p => decide ([p.1] ≠ [cl])) = ((ks2.take i).filter fun p => decide ([p.1] ≠ [cl])) ++ if l' = cl then [] else [(l', b)] := by
              rw [take_snoc hki, List.filter_append]
              congr 1
              by_cases e : l' = cl <;> simp [e]
            by_cases e : l' = cl
            · rw [decide_eq_true (by rw [e])]
              refine k2 _ .refl ⟨g, ?_⟩
              rw [hft, if_pos e, List.append_nil]
              exact hb
            · rw [decide_eq_false (by simpa using e)]
              refine ⟨_, rfl, k1 _ _ .refl ⟨g, ?_⟩⟩
              rw [hft, if_neg e]
              exact Prs.snoc hb (g.tup hq') (RepDg.keep g.keep b hbv)
          · rintro acc H' ⟨g, hb⟩ hD' _
            rw [hzs3.length, List.take_length] at hb
            exact fin _ way2 st2 a2 D lk2 _ acc _ _ _ (g2.trans g) (g.tup ha3) hD' hb hway28 hst2 hlw.symm
    · rw [decide_eq_false (fun h => hk (by cases ks with | nil => rfl | cons a b => cases h))]
      refine fin _ way st a kl lk ks zs _ _ _ (g1.trans ge) (ge.tup ha1) (ge.lst hkl1 id) (RepQg.keep ge.keep hzs1) hway8 hst ?_
      rw [← hlw, loneW_one (.inl hk)]
end
end Seal
namespace Seal
open PySem PySem.Spec PyProof.Rows L2 LamX NdefX
/-! ### what is shown -/
theorem sc_L_shown : FnScope ["_law_told_here", "_law_way", "_law_ways_here", "_law_maker", "_law_kids", "_law_letter", "_law_kid"] ["_law_told_here", "_law_way", "_law_ways_here", "_law_maker"] (defScope s_L_shown) := ⟨rfl, rfl, rfl, by decide +kernel, rfl, by decide +kernel, by decide +kernel⟩
theorem bind_L_shown : BindQ "_law_shown" "_law_shown" s_L_shown ["_law_told_here", "_law_way", "_law_ways_here", "_law_maker"] := fun _ _ _ _ _ _ us hl => match us, hl with | [_, _, _, _], _ => rfl
theorem inV_S {z : W} {Vs : List W} : inV (.str (S z)) (Vs.map fun z => V.str (S z)) = decide (z ∈ Vs) := by
  unfold inV
  rw [List.any_map]
  by_cases h : z ∈ Vs
  · rw [decide_eq_true h, List.any_eq_true]
    exact ⟨z, h, by show (S z == S z) = true; simp⟩
  · rw [decide_eq_false h, List.any_eq_false]
    intro y hy he
    have he : (S y == S z) = true := he
    have := S_inj.mp (beq_iff_eq.mp he)
    exact h (this ▸ hy)
theorem flat_S (Vs : List W) : (Vs.map fun z => V.str (S z)).all flatV = true := by
  rw [List.all_map, List.all_eq_true]
  intro z _
  rfl
theorem AllS.length {R : T → T → W → Prop} {b : W} {ks ks' : List (Nat × T)} (h : AllS R b ks ks') : ks.length = ks'.length := by
  induction h with
  | nil => rfl
  | cons _ _ ih => simp [ih]
theorem AllS.snoc {R : T → T → W → Prop} {b : W} {ks ks' : List (Nat × T)} (h : AllS R b ks ks') {l : Nat} {x y : T} (hx : R x y (b ++ [l])) : AllS R b (ks ++ [(l, x)]) (ks' ++ [(l, y)]) := by
  induction h with
  | nil => exact .cons hx .nil
  | cons h _ ih => exact .cons h ih
theorem AllS.mono {N N' : T → Int → Prop} {V : List W} {b : W} {ks ks' : List (Nat × T)} (h : AllS (Shn N V) b ks ks') (f : ∀ t n, N t n → N' t n) : AllS (Shn N' V) b ks ks' := by
  induction h with
  | nil => exact .nil
  | cons h _ ih => exact .cons (Shn.mono f _ _ _ h) ih
section
variable {P : Program} {w : World} {K : PySem.W.Frag} {mg : Str → Option Value} {base : Heap} (g : Dig P w K mg base)
def ShnO (D : List W) (V : List W) (so : Option T) (o : Option T) (way : W) : Prop := match o, so with
  | none, none => True
  | some t, some s => Shn (g.ND D) V s t way
  | _, _ => False
def spLShown (m : Nat) : Sp := fun vs H Q _ => ∃ (o : Option T) (v : V) (way : W) (l : Addr) (Vs : List W) (D : List W), vs = [v, .str (S way), .ref l, .ref g.fa] ∧ RepDO H o v ∧ H l = some (.lst (Vs.map fun z => V.str (S z))) ∧ ¬ g.Mt l ∧ Vs.length ≤ 10000 ∧ FullO o ∧ WfO o ∧ htO o < m ∧ way.length + htO o ≤ 100 ∧ g.St D H ∧ D.length + cntO o ≤ 10000000 ∧
  ∀ D' H' r so, D <+: D' → D'.length ≤ D.length + cntO o → g.St D' H' → Go (tbs K) g.Mt H H' → ShnO g D' Vs so o way → RepDO H' so r → Q r H'
theorem D_lshown_step {m j : Nat} {sp : Sp} (hj : 19 ≤ j) (n : Fn1 K mg "_law_shown" s_L_shown) (G : TX K mg) (D_L_number : Def P w K mg base CX0 19 "_law_number" ["_law_told_here", "_law_maker"] (spLNumber g)) (D_L_shown : Def P w K mg base CX0 j "_law_shown" ["_law_told_here", "_law_way", "_law_ways_here", "_law_maker"] sp)
    (hsp : ∀ m' vs H Q E, m = m' + 1 → spLShown g m' vs H Q E → sp vs H Q E) : Def P w K mg base CX0 (j + 1) "_law_shown" ["_law_told_here", "_law_way", "_law_ways_here", "_law_maker"] (spLShown g m) := by
  refine n.mk0 sc_L_shown bind_L_shown (fun vs H Q E h => ?_) (fun cdv A outer s H vs Q E hr h => ?_)
  · obtain ⟨_, _, _, _, _, _, rfl, _⟩ := h
    rfl
  · obtain ⟨o, v, way, l, Vs, D, rfl, hv, hl, hml, hvl, hf, hw, hm, hwl, hD, hc, q⟩ := h
    have hu := hu_of hr
    refine ⟨_, (pss_cons (ps_if (pt_cmpR op_isN (pv 0) pe_non (nomark _)) (pss_one (ps_ret pe_non)) pss_nil)
      (pss_cons (ps_if (pt_cmpR op_notIn_seq (pv 1) (pv 2) (by rfl)) (pss_one (ps_ret (pe_tup (pa_cons pe_str (pa_cons (pe_cd D_L_number (hr.mono (by omega)) (by rfl) (pa_cons (pv 0) (pa_cons (pv 3) pa_nil))) pa_nil))))) pss_nil)
      (pss_cons (ps_set (i := 4) sc_L_shown.nd rfl (Or.inl rfl) (pe_lst pa_nil))
      (pss_cons (ps_for PassesOwn.never rfl (pi_tup (pe_ix ix_tup (pv 0) pe_int (fun _ _ => rfl))) (pg_tup rfl (pgs_cons (pg_name (i := 5) sc_L_shown.nd rfl (Or.inl rfl)) (pgs_cons (pg_name (i := 6) sc_L_shown.nd rfl (Or.inl rfl)) pgs_nil))) (pss_one (ps_expr (pe_bm PySem.F.plainAttrs_list PySem.F.slot_list_append PySem.F.type_list_append mt_append (pv 4) (pa_cons (pe_tup (pa_cons (pv 5) (pa_cons (pe_cd D_L_shown (hr.mono (by omega)) (by rfl) (pa_cons (pv 6) (pa_cons (pe_op op_add_str (pe_op op_add_str (pv 1) (pe_ix ix_tup (pv 0) pe_int (fun _ _ => rfl))) (pv 5)) (pa_cons (pv 2) (pa_cons (pv 3) pa_nil))))) pa_nil))) pa_nil)))))
      (pss_one (ps_ret (pe_op op_catA (pe_slice sl_tupA (pv 0) po_none (po_some pe_int)) (pe_tup (pa_cons (pe_callTy call_tuple_of (by rfl) G.b_tuple (by decide +kernel) (pa_cons (pv 4) pa_nil)) pa_nil))))))))), ?_⟩
    cases o with
    | none =>
      cases hv
      exact ⟨_, rfl, rfl, _, rfl, q D H .non none (List.prefix_refl D) (by omega) hD .refl trivial rfl⟩
    | some t =>
      have hnn : decide (v = .non) = false := by
        obtain ⟨a, xs, rfl, _⟩ := RepD.tup hv
        rfl
      refine ⟨_, rfl, rfl, _, rfl, ?_⟩
      rw [hnn]
      refine ⟨_, rfl, _, rfl, l, _, rfl, .inl (SqL.of hl), rfl, flat_S Vs, _, rfl, ?_⟩
      rw [inV_S]
      by_cases hin : way ∈ Vs
      · rw [decide_eq_true hin]
        cases t with
        | stub n' => exact hf.elim
        | node st x ks =>
          obtain ⟨a, lk, xs, rfl, ha, hlk, hx⟩ := RepD.node.mp hv
          have hst := hw.stem
          have hff : Full (.node st x ks) := hf
          have w5 := wf_few26 hw.1
          refine ⟨by show 0 ≤ sizeLine; decide, fun kl hkl => ?_⟩
          have g0 : Gz K H (upd H kl (.lst [])) := .new hkl
          refine ⟨_, rfl, a, _, 3, _, rfl, rfl, SqT.of (g0.tup ha), rfl, lk, rfl, ⟨_, SqT.of (g0.tup hlk)⟩, ?_⟩
          refine for_it (walk_tup (xs := xs)) (fun i σ H' => Go (tbs K) g.Mt H H' ∧ ∃ Di ys ss y z, D <+: Di ∧ Di.length ≤ D.length + cntK (ks.take i) ∧ g.St Di H' ∧ H' kl = some (.lst ys) ∧ AllS (Shn (g.ND Di) Vs) (way ++ st) ss (ks.take i) ∧ RepQ H' ss ys ∧ σ = [some (.ref a), some (.str (S way)), some (.ref l), some (.ref g.fa), some (.ref kl), y, z])
            ⟨g0.any, D, [], [], none, none, List.prefix_refl D, by simp, g.keep0 hD g0, upd_same, .nil, .nil, rfl⟩ (fun i σ H' _ ⟨g', _⟩ => SqT.of (g'.tup hlk)) ?_ ?_
          · rintro i y σ H' H'' hi ⟨g', Di, ys, ss, y1, z1, b1, b2, b3, b4, b5, b6, rfl⟩ ⟨rfl, hxi⟩
            obtain ⟨l', b, p, v, hki, hm', rfl, hp, hbv⟩ := hx.at_ hxi
            have hcl := cntK_take hki
            have hcle := cntK_take_le ks (i + 1)
            obtain ⟨m', rfl⟩ : ∃ m', m = m' + 1 := ⟨m - 1, by omega⟩
            have hht : 1 + ht b ≤ htK ks := ht_mem hm'
            simp only [htO, ht] at hm hwl
            simp only [cntO, cnt] at hc
            have nkl : ¬ g.Mt kl := g.ne hD hkl
            refine ⟨p, _, rfl, SqT.of (g'.tup hp), rfl, _, _, rfl, _, _, rfl, rfl, ?_⟩
            refine ⟨_, rfl, .inl ⟨rfl, _, SqL.of b4⟩, _, rfl, _, rfl, _, rfl, _, rfl, a, _, 1, _, rfl, rfl, SqT.of (g'.tup ha), rfl, _, _, rfl, rfl, by rw [S_len, S_len]; exact sz (by omega), _, rfl, _, _, rfl, rfl, by rw [S_app, S_len, S_len]; exact sz (by rw [List.length_append]; simp; omega), _, rfl, _, rfl, ?_⟩
            rw [S_app, S_app]
            refine hsp m' _ _ _ _ rfl ⟨some b, v, way ++ st ++ [l'], l, Vs, Di, rfl, RepD.keep g'.keep b hbv, g'.lst hl hml, hml, hvl, Full.node.mp hff _ hm', hw.kids _ hm', by simp only [htO]; omega, by simp only [htO, List.length_append, List.length_cons, List.length_nil]; omega, b3, by simp only [cntO]; omega, fun D' H3 r so c1 c2 c3 c4 c5 c6 => ?_⟩
            cases so with
            | none => exact c5.elim
            | some s' =>
              have c5 : Shn (g.ND D') Vs s' b (way ++ st ++ [l']) := c5
              refine ⟨by show 2 ≤ sizeLine; decide, fun tt htt => ?_⟩
              have gt : Gz K H3 (upd H3 tt (.tup [.str (S [l']), r])) := .new htt
              have hkl4 := gt.lst (c4.lst b4 nkl) id
              refine ⟨kl, ys, _, rfl, rfl, hkl4, szl (by rw [b6.length, b5.length, List.length_take]; have := wf_few26 hw.1; omega), ?_⟩
              have gs : Go (tbs K) (fun b => b = kl) (upd H3 tt (.tup [.str (S [l']), r])) (upd (upd H3 tt (.tup [.str (S [l']), r])) kl (.lst (ys ++ [.ref tt]))) := .set hkl4 rfl rfl rfl
              simp only [cntO] at c2
              refine ⟨(g'.trans (c4.trans gt.any)).put hkl hkl4 rfl rfl, D', ys ++ [.ref tt], ss ++ [(l', s')], _, _, b1.trans c1, by omega, g.keepD hD hkl (g.keep0 c3 gt) gs, upd_same, ?_, ?_, rfl⟩
              · rw [take_snoc hki]
                exact (b5.mono fun t n h => g.nd c1 h).snoc c5
              · refine Prs.snoc ?_ (gs.tup upd_same) (RepD.keep gs.keep s' (RepD.keep gt.keep s' c6))
                exact RepQ.keep gs.keep (RepQ.keep gt.keep (RepQ.keep c4.keep b6))
          · rintro σ H' ⟨g', Di, ys, ss, y1, z1, b1, b2, b3, b4, b5, b6, rfl⟩
            rw [hx.length, List.take_length] at b2 b5
            simp only [cntO, cnt] at hc q
            have ha' := g'.tup ha
            refine ⟨_, rfl, _, rfl, a, _, rfl, SqT.of ha', ?_, fun _ p hp => ?_⟩
            · intro hh
              exact absurd (show HT.sIx 4 4 (some 3) = 4 from hh.2) (by decide)
            have gp : Gz K H' (upd H' p (.tup [.str "node", .str (S st), oS x])) := .new hp
            refine ⟨_, rfl, kl, _, rfl, .inl ⟨SqL.of (gp.lst b4 id), fun kt hkt => ⟨by show 1 ≤ sizeLine; decide, fun tp htp => ?_⟩⟩⟩
            have gk : Gz K _ (upd (upd H' p (.tup [.str "node", .str (S st), oS x])) kt (.tup ys)) := .new hkt
            have gt : Gz K _ (upd (upd (upd H' p (.tup [.str "node", .str (S st), oS x])) kt (.tup ys)) tp (.tup [.ref kt])) := .new htp
            refine ⟨p, tp, [.str "node", .str (S st), oS x], [.ref kt], rfl, rfl, SqT.of ((gk.trans gt).tup upd_same), SqT.of upd_same, by show 4 ≤ sizeLine; decide, (fun h => nomatch h), (fun _ h => nomatch h), fun _ _ r hr => ?_⟩
            have gr : Gz K _ (upd (upd (upd (upd H' p (.tup [.str "node", .str (S st), oS x])) kt (.tup ys)) tp (.tup [.ref kt])) r (.tup [.str "node", .str (S st), oS x, .ref kt])) := .new hr
            have gA := gp.trans (gk.trans (gt.trans gr))
            refine q Di _ _ (some (.node st x ss)) b1 (by omega) (g.keep0 b3 gA) (g'.trans gA.any) (Shn.node.mpr ⟨hin, ks, rfl, b5⟩) ?_
            exact RepD.node.mpr ⟨r, kt, ys, rfl, upd_same, (gt.trans gr).tup upd_same, RepQ.keep gA.keep b6⟩
      · rw [decide_eq_false hin]
        refine ⟨_, rfl, _, rfl, some t, v, D, rfl, hv, hw, hD, hc, fun D' H' c1 c2 c3 c4 c5 => ⟨by show 2 ≤ sizeLine; decide, fun r hr => ?_⟩⟩
        have gr : Gz K H' (upd H' r (.tup [.str "stub", .int (numO (g.val D') (some t))])) := .new hr
        refine q D' _ _ (some (.stub (numO (g.val D') (some t)))) c1 c2 (g.keep0 c3 gr) (c4.trans gr.any) ⟨hin, c5, rfl⟩ ?_
        exact RepD.stub.mpr ⟨r, rfl, upd_same⟩
theorem D_lshown_at (n : Fn1 K mg "_law_shown" s_L_shown) (G : TX K mg) (D_L_number : Def P w K mg base CX0 19 "_law_number" ["_law_told_here", "_law_maker"] (spLNumber g)) (m : Nat) : Def P w K mg base CX0 (20 + m) "_law_shown" ["_law_told_here", "_law_way", "_law_ways_here", "_law_maker"] (spLShown g m) := by
  induction m with
  | zero => exact D_lshown_step g (j := 19) (by omega) n G D_L_number ((n.no0 sc_L_shown bind_L_shown).mono (by omega)) fun m' vs H Q E e => nomatch e
  | succ m ih => exact D_lshown_step g (j := 20 + m) (by omega) n G D_L_number ih fun m' vs H Q E e h => by cases e; exact h
/-- _law_shown from the whole on -/
def spShownO : Sp := fun vs H Q _ => ∃ (o : Option T) (v : V) (l : Addr) (Vs : List W) (D : List W), vs = [v, .str "", .ref l, .ref g.fa] ∧ RepDO H o v ∧ H l = some (.lst (Vs.map fun z => V.str (S z))) ∧ ¬ g.Mt l ∧ Vs.length ≤ 10000 ∧ FullO o ∧ WfO o ∧ g.St D H ∧ D.length + cntO o ≤ 10000000 ∧
  ∀ D' H' r so, D <+: D' → D'.length ≤ D.length + cntO o → g.St D' H' → Go (tbs K) g.Mt H H' → ShnO g D' Vs so o [] → RepDO H' so r → Q r H'
theorem D_L_shown (n : Fn1 K mg "_law_shown" s_L_shown) (G : TX K mg) (D_L_number : Def P w K mg base CX0 19 "_law_number" ["_law_told_here", "_law_maker"] (spLNumber g)) : Def P w K mg base CX0 30 "_law_shown" ["_law_told_here", "_law_way", "_law_ways_here", "_law_maker"] (spShownO g) :=
  (D_lshown_at g n G D_L_number 10).imp fun vs H Q E h => by
    obtain ⟨o, v, l, Vs, D, e, h1, h2, h3, h4, h5, h6, h7, h8, h9⟩ := h
    have hh : htO o ≤ 9 := by
      cases o with
      | none => simp [htO]
      | some t => have := h6.2; simp only [htO]; omega
    exact ⟨o, v, [], l, Vs, D, e, h1, h2, h3, h4, h5, h6, by omega, by simp; omega, h7, h8, h9⟩
end
end Seal
namespace Seal
open PySem PySem.Spec PyProof.Rows L2 LamX NdefX
/-! ### rows of deeds, drawn; what is come to -/
theorem sc_L_row : FnScope ["_law_state", "_law_letters_here", "_law_content_here", "_law_most", "_law_later", "_law_row_here", "_law_k", "_law_word_here", "_law_near", "_law_here", "_law_there"] ["_law_state", "_law_letters_here", "_law_content_here", "_law_most"] (defScope s_L_row) := ⟨rfl, rfl, rfl, by decide +kernel, rfl, by decide +kernel, by decide +kernel⟩
theorem bind_L_row : BindQ "_law_row" "_law_row" s_L_row ["_law_state", "_law_letters_here", "_law_content_here", "_law_most"] := fun _ _ _ _ _ _ us hl => match us, hl with | [_, _, _, _], _ => rfl
theorem sc_L_come_to : FnScope ["_law_content_here", "_law_row_here", "_law_later", "_law_found", "_law_deed", "_law_walk_here", "_law_way", "_law_told_here", "_law_lone_here"] ["_law_content_here", "_law_row_here"] (defScope s_L_come_to) := ⟨rfl, rfl, rfl, by decide +kernel, rfl, by decide +kernel, by decide +kernel⟩
theorem bind_L_come_to : BindQ "_law_come_to" "_law_come_to" s_L_come_to ["_law_content_here", "_law_row_here"] := fun _ _ _ _ _ _ us hl => match us, hl with | [_, _], _ => rfl
def spRow (K : PySem.W.Frag) : Sp := fun vs H Q _ => ∃ (st b : Addr) (ls : W) (rows : List (W × W)) (d : Addr) (m : Nat), vs = [.ref st, .str (S ls), .ref d, .int (m : Int)] ∧ StAt H st b ∧ Ltr ls ∧ ls ≠ [] ∧ ls.length ≤ 26 ∧ H d = some (.dK (dkv rows)) ∧ ¬ Ms st b d ∧ KeysN rows ∧ rows.length ≤ 20 ∧ (∀ r ∈ rows, RowG r) ∧ m ≤ 20 ∧
  ∀ (row : List Deed) (l : Addr) xs H', Gm K st b H H' → StAt H' st b → row.length ≤ m → (∀ e ∈ row, e.ok) → H' l = some (.lst xs) → RepRow H' row xs → ¬ Ms st b l → H l = none → Q (.ref l) H'
section
variable {P : Program} {w : World} {K : PySem.W.Frag} {mg : Str → Option Value} {base : Heap}
theorem D_L_row (n : Fn1 K mg "_law_row" s_L_row) (G : TX K mg) (D_L_draw : Def P w K mg base CX0 1 "_law_draw" ["_law_state", "_law_many"] (spDraw K))
    (D_L_key : Def P w K mg base CX0 2 "_law_key" ["_law_state", "_law_letters_here", "_law_keys"] (spKey K)) (D_L_value : Def P w K mg base CX0 2 "_law_value" ["_law_state"] (spValue K)) : Def P w K mg base CX0 3 "_law_row" ["_law_state", "_law_letters_here", "_law_content_here", "_law_most"] (spRow K) := by
  refine n.mk0 sc_L_row bind_L_row (fun vs H Q E h => ?_) (fun cdv A outer s H vs Q E hr h => ?_)
  · obtain ⟨_, _, _, _, _, _, rfl, _⟩ := h
    rfl
  · obtain ⟨st, b, ls, rows, d, m, rfl, hS, hls, hln, hl26, hd, hdm, hkn, hlen, hok, hm, q⟩ := h
    have hu := hu_of hr
    refine ⟨_, (pss_cons (ps_par (i := 4) (j := 5) (by rfl) sc_L_row.nd rfl rfl (by decide) rfl rfl (pa_cons (pe_callTy call_dictD (by rfl) G.b_dict (by decide +kernel) (pa_cons (pv 2) pa_nil)) (pa_cons (pe_lst pa_nil) pa_nil)) (by rfl))
      (pss_cons (ps_for PassesOwn.never rfl (pi_range1 rfl G.b_range (pa_cons (pe_cd D_L_draw (hr.mono (by omega)) (by rfl) (pa_cons (pv 0) (pa_cons (pe_op op_add (pv 3) pe_int) pa_nil))) pa_nil)) (pg_name (i := 6) sc_L_row.nd rfl (Or.inl rfl)) (pss_cons (ps_par (i := 7) (j := 8) (by rfl) sc_L_row.nd rfl rfl (by decide) rfl rfl (pa_cons (pe_ix ix_list (pe_lst (pa_cons pe_str (pa_cons pe_str pa_nil))) (pe_cd D_L_draw (hr.mono (by omega)) (by rfl) (pa_cons (pv 0) (pa_cons pe_int pa_nil))) (fun _ _ => rfl)) (pa_cons (pe_cd D_L_draw (hr.mono (by omega)) (by rfl) (pa_cons (pv 0) (pa_cons pe_int pa_nil))) pa_nil)) (by rfl))
      (pss_cons (ps_par (i := 9) (j := 10) (by rfl) sc_L_row.nd rfl rfl (by decide) rfl rfl (pa_cons (pe_cd D_L_key (hr.mono (by omega)) (by rfl) (pa_cons (pv 0) (pa_cons (pv 1) (pa_cons (pe_callB (call_sortedD rfl) (by rfl) G.b_sorted (by decide +kernel) (pa_cons (pv 4) pa_nil)) pa_nil)))) (pa_cons (pe_cd D_L_value (hr.mono (by omega)) (by rfl) (pa_cons (pv 0) pa_nil)) pa_nil)) (by rfl))
      (pss_cons (ps_if (PW.pt (pw_and (pt_cmpR op_gt (pv 8) pe_int (nomark _)) (pw_and (pt_cmpR op_eq (pv 7) pe_str (nomark _)) (pw_and1 (pt_cmpR (op_neE hu) (pv 4) pe_dnewK (nomark _)))))) (pss_one (ps_set (i := 9) sc_L_row.nd rfl (Or.inl rfl) (pe_ix ix_list (pe_callB (call_sortedD rfl) (by rfl) G.b_sorted (by decide +kernel) (pa_cons (pv 4) pa_nil)) (pe_cd D_L_draw (hr.mono (by omega)) (by rfl) (pa_cons (pv 0) (pa_cons (pe_callB call_lenD (by rfl) G.b_len PySem.boot_len (pa_cons (pv 4) pa_nil)) pa_nil))) (fun _ _ => rfl)))) pss_nil)
      (pss_cons (ps_if (pt_cmpR op_eq (pv 7) pe_str (nomark _)) (pss_one (ps_dput hu (pv 4) (pv 9) (pv 10) rfl)) (pss_one (ps_expr (pe_dpop2 (pv 4) (pv 9) pe_non ⟨rfl, rfl, rfl, rfl⟩))))
      (pss_one (ps_expr (pe_bm PySem.F.plainAttrs_list PySem.F.slot_list_append PySem.F.type_list_append mt_append (pv 5) (pa_cons (pe_ifExp (pt_cmpR op_eq (pv 7) pe_str (nomark _)) (pe_tup (pa_cons (pv 7) (pa_cons (pv 9) (pa_cons (pv 10) pa_nil)))) (pe_tup (pa_cons (pv 7) (pa_cons (pv 9) pa_nil)))) pa_nil)))))))))
      (pss_one (ps_ret (pv 5))))), ?_⟩
    refine ⟨_, rfl, d, _, rfl, .inl hd, fun p hp => ?_⟩
    have gp : Gz K H (upd H p (.dK (dkv rows))) := .new hp
    refine ⟨by show 0 ≤ sizeLine; decide, fun F hF => ⟨_, _, rfl, ?_⟩⟩
    have gF : Gz K (upd H p (.dK (dkv rows))) (upd (upd H p (.dK (dkv rows))) F (.lst [])) := .new hF
    have hpm := hS.notM hp
    have hF0 : H F = none := by
      by_cases e : F = p
      · rw [e, upd_same] at hF; cases hF
      · rwa [upd_ne e] at hF
    have hFm := hS.notM hF0
    have g0 := gp.trans gF
    refine ⟨_, rfl, _, rfl, _, _, rfl, rfl, st, b, _, rfl, hS.keep g0, by omega, by omega, fun r H1 r0 r1 g1 s1 => ?_⟩
    refine ⟨r, rfl, by omega, by omega, ?_⟩
    refine for_it (walk_range (lo := 0) (n := r.toNat)) (fun i σ H' => Gm K st b H H' ∧ StAt H' st b ∧ ∃ (rows' : List (W × W)) (row : List Deed) (xs : List V) (k a7 a8 a9 a10 : Option V), H' p = some (.dK (dkv rows')) ∧ H' F = some (.lst xs) ∧ KeysN rows' ∧ rows'.length ≤ 20 + i ∧ (∀ r ∈ rows', RowG r) ∧ row.length ≤ i ∧ (∀ e ∈ row, e.ok) ∧ RepRow H' row xs ∧
        σ = [some (.ref st), some (.str (S ls)), some (.ref d), some (.int m), some (.ref p), some (.ref F), k, a7, a8, a9, a10]) ?_ (fun _ _ _ _ _ => trivial) ?_ ?_
    · exact ⟨g0.any.trans g1, s1, rows, [], [], _, _, _, _, _, g1.dK (gF.dK upd_same id) hpm, g1.lst upd_same hFm, hkn, hlen, hok, Nat.le_refl _, (fun e he => by cases he), .nil, rfl⟩
    · rintro i x σ H3 H2 hi ⟨g2, s2, rows', row, xs, k, a7, a8, a9, a10, hp2, hF2, hkn2, hlen2, hok2, hrl, hrok, hrow, rfl⟩ ⟨rfl, rfl⟩
      have hi20 : i < 20 := by omega
      refine ⟨by show 2 ≤ sizeLine; decide, fun L hL => ?_⟩
      have gL : Gz K H2 (upd H2 L (.lst [.str "put", .str "drop"])) := .new hL
      refine ⟨_, rfl, st, b, _, rfl, s2.keep gL, by decide, by decide, fun ra H4 ra0 ra1 g4 s4 => ?_⟩
      have hLm := s2.notM hL
      obtain ⟨isPut, hput⟩ : ∃ isPut : Bool, atI [V.str "put", V.str "drop"] ra = some (V.str (if isPut = true then "put" else "drop")) := by
        rcases (show ra = 0 ∨ ra = 1 by omega) with e | e
        · exact ⟨true, by rw [e]; rfl⟩
        · exact ⟨false, by rw [e]; rfl⟩
      refine ⟨L, _, ra, _, rfl, rfl, SqL.of (g4.lst upd_same hLm), hput, ?_⟩
      refine ⟨_, rfl, st, b, _, rfl, s4, by decide, by decide, fun rb H5 rb0 rb1 g5 s5 => ⟨_, _, rfl, ?_⟩⟩
      have g25 : Gm K st b H2 H5 := gL.any.trans (g4.trans g5)
      have hp5 := g25.dK hp2 hpm
      refine ⟨_, rfl, _, rfl, _, rfl, p, _, _, rfl, .inl hp5, dkv_keys rows', by rw [List.length_map]; omega, fun ys sl hperm hsort hsl => ?_⟩
      obtain ⟨rs, hrs, rfl⟩ := perm_lift hperm.symm rows' rfl
      have gs : Gz K H5 (upd H5 sl (.lst ((rs.map fun r => S r.1).map V.str))) := .new hsl
      refine ⟨st, b, ls, sl, rs.map (·.1), rfl, s5.keep gs, hls, hln, hl26, by rw [upd_same, List.map_map, List.map_map]; rfl, s5.notM hsl, by rw [List.length_map, hrs.length_eq]; omega, (fun k hk => by
        obtain ⟨r, hr, rfl⟩ := List.mem_map.mp hk
        exact (hok2 r (hrs.mem_iff.mp hr)).1), fun key0 H6 hkey0 g6 s6 => ?_⟩
      refine ⟨_, rfl, st, b, rfl, s6, fun val H7 hval g7 s7 => ⟨_, _, rfl, ?_⟩⟩
      have g27 := g25.trans (gs.any.trans (g6.trans g7))
      have hp7 := g27.dK hp2 hpm
      have hF7 := g27.lst hF2 hFm
      have hrow7 := hrow.keep g27.keep
      clear gL g4 g5 g25 hp5 gs g6 g7 hput hperm hsort hsl hrs
      have g7 := g2.trans g27
      clear g2 g27 s4 s5 s6 hL hLm
      refine ⟨_, rfl, _, _, rfl, rfl, _, rfl, ?_⟩
      cases isPut with
      | true =>
        by_cases hn : 0 < rb
        case' neg => rw [decide_eq_false hn]
        case' pos =>
          rw [decide_eq_true hn]
          refine ⟨_, rfl, rfl, _, rfl, ?_⟩
        all_goals
          refine ⟨_, rfl, rfl, _, rfl, ?_⟩
          refine ⟨_, rfl, _, rfl, _, rfl, p, _, rfl, DPut.k (k := Sum.inr (S key0)) hp7 (szl (by unfold dkv; rw [List.length_map]; omega)), ?_⟩
          rw [putK_rows]
          have gq : Go (tbs K) (fun c => c = p) H7 (upd H7 p (.dK (dkv (putR rows' key0 val)))) := .set hp7 rfl rfl rfl
          have hFp : F ≠ p := fun e => by rw [e, hp7] at hF7; cases hF7
          have hF8 := gq.lst hF7 hFp
          refine ⟨_, rfl, .inl ⟨rfl, _, SqL.of hF8⟩, _, rfl, rfl, _, rfl, _, rfl, _, rfl, _, rfl, by show 3 ≤ sizeLine; decide, fun t ht => ?_⟩
          have gt : Gz K (upd H7 p (.dK (dkv (putR rows' key0 val)))) (upd (upd H7 p (.dK (dkv (putR rows' key0 val)))) t (.tup [.str "put", .str (S key0), .str (S val)])) := .new ht
          have hF9 := gt.lst hF8 id
          refine ⟨F, xs, _, rfl, rfl, hF9, szl (by rw [← hrow7.length]; omega), ?_⟩
          have gu : Go (tbs K) (fun c => c = F) (upd (upd H7 p (.dK (dkv (putR rows' key0 val)))) t (.tup [.str "put", .str (S key0), .str (S val)])) (upd (upd (upd H7 p (.dK (dkv (putR rows' key0 val)))) t (.tup [.str "put", .str (S key0), .str (S val)])) F (.lst (xs ++ [.ref t]))) := .set hF9 rfl rfl rfl
          have s8 := ((s7.go gq (fun e => hpm (.inl e.symm)) fun e => hpm (.inr e.symm)).keep gt).go gu (fun e => hFm (.inl e.symm)) fun e => hFm (.inr e.symm)
          have g8 := (((g7.put hp hp7 rfl rfl).trans gt.any).put hF0 hF9 rfl rfl (o' := .lst (xs ++ [.ref t])))
          refine ⟨g8, s8, putR rows' key0 val, row ++ [.put key0 val], xs ++ [.ref t], _, _, _, _, _, gu.dK (gt.dK upd_same id) (fun e => hFp e.symm), upd_same, putR_keys hkn2, by have := putR_len (rows := rows') (k := key0) (x := val); omega, fun r hr => ?_, by rw [List.length_append]; simp; omega, fun e he => ?_, paired_snoc (((hrow7.keep gq.keep).keep gt.keep).keep gu.keep) ⟨t, rfl, gu.tup upd_same⟩, rfl⟩
          · rcases putR_mem hr with rfl | h
            · exact ⟨hkey0, hval⟩
            · exact hok2 r h
          · rcases List.mem_append.mp he with he | he
            · exact hrok e he
            · rw [List.mem_singleton.mp he]
              exact ⟨hkey0, hval⟩
      | false =>
        by_cases hn : 0 < rb
        case' neg =>
          rw [decide_eq_false hn]
          have hkey := hkey0
          generalize key0 = key at hkey ⊢
          generalize H7 = H8 at s7 hp7 hF7 hrow7 g7 ⊢
        case' pos =>
          rw [decide_eq_true hn]
          refine ⟨_, rfl, rfl, _, rfl, ?_⟩
          refine ⟨_, rfl, fun e he => ⟨p, e, _, rfl, rfl, (Go.new (Ts := tbs K) (M := M0) he).dK hp7 id, upd_same, _, rfl, ?_⟩⟩
          have ge : Gz K H7 (upd H7 e (.dK [])) := .new he
          have hp7 := ge.dK hp7 id
          have hF7 := ge.lst hF7 id
          have hrow7 := hrow7.keep ge.keep
          have s7 := s7.keep ge
          have g7 := g7.trans ge.any
          clear ge
          generalize upd H7 e (.dK []) = H8 at s7 hp7 hF7 hrow7 g7 ⊢
          by_cases hne : dkv rows' = []
          case' pos =>
            rw [decide_eq_true hne]
            have hkey := hkey0
            generalize key0 = key at hkey ⊢
          case' neg =>
            rw [decide_eq_false hne]
            refine ⟨_, rfl, p, _, _, rfl, .inl hp7, dkv_keys rows', by rw [List.length_map]; omega, fun ys sl hperm hsort hsl => ?_⟩
            obtain ⟨rs, hrs, rfl⟩ := perm_lift hperm.symm rows' rfl
            have gs : Gz K H8 (upd H8 sl (.lst ((rs.map fun r => S r.1).map V.str))) := .new hsl
            have hrl0 : 0 < rows'.length := by
              cases rows' with
              | nil => exact absurd rfl hne
              | cons _ _ => simp
            have hdl : (dkv rows').length = rows'.length := by unfold dkv; rw [List.length_map]
            refine ⟨_, rfl, _, rfl, p, _, rfl, gs.dK hp7 id, st, b, _, rfl, s7.keep gs, by rw [hdl]; omega, by rw [hdl]; omega, fun rc H9 rc0 rc1 g9 s9 => ?_⟩
            rw [hdl] at rc1
            have hslm := s7.notM hsl
            obtain ⟨jc, rfl⟩ : ∃ jc : Nat, rc = (jc : Int) := ⟨rc.toNat, by omega⟩
            have hjc : jc < rs.length := by rw [hrs.length_eq]; omega
            refine ⟨sl, _, (jc : Int), V.str (S rs[jc].1), rfl, rfl, SqL.of (g9.lst upd_same hslm), atI_nat (by rw [List.map_map, List.getElem?_map, List.getElem?_eq_getElem hjc]; rfl), ?_⟩
            have hkey : IsKey rs[jc].1 := (hok2 _ (hrs.mem_iff.mp (List.getElem_mem hjc))).1
            have hp7 := g9.dK (gs.dK hp7 id) hpm
            have hF7 := g9.lst (gs.lst hF7 id) hFm
            have hrow7 := (hrow7.keep gs.keep).keep g9.keep
            have g7 := g7.trans (gs.any.trans g9)
            have s7 := s9
            clear gs g9 hsl hslm
            generalize rs[jc].1 = key at hkey ⊢
            generalize H9 = H8 at s7 hp7 hF7 hrow7 g7 ⊢
        all_goals
          refine ⟨_, rfl, rfl, _, rfl, ?_⟩
          refine ⟨_, rfl, p, rfl, .inl ⟨_, .inl hp7⟩, _, rfl, _, Sum.inr (S key), hp7, rfl, fun v hv => ?_, fun hv => ?_⟩
          case' refine_1 =>
            rw [dropK_rows]
            have gq : Go (tbs K) (fun c => c = p) H8 (upd H8 p (.dK (dkv (dropR rows' key)))) := .set hp7 rfl rfl rfl
            have hFp : F ≠ p := fun e => by rw [e, hp7] at hF7; cases hF7
            have hF7 := gq.lst hF7 hFp
            have g7 := g7.put hp hp7 rfl rfl (o' := .dK (dkv (dropR rows' key)))
            have s7 := s7.go gq (fun e => hpm (.inl e.symm)) fun e => hpm (.inr e.symm)
            have hrow7 := hrow7.keep gq.keep
            have hp7 : (upd H8 p (.dK (dkv (dropR rows' key)))) p = some (.dK (dkv (dropR rows' key))) := upd_same
            have hkn2 := dropR_keys (k := key) hkn2
            have hlen2 : (dropR rows' key).length ≤ 20 + i := Nat.le_trans dropR_len hlen2
            have hok2 : ∀ r ∈ dropR rows' key, RowG r := fun r hr => hok2 r (dropR_mem hr)
            clear gq hv hFp
            generalize dropR rows' key = rows' at hp7 hkn2 hlen2 hok2 hF7 hrow7 g7 s7 ⊢
            generalize upd H8 p (.dK (dkv rows')) = H8 at s7 hp7 hF7 hrow7 g7 ⊢
          case' refine_2 => clear hv
          all_goals
            refine ⟨_, rfl, .inl ⟨rfl, _, SqL.of hF7⟩, _, rfl, rfl, _, rfl, _, rfl, _, rfl, by show 2 ≤ sizeLine; decide, fun t ht => ?_⟩
            have hFp : F ≠ p := fun e => by rw [e, hp7] at hF7; cases hF7
            have gt : Gz K H8 (upd H8 t (.tup [.str "drop", .str (S key)])) := .new ht
            have hF9 := gt.lst hF7 id
            refine ⟨F, xs, _, rfl, rfl, hF9, szl (by rw [← hrow7.length]; omega), ?_⟩
            have gu : Go (tbs K) (fun c => c = F) (upd H8 t (.tup [.str "drop", .str (S key)])) (upd (upd H8 t (.tup [.str "drop", .str (S key)])) F (.lst (xs ++ [.ref t]))) := .set hF9 rfl rfl rfl
            have s8 := (s7.keep gt).go gu (fun e => hFm (.inl e.symm)) fun e => hFm (.inr e.symm)
            have g8 := (g7.trans gt.any).put hF0 hF9 rfl rfl (o' := .lst (xs ++ [.ref t]))
            refine ⟨g8, s8, rows', row ++ [.drop key], xs ++ [.ref t], _, _, _, _, _, gu.dK (gt.dK hp7 id) (fun e => hFp e.symm), upd_same, hkn2, by omega, hok2, by rw [List.length_append]; simp; omega, fun e he => ?_, paired_snoc ((hrow7.keep gt.keep).keep gu.keep) ⟨t, rfl, gu.tup upd_same⟩, rfl⟩
            rcases List.mem_append.mp he with he | he
            · exact hrok e he
            · rw [List.mem_singleton.mp he]
              exact hkey
    · rintro σ H' ⟨g2, s2, rows', row, xs, k, a7, a8, a9, a10, hp2, hF2, hkn2, hlen2, hok2, hrl, hrok, hrow, rfl⟩
      exact ⟨_, rfl, q row F xs H' g2 s2 (by omega) hrok hF2 hrow hFm hF0⟩
def dkey : Deed → W
  | .put k _ => k
  | .drop k => k
theorem dV_key (e : Deed) : (dV e)[1]? = some (V.str (S (dkey e))) := by cases e <;> rfl
theorem paired_at' {α β : Type} {F : α → β → Prop} : ∀ {l : List α} {xs : List β}, Paired F l xs → ∀ {i : Nat} {x : β}, xs[i]? = some x → ∃ a, l[i]? = some a ∧ F a x
  | _, _, .nil, i, x, h => by simp at h
  | _, _, .cons a b, 0, x, h => by
    simp at h
    subst h
    exact ⟨_, rfl, a⟩
  | _, _, .cons a b, i + 1, x, h => by
    obtain ⟨d, h1, h2⟩ := paired_at' b (i := i) (by simpa using h)
    exact ⟨d, by simpa using h1, h2⟩
def spComeTo (K : PySem.W.Frag) : Sp := fun vs H Q _ => ∃ (rows : List (W × W)) (d a : Addr) (row : List Deed) (xs : List V) (o : Option T), vs = [.ref d, .ref a] ∧ H d = some (.dK (dkv rows)) ∧ KeysN rows ∧ rows.length ≤ 20 ∧ (∀ r ∈ rows, RowG r) ∧ H a = some (.lst xs) ∧ RepRow H row xs ∧ (∀ e ∈ row, e.ok) ∧ row.length ≤ 20 ∧ (beh (cn rows) row).2 = none ∧ IsTree o (cn rows) ∧
  ∀ (l : Addr) H', Gz K H H' → H' l = some (.lst ((come o row).map fun z => V.str (S z))) → Q (.ref l) H'
theorem D_L_come_to (n : Fn1 K mg "_law_come_to" s_L_come_to) (G : TX K mg) (D_L_tree : Def P w K mg base CX0 11 "_law_tree" ["_law_content_here"] (spLTreeOf true K))
    (D_L_walk : Def P w K mg base CX0 1 "_law_walk" ["_law_told_here", "_law_word_here"] (spWalk K)) (D_L_lone : Def P w K mg base CX0 1 "_law_lone" ["_law_walk_here"] (spLone K)) : Def P w K mg base CX0 12 "_law_come_to" ["_law_content_here", "_law_row_here"] (spComeTo K) := by
  refine n.mk0 sc_L_come_to bind_L_come_to (fun vs H Q E h => ?_) (fun cdv A outer s H vs Q E hr h => ?_)
  · obtain ⟨_, _, _, _, _, _, rfl, _⟩ := h
    rfl
  · obtain ⟨rows, d, a, row, xs, o, rfl, hd, hkn, hlen, hok, ha, hrow, hrok, hrl, hbeh, hT, q⟩ := h
    have hu := hu_of hr
    refine ⟨_, (pss_cons (ps_par (i := 2) (j := 3) (by rfl) sc_L_come_to.nd rfl rfl (by decide) rfl rfl (pa_cons (pe_callTy call_dictD (by rfl) G.b_dict (by decide +kernel) (pa_cons (pv 0) pa_nil)) (pa_cons (pe_lst pa_nil) pa_nil)) (by rfl))
      (pss_cons (ps_for PassesOwn.never rfl (pi_list (pv 1)) (pg_name (i := 4) sc_L_come_to.nd rfl (Or.inl rfl)) (pss_cons (ps_set (i := 5) sc_L_come_to.nd rfl (Or.inl rfl) (pe_cd D_L_walk (hr.mono (by omega)) (by rfl) (pa_cons (pe_cd D_L_tree (hr.mono (by omega)) (by rfl) (pa_cons (pv 2) pa_nil)) (pa_cons (pe_ix ix_tup (pv 4) pe_int (fun _ _ => rfl)) pa_nil))))
      (pss_cons (ps_set (i := 3) sc_L_come_to.nd rfl (Or.inl rfl) (pe_op op_cat (pv 3) (pe_lc (own := [("_law_way", 6), ("_law_told_here", 7)]) (g := gTup K 2 (gCons (gName 6) (gCons (gName 7) gNil))) (tt := tYes) (by rfl) sc_L_come_to.nd (pi_list (pv 5)) (blkOk_by (N := ["_law_content_here", "_law_row_here", "_law_later", "_law_found", "_law_deed", "_law_walk_here", "_law_way", "_law_told_here", "_law_lone_here"]) (sc := defScope s_L_come_to) (by decide +kernel)) (fun _ _ _ _ _ => pg_tup rfl (pgs_cons (pg_name (i := 6) sc_L_come_to.nd rfl (Or.inl rfl)) (pgs_cons (pg_name (i := 7) sc_L_come_to.nd rfl (Or.inl rfl)) pgs_nil))) (fun _ _ _ _ _ => pts_nil) (fun _ _ _ _ _ => (pv 6)))))
      (pss_one (ps_if (pt_cmpR op_eq (pe_ix ix_tup (pv 4) pe_int (fun _ _ => rfl)) pe_str (nomark _)) (pss_one (ps_dput hu (pv 2) (pe_ix ix_tup (pv 4) pe_int (fun _ _ => rfl)) (pe_ix ix_tup (pv 4) pe_int (fun _ _ => rfl)) rfl)) (pss_cons (ps_set (i := 8) sc_L_come_to.nd rfl (Or.inl rfl) (pe_cd D_L_lone (hr.mono (by omega)) (by rfl) (pa_cons (pv 5) pa_nil)))
      (pss_cons (ps_set (i := 3) sc_L_come_to.nd rfl (Or.inl rfl) (pe_op op_cat (pv 3) (pe_ifExp (pt_cmpR op_isN (pv 8) pe_non (nomark _)) (pe_lst pa_nil) (pe_lst (pa_cons (pe_ix ix_tup (pv 8) pe_int (fun _ _ => rfl)) pa_nil)))))
      (pss_one (ps_expr (pe_dpop1 (pv 2) (pe_ix ix_tup (pv 4) pe_int (fun _ _ => rfl)) ⟨rfl, rfl, rfl, rfl⟩))))))))))
      (pss_one (ps_ret (pv 3))))), ?_⟩
    refine ⟨_, rfl, d, _, rfl, .inl hd, fun p hp => ?_⟩
    have gp : Gz K H (upd H p (.dK (dkv rows))) := .new hp
    refine ⟨by show 0 ≤ sizeLine; decide, fun F hF => ⟨_, _, rfl, ?_⟩⟩
    have gF : Gz K (upd H p (.dK (dkv rows))) (upd (upd H p (.dK (dkv rows))) F (.lst [])) := .new hF
    have g0 := gp.trans gF
    refine ⟨_, rfl, a, rfl, ⟨_, SqL.of (g0.lst ha id)⟩, ?_⟩
    refine for_it (walk_list (xs := xs)) (fun i σ H' => Gz K H H' ∧ ∃ (rows' : List (W × W)) (o' : Option T) (F : Addr) (acc : List W) (a4 a5 a6 a7 a8 : Option V), H' p = some (.dK (dkv rows')) ∧ H' F = some (.lst (acc.map fun z => V.str (S z))) ∧ KeysN rows' ∧ rows'.length ≤ 20 + i ∧ (∀ r ∈ rows', RowG r) ∧ IsTree o' (cn rows') ∧
        come o row = acc ++ come o' (row.drop i) ∧ (beh (cn rows') (row.drop i)).2 = none ∧ acc.length ≤ 20 * i ∧ σ = [some (.ref d), some (.ref a), some (.ref p), some (.ref F), a4, a5, a6, a7, a8]) ?_ (fun i σ H' _ ⟨g, _⟩ => SqL.of (g.lst ha id)) ?_ ?_
    · exact ⟨g0, rows, o, F, [], _, _, _, _, _, gF.dK upd_same id, upd_same, hkn, hlen, hok, hT, rfl, hbeh, Nat.le_refl _, rfl⟩
    · rintro i x σ H3 H2 hi ⟨g2, rows', o', F', acc, b4, b5, b6, b7, b8, hp2, hF2, hkn2, hlen2, hok2, hT2, hcome, hbeh2, hal, rfl⟩ ⟨rfl, hxi⟩
      obtain ⟨e, hei, hem, t, rfl, ht⟩ := hrow.at_ hxi
      have hir : i < row.length := by
        by_cases hh : i < row.length
        · exact hh
        · rw [List.getElem?_eq_none (by omega)] at hei; cases hei
      have hdr : row.drop i = e :: row.drop (i + 1) := by
        rw [List.drop_eq_getElem_cons hir]
        rw [List.getElem?_eq_getElem hir] at hei
        rw [Option.some.inj hei]
      rw [hdr] at hcome hbeh2
      have heok := hrok e hem
      have hk8 : IsKey (dkey e) := by cases e with | put k x => exact heok.1 | drop k => exact heok
      have ht2 := g2.tup ht
      refine ⟨_, rfl, rows', p, rfl, hp2, hkn2, by omega, hok2, fun v o2 H4 g4 hT4 hv4 => ?_⟩
      obtain rfl := IsTree.one hT4 hT2
      refine ⟨_, rfl, t, _, 1, _, rfl, rfl, SqT.of (g4.tup ht2), atI_nat (dV_key e), o2, v, dkey e, rfl, hv4, hT2.wf, hk8.2, fun wl ws H5 g5 hwl hws => ?_⟩
      have g25 := g4.trans g5
      have hF5 := g25.lst hF2 id
      have hwlen : (wlkO o2 [] (dkey e)).length ≤ 10 := by
        cases o2 with
        | none => simp [wlkO]
        | some t2 =>
          have := wlk_len t2 [] (dkey e)
          have := hT2.wf.2
          simp only [wlkO]
          omega
      refine ⟨_, rfl, _, rfl, wl, rfl, ⟨_, SqL.of hwl⟩, fun D hD => ?_⟩
      refine lc_go (Ts := tbs K) (M := M0) (walk_list (xs := ws)) hD (by rw [← hws.length]; omega) m0_ne (fun j ac H' => Gz K H5 H' ∧ ac = (((wlkO o2 [] (dkey e)).take j).map (·.1)).map fun z => V.str (S z)) (fun i acc H' H'' ⟨a, b⟩ g => ⟨a.loc hD g, b⟩) ⟨.refl, rfl⟩ (fun i acc H' _ ⟨g, _⟩ => SqL.of (g.lst hwl id)) ?_ ?_
      · rintro j ac y H6 H7 R1 R2 hj ⟨g6, rfl⟩ ⟨rfl, hyj⟩ k1 k2
        obtain ⟨w', hwj, p', v', rfl, hp', hv'⟩ := paired_at' hws hyj
        refine ⟨p', _, rfl, SqT.of (g6.tup hp'), rfl, _, _, rfl, _, _, rfl, rfl, rfl, _, rfl, ?_⟩
        refine k1 _ _ .refl ⟨g6, ?_⟩
        rw [take_snoc hwj, List.map_append, List.map_append]
        rfl
      rintro ac H6 ⟨g6, rfl⟩ hD6 _
      rw [← hws.length, List.take_length] at hD6
      refine ⟨F', D, _, _, rfl, rfl, g6.lst hF5 id, hD6, sz (by rw [List.length_map, List.length_map, List.length_map]; omega), fun F2 hF2n => ?_⟩
      have gc : Gz K H6 (upd H6 F2 (.lst (acc.map (fun z => V.str (S z)) ++ ((wlkO o2 [] (dkey e)).map (·.1)).map fun z => V.str (S z)))) := .new hF2n
      rw [← List.map_append] at gc ⊢
      have gA := g25.trans (g6.trans gc)
      have hF7 : (upd H6 F2 (.lst ((acc ++ (wlkO o2 [] (dkey e)).map (·.1)).map fun z => V.str (S z)))) F2 = some (.lst ((acc ++ (wlkO o2 [] (dkey e)).map (·.1)).map fun z => V.str (S z))) := upd_same
      have hwl7 := (g6.trans gc).lst hwl id
      have hws7 := RepWk.keep (g6.trans gc).keep hws
      have hp7 := gA.dK hp2 id
      have ht7 := gA.tup ht2
      have g7 := g2.trans gA
      clear gA gc g6 g25 g4 g5 hF5 hwl hws hD6 hD hF2n
      generalize upd H6 F2 (.lst ((acc ++ (wlkO o2 [] (dkey e)).map (·.1)).map fun z => V.str (S z))) = H7 at g7 hp7 ht7 hws7 hwl7 hF7 ⊢
      cases e with
      | put k x =>
        obtain ⟨o3, he3, hT3⟩ := put_tree hT2 heok
        have hcn : cn (putR rows' k x) = after (cn rows') (.put k x) := by
          funext y
          rw [cn_put hkn2]
          rfl
        have hvis : (wlkO o2 [] k).map (·.1) = visO o2 (.put k x) := by
          cases o2 with
          | none => rfl
          | some t2 => exact wlk_ways t2 [] k
        refine ⟨_, rfl, t, _, 0, _, rfl, rfl, SqT.of ht7, rfl, rfl, _, rfl, ?_⟩
        refine ⟨_, rfl, t, _, 2, _, rfl, rfl, SqT.of ht7, rfl, _, rfl, _, rfl, t, _, 1, _, rfl, rfl, SqT.of ht7, rfl, p, _, rfl, DPut.k (k := Sum.inr (S k)) hp7 (szl (by unfold dkv; rw [List.length_map]; omega)), ?_⟩
        rw [putK_rows]
        have gq : Go (tbs K) (fun c => c = p) H7 (upd H7 p (.dK (dkv (putR rows' k x)))) := .set hp7 rfl rfl rfl
        have hFp : F2 ≠ p := fun e => by rw [e, hp7] at hF7; cases hF7
        refine ⟨g7.put hp hp7 rfl rfl, putR rows' k x, o3, F2, _, _, _, _, _, _, upd_same, gq.lst hF7 hFp, putR_keys hkn2, Nat.le_trans putR_len (by omega), fun r hr => ?_, by rw [hcn]; exact hT3, ?_, ?_, ?_, rfl⟩
        · rcases putR_mem hr with rfl | h
          · exact ⟨heok.1, heok.2⟩
          · exact hok2 r h
        · rw [hcome]
          show acc ++ (visO o2 (.put k x) ++ match doD o2 (.put k x) with | .ok o' => come o' _ | .error _ => []) = (acc ++ (wlkO o2 [] k).map (·.1)) ++ _
          rw [he3, hvis, List.append_assoc]
        · rw [hcn]
          exact hbeh2
        · rw [List.length_append, List.length_map]
          show _ ≤ 20 * (i + 1)
          have : (wlkO o2 [] k).length ≤ 10 := hwlen
          omega
      | drop k =>
        have hck : cn rows' k ≠ none := fun hc => by
          unfold beh at hbeh2
          rw [if_pos hc] at hbeh2
          cases hbeh2
        obtain ⟨o3, he3, hT3⟩ := (drop_tree hT2 heok).2 hck
        have hcn : cn (dropR rows' k) = after (cn rows') (.drop k) := by
          funext y
          rw [cn_drop]
          rfl
        obtain ⟨xv, hxv⟩ : ∃ xv, cn rows' k = some xv := by
          cases e : cn rows' k with
          | none => exact absurd e hck
          | some xv => exact ⟨xv, rfl⟩
        cases o2 with
        | none => exact absurd (hT2 k) (by rw [hxv]; simp)
        | some t2 =>
          obtain ⟨w1, w2, w3, w4⟩ := id hT2
          refine ⟨_, rfl, t, _, 0, _, rfl, rfl, SqT.of ht7, rfl, rfl, _, rfl, ?_⟩
          refine ⟨_, rfl, t2, k, xv, wl, ws, rfl, hwl7, hws7, w1, w3, w2, by rw [w4]; exact hxv, fun v8 H8 g8 hv8 => ?_⟩
          have hF8 := g8.lst hF7 id
          have hp8 := g8.dK hp7 id
          have ht8 := g8.tup ht7
          have hbeh3 : (beh (cn (dropR rows' k)) (row.drop (i + 1))).2 = none := by
            unfold beh at hbeh2
            rw [if_neg hck] at hbeh2
            rw [hcn]
            exact hbeh2
          have hcome3 : come o row = acc ++ (wlk t2 [] k).map (·.1) ++ (lone t2 [] k).toList ++ come o3 (row.drop (i + 1)) := by
            rw [hcome]
            show acc ++ ((visP t2 [] k ++ (lone t2 [] k).toList) ++ match doD (some t2) (.drop k) with | .ok o' => come o' _ | .error _ => []) = _
            rw [he3, wlk_ways]
            simp
          have fin : ∀ (H9 : Hp) (F3 : Addr) (c8 : Option V), Gz K H H9 → H9 p = some (.dK (dkv rows')) → H9 t = some (.tup (dV (.drop k))) → H9 F3 = some (.lst ((acc ++ (wlk t2 [] k).map (·.1) ++ (lone t2 [] k).toList).map fun z => V.str (S z))) →
              Gz K H (upd H9 p (.dK (dkv (dropR rows' k)))) ∧ ∃ (rows'' : List (W × W)) (o' : Option T) (F : Addr) (acc : List W) (a4 a5 a6 a7 a8' : Option V), (upd H9 p (.dK (dkv (dropR rows' k)))) p = some (.dK (dkv rows'')) ∧ (upd H9 p (.dK (dkv (dropR rows' k)))) F = some (.lst (acc.map fun z => V.str (S z))) ∧ KeysN rows'' ∧ rows''.length ≤ 20 + (i + 1) ∧ (∀ r ∈ rows'', RowG r) ∧ IsTree o' (cn rows'') ∧
                come o row = acc ++ come o' (row.drop (i + 1)) ∧ (beh (cn rows'') (row.drop (i + 1))).2 = none ∧ acc.length ≤ 20 * (i + 1) ∧ [some (.ref d), some (.ref a), some (.ref p), some (.ref F3), some (.ref t), some (.ref wl), b6, b7, c8] = [some (.ref d), some (.ref a), some (.ref p), some (.ref F), a4, a5, a6, a7, a8'] := by
            intro H9 F3 a8 g9 hp9 ht9 hF9
            have gq : Go (tbs K) (fun c => c = p) H9 (upd H9 p (.dK (dkv (dropR rows' k)))) := .set hp9 rfl rfl rfl
            have hFp : F3 ≠ p := fun e => by rw [e, hp9] at hF9; cases hF9
            refine ⟨g9.put hp hp9 rfl rfl, dropR rows' k, o3, F3, _, _, _, _, _, _, upd_same, gq.lst hF9 hFp, dropR_keys hkn2, Nat.le_trans dropR_len (by omega), fun r hr => hok2 r (dropR_mem hr), by rw [hcn]; exact hT3, hcome3, hbeh3, ?_, rfl⟩
            have h1 : (lone t2 [] k).toList.length ≤ 1 := by cases lone t2 [] k <;> simp
            have h2 : (wlk t2 [] k).length ≤ 10 := hwlen
            rw [List.length_append, List.length_append, List.length_map]
            omega
          have h1 : (wlk t2 [] k).length ≤ 10 := hwlen
          refine ⟨_, rfl, _, rfl, rfl, _, rfl, ?_⟩
          cases hlone : lone t2 [] k with
          | none =>
            rw [hlone] at hv8 fin
            have hv8 : v8 = .non := hv8
            subst hv8
            refine ⟨by show 0 ≤ sizeLine; decide, fun L hL => ?_⟩
            have gL : Gz K H8 (upd H8 L (.lst [])) := .new hL
            refine ⟨F2, L, _, _, rfl, rfl, gL.lst hF8 id, upd_same, sz (by rw [List.length_map, List.length_append, List.length_map]; simp only [List.length_nil]; have : (wlkO (some t2) [] (dkey (.drop k))).length ≤ 10 := hwlen; omega), fun F3 hF3 => ?_⟩
            have g3 : Gz K (upd H8 L (.lst [])) (upd (upd H8 L (.lst [])) F3 (.lst (((acc ++ (wlkO (some t2) [] (dkey (.drop k))).map (·.1)).map fun z => V.str (S z)) ++ []))) := .new hF3
            have gB := g8.trans (gL.trans g3)
            refine ⟨_, rfl, p, rfl, .inl ⟨_, .inl (gB.dK hp7 id)⟩, _, rfl, t, _, 1, _, rfl, rfl, SqT.of (gB.tup ht7), rfl, _, Sum.inr (S k), _, gB.dK hp7 id, rfl, by rw [valV_dkv, hxv]; rfl, ?_⟩
            rw [dropK_rows]
            refine fin _ F3 _ (g7.trans gB) (gB.dK hp7 id) (gB.tup ht7) ?_
            rw [upd_same, List.append_nil]
            simp [wlkO, dkey]
          | some z =>
            rw [hlone] at hv8 fin
            obtain ⟨a8, v8', rfl, ha8⟩ : ∃ a8 v8', v8 = .ref a8 ∧ H8 a8 = some (.tup [.str (S z), v8']) := hv8
            refine ⟨_, rfl, a8, _, 0, _, rfl, rfl, SqT.of ha8, rfl, by show 1 ≤ sizeLine; decide, fun L hL => ?_⟩
            have gL : Gz K H8 (upd H8 L (.lst [.str (S z)])) := .new hL
            refine ⟨F2, L, _, _, rfl, rfl, gL.lst hF8 id, upd_same, sz (by rw [List.length_map, List.length_append, List.length_map]; simp only [List.length_cons, List.length_nil]; have : (wlkO (some t2) [] (dkey (.drop k))).length ≤ 10 := hwlen; omega), fun F3 hF3 => ?_⟩
            have g3 : Gz K (upd H8 L (.lst [.str (S z)])) (upd (upd H8 L (.lst [.str (S z)])) F3 (.lst (((acc ++ (wlkO (some t2) [] (dkey (.drop k))).map (·.1)).map fun z => V.str (S z)) ++ [.str (S z)]))) := .new hF3
            have gB := g8.trans (gL.trans g3)
            refine ⟨_, rfl, p, rfl, .inl ⟨_, .inl (gB.dK hp7 id)⟩, _, rfl, t, _, 1, _, rfl, rfl, SqT.of (gB.tup ht7), rfl, _, Sum.inr (S k), _, gB.dK hp7 id, rfl, by rw [valV_dkv, hxv]; rfl, ?_⟩
            rw [dropK_rows]
            refine fin _ F3 _ (g7.trans gB) (gB.dK hp7 id) (gB.tup ht7) ?_
            rw [upd_same]
            simp [wlkO, dkey]
    · rintro σ H' ⟨g2, rows', o', F', acc, a4, a5, a6, a7, a8, hp2, hF2, hkn2, hlen2, hok2, hT2, hcome, hbeh2, hal, rfl⟩
      refine ⟨_, rfl, q F' H' g2 ?_⟩
      have hxl : xs.length = row.length := hrow.length.symm
      rw [hxl, List.drop_length, come, List.append_nil] at hcome
      rw [hcome]
      exact hF2
end
end Seal
namespace Seal
open PySem PySem.Spec PyProof.Rows L2 LamX NdefX
/-! ### an exception that is kept behind its clause -/
/-- the exception at a: of the class cls, its dict at d -/
def ExO (a : Addr) (cls : Value) (d : Option Addr) : HO := .ext fun h => ∃ oe, h.get? a = some oe ∧ Zc cls d oe ∧ ∃ vs, oe.data = .fields vs
theorem exO_ok {P : Program} {w : World} {H : Hp} {h : Heap} {a : Addr} {cls : Value} {d : Option Addr} {oe : Obj} (e : h.get? a = some oe) (z : Zc cls d oe) (f : ∃ vs, oe.data = .fields vs) : ObjOk P w H h a (ExO a cls d) :=
  ⟨⟨oe, e, z, f⟩, ⟨oe, e⟩, fun h1 h2 ⟨o, e1, z1, f1⟩ st => ⟨o, st o e1, z1, f1⟩⟩
theorem exO_at {P : Program} {w : World} {H : Hp} {h : Heap} {a : Addr} {cls : Value} {d : Option Addr} (hok : HOk P w H h) (e : H a = some (ExO a cls d)) : ∃ oe, h.get? a = some oe ∧ Zc cls d oe ∧ ∃ vs, oe.data = .fields vs := (hok a _ e).1
section
variable {X : Cx} {pins : List (Addr × Obj)} {σ : L2.St} {H : Hp} {s : Shared} {a : Addr} {cls : Value} {d : Option Addr} {oe : Obj}
/-- it is tracked from now on -/
theorem inv_track (I : Inv X pins σ H s) (ha : s.heap.get? a = some oe) (hz : Zc cls d oe) (hd : ∃ vs, oe.data = .fields vs) (na : H a = none) (nL : a ≠ X.env.locals) (n0 : X.s_0.heap.get? a = none) (hp : ∀ p ∈ X.pn ++ pins, p.1 ≠ a) :
    Inv X pins σ (upd H a (ExO a cls d)) s := by
  have keep : ∀ b u, H b = some u → upd H a (ExO a cls d) b = some u := fun b u e => by rw [upd_ne (ne_of_none e na)]; exact e
  refine ⟨I.ok, I.os, I.bare, ⟨I.base.keep, I.base.slot, fun b o e n hx => ?_, I.base.there, fun b xs e => keep b _ (I.base.tups b xs e), fun b o u e => keep b _ (I.base.frzs b o u e), fun b ps e => ?_⟩, I.loc, I.cell, ?_, fun x c e => ?_, fun p q => ?_, fun b u e => ?_, I.len⟩
  · rw [upd_ne fun z => by rw [z, n0] at e; cases e]
    exact I.base.free b o e n hx
  · obtain ⟨more, h⟩ := I.base.tbls b ps e
    exact ⟨more, keep b _ h⟩
  · rw [upd_ne nL.symm]; exact I.free
  · rw [upd_ne]
    · exact I.freeC x c e
    · intro z
      obtain ⟨v, o, h1, h2⟩ := I.cell x c e
      rw [z, ha] at h1
      cases h1
      obtain ⟨vs, h3⟩ := hd
      rw [h3] at h2
      cases h2
  · obtain ⟨h1, h2, h3⟩ := I.pin p q
    exact ⟨h1, by rw [upd_ne (hp p q)]; exact h2, h3⟩
  · by_cases hb : b = a
    · subst hb
      rw [upd_same] at e
      cases e
      exact exO_ok ha hz hd
    · rw [upd_ne hb] at e
      exact (I.hok b u e).stay (fun _ _ _ q => q) (fun c q => keep c _ q) fun c xs q => keep c _ q
end
/-- what the clause 'except x as n: y = n' wishes, where it takes all that comes -/
def wKept (K : PySem.W.Frag) (c : Value) (i j : Nat) (D : Ends) : WX := fun cls d σ H => PySem.W.exmOne K cls c = some true ∧ ∀ a, H a = none → D.nx (((σ.set i (some (.ref a))).set j (some (.ref a))).set i none) (upd H a (ExO a cls d))
section
variable {X : Cx} {x n y : Str} {c : Value} {i j : Nat} {body : List Stmt} {np pos pos' p1 p2 p3 : Pos} {tb : WX → TS}
theorem ps_try_kept (hs : X.stack = X.env :: X.outer) (hf : X.env.frame = some X.env.locals) (hN : X.N.Nodup) (hi : X.N[i]? = some n) (hln : X.env.kindOf n = some .local) (hj : X.N[j]? = some y) (hlj : X.env.scope.names.lookup y = some .local) (hil : i < X.N.length) (hc : Names X x c) (hex : X.ex = []) (hdb : (n == ("__debug__" : Str)) = false) (hcd : (n == ("__classdict__" : Str)) = false)
    (hb : ∀ (W : WX) (pn : List (Addr × Obj)) (xe : Value → Shared → Prop), Takes (X.tr pn xe) W → PassesOwn (model X.prog X.w) X.A X.env xe → PSs (X.tr pn xe) body (tb W))
    (hsw : swapsWith (.Name n p2) (some (.Name y p1)) p3.line X.env = pure false := by rfl) :
    PS X (.Try body [.ExceptHandler (some (.Name x np)) (some n) [.Assign [.Name y p1] (.Name n p2) p3] pos'] [] [] pos) (fun D σ H => tb (wKept X.K c i j D) D σ H) := by
  refine ⟨fun pins s σ H D I h => ?_⟩
  have ok := I.ok
  have fr : X.A.frames = some (X.env :: X.outer) := by rw [ok.frames, hs]
  refine wpAny_Try_except ?_
  refine wpAny_mono ((hb (wKept X.K c i j D) (X.pn ++ pins) (fun e s₁ => wpAny (model X.prog X.w) X.A (noteFrame e X.env) (fun _ s₂ => wpAny (model X.prog X.w) X.A (setFlight e none) (fun _ s₃ =>
    wpAny (model X.prog X.w) X.A (handleBy e X.env [.ExceptHandler (some (.Name x np)) (some n) [.Assign [.Name y p1] (.Name n p2) p3] pos']) (SP X pins D) X.xe s₃) X.xe s₂) X.xe s₁) (fun u s' got => ?_) PassesOwn.looking).run [] s σ H D (I.toTry _) h) (fun f s1 hsp => ?_) (fun e s1 he => he)
  · obtain ⟨a, B, sI, pins', σ', H', cls, d, rfl, J', nb, up, sky, na, os, ag, takes, next⟩ := got
    have J : Inv X pins σ' H' sI := J'.ofTry ok
    rw [show (X.tr (X.pn ++ pins) _).stack = X.env :: X.outer from hs] at sky
    show wpAny (model X.prog X.w) X.A (noteFrame (.ref a) X.env) _ _ _
    refine Sky.land Zc.steady fr hf sky fun h3 fl3 up3 => ?_
    have J3 : Inv X pins σ' H' { s' with heap := h3 } := J.landed nb fl3.1 (up.trans up3) os ag
    obtain ⟨oe3, vs3, he3, hz3, hd3⟩ := fl3.there
    have aside : a ∉ frs (X.env :: X.outer) := fun hm => by
      obtain ⟨_, o', e', hnf⟩ := fl3.2.2.1.mem hm
      rw [he3] at e'
      cases e'
      exact hnf _ hd3
    have nL : a ≠ X.env.locals := fun z => aside (List.mem_filterMap.mpr ⟨X.env, List.mem_cons_self, by rw [hf, z]⟩)
    have nF : a ∉ X.fs := fun hm => by
      obtain ⟨e, he, q⟩ := List.mem_filterMap.mp hm
      exact aside (List.mem_filterMap.mpr ⟨e, List.mem_cons_of_mem _ he, q⟩)
    have nB : B.get? a = none := fl3.2.1
    have fresh : ∀ b o, sI.heap.get? b = some o → b ∉ frs X.stack → b ≠ a := fun b o e hb z => by
      have := nb b o e hb
      rw [z, nB] at this
      cases this
    have aside' : a ∉ frs X.stack := by rw [hs]; exact aside
    have n0 : X.s_0.heap.get? a = none := by
      cases e : X.s_0.heap.get? a with
      | none => rfl
      | some o =>
        by_cases hx : a ∈ X.ex
        · rw [hex] at hx
          cases hx
        · obtain ⟨o', e1⟩ := J.base.there a o e hx
          exact absurd rfl (fresh a o' e1 aside')
    have S3 := J3.suite he3 hd3 na nL nF
    refine wpAny_handleBy_cons (codeAny_handlers_test ?_) (by intro q; cases q)
    have looksT : PySem.W.Looks (model X.prog X.w) h3 (typeOf (.ref a)) cls := fun A Q E s k q => wpAny_typeOf_ref (k _ _ he3) (by rw [hz3.1]; exact q)
    have looksM := PySem.W.exm_one (M := model X.prog X.w) (J3.kIn) looksT takes
    have test : ∀ {Q : Value → Shared → Prop} {E : Value → Shared → Prop}, Q c { s' with heap := h3 } → wpAny (model X.prog X.w) (X.A.mark (some (.ref a))) (eval (.Name x np) X.env) Q E { s' with heap := h3 } := fun {Q E} q => by
      obtain ⟨hg, hdbg, hm | ⟨hm, hv, hnn⟩⟩ := hc
      · exact ld_glob (X := X.suite a ((a, oe3) :: (X.pn ++ pins))) S3 hg hm q hdbg
      · exact ld_blt (X := X.suite a ((a, oe3) :: (X.pn ++ pins))) S3 hg hm hv q hnn hdbg
    refine test (looksM.here ?_)
    refine codeAny_handlers_suite_as ?_
    refine HandSPX.lands_againZ fl3 fun h4 fl4 up4 => ?_
    have J4 : Inv X pins σ' H' { s' with heap := h4 } := J.landed nb fl4.1 ((up.trans up3).trans up4) os ag
    obtain ⟨oe4, vs4, he4, hz4, hd4⟩ := fl4.there
    have S4 := J4.suite he4 hd4 na nL nF
    refine store_ok (X := X.suite a ((a, oe4) :: (X.pn ++ pins))) (v := .ref a) S4 hN hi (.inl hln) rfl (fun s5 S5 => ?_) (.inr hln)
    have run := (pss_one (ps_set (X := X.suite a ((a, oe4) :: (X.pn ++ pins))) (pos := p3) (pos' := p1) (i := j) hN hj (.inl hlj) (pe_var (pos := p2) (i := i) hi (.inl hln) hdb hcd) hsw (.inr hlj))).run [] s5 _ H' { nx := fun σ6 H6 => σ6 = (σ'.set i (some (.ref a))).set j (some (.ref a)) ∧ H6 = H', rt := fun _ _ => False } S5 ⟨.ref a, by rw [List.getElem?_set_self (by rw [J4.len]; exact hil)], rfl, rfl⟩
    refine wpAny_mono run (fun f s6 hsp => ?_) (fun _ _ z => False.elim z)
    cases f with
    | next =>
      obtain ⟨σ6, H6, S6, rfl, rfl⟩ := hsp
      obtain ⟨hp6, _⟩ := S6.pin (a, oe4) (List.mem_append_left _ List.mem_cons_self)
      have J6 := S6.unsuite ok
      have T6 := inv_track J6 hp6 hz4 ⟨_, hd4⟩ na nL n0 fun p hp => by
        obtain ⟨h1, h2, h3, h4, _⟩ := J.pin p hp
        refine fresh p.1 p.2 h1 fun hm => ?_
        rcases List.mem_cons.mp (J.stkSub _ hm) with z | z
        · exact h3 z
        · exact h4 z
      exact gone_ok T6 hN hi hln fun s7 J7 => ⟨_, _, J7, next a na⟩
    | brk => obtain ⟨_, _, _, q⟩ := hsp; exact q.elim
    | cont => obtain ⟨_, _, _, q⟩ := hsp; exact q.elim
    | ret u => obtain ⟨_, _, _, _, _, q⟩ := hsp; exact q.elim
  · cases f with
    | next =>
      obtain ⟨σ', H', J', q⟩ := hsp
      exact wpAny_execs_nil ⟨σ', H', J'.ofTry ok, q⟩
    | brk =>
      obtain ⟨σ', H', J', q⟩ := hsp
      exact ⟨σ', H', J'.ofTry ok, q⟩
    | cont =>
      obtain ⟨σ', H', J', q⟩ := hsp
      exact ⟨σ', H', J'.ofTry ok, q⟩
    | ret u =>
      obtain ⟨v, σ', H', J', r, q⟩ := hsp
      exact ⟨v, σ', H', J'.ofTry ok, r, q⟩
end
end Seal
namespace Seal
open PySem PySem.Spec PyProof.Rows L2 LamX NdefX
/-! ### isinstance of an exception that is kept, its fields -/
def rIsiX (K : PySem.W.Frag) : List V → Hp → VK → Prop := fun xs H Q => ∃ (a D d : Addr) (fs : List (Str × V)) (c : V) (cv : Value) (b : Bool), xs = [.ref a, c] ∧ H a = some (ExO a (.ref D) (some d)) ∧ H d = some (.xd fs) ∧ ExcC K D ∧ ClsV c cv ∧ PySem.W.kitOne K (.ref D) cv = some b ∧ Q (.bl b) H
section
variable {X : Cx}
theorem inst_exO {pins : List (Addr × Obj)} {σ : L2.St} {H : Hp} {s : Shared} {a D d : Addr} {fs : List (Str × V)} (I : Inv X pins σ H s) (ha : H a = some (ExO a (.ref D) (some d))) (hd : H d = some (.xd fs)) :
    ∃ (oe od : Obj) (mA : Str → Option Value), PySem.W.InstAt s.heap a oe D (some od) ∧ (∀ n, PySem.W.lookIn n od = some (mA n)) ∧ ∀ f, RelO (fs.lookup f) (mA f) := by
  obtain ⟨oe, h1, h2, vs, h3⟩ := exO_at I.hok ha
  obtain ⟨mA, hns, hr⟩ := (show ObjOk X.prog X.w H s.heap d (.xd fs) from I.hok d _ hd)
  obtain ⟨od, ho, hl⟩ := lookIn_ns hns
  exact ⟨oe, od, mA, ⟨h1, h2.1, by unfold PySem.W.notCls; rw [h3] <;> rfl, by rw [h2.2]; exact ho⟩, hl, hr⟩
theorem call_isiX : CallR X (.builtin "isinstance") (rIsiX X.K) := by
  intro pins s σ H xs us Q I r h
  obtain ⟨a, D, d, fs, c, cv, b, rfl, ha, hd, C, hc, e, q⟩ := h
  obtain ⟨u1, u2, rfl, r1, r2⟩ := vals2 r
  cases (show u1 = Value.ref a from r1)
  obtain rfl := hc.eq r2
  obtain ⟨oe, od, mA, J, _, _⟩ := inst_exO I ha hd
  obtain ⟨cd, hcd, _⟩ := PySem.W.any_some C.hd
  exact PySem.W.kia_one (PySem.W.kitx_exc (by rw [hcd]; rfl) C.hg C.hk C.hs C.ha C.hn C.ht C.hm) I.kIn J e (fun z => nomatch z) fun tk => ⟨.bl b, H, I.tok tk, rfl, q⟩
def tXfO (D : Addr) (n : Str) (te : TE) : TE := fun σ H Q => te σ H fun x H1 => ∃ (a d : Addr) (fs : List (Str × V)) (v : V), x = .ref a ∧ H1 a = some (ExO a (.ref D) (some d)) ∧ H1 d = some (.xd fs) ∧ fs.lookup n = some v ∧ Q v H1
theorem pe_xfO {D : Addr} {n : Str} {e : Expr} {te : TE} {pos : Pos} (T : XfC X.K D) (hno : PySem.W.findIn X.K (.ref D) n = some none) (he : PE X e te) (hb : attributeBase e n X.env (eval e X.env) = eval e X.env := by rfl) : PE X (.Attribute e n pos) (tXfO D n te) := by
  refine ⟨fun pins s σ H Q I h => ?_⟩
  refine attr_of hb (thn (he.run pins s σ H _ I h) fun u s1 hh => ?_)
  obtain ⟨x, H1, I1, rx, a, d, fs, v, rfl, ha, hd, l, q⟩ := hh
  obtain rfl : u = Value.ref a := rx
  obtain ⟨oe, od, mA, J, hl, hr⟩ := inst_exO I1 ha hd
  obtain ⟨u, hu, ru⟩ := RelO.some_of (v := v) (o := mA n) (by rw [← l]; exact hr n)
  exact HandSPX.exc_get I1.kIn J T.ga T.gg T.exC (PySem.W.findObj_own T.hdC hno rfl (by rw [hl, hu])) (handed_of ru) ⟨v, H1, I1.tok _, ru, q⟩
theorem pe_never {e : Expr} : PE X e (fun _ _ _ => False) := ⟨fun _ _ _ _ _ _ h => h.elim⟩
end
/-! ### the word of a refusal -/
def exNames : List Str := ["BadKey", "BadValue", "BadNode", "BadPatch", "NoText", "Clash", "NoPaper", "Mismatch", "Conflict", "NoVersion", "Latest", "NoGrowth", "NoKey", "Unseen", "NoRoot", "BadDeed"]
structure WordX (K : PySem.W.Frag) (mg : Str → Option Value) : Prop where
  c : ∀ x ∈ exNames, mg x = some (.ref (He.ga K x))
  kit : ∀ C ∈ [("Unseen" : Str), "NoKey"], ∀ x ∈ exNames, PySem.W.kitOne K (.ref (He.ga K C)) (.ref (He.ga K x)) = some (decide (x = C))
  ve : ∀ C ∈ [("Unseen" : Str), "NoKey"], PySem.W.kitOne K (.ref (He.ga K C)) (.type "ValueError") = some true
  ex : ∀ C ∈ [("Unseen" : Str), "NoKey"], ExcC K (He.ga K C)
  xU : XfC K (He.ga K "Unseen")
  nU : PySem.W.findIn K (.ref (He.ga K "Unseen")) "way" = some none
  xN : XfC K (He.ga K "NoKey")
  nN : PySem.W.findIn K (.ref (He.ga K "NoKey")) "key" = some none
  se : mg "SealError" = some (.ref (He.ga K "SealError"))
  sm : ∀ C ∈ [("Unseen" : Str), "NoKey"], PySem.W.exmOne K (.ref (He.ga K C)) (.ref (He.ga K "SealError")) = some true
theorem sc_L_word : FnScope ["_law_e", "_law_kinds", "_law_words", "_law_word_here", "_law_good_here"] ["_law_e"] (defScope s_L_word) := ⟨rfl, rfl, rfl, by decide +kernel, rfl, by decide +kernel, by decide +kernel⟩
theorem bind_L_word : BindQ "_law_word" "_law_word" s_L_word ["_law_e"] := fun _ _ _ _ _ _ us hl => match us, hl with | [_], _ => rfl
def errC : Err → Str
  | .unseen _ => "Unseen"
  | .nokey _ => "NoKey"
def errF : Err → Str
  | .unseen _ => "way"
  | .nokey _ => "key"
def errX : Err → W
  | .unseen x => x
  | .nokey x => x
def ExE (K : PySem.W.Frag) (H : Hp) (a : Addr) (e : Err) : Prop := ∃ d, H a = some (ExO a (.ref (He.ga K (errC e))) (some d)) ∧ H d = some (.xd [(errF e, .str (S (errX e)))])
theorem ExE.keep {K : PySem.W.Frag} {H H' : Hp} {a : Addr} {e : Err} (g : Keep H H') (h : ExE K H a e) : ExE K H' a e := by
  obtain ⟨d, h1, h2⟩ := h
  exact ⟨d, g a _ h1 rfl, g d _ h2 rfl⟩
def errV (e : Err) : List V := [.str (errC e), .str (S (errX e))]
def spWord (K : PySem.W.Frag) : Sp := fun vs H Q _ => ∃ (a : Addr) (e : Err), vs = [.ref a] ∧ ExE K H a e ∧ ∀ u H', Gz K H H' → H' u = some (.tup (errV e)) → Q (.ref u) H'
theorem paired_app {α β : Type} {F : α → β → Prop} {a b : List α} {c d : List β} (h : Paired F a c) (h' : Paired F b d) : Paired F (a ++ b) (c ++ d) := by
  induction h with
  | nil => exact h'
  | cons x _ ih => exact .cons x ih
theorem paired_ix {α β : Type} {F : α → β → Prop} : ∀ {l : List α} {xs : List β}, Paired F l xs → ∀ {i : Nat} {x : β}, xs[i]? = some x → ∃ a, l[i]? = some a ∧ F a x
  | _, _, .nil, i, x, h => by simp at h
  | _, _, .cons a b, 0, x, h => by
    simp at h
    subst h
    exact ⟨_, rfl, a⟩
  | _, _, .cons a b, i + 1, x, h => by
    obtain ⟨d, h1, h2⟩ := paired_ix b (i := i) (by simpa using h)
    exact ⟨d, by simpa using h1, h2⟩
def KindsAt (e : Err) (H : Hp) (F : Addr) (xs : List Str) : Prop := ∃ vs, H F = some (.lst vs) ∧ Paired (fun x v => ∃ p, v = V.ref p ∧ H p = some (.tup [.str x, .bl (decide (x = errC e))])) xs vs
theorem KindsAt.keep {K : PySem.W.Frag} {e : Err} {H H' : Hp} {F : Addr} {xs : List Str} (g : Gz K H H') (h : KindsAt e H F xs) : KindsAt e H' F xs := by
  obtain ⟨vs, h1, h2⟩ := h
  exact ⟨vs, g.lst h1 id, L2.Paired.mapP h2 fun x v ⟨p, e1, e2⟩ => ⟨p, e1, g.tup e2⟩⟩
def tTwo (K : PySem.W.Frag) (x y : Str) : TE := tLst (tCons (tTup (tCons (tC (.str x)) (tCons (tCB (rIsiX K) (tCons (tVar 0) (tCons (tC (.ref (He.ga K x))) tNil))) tNil))) (tCons (tTup (tCons (tC (.str y)) (tCons (tCB (rIsiX K) (tCons (tVar 0) (tCons (tC (.ref (He.ga K y))) tNil))) tNil))) tNil))
theorem errC_mem (e : Err) : errC e ∈ [("Unseen" : Str), "NoKey"] := by cases e <;> simp [errC]
theorem two_kinds {K : PySem.W.Frag} {mg : Str → Option Value} (WG : WordX K mg) {e : Err} {σ : L2.St} {H : Hp} {a : Addr} (h0 : σ[0]? = some (some (.ref a))) (he : ExE K H a e) {x y : Str} (hx : x ∈ exNames) (hy : y ∈ exNames) {Q : VK} (q : ∀ L H', Gz K H H' → KindsAt e H' L [x, y] → Q (.ref L) H') : tTwo K x y σ H Q := by
  obtain ⟨d, h1, h2⟩ := id he
  refine ⟨_, h0, a, _, d, _, _, _, _, rfl, h1, h2, WG.ex _ (errC_mem e), .own _, WG.kit _ (errC_mem e) x hx, by show 2 ≤ sizeLine; decide, fun p hp => ?_⟩
  have gp : Gz K H (upd H p (.tup [.str x, .bl (decide (x = errC e))])) := .new hp
  obtain ⟨d, h1, h2⟩ := he.keep gp.keep
  refine ⟨_, h0, a, _, d, _, _, _, _, rfl, h1, h2, WG.ex _ (errC_mem e), .own _, WG.kit _ (errC_mem e) y hy, by show 2 ≤ sizeLine; decide, fun r hr => ?_⟩
  have gr : Gz K (upd H p (.tup [.str x, .bl (decide (x = errC e))])) (upd (upd H p (.tup [.str x, .bl (decide (x = errC e))])) r (.tup [.str y, .bl (decide (y = errC e))])) := .new hr
  refine ⟨by show 2 ≤ sizeLine; decide, fun L hL => ?_⟩
  have gL : Gz K (upd (upd H p (.tup [.str x, .bl (decide (x = errC e))])) r (.tup [.str y, .bl (decide (y = errC e))])) (upd (upd (upd H p (.tup [.str x, .bl (decide (x = errC e))])) r (.tup [.str y, .bl (decide (y = errC e))])) L (.lst [.ref p, .ref r])) := .new hL
  exact q L _ (gp.trans (gr.trans gL)) ⟨_, upd_same, .cons ⟨p, rfl, (gr.trans gL).tup upd_same⟩ (.cons ⟨r, rfl, gL.tup upd_same⟩ .nil)⟩
theorem more_kinds {K : PySem.W.Frag} {mg : Str → Option Value} (WG : WordX K mg) {e : Err} {σ : L2.St} {H : Hp} {a F : Addr} {xs : List Str} (h0 : σ[0]? = some (some (.ref a))) (h1 : σ[1]? = some (some (.ref F))) (he : ExE K H a e) (hF : KindsAt e H F xs) (hl : xs.length ≤ 100) {x y : Str} (hx : x ∈ exNames) (hy : y ∈ exNames) {Q : VK}
    (q : ∀ L H', Gz K H H' → KindsAt e H' L (xs ++ [x, y]) → Q (.ref L) H') : tOp rCat (tVar 1) (tTwo K x y) σ H Q := by
  refine ⟨_, h1, two_kinds WG h0 he hx hy fun L H1 g1 hL => ?_⟩
  obtain ⟨vs, f1, f2⟩ := hF.keep g1
  obtain ⟨us, l1, l2⟩ := hL
  refine ⟨F, L, vs, us, rfl, rfl, f1, l1, sz (by rw [← f2.length, ← l2.length]; simp; omega), fun p hp => ?_⟩
  have gp : Gz K H1 (upd H1 p (.lst (vs ++ us))) := .new hp
  refine q p _ (g1.trans gp) ⟨_, upd_same, ?_⟩
  exact paired_app (L2.Paired.mapP f2 fun x v ⟨p, e1, e2⟩ => ⟨p, e1, gp.tup e2⟩) (L2.Paired.mapP l2 fun x v ⟨p, e1, e2⟩ => ⟨p, e1, gp.tup e2⟩)
section
variable {P : Program} {w : World} {K : PySem.W.Frag} {mg : Str → Option Value} {base : Heap}
theorem D_L_word (n : Fn1 K mg "_law_word" s_L_word) (G : TX K mg) (WG : WordX K mg) : Def P w K mg base CX0 1 "_law_word" ["_law_e"] (spWord K) := by
  refine n.mk0 sc_L_word bind_L_word (fun vs H Q E h => ?_) (fun cdv A outer s H vs Q E hr h => ?_)
  · obtain ⟨_, _, rfl, _⟩ := h
    rfl
  · obtain ⟨a, e, rfl, he, q⟩ := h
    refine ⟨_, (pss_cons (ps_set (i := 1) sc_L_word.nd rfl (Or.inl rfl) (pe_lst (pa_cons (pe_tup (pa_cons pe_str (pa_cons (pe_callB call_isiX (by rfl) G.b_isinstance (by decide +kernel) (pa_cons (pv 0) (pa_cons (pe_gR (WG.c "BadKey" (by decide))) pa_nil))) pa_nil))) (pa_cons (pe_tup (pa_cons pe_str (pa_cons (pe_callB call_isiX (by rfl) G.b_isinstance (by decide +kernel) (pa_cons (pv 0) (pa_cons (pe_gR (WG.c "BadValue" (by decide))) pa_nil))) pa_nil))) pa_nil))))
      (pss_cons (ps_set (i := 1) sc_L_word.nd rfl (Or.inl rfl) (pe_op op_cat (pv 1) (pe_lst (pa_cons (pe_tup (pa_cons pe_str (pa_cons (pe_callB call_isiX (by rfl) G.b_isinstance (by decide +kernel) (pa_cons (pv 0) (pa_cons (pe_gR (WG.c "BadNode" (by decide))) pa_nil))) pa_nil))) (pa_cons (pe_tup (pa_cons pe_str (pa_cons (pe_callB call_isiX (by rfl) G.b_isinstance (by decide +kernel) (pa_cons (pv 0) (pa_cons (pe_gR (WG.c "BadPatch" (by decide))) pa_nil))) pa_nil))) pa_nil)))))
      (pss_cons (ps_set (i := 1) sc_L_word.nd rfl (Or.inl rfl) (pe_op op_cat (pv 1) (pe_lst (pa_cons (pe_tup (pa_cons pe_str (pa_cons (pe_callB call_isiX (by rfl) G.b_isinstance (by decide +kernel) (pa_cons (pv 0) (pa_cons (pe_gR (WG.c "NoText" (by decide))) pa_nil))) pa_nil))) (pa_cons (pe_tup (pa_cons pe_str (pa_cons (pe_callB call_isiX (by rfl) G.b_isinstance (by decide +kernel) (pa_cons (pv 0) (pa_cons (pe_gR (WG.c "Clash" (by decide))) pa_nil))) pa_nil))) pa_nil)))))
      (pss_cons (ps_set (i := 1) sc_L_word.nd rfl (Or.inl rfl) (pe_op op_cat (pv 1) (pe_lst (pa_cons (pe_tup (pa_cons pe_str (pa_cons (pe_callB call_isiX (by rfl) G.b_isinstance (by decide +kernel) (pa_cons (pv 0) (pa_cons (pe_gR (WG.c "NoPaper" (by decide))) pa_nil))) pa_nil))) (pa_cons (pe_tup (pa_cons pe_str (pa_cons (pe_callB call_isiX (by rfl) G.b_isinstance (by decide +kernel) (pa_cons (pv 0) (pa_cons (pe_gR (WG.c "Mismatch" (by decide))) pa_nil))) pa_nil))) pa_nil)))))
      (pss_cons (ps_set (i := 1) sc_L_word.nd rfl (Or.inl rfl) (pe_op op_cat (pv 1) (pe_lst (pa_cons (pe_tup (pa_cons pe_str (pa_cons (pe_callB call_isiX (by rfl) G.b_isinstance (by decide +kernel) (pa_cons (pv 0) (pa_cons (pe_gR (WG.c "Conflict" (by decide))) pa_nil))) pa_nil))) (pa_cons (pe_tup (pa_cons pe_str (pa_cons (pe_callB call_isiX (by rfl) G.b_isinstance (by decide +kernel) (pa_cons (pv 0) (pa_cons (pe_gR (WG.c "NoVersion" (by decide))) pa_nil))) pa_nil))) pa_nil)))))
      (pss_cons (ps_set (i := 1) sc_L_word.nd rfl (Or.inl rfl) (pe_op op_cat (pv 1) (pe_lst (pa_cons (pe_tup (pa_cons pe_str (pa_cons (pe_callB call_isiX (by rfl) G.b_isinstance (by decide +kernel) (pa_cons (pv 0) (pa_cons (pe_gR (WG.c "Latest" (by decide))) pa_nil))) pa_nil))) (pa_cons (pe_tup (pa_cons pe_str (pa_cons (pe_callB call_isiX (by rfl) G.b_isinstance (by decide +kernel) (pa_cons (pv 0) (pa_cons (pe_gR (WG.c "NoGrowth" (by decide))) pa_nil))) pa_nil))) pa_nil)))))
      (pss_cons (ps_set (i := 1) sc_L_word.nd rfl (Or.inl rfl) (pe_op op_cat (pv 1) (pe_lst (pa_cons (pe_tup (pa_cons pe_str (pa_cons (pe_callB call_isiX (by rfl) G.b_isinstance (by decide +kernel) (pa_cons (pv 0) (pa_cons (pe_gR (WG.c "NoKey" (by decide))) pa_nil))) pa_nil))) (pa_cons (pe_tup (pa_cons pe_str (pa_cons (pe_callB call_isiX (by rfl) G.b_isinstance (by decide +kernel) (pa_cons (pv 0) (pa_cons (pe_gR (WG.c "Unseen" (by decide))) pa_nil))) pa_nil))) pa_nil)))))
      (pss_cons (ps_set (i := 1) sc_L_word.nd rfl (Or.inl rfl) (pe_op op_cat (pv 1) (pe_lst (pa_cons (pe_tup (pa_cons pe_str (pa_cons (pe_callB call_isiX (by rfl) G.b_isinstance (by decide +kernel) (pa_cons (pv 0) (pa_cons (pe_gR (WG.c "NoRoot" (by decide))) pa_nil))) pa_nil))) (pa_cons (pe_tup (pa_cons pe_str (pa_cons (pe_callB call_isiX (by rfl) G.b_isinstance (by decide +kernel) (pa_cons (pv 0) (pa_cons (pe_gR (WG.c "BadDeed" (by decide))) pa_nil))) pa_nil))) pa_nil)))))
      (pss_cons (ps_setLc (i := 2) (own := [("_law_word_here", 3), ("_law_good_here", 4)]) (g := gTup K 2 (gCons (gName 3) (gCons (gName 4) gNil))) (by rfl) sc_L_word.nd rfl rfl (sw_true rfl rfl rfl (by decide +kernel)) (pi_list (pv 1)) (blkOk_by (N := ["_law_e", "_law_kinds", "_law_words", "_law_word_here", "_law_good_here"]) (sc := defScope s_L_word) (by decide +kernel)) (fun _ _ _ _ _ => pg_tup rfl (pgs_cons (pg_name (i := 3) sc_L_word.nd rfl (Or.inl rfl)) (pgs_cons (pg_name (i := 4) sc_L_word.nd rfl (Or.inl rfl)) pgs_nil))) (fun _ _ _ _ _ => pts_one (pt_val (pv 4))) (fun _ _ _ _ _ => (pv 3)))
      (pss_cons (ps_if (PW.pt (pw_or (pt_cmpR op_ne (pe_callB call_len (by rfl) G.b_len PySem.boot_len (pa_cons (pv 2) pa_nil)) pe_int (nomark _)) (pw_or1 (pt_not (pt_val (pe_callB call_isiX (by rfl) G.b_isinstance (by decide +kernel) (pa_cons (pv 0) (pa_cons (pe_ty (n := "ValueError") G.b_ValueError (by decide +kernel)) pa_nil)))))))) (pss_one (ps_ret pe_str)) pss_nil)
      (pss_cons (ps_if (pt_cmpR op_eq (pe_ix ix_list (pv 2) pe_int (fun _ _ => rfl)) pe_str (nomark _)) (pss_one (ps_ret (pe_tup (pa_cons pe_str (pa_cons (pe_xfO WG.xN WG.nN (pv 0)) pa_nil))))) pss_nil)
      (pss_cons (ps_if (pt_cmpR op_eq (pe_ix ix_list (pv 2) pe_int (fun _ _ => rfl)) pe_str (nomark _)) (pss_one (ps_ret (pe_tup (pa_cons pe_str (pa_cons (pe_xfO WG.xU WG.nU (pv 0)) pa_nil))))) pss_nil)
      (pss_cons (ps_if (pt_cmpR op_eq (pe_ix ix_list (pv 2) pe_int (fun _ _ => rfl)) pe_str (nomark _)) (pss_one (ps_ret (pe_tup (pa_cons pe_str (pa_cons pe_never pa_nil))))) pss_nil)
      (pss_one (ps_ret (pe_ifExp (pt_cmpR op_eq (pe_ix ix_list (pv 2) pe_int (fun _ _ => rfl)) pe_str (nomark _)) (pe_tup (pa_cons pe_str (pa_cons pe_never pa_nil))) (pe_ix ix_list (pv 2) pe_int (fun _ _ => rfl)))))))))))))))))), ?_⟩
    refine two_kinds WG rfl he (by decide) (by decide) fun F1 H1 g1 k1 => ?_
    refine more_kinds WG rfl rfl (he.keep g1.keep) k1 (by decide) (by decide) (by decide) fun F2 H2 g2 k2 => ?_
    have g2 := g1.trans g2
    refine more_kinds WG rfl rfl (he.keep g2.keep) k2 (by decide) (by decide) (by decide) fun F3 H3 g3 k3 => ?_
    have g3 := g2.trans g3
    refine more_kinds WG rfl rfl (he.keep g3.keep) k3 (by decide) (by decide) (by decide) fun F4 H4 g4 k4 => ?_
    have g4 := g3.trans g4
    refine more_kinds WG rfl rfl (he.keep g4.keep) k4 (by decide) (by decide) (by decide) fun F5 H5 g5 k5 => ?_
    have g5 := g4.trans g5
    refine more_kinds WG rfl rfl (he.keep g5.keep) k5 (by decide) (by decide) (by decide) fun F6 H6 g6 k6 => ?_
    have g6 := g5.trans g6
    refine more_kinds WG rfl rfl (he.keep g6.keep) k6 (by decide) (by decide) (by decide) fun F7 H7 g7 k7 => ?_
    have g7 := g6.trans g7
    refine more_kinds WG rfl rfl (he.keep g7.keep) k7 (by decide) (by decide) (by decide) fun F8 H8 g8 k8 => ?_
    have g8 := g7.trans g8
    clear g1 g2 g3 g4 g5 g6 g7 k1 k2 k3 k4 k5 k6 k7
    have he8 := he.keep g8.keep
    obtain ⟨vs, hF8, hvs⟩ := k8
    have hvl := hvs.length
    refine ⟨_, rfl, F8, rfl, ⟨_, SqL.of hF8⟩, fun D hD => ?_⟩
    refine lc_go (Ts := tbs K) (M := M0) (walk_list (xs := vs)) hD (by rw [← hvl]; decide) m0_ne (fun i acc H' => Gz K H8 H' ∧ acc = ((exNames.take i).filter fun x => decide (x = errC e)).map V.str) (fun i acc H' H'' ⟨a, b⟩ g => ⟨a.loc hD g, b⟩) ⟨.refl, rfl⟩ (fun i acc H' _ ⟨g, _⟩ => SqL.of (g.lst hF8 id)) ?_ ?_
    · rintro i acc y H' H'' R1 R2 hi ⟨g, rfl⟩ ⟨rfl, hxi⟩ r1 r2
      obtain ⟨nm, hni, p, rfl, hp⟩ := paired_ix hvs hxi
      refine ⟨p, _, rfl, SqT.of (g.tup hp), rfl, _, _, rfl, _, _, rfl, rfl, rfl, _, rfl, _, rfl, ?_⟩
      have hft : ((exNames.take (i + 1)).filter fun x => decide (x = errC e)) = ((exNames.take i).filter fun x => decide (x = errC e)) ++ if nm = errC e then [nm] else [] := by
        have hni' : exNames[i]? = some nm := hni
        rw [List.take_succ, hni', List.filter_append]
        congr 1
        by_cases c : nm = errC e <;> simp [c]
      by_cases c : nm = errC e
      · rw [decide_eq_true c]
        refine ⟨_, rfl, r1 _ _ .refl ⟨g, ?_⟩⟩
        rw [hft, if_pos c, List.map_append]
        rfl
      · rw [decide_eq_false c]
        refine r2 _ .refl ⟨g, ?_⟩
        rw [hft, if_neg c, List.append_nil]
    · rintro acc H9 ⟨g9, rfl⟩ hD9 _
      have hone : ((exNames.take vs.length).filter fun x => decide (x = errC e)).map V.str = [.str (errC e)] := by
        rw [← hvl]
        cases e <;> rfl
      rw [hone] at hD9
      have gA := g8.trans g9
      obtain ⟨d, h1, h2⟩ := he.keep gA.keep
      refine ⟨_, rfl, _, 1, rfl, .inl ⟨_, .of hD9, rfl⟩, rfl, _, rfl, ?_⟩
      refine ⟨_, rfl, a, _, d, _, _, _, true, rfl, h1, h2, WG.ex _ (errC_mem e), .ty "ValueError", WG.ve _ (errC_mem e), _, rfl, ?_⟩
      refine ⟨_, rfl, D, _, 0, _, rfl, rfl, SqL.of hD9, rfl, rfl, _, rfl, ?_⟩
      cases e with
      | nokey x =>
        refine ⟨_, rfl, a, d, _, _, rfl, h1, h2, rfl, by show 2 ≤ sizeLine; decide, fun r hr => ?_⟩
        exact q r _ (gA.trans (.new hr)) upd_same
      | unseen x =>
        refine ⟨_, rfl, D, _, 0, _, rfl, rfl, SqL.of hD9, rfl, rfl, _, rfl, ?_⟩
        refine ⟨_, rfl, a, d, _, _, rfl, h1, h2, rfl, by show 2 ≤ sizeLine; decide, fun r hr => ?_⟩
        exact q r _ (gA.trans (.new hr)) upd_same
end
end Seal
namespace Seal
open PySem PySem.Spec PyProof.Rows L2 LamX NdefX
/-! ### what is tried -/
theorem sc_L_tried : FnScope ["_law_work", "_law_found", "_law_caught", "_law_e"] ["_law_work"] (defScope s_L_tried) := ⟨rfl, rfl, rfl, by decide +kernel, rfl, by decide +kernel, by decide +kernel⟩
theorem bind_L_tried : BindQ "_law_tried" "_law_tried" s_L_tried ["_law_work"] := fun _ _ _ _ _ _ us hl => match us, hl with | [_], _ => rfl
theorem takes_len {X : Cx} {W : WX} (tk : L2.Takes X W) : L2.Takes X (fun cls d σ H => σ.length = X.N.length → W cls d σ H) := fun u s' ⟨a, B, sI, pins, σ, H, cls, d, e, I, nb, up, sky, na, os, ag, w⟩ =>
  tk u s' ⟨a, B, sI, pins, σ, H, cls, d, e, I, nb, up, sky, na, os, ag, w I.len⟩
/-- what the work told, or the word of its refusal -/
def TTried (K : PySem.W.Frag) : (XK → Hp → VK → Prop) → Hp → VK → Prop := fun tl H Q =>
  ∀ (H1 : Hp) (Q' : VK), Gz K H H1 → (∀ v H', Q v H' → Q' v H') → tl (fun cls d H' => ∃ (e : Err) (dd : Addr), cls = .ref (He.ga K (errC e)) ∧ d = some dd ∧ H' dd = some (.xd [(errF e, .str (S (errX e)))]) ∧ ∀ u H'', Gz K H' H'' → H'' u = some (.tup (errV e)) → Q (.ref u) H'') H1 Q'
section
variable {X : Cx}
theorem tried_gives {q : Str} {g : Addr} {cdg : Value} {k : Nat} (WG : WordX X.K X.mg) (D_L_word : Def X.prog X.w X.K X.mg X.base CX0 1 "_law_word" ["_law_e"] (spWord X.K)) (hr : Room (k + 2) X.A) :
    GivesTo X ["_law_work", "_law_found", "_law_caught", "_law_e"] "_law_tried" (defScope s_L_tried) g cdg (defBody s_L_tried) "_law_work" q (TTried X.K) := by
  intro f c' s H Q tl act hc h
  have hr : Room 1 (X.A.deeper (envOfC "_law_tried" (defScope s_L_tried) s.heap.objs.size g cdg)) := (hr.deeper _).mono (by omega)
  refine ⟨_, pss_cons (ps_asg (pe_tup (pa_cons pe_non (pa_cons pe_non pa_nil))) (pg_tup rfl (pgs_cons (pg_name (i := 1) sc_L_tried.nd rfl (Or.inl rfl)) (pgs_cons (pg_name (i := 2) sc_L_tried.nd rfl (Or.inl rfl)) pgs_nil))))
    (pss_cons (ps_try_kept (i := 3) (j := 2) (c := .ref (He.ga X.K "SealError")) (tb := fun W D σ H => ∃ Ech : XK, (∀ cls d σ' H', σ'.length = 4 → Ech cls d H' → W cls d σ' H') ∧ σ[0]? = some (some (.ref f)) ∧ H c' = some (CodeO c' q) ∧ tl Ech H fun v H' => D.nx (σ.set 1 (some v)) H')
        rfl rfl sc_L_tried.nd rfl rfl rfl rfl (by show 3 < 4; decide) ⟨rfl, rfl, .inl WG.se⟩ rfl rfl rfl (fun W pn xe tk _ => ?_))
      (pss_one (ps_ret (pe_ifExp (pt_cmpR op_isN (pv 2) pe_non (nomark _)) (pv 1) (pe_cd D_L_word hr (by rfl) (pa_cons (pv 2) pa_nil)))))), ?_⟩
  · refine ⟨fun pins s' σ H' D I h' => ?_⟩
    obtain ⟨Ech, hW, h1, h2, h3⟩ := h'
    exact (pss_one (ps_set (i := 1) sc_L_tried.nd rfl (.inl rfl) (act _ pn xe Ech _ _ (takes_len tk) fun cls d σ' H' he hl => hW cls d σ' H' hl he))).run pins s' σ H' D I ⟨h1, h2, h3⟩
  · refine ⟨by show 2 ≤ sizeLine; decide, fun t ht => ⟨t, _, rfl, SqT.of upd_same, rfl, _, _, rfl, _, _, rfl, rfl, ?_⟩⟩
    have g0 : Gz X.K H (upd H t (.tup [.non, .non])) := .new ht
    refine ⟨_, fun cls d σ' H' hl he => ?_, rfl, g0.fix hc rfl, h _ _ g0 fun v H' q => ?_⟩
    · obtain ⟨e, dd, rfl, rfl, hdd, q⟩ := he
      refine ⟨WG.sm _ (errC_mem e), fun a ha => ?_⟩
      have ga : Gz X.K H' (upd H' a (ExO a (.ref (He.ga X.K (errC e))) (some dd))) := .new ha
      have h2 : (((σ'.set 3 (some (.ref a))).set 2 (some (.ref a))).set 3 none)[2]? = some (some (V.ref a)) := by
        obtain ⟨x0, x1, x2, x3, rfl⟩ : ∃ x0 x1 x2 x3, σ' = [x0, x1, x2, x3] := by
          match σ', hl with
          | [x0, x1, x2, x3], _ => exact ⟨x0, x1, x2, x3, rfl⟩
        rfl
      refine ⟨_, h2, rfl, _, rfl, ?_⟩
      exact ⟨_, h2, a, e, rfl, ⟨dd, upd_same, ga.fix hdd rfl⟩, fun u H'' g hu => q u H'' (ga.trans g) hu⟩
    · exact ⟨_, rfl, rfl, _, rfl, _, rfl, q⟩
end
end Seal
namespace Seal
open PySem PySem.Spec PyProof.Rows L2 LamX NdefX
/-! ### functions that are handed back with their cells -/
/-- the cell at c, which holds v -/
def CellO (c : Addr) (v : V) : HO := .ext fun h => ∃ u, L2.RelV v u ∧ h.IsCell c (some u)
theorem cellO_ok {P : Program} {w : World} {H : Hp} {h : Heap} {c : Addr} {v : V} {u : Value} (r : L2.RelV v u) (z : h.IsCell c (some u)) : ObjOk P w H h c (CellO c v) := by
  refine ⟨⟨u, r, z⟩, ?_, fun h1 h2 ⟨u, r, o, e, d⟩ st => ⟨u, r, o, st o e, d⟩⟩
  obtain ⟨o, e, _⟩ := z
  exact ⟨o, e⟩
theorem cellO_at {P : Program} {w : World} {H : Hp} {h : Heap} {c : Addr} {v : V} (ok : HOk P w H h) (e : H c = some (CellO c v)) : ∃ u, L2.RelV v u ∧ h.IsCell c (some u) := (ok c _ e).1
def IsC (F : NF) (b : Addr) : Prop := ∃ y, F.cl.lookup y = some b
open Classical in
noncomputable def noC (F : NF) (H : Hp) : Hp := fun b => if IsC F b then none else H b
open Classical in
noncomputable def backC (F : NF) (H H0 : Hp) : Hp := fun b => if IsC F b then H b else H0 b
/-- what its captured cells hold -/
structure CellsH (F : NF) (fr : List Str) (ws : List V) (H : Hp) : Prop where
  len : ws.length = fr.length
  at_ : ∀ (i : Nat) (y : Str) (v : V), fr[i]? = some y → ws[i]? = some v → ∃ c, F.cl.lookup y = some c ∧ H c = some (CellO c v)
structure ClOk (F : NF) (fr : List Str) : Prop where
  sub : ∀ y c, F.cl.lookup y = some c → y ∈ fr
  inj : ∀ x y c, F.cl.lookup x = some c → F.cl.lookup y = some c → x = y
theorem CellsH.cell {F : NF} {fr : List Str} {ws : List V} {H : Hp} (C : CellsH F fr ws H) (cl : ClOk F fr) {b : Addr} (h : IsC F b) : ∃ v, H b = some (CellO b v) := by
  obtain ⟨y, hy⟩ := h
  obtain ⟨i, hi⟩ := List.mem_iff_getElem?.mp (cl.sub y b hy)
  have hlt : i < ws.length := by
    rw [C.len]
    by_cases hh : i < fr.length
    · exact hh
    · rw [List.getElem?_eq_none (by omega)] at hi; cases hi
  obtain ⟨c, h1, h2⟩ := C.at_ i y ws[i] hi (List.getElem?_eq_getElem hlt)
  rw [hy] at h1
  cases h1
  exact ⟨_, h2⟩
theorem held_of {P : Program} {w : World} {K : PySem.W.Frag} {mg : Str → Option Value} {base : Heap} {k : Nat} {f : Addr} {F : NF} {ps fr : List Str} {sp' : List (Option V) → Sp} {sp : Sp} (cl : ClOk F fr) (N : NOk P w K mg base CX0 k f F ps fr sp')
    (h : ∀ vs H Q, H f = some (FnO f F) → sp vs H Q E0 → ∃ ws, CellsH F fr ws H ∧ H F.c = some (CodeO F.c F.qual) ∧ sp' (ws.map some) vs (noC F H) (fun v H0 => Q v (backC F H H0)) E0) : HeldH P w K mg base k f F sp := by
  refine ⟨fun A outer s H us vs Q hr e0 hf r hsp => ?_⟩
  obtain ⟨ws, C, hc, hs⟩ := h vs H Q hf hsp
  have isc : ∀ {b}, IsC F b → ∃ v, H b = some (CellO b v) := fun hb => C.cell cl hb
  have look : ∀ {b}, IsC F b → ∃ o u, s.heap.get? b = some o ∧ o.data = .cell (some u) := fun hb => by
    obtain ⟨v, hv⟩ := isc hb
    obtain ⟨u, _, o, e, d⟩ := cellO_at e0.hok hv
    exact ⟨o, u, e, d⟩
  have nf : ¬ IsC F f := fun hb => by
    obtain ⟨o, u, e, d⟩ := look hb
    obtain ⟨od, sl, doc, pm, ctv, e2⟩ := fnO_at e0.hok hf
    rw [e] at e2
    cases e2
    cases d
  have nc : ¬ IsC F F.c := fun hb => by
    obtain ⟨o, u, e, d⟩ := look hb
    obtain ⟨c, oc, vs, t, e1, e2, e3, _⟩ := codeO_at e0.hok hc
    cases e1
    rw [e] at e2
    cases e2
    rw [d] at e3
    cases e3
  have noI : ∀ {b}, ¬ IsC F b → noC F H b = H b := fun hb => if_neg hb
  have noY : ∀ {b}, IsC F b → noC F H b = none := fun hb => if_pos hb
  have sub : ∀ {b o}, noC F H b = some o → ¬ IsC F b ∧ H b = some o := fun {b o} e => by
    by_cases hb : IsC F b
    · rw [noY hb] at e; cases e
    · rw [noI hb] at e; exact ⟨hb, e⟩
  have nn : ∀ {b}, H b = none → noC F H b = none := fun {b} e => by
    by_cases hb : IsC F b
    · exact noY hb
    · rw [noI hb]; exact e
  have other : ∀ {b o}, H b = some o → (∀ v, o ≠ CellO b v) → ¬ IsC F b := fun {b o} e n hb => by
    obtain ⟨v, hv⟩ := isc hb
    rw [e] at hv
    exact n v (Option.some.inj hv)
  have ok0 : HOk P w (noC F H) s.heap := fun b o e => by
    obtain ⟨hb, e⟩ := sub e
    refine (e0.hok b o e).stay (fun _ _ _ q => q) (fun c q => ?_) fun c xs q => ?_
    · rw [noI (other q fun v z => by cases z)]; exact q
    · rw [noI (other q fun v z => by cases z)]; exact q
  have e0' : Env0 P w K mg base A outer s (noC F H) := ⟨e0.frames, e0.mod, fun b o e => ⟨(e0.bs b o e).1, nn (e0.bs b o e).2⟩, e0.bsz, e0.funs, fun b hb => nn (e0.frf b hb), ok0, e0.bare⟩
  have CA : CellsAt F.cl fr (ws.map some) s.heap (noC F H) := by
    refine ⟨by rw [List.length_map]; exact C.len, fun y c e => ⟨noY ⟨y, e⟩, ?_⟩, cl.inj, fun i y hy => ?_⟩
    · obtain ⟨o, u, e1, e2⟩ := look ⟨y, e⟩
      exact ⟨some u, o, e1, e2⟩
    · have hlt : i < ws.length := by
        rw [C.len]
        by_cases hh : i < fr.length
        · exact hh
        · rw [List.getElem?_eq_none (by omega)] at hy; cases hy
      obtain ⟨c, h1, h2⟩ := C.at_ i y ws[i] hy (List.getElem?_eq_getElem hlt)
      refine ⟨c, h1, fun v hv => ?_⟩
      rw [List.getElem?_map, List.getElem?_eq_getElem hlt] at hv
      cases hv
      exact cellO_at e0.hok h2
  refine codeAny_mono (N.run A outer s (noC F H) us vs (ws.map some) _ E0 hr e0' (by rw [noI nf]; exact hf) (by rw [noI nc]; exact hc) CA r hs) fun r s' hq => ?_
  cases r with
  | error e => exact hq
  | ok fl =>
    cases fl with
    | next => exact hq
    | brk => exact hq
    | cont => exact hq
    | ret u =>
      obtain ⟨v, H0, os, bare, un, hok, rv, q⟩ := hq
      have bY : ∀ {b}, IsC F b → backC F H H0 b = H b := fun hb => if_pos hb
      have bN : ∀ {b}, ¬ IsC F b → backC F H H0 b = H0 b := fun hb => if_neg hb
      have h0n : ∀ {b}, IsC F b → H0 b = none := fun {b} hb => by
        obtain ⟨o, u, e, _⟩ := look hb
        exact un.free b o e (noY hb) (by simp)
      have stays : ∀ {b o}, H0 b = some o → backC F H H0 b = some o := fun {b o} e => by
        rw [bN fun hb => by rw [h0n hb] at e; cases e]; exact e
      refine ⟨v, backC F H H0, os, bare, ⟨fun b o e n => un.keep b o e (nn n), fun b o e n => un.slot b o e (nn n), fun b o e n hx => ?_, un.there, fun b xs e => ?_, fun b o u e => ?_, fun b ps e => ?_⟩, fun b o e => ?_, rv, q⟩
      · rw [bN fun hb => by obtain ⟨v, hv⟩ := isc hb; rw [n] at hv; cases hv]
        exact un.free b o e (nn n) hx
      · exact stays (un.tups b xs (by rw [noI (other e fun v z => by cases z)]; exact e))
      · exact stays (un.frzs b o u (by rw [noI (other e fun v z => by cases z)]; exact e))
      · obtain ⟨more, hm⟩ := un.tbls b ps (by rw [noI (other e fun v z => by cases z)]; exact e)
        exact ⟨more, stays hm⟩
      · by_cases hb : IsC F b
        · rw [bY hb] at e
          obtain ⟨v', hv'⟩ := isc hb
          rw [hv'] at e
          cases e
          obtain ⟨u', ru, oo, e1, e2⟩ := cellO_at e0.hok hv'
          obtain ⟨sl, e3⟩ := un.any e1 (noY hb) (by simp)
          exact cellO_ok ru ⟨_, e3, e2⟩
        · rw [bN hb] at e
          exact (hok b o e).stay (fun _ _ _ q => q) (fun c q => stays q) fun c xs q => stays q
/-! ### a def that hands such a function back -/
def RunTo (X : Cx) (sts : List Stmt) (t : (L2.St → Hp → Prop) → L2.St → Hp → Prop) : Prop := ∀ (rest : List Stmt) (pins : List (Addr × Obj)) (s : Shared) (σ : L2.St) (H : Hp) (NX : L2.St → Hp → Prop) (Q : Flow → Shared → Prop), Inv X pins σ H s → t NX σ H →
  (∀ σ' H' s', Inv X pins σ' H' s' → NX σ' H' → wpAny (model X.prog X.w) X.A (execs rest X.env) Q X.xe s') → wpAny (model X.prog X.w) X.A (execs (sts ++ rest) X.env) Q X.xe s
section
variable {X : Cx} {st : Stmt} {sts : List Stmt} {t : TS} {u : (L2.St → Hp → Prop) → L2.St → Hp → Prop}
theorem run_nil : RunTo X [] (fun NX => NX) := fun rest pins s σ H NX Q I h k => k σ H s I h
theorem run_cons (h1 : PS X st t) (h2 : RunTo X sts u) : RunTo X (st :: sts) (fun NX σ H => t { nx := u NX, rt := fun _ _ => False } σ H) := by
  intro rest pins s σ H NX Q I h k
  refine wpAny_execs_cons (thn (h1.run pins s σ H _ I h) fun f s1 q => ?_)
  cases f with
  | next =>
    obtain ⟨σ', H', I', q⟩ := q
    exact h2 rest pins s1 σ' H' NX Q I' q k
  | ret v => obtain ⟨_, _, _, _, _, q⟩ := q; exact q.elim
  | brk => obtain ⟨_, _, _, q⟩ := q; exact q.elim
  | cont => obtain ⟨_, _, _, q⟩ := q; exact q.elim
end
/-- H2 is H1 with the cells of fr, which hold ws -/
structure Tracked (cells : List (Str × Addr)) (fr : List Str) (ws : List V) (H1 H2 : Hp) : Prop where
  keep : ∀ b o, H1 b = some o → H2 b = some o
  new : ∀ b o, H2 b = some o → H1 b = some o ∨ (H1 b = none ∧ ∃ v, o = CellO b v)
  at_ : ∀ (i : Nat) (y : Str) (v : V), fr[i]? = some y → ws[i]? = some v → ∃ c, cells.lookup y = some c ∧ H1 c = none ∧ H2 c = some (CellO c v)
  inj : ∀ x y c, cells.lookup x = some c → cells.lookup y = some c → x = y
open Classical in
theorem track_cells {X : Cx} {σ : L2.St} {H : Hp} {s : Shared} {fr : List Str} {js : List Nat} {ws : List V} (I : Inv X [] σ H s) (hfn : ∀ y, X.fn y = true) (hnd : fr.Nodup) (hcell : ∀ y ∈ fr, X.env.scope.names.lookup y = some .cell) (hjs : js.map (fun j => X.N[j]?) = fr.map some) (hws : js.map (slotAt σ) = ws.map some) :
    ∃ H2, Tracked X.env.cells fr ws H H2 ∧ HOk X.prog X.w H2 s.heap ∧ Un X.fs X.ex X.H_0 H2 X.s_0.heap s.heap := by
  let Pr : Addr → V → Prop := fun b v => ∃ (i : Nat) (y : Str), fr[i]? = some y ∧ ws[i]? = some v ∧ X.env.cells.lookup y = some b
  have uniq : ∀ {b v v'}, Pr b v → Pr b v' → v = v' := fun {b v v'} ⟨i, y, h1, h2, h3⟩ ⟨i', y', h1', h2', h3'⟩ => by
    have ey := I.ok.inj y y' b h3 h3'
    subst ey
    have : i = i' := nodup_ix hnd h1 h1'
    subst this
    rw [h2] at h2'
    exact Option.some.inj h2'
  have cellv : ∀ {b v}, Pr b v → ∃ u, L2.RelV v u ∧ s.heap.IsCell b (some u) := fun {b v} ⟨i, y, h1, h2, h3⟩ => by
    have e2 : (js.map fun j => X.N[j]?)[i]? = some (some y) := by rw [hjs, List.getElem?_map, h1]; rfl
    have e3 : (js.map (slotAt σ))[i]? = some (some v) := by rw [hws, List.getElem?_map, h2]; rfl
    rw [List.getElem?_map] at e2 e3
    cases ej : js[i]? with
    | none => rw [ej] at e2; cases e2
    | some j =>
      rw [ej] at e2 e3
      have hj : X.N[j]? = some y := Option.some.inj e2
      have hs : σ[j]? = some (some v) := slotAt_some (Option.some.inj e3)
      obtain ⟨m, hn, hl⟩ := I.loc
      have hc := hcell y (List.mem_of_getElem? h1)
      obtain ⟨u, r, l⟩ := hl j y v hj hs (.inr (.inl hc))
      rcases l with ⟨z, _⟩ | ⟨_, a', ha', z⟩
      · have z : X.env.scope.names.lookup y = some .local := z
        rw [hc] at z
        cases z
      · rw [h3] at ha'
        cases ha'
        exact ⟨u, r, z⟩
  have nH : ∀ {b v}, Pr b v → H b = none := fun {b v} ⟨i, y, h1, h2, h3⟩ => I.freeC y b h3
  let H2 : Hp := fun b => if h : ∃ v, Pr b v then some (CellO b (choose h)) else H b
  have at2 : ∀ {b v}, Pr b v → H2 b = some (CellO b v) := fun {b v} h => by
    have hx : ∃ v, Pr b v := ⟨v, h⟩
    show (if h : ∃ v, Pr b v then some (CellO b (choose h)) else H b) = _
    rw [dif_pos hx, uniq (choose_spec hx) h]
  have off2 : ∀ {b}, (¬ ∃ v, Pr b v) → H2 b = H b := fun {b} h => dif_neg h
  have keep : ∀ b o, H b = some o → H2 b = some o := fun b o e => by
    rw [off2 fun ⟨v, h⟩ => by rw [nH h] at e; cases e]
    exact e
  refine ⟨H2, ⟨keep, fun b o e => ?_, fun i y v h1 h2 => ?_, I.ok.inj⟩, fun b o e => ?_, ⟨I.base.keep, I.base.slot, fun b o e n hx => ?_, I.base.there, fun b xs e => keep b _ (I.base.tups b xs e), fun b o u e => keep b _ (I.base.frzs b o u e), fun b ps e => ?_⟩⟩
  · by_cases h : ∃ v, Pr b v
    · obtain ⟨v, h⟩ := h
      rw [at2 h] at e
      exact .inr ⟨nH h, v, (Option.some.inj e).symm⟩
    · rw [off2 h] at e
      exact .inl e
  · obtain ⟨c, hc⟩ := I.ok.has y (.inl (hcell y (List.mem_of_getElem? h1)))
    have h : Pr c v := ⟨i, y, h1, h2, hc⟩
    exact ⟨c, hc, nH h, at2 h⟩
  · by_cases h : ∃ v, Pr b v
    · obtain ⟨v, h⟩ := h
      rw [at2 h] at e
      cases e
      obtain ⟨u, r, z⟩ := cellv h
      exact cellO_ok r z
    · rw [off2 h] at e
      exact (I.hok b o e).stay (fun _ _ _ q => q) (fun c q => keep c _ q) fun c xs q => keep c _ q
  · rw [off2 fun ⟨v, i, y, h1, h2, h3⟩ => by
      have := I.ok.cab y b (hfn y) h3
      exact absurd (Heap.lt_size e) (Nat.not_lt.mpr this)]
    exact I.base.free b o e n hx
  · obtain ⟨more, h⟩ := I.base.tbls b ps e
    exact ⟨more, keep b _ h⟩
section
variable {P : Program} {w : World} {K : PySem.W.Frag} {mg : Str → Option Value} {base : Heap} {k : Nat} {sp : Sp} {N ps : List Str} {st : Stmt} {x : Str}
/-- a def that ends with «return f» -/
theorem Fn1.mkC (n : Fn1 K mg x st) (sc : FnScope N ps (defScope st)) (hb : BindQ x x st ps) (hl : ∀ vs H Q E, sp vs H Q E → vs.length = ps.length) {init : List Stmt} {nm : Str} {p p' : Pos} {i : Nat} {fr : List Str} {js : List Nat}
    (hbody : defBody st = init ++ [.Return (some (.Name nm p)) p']) (hi : N[i]? = some nm) (hv : Vis (defScope st) nm) (hnd : fr.Nodup) (hcell : ∀ y ∈ fr, (defScope st).names.lookup y = some .cell) (hjs : js.map (fun j => N[j]?) = fr.map some) (hdb : (nm == ("__debug__" : Str)) = false) (hcd : (nm == ("__classdict__" : Str)) = false)
    (hw : ∀ (A : Around) (outer : List Env) (s : Shared) (H : Hp) (vs : List V) (Q : VK) (E : XK), Room k (A.deeper (envOfC x (defScope st) s.heap.objs.size (He.ga K x) (.ref (He.cT K (x, none)).1))) → sp vs H Q E →
      ∃ t, RunTo (cxOf CX0 P w K mg base N x (defScope st) (He.ga K x) (.ref (He.cT K (x, none)).1) A outer s H E) init t ∧
        t (fun σ H' => ∃ ws v, js.map (slotAt σ) = ws.map some ∧ σ[i]? = some (some v) ∧ ∀ H2, Tracked (envOfC x (defScope st) s.heap.objs.size (He.ga K x) (.ref (He.cT K (x, none)).1)).cells fr ws H' H2 → Q v H2) (L2.start N vs) H) : Def P w K mg base CX0 (k + 1) x ps sp := by
  obtain ⟨fd, F⟩ := n.fn
  refine ⟨n.g, F.kp, fd, F.bindsN hb, ?_⟩
  obtain ⟨oc, od, dV, kV, doc, pm, an, cdv, ct, osl, rfl, lk, hcdv, _, _⟩ := F.ex
  obtain ⟨c, rfl⟩ := He.codeIn_ref hcdv
  have hc : (He.cT K (x, none)).1 = c := He.codeOf_eq (p := (x, none)) lk rfl
  refine ⟨hl, fun A outer s H args us vs Q E hr e0 hbt r hsp => ?_⟩
  have hlen := hl _ _ _ _ hsp
  have KX : K.In s.heap := e0.mod.kin.keeps fun b o e => (e0.bs b o e).1
  have lim : s.heap.NoLimit := e0.mod.nolimit.keeps fun b o e => (e0.bs b o e).1
  have kinds : ∀ y ∈ ps.zip us, (defScope st).names.lookup y.1 = some .local ∨ ((defScope st).names.lookup y.1 = some .cell ∧ ((cellsFrom (s.heap.objs.size + 1) (defScope st).names []).lookup y.1).isSome = true) := fun ⟨n, v⟩ hy => by
    rcases sc.par n (List.of_mem_zip hy).1 with q | q
    · exact .inl q
    · exact .inr ⟨q, PySem.W.cellsFrom_some _ _ _ (.inl q)⟩
  refine codeAny_call_function hr.depth (KX _ _ lk) rfl sc.co sc.gen rfl (PySem.W.codeRec_of KX hcdv) (hbt _ _ _ _ ?_)
  refine wpAny_newFunctionEnv_cells sc.kind kinds fun env he s1 hx => ?_
  subst he
  refine ⟨lim.keeps hx.toInCall.keep, codeAny_func ?_⟩
  have hr' := hr.deeper (envOfC x (defScope st) s.heap.objs.size (He.ga K x) (.ref c))
  rw [← hc] at hr' hx ⊢
  obtain ⟨t, ht, hq⟩ := hw A outer s H vs Q E hr' hsp
  have I := inv_start (CX := CX0) (P := P) (w := w) (K := K) (mg := mg) (base := base) (E := E) sc hr.hd e0 hlen r hx
  rw [hbody]
  refine ht _ [] s1 (L2.start N vs) H _ _ I hq fun σ' H' s' I' hN => ?_
  obtain ⟨ws, v, hws, hi', hQ⟩ := hN
  refine wpAny_execs_cons (wpAny_Return_some (thn ((pe_var (pos := p) (i := i) hi hv hdb hcd).run [] s' σ' H' (fun v1 H1 => v1 = v ∧ H1 = H') I' ⟨v, hi', rfl, rfl⟩) fun u s2 hh => ?_))
  obtain ⟨v1, H1, I2, rv, rfl, rfl⟩ := hh
  obtain ⟨H2, tr, ok2, un2⟩ := track_cells I2 (fun _ => rfl) hnd hcell hjs hws
  exact ⟨v1, H2, I2.os, I2.bare, un2, ok2, rv, hQ H2 tr⟩
end
end Seal
namespace Seal
open PySem PySem.Spec PyProof.Rows L2 LamX NdefX
/-! ### the digests of the law -/
theorem sc_L_good : FnScope ["_law_state", "_law_begin", "_law_step", "_law_met", "_law_maker"] ["_law_state"] (defScope s_L_good) := ⟨rfl, rfl, rfl, by decide +kernel, rfl, by decide +kernel, by decide +kernel⟩
theorem bind_L_good : BindQ "_law_good" "_law_good" s_L_good ["_law_state"] := fun _ _ _ _ _ _ us hl => match us, hl with | [_], _ => rfl
theorem sc_L_bad : FnScope ["_law_state", "_law_many", "_law_step", "_law_maker"] ["_law_state"] (defScope s_L_bad) := ⟨rfl, rfl, rfl, by decide +kernel, rfl, by decide +kernel, by decide +kernel⟩
theorem bind_L_bad : BindQ "_law_bad" "_law_bad" s_L_bad ["_law_state"] := fun _ _ _ _ _ _ us hl => match us, hl with | [_], _ => rfl
def nG : Stmt := match defBody s_L_good with | [_, _, _, s, _] => s | _ => .Pass ⟨0, 0, 0, 0⟩
def nB : Stmt := match defBody s_L_bad with | [_, s, _] => s | _ => .Pass ⟨0, 0, 0, 0⟩
def frG : List Str := ["_law_met", "_law_begin", "_law_step"]
def frB : List Str := ["_law_step", "_law_many"]
theorem nsG : NScope ["_law_text_here", "_law_met", "_law_begin", "_law_step"] ["_law_text_here"] frG (C8.fnScope nG) := nscope_by (by decide +kernel)
theorem nsB : NScope ["_law_text_here", "_law_step", "_law_many", "_law_total", "_law_at"] ["_law_text_here"] frB (C8.fnScope nB) := nscope_by (by decide +kernel)
/-- the numbers that were given so far -/
def metK (b t : Int) (D : List W) : List (Key × V) := D.zipIdx.map fun p => (Sum.inr (S p.1), .int (b + t * p.2))
theorem metK_snoc {b t : Int} {D : List W} {z : W} : metK b t (D ++ [z]) = metK b t D ++ [(Sum.inr (S z), .int (b + t * D.length))] := by
  unfold metK
  rw [List.zipIdx_append, List.map_append]
  simp
theorem metK_len {b t : Int} {D : List W} : (metK b t D).length = D.length := by unfold metK; simp
theorem metK_get {b t : Int} {z : W} : ∀ (D : List W), valV (metK b t D) (Sum.inr (S z)) = if z ∈ D then some (.int (b + t * D.idxOf z)) else none := by
  have key : ∀ (D : List W) (n : Nat), valV ((D.zipIdx n).map fun p => ((Sum.inr (S p.1), .int (b + t * p.2)) : Key × V)) (Sum.inr (S z)) = if z ∈ D then some (.int (b + t * ((n + D.idxOf z : Nat) : Int))) else none := by
    intro D
    induction D with
    | nil => intro n; rfl
    | cons a D ih =>
      intro n
      rw [List.zipIdx_cons, List.map_cons]
      by_cases e : a = z
      · rw [valV_pos (by show Sum.inr (S a) = Sum.inr (S z); rw [e]), if_pos (by rw [e]; exact List.mem_cons_self), e, List.idxOf_cons_self]
        rfl
      · rw [valV_neg (fun h => e (S_inj.mp (Sum.inr.inj h))), ih]
        by_cases hz : z ∈ D
        · have hi : List.idxOf z (a :: D) = D.idxOf z + 1 := by
            rw [List.idxOf_cons, show (a == z) = false from beq_false_of_ne e]
            rfl
          rw [if_pos hz, if_pos (List.mem_cons_of_mem _ hz), hi, show n + 1 + D.idxOf z = n + (D.idxOf z + 1) by omega]
        · rw [if_neg hz, if_neg fun h => hz ((List.mem_cons.mp h).resolve_left fun h => e h.symm)]
  intro D
  have := key D 0
  rw [Nat.zero_add] at this
  exact this
theorem metK_put {b t : Int} {D : List W} {z : W} (h : z ∉ D) : L2.putK (metK b t D) (Sum.inr (S z)) (.int (b + t * D.length)) = metK b t (D ++ [z]) := by
  rw [metK_snoc]
  unfold L2.putK
  rw [if_neg]
  intro hh
  obtain ⟨kv, hm, e⟩ := List.any_eq_true.mp hh
  obtain ⟨p, hp, rfl⟩ := List.mem_map.mp hm
  have := S_inj.mp (Sum.inr.inj (of_decide_eq_true e))
  exact h (this ▸ (List.mem_zipIdx' hp).2 ▸ List.getElem_mem _)
theorem take_snoc' {α : Type} {l : List α} {i : Nat} {a : α} (h : l[i]? = some a) : l.take (i + 1) = l.take i ++ [a] := by
  rw [List.take_succ, h]
  rfl
section
variable {P : Program} {w : World} {K : PySem.W.Frag} {mg : Str → Option Value} {base : Heap}
/-- what the maker of a good digest does -/
def spMG (K : PySem.W.Frag) (ws : List (Option V)) : Sp := fun vs H Q _ => ∃ (b t : Int) (m : Addr) (D : List W) (z : W), ws = [some (.ref m), some (.int b), some (.int t)] ∧ vs = [.str (S z)] ∧ z.length ≤ 2000 ∧ H m = some (.dK (metK b t D)) ∧ D.length < 10000000 ∧ 0 ≤ t ∧ t ≤ 1000000000 ∧
  (z ∈ D → Q (.int (b + t * D.idxOf z)) H) ∧ (z ∉ D → Q (.int (b + t * D.length)) (upd H m (.dK (metK b t (D ++ [z])))))
theorem N_maker_good (G : TX K mg) {f : Addr} {q : Str} {cl : List (Str × Addr)} {c : Addr} : NOk P w K mg base CX0 1 f (NF.of nG "_law_maker" q cl c) ["_law_text_here"] frG (spMG K) := by
  refine nok_of (k := 0) (N := ["_law_text_here", "_law_met", "_law_begin", "_law_step"]) nsG (fun doc pm ctv us hu => ?_) (fun ws vs H Q E h => ?_) fun A outer s H vs ws Q E hr hf hc hwl h => ?_
  · match us, hu with
    | [u], _ => rfl
  · obtain ⟨_, _, _, _, _, _, rfl, _⟩ := h
    rfl
  · obtain ⟨b, t, m, D, z, rfl, rfl, hz, hm, hD, ht0, ht1, q1, q2⟩ := h
    have hu := hu_of hr
    refine ⟨_, pss_cons (ps_if (pt_cmp (pc_dnotin hu (pv 0) (pv 1))) (pss_one (ps_dput hu (pv 1) (pv 0) (pe_op op_add (pv 2) (pe_op op_mul (pv 3) (pe_callB call_lenD (by rfl) G.b_len PySem.boot_len (pa_cons (pv 1) pa_nil)))) rfl)) pss_nil)
      (pss_one (ps_ret (pe_dget hu (pv 1) (pv 0) (fun _ _ => rfl)))), ?_⟩
    have hsz : D.length < sizeLine := by rw [sizeLine_eq]; omega
    refine ⟨_, rfl, _, rfl, m, _, rfl, DGet.k (k := Sum.inr (S z)) hm, _, rfl, ?_⟩
    rw [metK_get]
    by_cases hzD : z ∈ D
    · rw [if_pos hzD]
      refine ⟨_, rfl, _, rfl, m, _, rfl, ?_, q1 hzD⟩
      have := DGet.k (k := Sum.inr (S z)) hm
      rw [metK_get, if_pos hzD] at this
      exact this
    · rw [if_neg hzD]
      refine ⟨_, rfl, _, rfl, _, rfl, m, _, rfl, hm, _, _, rfl, rfl, .inl ⟨by omega, by omega⟩, _, _, rfl, rfl, _, rfl, _, rfl, m, _, rfl, DPut.k (k := Sum.inr (S z)) hm (by rw [metK_len]; exact hsz), ?_⟩
      rw [metK_len, metK_put hzD]
      refine ⟨_, rfl, _, rfl, m, _, rfl, ?_, q2 hzD⟩
      have := DGet.k (k := Sum.inr (S z)) (upd_same (H := H) (a := m) (o := .dK (metK b t (D ++ [z]))))
      rw [metK_get, if_pos (by simp), List.idxOf_append, if_neg hzD] at this
      simp at this
      exact this
theorem backC_noC {F : NF} {H : Hp} : backC F H (noC F H) = H := by
  funext b
  unfold backC noC
  split <;> rfl
theorem backC_upd {F : NF} {H : Hp} {m : Addr} {o : HO} (h : ¬ IsC F m) : backC F H (upd (noC F H) m o) = upd H m o := by
  funext b
  by_cases hb : b = m
  · subst hb
    rw [upd_same]
    unfold backC
    rw [if_neg h, upd_same]
  · rw [upd_ne hb]
    unfold backC
    by_cases hc : IsC F b
    · rw [if_pos hc]
    · rw [if_neg hc, upd_ne hb]
      exact if_neg hc
theorem CellsH.keep {F : NF} {fr : List Str} {ws : List V} {H H' : Hp} (g : Keep H H') (C : CellsH F fr ws H) : CellsH F fr ws H' :=
  ⟨C.len, fun i y v h1 h2 => let ⟨c, e1, e2⟩ := C.at_ i y v h1 h2; ⟨c, e1, g c _ e2 rfl⟩⟩
theorem CellsH.off {F : NF} {fr : List Str} {ws : List V} {H : Hp} (C : CellsH F fr ws H) (cl : ClOk F fr) {m : Addr} {o : HO} (h : H m = some o) (n : Fix o = false) : ¬ IsC F m := fun hb => by
  obtain ⟨v, hv⟩ := C.cell cl hb
  rw [h] at hv
  cases hv
  cases n
/-- a digest of unlike numbers -/
def digG (G : TX K mg) (f m : Addr) (F : NF) (b t : Int) (hN : NOk P w K mg base CX0 1 f F ["_law_text_here"] frG (spMG K)) (cl : ClOk F frG) (hb : 0 ≤ b ∧ b ≤ 10 ^ 29) (ht : 0 ≤ t ∧ t ≤ 1000000000) (htp : 0 < t) : Dig P w K mg base where
  fa := f
  F := F
  Mt := fun c => c = m
  St := fun D H => H f = some (FnO f F) ∧ H F.c = some (CodeO F.c F.qual) ∧ CellsH F frG [.ref m, .int b, .int t] H ∧ H m = some (.dK (metK b t D)) ∧ D.Nodup
  val := fun D z => b + t * D.idxOf z
  fn := fun h => h.1
  keep := fun {D H H' M} h g hM => ⟨g.fix h.1 rfl, g.fix h.2.1 rfl, h.2.2.1.keep g.keep, g.dK h.2.2.2.1 fun hm => hM m hm rfl, h.2.2.2.2⟩
  stays := fun {D H c} h hc => by
    subst hc
    exact ⟨_, h.2.2.2.1, rfl⟩
  call := by
    refine held_of cl hN fun vs H Q hf hsp => ?_
    obtain ⟨D, z, rfl, hz, ⟨h1, h2, h3, h4, h5⟩, hD, q⟩ := hsp
    have off := h3.off cl h4 rfl
    refine ⟨_, h3, h2, b, t, m, D, z, rfl, rfl, hz, ?_, hD, ht.1, ht.2, fun hzD => ?_, fun hzD => ?_⟩
    · show noC F H m = _
      unfold noC
      rw [if_neg off]
      exact h4
    · show Q _ (backC F H (noC F H))
      rw [backC_noC]
      exact q D H (List.prefix_refl D) hzD (by omega) ⟨h1, h2, h3, h4, h5⟩ .refl
    · show Q _ (backC F H (upd (noC F H) m (.dK (metK b t (D ++ [z])))))
      rw [backC_upd off]
      have gs : Go (tbs K) (fun c => c = m) H (upd H m (.dK (metK b t (D ++ [z])))) := .set h4 rfl rfl rfl
      have := q (D ++ [z]) _ (List.prefix_append D [z]) (by simp) (by simp) ⟨gs.fix h1 rfl, gs.fix h2 rfl, h3.keep gs.keep, upd_same, by
        rw [List.nodup_append]
        refine ⟨h5, by simp, fun a ha c hc e => ?_⟩
        rw [List.mem_singleton.mp hc] at e
        exact hzD (e ▸ ha)⟩ gs
      rw [List.idxOf_append, if_neg hzD] at this
      simpa using this
  later := fun {D D' z} hp hz => by
    obtain ⟨r, rfl⟩ := hp
    rw [List.idxOf_append, if_pos hz]
  num := fun {D z} hz hD => by
    have h1 := List.idxOf_lt_length_of_mem hz
    have h2 : t * (D.idxOf z : Int) ≤ 1000000000 * 10000000 := Int.mul_le_mul ht.2 (by omega) (by omega) (by omega)
    have h3 : 0 ≤ t * (D.idxOf z : Int) := Int.mul_nonneg ht.1 (by omega)
    have h4 : (10 : Int) ^ 29 = 100000000000000000000000000000 := by decide
    exact ⟨by omega, by omega⟩
/-! ### the digest of few numbers -/
def badT (t : Int) (z : W) : Int := (z.zipIdx.map fun p => ((p.2 : Int) + t) * (p.1 : Int)).sum
theorem badT_take {t : Int} {z : W} {i c : Nat} (h : z[i]? = some c) : badT t (z.take (i + 1)) = badT t (z.take i) + ((i : Int) + t) * (c : Int) := by
  unfold badT
  have hlt : i < z.length := by
    by_cases hh : i < z.length
    · exact hh
    · rw [List.getElem?_eq_none (by omega)] at h; cases h
  rw [take_snoc' h, List.zipIdx_append, List.map_append, List.sum_append]
  simp [List.length_take, Nat.min_eq_left (Nat.le_of_lt hlt)]
/-- what the maker of a bad digest does -/
def spMB (ws : List (Option V)) : Sp := fun vs H Q _ => ∃ (t m : Int) (z : W), ws = [some (.int t), some (.int m)] ∧ vs = [.str (S z)] ∧ z.length ≤ 2000 ∧ 0 ≤ t ∧ t ≤ 1000000000 ∧ 0 < m ∧ m ≤ 1000 ∧ Q (.int (badT t z % m)) H
theorem N_maker_bad (G : TX K mg) {f : Addr} {q : Str} {cl : List (Str × Addr)} {c : Addr} : NOk P w K mg base CX0 1 f (NF.of nB "_law_maker" q cl c) ["_law_text_here"] frB spMB := by
  refine nok_of (k := 0) (N := ["_law_text_here", "_law_step", "_law_many", "_law_total", "_law_at"]) nsB (fun doc pm ctv us hu => ?_) (fun ws vs H Q E h => ?_) fun A outer s H vs ws Q E hr hf hc hwl h => ?_
  · match us, hu with
    | [u], _ => rfl
  · obtain ⟨_, _, _, _, rfl, _⟩ := h
    rfl
  · obtain ⟨t, m, z, rfl, rfl, hz, ht0, ht1, hm0, hm1, q⟩ := h
    refine ⟨_, pss_cons (ps_set (i := 3) nsB.nd rfl (.inl rfl) pe_int)
      (pss_cons (ps_for (passes_of rfl) rfl (pi_range1 rfl G.b_range (pa_cons (pe_callB call_len_str (by rfl) G.b_len PySem.boot_len (pa_cons (pv 0) pa_nil)) pa_nil)) (pg_name (i := 4) nsB.nd rfl (Or.inl rfl))
        (pss_one (ps_set (i := 3) nsB.nd rfl (.inl rfl) (pe_op op_add (pv 3) (pe_op op_mul (pe_op op_add (pv 4) (pv 1)) (pe_callB call_ord (by rfl) G.b_ord (by decide +kernel) (pa_cons (pe_ix ix_str (pv 0) (pv 4) (fun _ _ => rfl)) pa_nil)))))))
      (pss_one (ps_ret (pe_op op_mod (pv 3) (pv 2))))), ?_⟩
    refine ⟨_, rfl, _, rfl, by rw [S_len]; exact sz (by omega), _, rfl, by rw [S_len]; omega, by rw [S_len]; omega, ?_⟩
    rw [S_len]
    refine for_it (walk_range (lo := 0) (n := (z.length : Int).toNat)) (fun i σ H' => H' = H ∧ ∃ k, σ = [some (.str (S z)), some (.int t), some (.int m), some (.int (badT t (z.take i))), k]) ⟨rfl, _, rfl⟩ (fun _ _ _ _ _ => trivial) ?_ ?_
    · rintro i x σ H5 H4 hi ⟨rfl, k, rfl⟩ ⟨rfl, rfl⟩
      have hi' : i < z.length := by omega
      refine ⟨_, rfl, _, rfl, _, rfl, _, _, rfl, rfl, _, rfl, _, rfl, _, (0 + (i : Int)), z[i], rfl, rfl, by rw [S_len]; exact sz (by omega), ?_, _, rfl, rfl, _, _, rfl, rfl, .inl ⟨by omega, by omega⟩, _, _, rfl, rfl, rfl, some (.int (0 + (i : Int))), ?_⟩
      · rw [S_list, Int.zero_add]
        exact atI_nat (List.getElem?_eq_getElem hi')
      · rw [badT_take (List.getElem?_eq_getElem hi'), show ((i : Int) + t) = (0 + (i : Int) + t) by omega]
        rfl
    · rintro σ H' ⟨rfl, k, rfl⟩
      refine ⟨_, rfl, _, rfl, _, _, rfl, rfl, hm0, ?_⟩
      rw [show (z.length : Int).toNat = z.length by omega, List.take_length]
      exact q
/-- a digest of few numbers -/
def digB (f : Addr) (F : NF) (t m : Int) (hN : NOk P w K mg base CX0 1 f F ["_law_text_here"] frB spMB) (cl : ClOk F frB) (ht : 0 ≤ t ∧ t ≤ 1000000000) (hm : 0 < m ∧ m ≤ 1000) : Dig P w K mg base where
  fa := f
  F := F
  Mt := M0
  St := fun D H => H f = some (FnO f F) ∧ H F.c = some (CodeO F.c F.qual) ∧ CellsH F frB [.int t, .int m] H
  val := fun D z => badT t z % m
  fn := fun h => h.1
  keep := fun {D H H' M} h g hM => ⟨g.fix h.1 rfl, g.fix h.2.1 rfl, h.2.2.keep g.keep⟩
  stays := fun {D H c} h hc => hc.elim
  call := by
    refine held_of cl hN fun vs H Q hf hsp => ?_
    obtain ⟨D, z, rfl, hz, ⟨h1, h2, h3⟩, hD, q⟩ := hsp
    refine ⟨_, h3, h2, t, m, z, rfl, rfl, hz, ht.1, ht.2, hm.1, hm.2, ?_⟩
    show Q _ (backC F H (noC F H))
    rw [backC_noC]
    exact q (D ++ [z]) H (List.prefix_append D [z]) (by simp) (by simp) ⟨h1, h2, h3⟩ .refl
  later := fun {D D' z} hp hz => rfl
  num := fun {D z} hz hD => by
    have h1 := Int.emod_nonneg (badT t z) (show m ≠ 0 by omega)
    have h2 := Int.emod_lt_of_pos (badT t z) hm.1
    exact ⟨h1, by omega⟩
end
end Seal
namespace Seal
open PySem PySem.Spec PyProof.Rows L2 LamX NdefX
/-! ### the digests, drawn -/
def tbN (K : PySem.W.Frag) : List NTab := (tbs K).map fun p => (p.1, fun _ _ => p.2)
theorem tbN_of {K : PySem.W.Frag} {H : Hp} (h : Tabs (tbs K) H) : TabsN (tbN K) H := fun p hp => by
  obtain ⟨q, hq, rfl⟩ := List.mem_map.mp hp
  exact TabN.of (h q hq)
theorem tbN_to {K : PySem.W.Frag} {H : Hp} (h : TabsN (tbN K) H) : Tabs (tbs K) H := fun q hq => TabN.to (h (q.1, fun _ _ => q.2) (List.mem_map.mpr ⟨q, hq, rfl⟩))
theorem go_ext {K : PySem.W.Frag} {H H' : Hp} (e : ExtN H H') (t : Tabs (tbs K) H') : Gz K H H' := ⟨fun b o h z => e b o h fun ps q => (by
  subst q
  rcases z with z | z
  · cases z
  · cases z.1), fun _ => t⟩
def spDig (P : Program) (w : World) (K : PySem.W.Frag) (mg : Str → Option Value) (base : Heap) : Sp := fun vs H Q _ => ∃ st b, vs = [.ref st] ∧ StAt H st b ∧ Tabs (tbs K) H ∧ ∀ (g : Dig P w K mg base) H', Go (tbs K) (Ms st b) H H' → StAt H' st b → g.St [] H' → (∀ c, g.Mt c → ¬ Ms st b c) → Q (.ref g.fa) H'
theorem StAt.notM' {H : Hp} {st b c : Addr} (h : StAt H st b) (hc : H c = none) : ¬ Ms st b c := fun hm => h.hasM c hm hc
theorem clo_ok {cells : List (Str × Addr)} {names : List (Str × NameKind)} {F : NF} {fr : List Str} (hcl : F.cl = cloFrom cells names []) (hfree : ∀ y ∈ names, y.2 = .free → ∃ c, cells.lookup y.1 = some c) (hsub : ∀ y ∈ names, y.2 = .free → y.1 ∈ fr) (hinj : ∀ x y c, cells.lookup x = some c → cells.lookup y = some c → x = y) : ClOk F fr := by
  refine ⟨fun y c e => ?_, fun x y c e1 e2 => ?_⟩
  · rw [hcl] at e
    rcases cloFrom_mem (PySem.mem_of_lookup e) with hm | ⟨h1, _⟩
    · cases hm
    · exact hsub _ h1 rfl
  · rw [hcl] at e1 e2
    exact hinj x y c (clo_cm hfree e1) (clo_cm hfree e2)
theorem clo_cells {cells : List (Str × Addr)} {names : List (Str × NameKind)} {F : NF} {fr : List Str} {ws : List V} {H1 H2 : Hp} (hcl : F.cl = cloFrom cells names []) (hfree : ∀ y ∈ names, y.2 = .free → ∃ c, cells.lookup y.1 = some c) (hsup : ∀ y ∈ fr, (y, NameKind.free) ∈ names) (hl : ws.length = fr.length) (tr : Tracked cells fr ws H1 H2) : CellsH F fr ws H2 := by
  refine ⟨hl, fun i y v h1 h2 => ?_⟩
  obtain ⟨c, e1, e2, e3⟩ := tr.at_ i y v h1 h2
  exact ⟨c, by rw [hcl]; exact clo_has hfree (hsup y (List.mem_of_getElem? h1)) e1, e3⟩
section
variable {P : Program} {w : World} {K : PySem.W.Frag} {mg : Str → Option Value} {base : Heap}
theorem D_L_good (n : Fn1 K mg "_law_good" s_L_good) (G : TX K mg) (TA : TT K mg base) (D_L_draw : Def P w K mg base CX0 1 "_law_draw" ["_law_state", "_law_many"] (spDraw K)) : Def P w K mg base CX0 2 "_law_good" ["_law_state"] (spDig P w K mg base) := by
  refine n.mkC (init := (defBody s_L_good).take 4) (nm := "_law_maker") (i := 4) (fr := frG) (js := [3, 1, 2]) sc_L_good bind_L_good (fun vs H Q E h => ?_) rfl rfl (.inl rfl) (by decide) (by decide +kernel) rfl rfl rfl fun A outer s H vs Q E hr h => ?_
  · obtain ⟨_, _, rfl, _⟩ := h
    rfl
  · obtain ⟨st, b, rfl, hS, hT, q⟩ := h
    have hmT : ((He.cT K ("_law_good", none)).2, (fun _ _ => ("_law_good.<locals>." ++ "_law_maker" : Str) : Nat → Nat → Str)) ∈ tbN K := List.mem_map.mpr ⟨_, List.mem_cons_of_mem _ List.mem_cons_self, rfl⟩
    have hu : ∀ p ∈ tbN K, p.1 = (He.cT K ("_law_good", none)).2 → p.2 = fun _ _ => ("_law_good.<locals>." ++ "_law_maker" : Str) := fun p hp e => by
      obtain ⟨r, hr, rfl⟩ := List.mem_map.mp hp
      have := tab_one (q := "_law_good.<locals>._law_maker") TA.nd (List.mem_cons_of_mem _ List.mem_cons_self) r hr e
      show (fun _ _ => r.2) = _
      rw [this]
      rfl
    refine ⟨_, run_cons (ps_set (i := 1) sc_L_good.nd rfl (Or.inr rfl) (pe_ix ix_list (pe_lst (pa_cons pe_int (pa_cons (pe_cd D_L_draw (hr.mono (by omega)) (by rfl) (pa_cons (pv 0) (pa_cons (pe_op op_pow pe_int pe_int) pa_nil))) (pa_cons pe_int pa_nil)))) (pe_cd D_L_draw (hr.mono (by omega)) (by rfl) (pa_cons (pv 0) (pa_cons pe_int pa_nil))) (fun _ _ => rfl)))
      (run_cons (ps_set (i := 2) sc_L_good.nd rfl (Or.inr rfl) (pe_op op_add pe_int (pe_op op_mul (pe_cd D_L_draw (hr.mono (by omega)) (by rfl) (pa_cons (pv 0) (pa_cons (pe_op op_pow pe_int pe_int) pa_nil))) (pe_cd D_L_draw (hr.mono (by omega)) (by rfl) (pa_cons (pv 0) (pa_cons pe_int pa_nil))))))
      (run_cons (ps_set (i := 3) sc_L_good.nd rfl (Or.inr rfl) pe_dnewK)
      (run_cons (ps_ndefMS (st := nG) (name := "_law_maker") (i := 4) (T := tbN K) (nm := fun _ _ => ("_law_good.<locals>." ++ "_law_maker" : Str)) rfl (TA.tab "_law_good" (by simp)) rfl hmT rfl hu (ndef_free (sc := defScope s_L_good) (fr := frG) (by decide +kernel)) rfl rfl rfl sc_L_good.nd rfl (.inl rfl) (.inl rfl)) run_nil))), ?_⟩
    refine ⟨_, rfl, _, _, rfl, rfl, ⟨by omega, by omega, by decide⟩, st, b, _, rfl, hS, by decide, by decide, fun r1 H1 r10 r11 g1 s1 => ⟨by show 3 ≤ sizeLine; decide, fun L hL => ?_⟩⟩
    have gL : Gz K H1 (upd H1 L (.lst [.int 0, .int r1, .int 1])) := .new hL
    refine ⟨_, rfl, st, b, _, rfl, s1.keep gL, by decide, by decide, fun r2 H2 r20 r21 g2 s2 => ?_⟩
    obtain ⟨bg, hbg, hb0, hb1⟩ : ∃ bg : Int, atI [V.int 0, V.int r1, V.int 1] r2 = some (V.int bg) ∧ 0 ≤ bg ∧ bg ≤ 10 ^ 29 := by
      rcases (show r2 = 0 ∨ r2 = 1 ∨ r2 = 2 by omega) with e | e | e
      · exact ⟨0, by rw [e]; rfl, by decide, by decide⟩
      · exact ⟨r1, by rw [e]; rfl, r10, by have : r1 < 10 ^ 29 := r11; omega⟩
      · exact ⟨1, by rw [e]; rfl, by decide, by decide⟩
    refine ⟨L, _, r2, _, rfl, rfl, SqL.of (g2.lst upd_same (s1.notM' hL)), hbg, ?_⟩
    refine ⟨_, rfl, _, _, rfl, rfl, ⟨by omega, by omega, by decide⟩, st, b, _, rfl, s2, by decide, by decide, fun r3 H3 r30 r31 g3 s3 => ?_⟩
    have r31 : r3 < 10 ^ 9 := r31
    refine ⟨_, rfl, st, b, _, rfl, s3, by decide, by decide, fun r4 H4 r40 r41 g4 s4 => ?_⟩
    refine ⟨_, _, rfl, rfl, .inl ⟨by omega, by omega⟩, _, _, rfl, rfl, fun m hm => ?_⟩
    have gm : Gz K H4 (upd H4 m (.dK [])) := .new hm
    have g04 : Go (tbs K) (Ms st b) H (upd H4 m (.dK [])) := g1.trans (gL.any.trans (g2.trans (g3.trans (g4.trans gm.any))))
    refine ⟨tbN_of (g04.t hT), fun f c' H5 hE hN5 hT5 hf0 hf1 hc1 => ?_⟩
    refine ⟨[.ref m, .int bg, .int (1 + r3 * r4)], .ref f, rfl, rfl, fun H6 tr => ?_⟩
    have g5 : Gz K (upd H4 m (.dK [])) H5 := go_ext hE (tbN_to hT5)
    have g6 : Gz K H5 H6 := ⟨fun b o h _ => tr.keep b o h, fun t => t.ext tr.keep⟩
    have hr34 : 0 ≤ r3 * r4 ∧ r3 * r4 < 1000000000 := by
      rcases (show r4 = 0 ∨ r4 = 1 by omega) with e | e
      · rw [e]; omega
      · rw [e]; omega
    have hfree : ∀ y ∈ (C8.fnScope nG).names, y.2 = .free → ∃ c, (envOfC "_law_good" (defScope s_L_good) s.heap.objs.size (He.ga K "_law_good") (.ref (He.cT K ("_law_good", none)).1)).cells.lookup y.1 = some c := fun y hy e => by
      have := ndef_free (sc := defScope s_L_good) (fr := frG) (by decide +kernel) y hy e
      rcases this with h | h
      · exact cell_has h
      · exact absurd h (by
          have hn : ∀ y : Str, (defScope s_L_good).names.lookup y ≠ some .free := fun y h => absurd (PySem.mem_of_lookup h) (by
            have : ∀ z ∈ (defScope s_L_good).names, z.2 ≠ .free := by decide +kernel
            exact fun hm => this _ hm rfl)
          exact hn _)
    have cl := clo_ok (F := NF.of nG "_law_maker" ("_law_good.<locals>." ++ "_law_maker") (cloFrom (envOfC "_law_good" (defScope s_L_good) s.heap.objs.size (He.ga K "_law_good") (.ref (He.cT K ("_law_good", none)).1)).cells (C8.fnScope nG).names []) c') (fr := frG) rfl hfree nsG.free tr.inj
    have C := clo_cells (F := NF.of nG "_law_maker" ("_law_good.<locals>." ++ "_law_maker") (cloFrom (envOfC "_law_good" (defScope s_L_good) s.heap.objs.size (He.ga K "_law_good") (.ref (He.cT K ("_law_good", none)).1)).cells (C8.fnScope nG).names []) c') (fr := frG) rfl hfree (ndef_fr (sc := defScope s_L_good) (by decide +kernel)) rfl tr
    refine q (digG G f m _ bg (1 + r3 * r4) (N_maker_good G) cl ⟨hb0, hb1⟩ ⟨by omega, by omega⟩ (by omega)) H6 (g04.trans (g5.trans g6).any) ((s4.keep gm).keep (g5.trans g6)) ⟨g6.fix hf1 rfl, g6.fix hc1 rfl, C, (g5.trans g6).dK upd_same id, List.nodup_nil⟩ fun c hc => ?_
    rw [show c = m from hc]
    exact s4.notM' hm
theorem D_L_bad (n : Fn1 K mg "_law_bad" s_L_bad) (G : TX K mg) (TA : TT K mg base) (D_L_draw : Def P w K mg base CX0 1 "_law_draw" ["_law_state", "_law_many"] (spDraw K)) : Def P w K mg base CX0 2 "_law_bad" ["_law_state"] (spDig P w K mg base) := by
  refine n.mkC (init := (defBody s_L_bad).take 2) (nm := "_law_maker") (i := 3) (fr := frB) (js := [2, 1]) sc_L_bad bind_L_bad (fun vs H Q E h => ?_) rfl rfl (.inl rfl) (by decide) (by decide +kernel) rfl rfl rfl fun A outer s H vs Q E hr h => ?_
  · obtain ⟨_, _, rfl, _⟩ := h
    rfl
  · obtain ⟨st, b, rfl, hS, hT, q⟩ := h
    have hm0 : ((He.cT K ("_law_bad", none)).2, ("_law_bad.<locals>._law_maker" : Str)) ∈ tbs K := List.mem_cons_of_mem _ (List.mem_cons_of_mem _ List.mem_cons_self)
    have hmT : ((He.cT K ("_law_bad", none)).2, (fun _ _ => ("_law_bad.<locals>." ++ "_law_maker" : Str) : Nat → Nat → Str)) ∈ tbN K := List.mem_map.mpr ⟨_, hm0, rfl⟩
    have hu : ∀ p ∈ tbN K, p.1 = (He.cT K ("_law_bad", none)).2 → p.2 = fun _ _ => ("_law_bad.<locals>." ++ "_law_maker" : Str) := fun p hp e => by
      obtain ⟨r, hr, rfl⟩ := List.mem_map.mp hp
      have := tab_one TA.nd hm0 r hr e
      show (fun _ _ => r.2) = _
      rw [this]
      rfl
    refine ⟨_, run_cons (ps_asg (pe_tup (pa_cons (pe_ix ix_list (pe_lst (pa_cons pe_int (pa_cons pe_int (pa_cons pe_int (pa_cons pe_int (pa_cons pe_int pa_nil)))))) (pe_cd D_L_draw (hr.mono (by omega)) (by rfl) (pa_cons (pv 0) (pa_cons pe_int pa_nil))) (fun _ _ => rfl)) (pa_cons (pe_op op_add pe_int (pe_cd D_L_draw (hr.mono (by omega)) (by rfl) (pa_cons (pv 0) (pa_cons pe_int pa_nil)))) pa_nil))) (pg_tup rfl (pgs_cons (pg_name (i := 1) sc_L_bad.nd rfl (Or.inr rfl)) (pgs_cons (pg_name (i := 2) sc_L_bad.nd rfl (Or.inr rfl)) pgs_nil))))
      (run_cons (ps_ndefMS (st := nB) (name := "_law_maker") (i := 3) (T := tbN K) (nm := fun _ _ => ("_law_bad.<locals>." ++ "_law_maker" : Str)) rfl (TA.tab "_law_bad" (by simp)) rfl hmT rfl hu (ndef_free (sc := defScope s_L_bad) (fr := frB) (by decide +kernel)) rfl rfl rfl sc_L_bad.nd rfl (.inl rfl) (.inl rfl)) run_nil), ?_⟩
    refine ⟨by show 5 ≤ sizeLine; decide, fun L hL => ?_⟩
    have gL : Gz K H (upd H L (.lst [.int 1, .int 2, .int 7, .int 100, .int 1000])) := .new hL
    refine ⟨_, rfl, st, b, _, rfl, hS.keep gL, by decide, by decide, fun r2 H2 r20 r21 g2 s2 => ?_⟩
    obtain ⟨mn, hmn, hm0', hm1⟩ : ∃ mn : Int, atI [V.int 1, V.int 2, V.int 7, V.int 100, V.int 1000] r2 = some (V.int mn) ∧ 0 < mn ∧ mn ≤ 1000 := by
      rcases (show r2 = 0 ∨ r2 = 1 ∨ r2 = 2 ∨ r2 = 3 ∨ r2 = 4 by omega) with e | e | e | e | e
      · exact ⟨1, by rw [e]; rfl, by decide, by decide⟩
      · exact ⟨2, by rw [e]; rfl, by decide, by decide⟩
      · exact ⟨7, by rw [e]; rfl, by decide, by decide⟩
      · exact ⟨100, by rw [e]; rfl, by decide, by decide⟩
      · exact ⟨1000, by rw [e]; rfl, by decide, by decide⟩
    refine ⟨L, _, r2, _, rfl, rfl, SqL.of (g2.lst upd_same (hS.notM' hL)), hmn, ?_⟩
    refine ⟨_, rfl, st, b, _, rfl, s2, by decide, by decide, fun r3 H3 r30 r31 g3 s3 => ?_⟩
    refine ⟨_, _, rfl, rfl, by show 2 ≤ sizeLine; decide, fun t ht => ⟨t, _, rfl, SqT.of upd_same, rfl, _, _, rfl, _, _, rfl, rfl, ?_⟩⟩
    have gm : Gz K H3 (upd H3 t (.tup [.int mn, .int (1 + r3)])) := .new ht
    have g04 : Go (tbs K) (Ms st b) H (upd H3 t (.tup [.int mn, .int (1 + r3)])) := gL.any.trans (g2.trans (g3.trans gm.any))
    refine ⟨tbN_of (g04.t hT), fun f c' H5 hE hN5 hT5 hf0 hf1 hc1 => ?_⟩
    refine ⟨[.int (1 + r3), .int mn], .ref f, rfl, rfl, fun H6 tr => ?_⟩
    have g5 : Gz K (upd H3 t (.tup [.int mn, .int (1 + r3)])) H5 := go_ext hE (tbN_to hT5)
    have g6 : Gz K H5 H6 := ⟨fun b o h _ => tr.keep b o h, fun t => t.ext tr.keep⟩
    have hfree : ∀ y ∈ (C8.fnScope nB).names, y.2 = .free → ∃ c, (envOfC "_law_bad" (defScope s_L_bad) s.heap.objs.size (He.ga K "_law_bad") (.ref (He.cT K ("_law_bad", none)).1)).cells.lookup y.1 = some c := fun y hy e => by
      have := ndef_free (sc := defScope s_L_bad) (fr := frB) (by decide +kernel) y hy e
      rcases this with h | h
      · exact cell_has h
      · exact absurd h (by
          have hn : ∀ y : Str, (defScope s_L_bad).names.lookup y ≠ some .free := fun y h => absurd (PySem.mem_of_lookup h) (by
            have : ∀ z ∈ (defScope s_L_bad).names, z.2 ≠ .free := by decide +kernel
            exact fun hm => this _ hm rfl)
          exact hn _)
    have cl := clo_ok (F := NF.of nB "_law_maker" ("_law_bad.<locals>." ++ "_law_maker") (cloFrom (envOfC "_law_bad" (defScope s_L_bad) s.heap.objs.size (He.ga K "_law_bad") (.ref (He.cT K ("_law_bad", none)).1)).cells (C8.fnScope nB).names []) c') (fr := frB) rfl hfree nsB.free tr.inj
    have C := clo_cells (F := NF.of nB "_law_maker" ("_law_bad.<locals>." ++ "_law_maker") (cloFrom (envOfC "_law_bad" (defScope s_L_bad) s.heap.objs.size (He.ga K "_law_bad") (.ref (He.cT K ("_law_bad", none)).1)).cells (C8.fnScope nB).names []) c') (fr := frB) rfl hfree (ndef_fr (sc := defScope s_L_bad) (by decide +kernel)) rfl tr
    exact q (digB f _ (1 + r3) mn (N_maker_bad G) cl ⟨by omega, by omega⟩ ⟨hm0', hm1⟩) H6 (g04.trans (g5.trans g6).any) ((s3.keep gm).keep (g5.trans g6)) ⟨g6.fix hf1 rfl, g6.fix hc1 rfl, C⟩ fun c hc => hc.elim
end
end Seal
namespace Seal
open PySem PySem.Spec PyProof.Rows L2 LamX NdefX
section
variable {X : Cx} {k : Nat} {params : Arguments} {body : Expr} {scope : Scope} {t : XK → TE} {p lpos pos : Pos} {c Pt : Addr}
/-- _law_tried(lambda: body) -/
theorem pe_tried (n : Fn1 X.K X.mg "_law_tried" s_L_tried) (WG : WordX X.K X.mg) (D_L_word : Def X.prog X.w X.K X.mg X.base CX0 1 "_law_word" ["_law_e"] (spWord X.K)) (hr : Room (k + 2) X.A) (hg : Gl X "_law_tried")
    (TB : TabB X.base X.mg c Pt) (hcode : X.env.code = .ref c) (hmT : (Pt, X.env.qual ++ "<lambda>") ∈ tbs X.K) (hu : ∀ p ∈ tbs X.K, p.1 = Pt → p.2 = X.env.qual ++ "<lambda>") (L : LamX.LamS X.env.scope scope) (hdef : defaultsOf params X.env = ([], []))
    (hbind : ∀ (q : Str) (cl : List (Str × Addr)) (pm cv ctv : Value), bindArgs (PySem.W.kla_fn "<lambda>" q params body scope cl pm cv ctv) ⟨[], []⟩ = pure [])
    (hbody : ∀ (A : Around) (outer : List Env) (s : Shared) (H : Hp) (E : XK) (f c' : Addr), Room k (A.deeper (lamEnv X scope s.heap.objs.size f c')) → PE (lamCx X A outer s H E scope f c') body (t E)) :
    PE X (.Call (.Name "_law_tried" p) [.Lambda params body scope lpos] [] pos) (tLam (tbs X.K) (TTried X.K) t) := by
  obtain ⟨fd, F⟩ := n.fn
  have hb := F.bindsN bind_L_tried
  obtain ⟨oc, od, dV, kV, doc, pm, an, cdv, ct, osl, rfl, lk, hcd, _, _⟩ := F.ex
  exact pe_lamcall (Ng := ["_law_work", "_law_found", "_law_caught", "_law_e"]) hg n.g F.kp lk hcd hb sc_L_tried rfl (.inl rfl) (tried_gives WG D_L_word hr) TB hcode hmT hu hr L hdef hbind hbody
end
/-! ### a node that is needed is not spared -/
theorem nw_ltr (t : T) : ∀ (way : W), Wf t → Ltr way → ∀ w ∈ nw t way, Ltr w := by
  induction t using T.ind with
  | hs n => intro way _ _ w hw; nomatch hw
  | hn s v ks ih =>
    intro way hw hl w h
    rcases List.mem_cons.mp (show w ∈ way :: nwK ks (way ++ s) from h) with e | h
    · rw [e]; exact hl
    · obtain ⟨p, hp, h2⟩ := mem_nwK.mp h
      obtain ⟨h3, h4⟩ := (Wf.node.mp hw).2.2.2.2 p hp
      refine ih p hp _ h4 ?_ w h2
      intro c hc
      rcases List.mem_append.mp hc with hc | hc
      · rcases List.mem_append.mp hc with hc | hc
        · exact hl c hc
        · exact (Wf.node.mp hw).1 c hc
      · rw [List.mem_singleton.mp hc]; exact h3
theorem ltr_ok {w : W} (h : Ltr w) : PyData.strOk (S w) = true := ok_S fun c hc => by have := h c hc; unfold Lt at this; omega
/-- the refusal, told -/
def dE (e : Err) : PyData := .tuple [.str (errC e), .str (S (errX e))]
theorem dp_E {K : PySem.W.Frag} {H : Hp} {e : Err} {u : Addr} (h : H u = some (.tup (errV e))) : Dp K H (.ref u) (dE e) := .tup (.of h) (.cons (.str _) (.cons (.str _) .nil))
theorem shaped_E {e : Err} (h : Ltr (errX e)) : SeqAt.shaped (dE e) = true ∧ PyData.eqv (dE e) (dE e) = true := by
  have h1 : (dE e).canLay0 = true := by
    have := ltr_ok h
    cases e <;> simp [dE, errC, PyData.canLay0, PyData.canLayAll0, errX] at this ⊢ <;> exact ⟨by decide +kernel, this⟩
  refine ⟨?_, SeqAt.eqv_refl _ h1⟩
  unfold SeqAt.shaped
  rw [h1, Bool.true_and]
  cases e <;> rfl
section
variable {P : Program} {w : World} {K : PySem.W.Frag} {mg : Str → Option Value} {base : Heap} (g : Dig P w K mg base)
theorem sc_L_spared : FnScope ["_law_state", "_law_told_here", "_law_ways_here", "_law_row_here", "_law_maker", "_law_way", "_law_left", "_law_one", "_law_part"] ["_law_state", "_law_told_here", "_law_ways_here", "_law_row_here", "_law_maker"] (defScope s_L_spared) := ⟨rfl, rfl, rfl, by decide +kernel, rfl, by decide +kernel, by decide +kernel⟩
theorem bind_L_spared : BindQ "_law_spared" "_law_spared" s_L_spared ["_law_state", "_law_told_here", "_law_ways_here", "_law_row_here", "_law_maker"] := fun _ _ _ _ _ _ us hl => match us, hl with | [_, _, _, _, _], _ => rfl
def spSpared : Sp := fun vs H Q _ => ∃ (st b : Addr) (t : T) (v : V) (wl : Addr) (Vs : List W) (rl : Addr) (row : List Deed) (xs : List V) (D : List W) (C : Cont) (o' : Option T), vs = [.ref st, v, .ref wl, .ref rl, .ref g.fa] ∧ StAt H st b ∧ RepD H t v ∧ IsTree (some t) C ∧ H wl = some (.lst (Vs.map fun z => V.str (S z))) ∧ Vs ≠ [] ∧ Vs.length ≤ 10000 ∧ H rl = some (.lst xs) ∧ RepRow H row xs ∧ (∀ d ∈ row, d.ok) ∧ row.length ≤ 1000 ∧ Tabs (tbs K) H ∧ g.St D H ∧ D.length + cnt t ≤ 10000000 ∧ (∀ c, g.Mt c → ¬ Ms st b c) ∧ ¬ g.Mt wl ∧ ¬ g.Mt rl ∧ ¬ Ms st b wl ∧ ¬ Ms st b rl ∧ doRow (some t) row = .ok o' ∧ (∀ w ∈ Vs, w ∈ nw t []) ∧ (∀ w ∈ nw t [], w ∈ Vs ↔ w ∈ come (some t) row) ∧ ∀ H', Q (.bl true) H'
theorem D_L_spared (n : Fn1 K mg "_law_spared" s_L_spared) (nTried : Fn1 K mg "_law_tried" s_L_tried) (G : TX K mg) (TA : TT K mg base) (WG : WordX K mg) (D_L_word : Def P w K mg base CX0 1 "_law_word" ["_law_e"] (spWord K)) (D_L_draw : Def P w K mg base CX0 1 "_law_draw" ["_law_state", "_law_many"] (spDraw K)) (D_L_shown : Def P w K mg base CX0 30 "_law_shown" ["_law_told_here", "_law_way", "_law_ways_here", "_law_maker"] (spShownO g)) (D_part_of : Def P w K mg base CX0 37 "part_of" ["told"] (spPartOf K)) (D_done : Def P w K mg base (CX P w) 26 "done" ["tree", "deeds"] (spDone K)) : Def P w K mg base CX0 40 "_law_spared" ["_law_state", "_law_told_here", "_law_ways_here", "_law_row_here", "_law_maker"] (spSpared g) := by
  refine n.mkT sc_L_spared bind_L_spared (fun vs H Q E h => ?_) (fun A outer s H vs Q E hr h => ?_)
  · obtain ⟨_, _, _, _, _, _, _, _, _, _, _, _, rfl, _⟩ := h
    rfl
  · obtain ⟨st, b, t, v, wl, Vs, rl, row, xs, D, C, o', rfl, hS, hv, ht, hwl, hne, hvl, hrl, hrow, hok, hlen, hT, hD, hcap, hdis, mwl, mrl, swl, srl, hrun, hsub, hcome, q⟩ := h
    have TB := TA.tab "_law_spared" (by simp)
    have hmT : ((He.cT K ("_law_spared", none)).2, ("_law_spared.<locals>." ++ "<lambda>" : Str)) ∈ tbs K := List.mem_cons_of_mem _ (List.mem_cons_of_mem _ (List.mem_cons_of_mem _ (List.mem_cons_of_mem _ List.mem_cons_self)))
    have hu := tab_one TA.nd hmT
    refine ⟨_, (pss_cons (ps_set (i := 5) sc_L_spared.nd rfl (Or.inr rfl) (pe_ix ix_list (pv 2) (pe_cd D_L_draw (hr.mono (by omega)) (by rfl) (pa_cons (pv 0) (pa_cons (pe_callB call_len (by rfl) G.b_len PySem.boot_len (pa_cons (pv 2) pa_nil)) pa_nil))) (fun _ _ => rfl)))
      (pss_cons (ps_setLc (i := 6) (own := [("_law_one", 7)]) (g := gName 7) (by rfl) sc_L_spared.nd rfl rfl (sw_true rfl rfl rfl (by decide +kernel)) (pi_list (pv 2)) (blkOk_by (N := ["_law_state", "_law_told_here", "_law_ways_here", "_law_row_here", "_law_maker", "_law_way", "_law_left", "_law_one", "_law_part"]) (sc := defScope s_L_spared) (by decide +kernel)) (fun _ _ _ _ _ => pg_name (i := 7) sc_L_spared.nd rfl (Or.inl rfl)) (fun _ _ _ _ _ => pts_one (pt_not (pt_val (pe_sw (pv 7) (pv 5))))) (fun _ _ _ _ _ => (pv 7)))
      (pss_cons (ps_set (i := 8) sc_L_spared.nd rfl (Or.inr rfl) (pe_cd D_part_of (hr.mono (by omega)) (by rfl) (pa_cons (pe_cd D_L_shown (hr.mono (by omega)) (by rfl) (pa_cons (pv 1) (pa_cons pe_str (pa_cons (pv 6) (pa_cons (pv 4) pa_nil))))) pa_nil)))
      (pss_one (ps_ret (pe_cmpR (op_eqD hr.units) (pe_tried (k := 34) nTried WG D_L_word (hr.mono (by omega)) (by rfl) TB rfl hmT hu (lamS_by (sc := defScope s_L_spared) (by decide +kernel)) rfl (fun _ _ _ _ _ => rfl) (fun A outer s H E f c' hr2 => (pe_cx D_done (hr2.mono (by omega)) (by rfl) (fun σ => passAt (takes_of rfl rfl rfl rfl) σ) (pa_cons (pv 8) (pa_cons (pv 3) pa_nil))))) (pe_tup (pa_cons pe_str (pa_cons (pv 5) pa_nil))) (nomark _))))))), ?_⟩
    have hVl : 0 < Vs.length := List.length_pos_iff.mpr hne
    refine ⟨_, rfl, _, rfl, _, rfl, _, _, rfl, .inl ⟨_, SqL.of hwl, rfl⟩, st, b, _, rfl, hS, by rw [List.length_map]; omega, by rw [List.length_map]; omega, fun r H1 r0 r1 g1 s1 => ?_⟩
    rw [List.length_map] at r1
    obtain ⟨i, rfl⟩ : ∃ i : Nat, r = i := ⟨r.toNat, by omega⟩
    have hi : i < Vs.length := by omega
    have hwl1 := g1.lst hwl swl
    have hway : Vs[i]? = some Vs[i] := List.getElem?_eq_getElem hi
    have hmem : Vs[i] ∈ Vs := List.getElem_mem hi
    generalize Vs[i] = way at hway hmem
    refine ⟨wl, _, (i : Int), _, rfl, rfl, SqL.of hwl1, atI_nat (by rw [List.getElem?_map, hway]; rfl), ?_⟩
    refine ⟨_, rfl, wl, rfl, ⟨_, SqL.of hwl1⟩, fun Dl hDl => ?_⟩
    refine lc_go (Ts := tbs K) (M := M0) (walk_list (xs := Vs.map fun z => V.str (S z))) hDl (by rw [List.length_map]; omega) m0_ne (fun j ac H' => Gz K H1 H' ∧ ac = ((Vs.take j).filter fun z => !decide (way <+: z)).map fun z => V.str (S z)) (fun i acc H' H'' ⟨a, b⟩ g => ⟨a.loc hDl g, b⟩) ⟨.refl, rfl⟩ (fun i acc H' _ ⟨g, _⟩ => SqL.of (g.lst hwl1 id)) ?_ ?_
    · rintro j ac y H2 H3 R1 R2 hj ⟨g2, rfl⟩ ⟨rfl, hyj⟩ k1 k2
      rw [List.getElem?_map] at hyj
      obtain ⟨z, hz, rfl⟩ := Option.map_eq_some_iff.mp hyj
      refine ⟨rfl, _, rfl, ⟨_, rfl⟩, _, rfl, _, _, rfl, rfl, _, rfl, ?_⟩
      rw [sw_S]
      by_cases hp : way <+: z
      · rw [decide_eq_true hp]
        refine k2 _ .refl ⟨g2, ?_⟩
        rw [take_snoc hz, List.filter_append]
        simp [hp]
      · rw [decide_eq_false hp]
        refine ⟨_, rfl, k1 _ _ .refl ⟨g2, ?_⟩⟩
        rw [take_snoc hz, List.filter_append, List.map_append]
        simp [hp]
    rintro ac H2 ⟨g2, rfl⟩ hD2 _
    rw [List.length_map, List.take_length] at hD2
    have hVm : ∀ w, w ∈ (Vs.filter fun z => !decide (way <+: z)) ↔ w ∈ Vs ∧ ¬ way <+: w := fun w => by
      rw [List.mem_filter]
      simp
    have hVl : (Vs.filter fun z => !decide (way <+: z)).length ≤ 10000 := Nat.le_trans (List.length_filter_le _ _) hvl
    generalize (Vs.filter fun z => !decide (way <+: z)) = Ls at hD2 hVm hVl
    have g02 : Go (tbs K) (Ms st b) H H2 := g1.trans g2.any
    have hD0 : g.St D H2 := g.keep hD g02 fun c hc hm => hdis c hm hc
    have mD : ¬ g.Mt Dl := g.ne (g.keep hD g1 fun c hc hm => hdis c hm hc) hDl
    have w8 := ht.wf
    refine ⟨_, rfl, _, rfl, _, rfl, some t, v, Dl, Ls, D, rfl, RepD.keep g02.keep t hv, hD2, mD, hVl, ht.2.1, w8, hD0, by simp only [cntO]; omega, fun D3 H3 r3 so b1 b2 b3 b4 b5 b6 => ?_⟩
    cases so with
    | none => exact b5.elim
    | some s' =>
      have b5 : Shn (g.ND D3) Ls s' t [] := b5
      simp only [cntO] at b2
      have ws : WfO (some s') := g.wfO (by omega) (show SlO (g.ND D3) (some s') (some t) from b5.sl) w8
      refine ⟨s', r3, rfl, b6, ws, fun pt H4 g4 hpt => ?_⟩
      have g04 : Go (tbs K) (fun c => Ms st b c ∨ g.Mt c) H H4 := (g02.mono fun c h => .inl h).trans ((b4.mono fun c h => .inr h).trans g4.any)
      have sp := spared b5 ht hok hrun hcome hmem (hsub _ hmem) hVm
      refine ⟨g04.t hT, fun H5 e5 t5 => ?_⟩
      have g5 : Gz K H4 H5 := go_ext e5 t5
      intro H6 Q' g6 hQ'
      have gB := g5.trans g6
      refine ⟨_, rfl, _, rfl, some s', pt, row, rl, xs, rfl, Rep.keep (gB).keep s' hpt, ws, gB.lst (g04.lst hrl fun h => h.elim srl mrl) id, hrow.keep (g04.trans gB.any).keep, hok, hlen, (g04.trans gB.any).t hT, ?_⟩
      rw [sp]
      intro d H7 g7 hd7
      refine ⟨.unseen way, d, rfl, rfl, hd7, fun u H8 g8 hu8 => ?_⟩
      refine ⟨_, rfl, by show 2 ≤ sizeLine; decide, fun y hy => ?_⟩
      have gy : Gz K H8 (upd H8 y (.tup [.str "Unseen", .str (S way)])) := .new hy
      have hE := shaped_E (e := .unseen way) (nw_ltr t [] w8.1 (fun c hc => nomatch hc) way (hsub _ hmem))
      refine ⟨dE (.unseen way), dE (.unseen way), dp_E (gy.tup hu8), dp_E upd_same, hE.1, hE.1, ?_⟩
      rw [hE.2]
      exact q _
end
end Seal
namespace Seal
open PySem PySem.Spec PyProof.Rows L2 LamX NdefX
/-! ### == and != of parts, by their own == -/
section
open PySem.W PySem.Calls PyProof.Rows Builtin
variable {prog : Program} {w : World} {A A₀ : Around} {E : Value → Shared → Prop} {s : Shared} {K : PySem.W.Frag} {x C L f : Addr} {h₀ : Heap} {m : Str → Option Value} {ox : Obj} {od : Option Obj} {b tb : Value}
theorem ne_entry {Q : Fin → Shared → Prop} (X : K.In s.heap) (I : PySem.W.InstAt s.heap x ox C od) (hu : A.units < cLine) (hs : PySem.W.findIn K (.ref C) "__eq__" = some (some (.ref f))) (hf : PySem.W.isFn K (.ref f) = true)
    (h : wpAny (model prog w) A (call (.ref f) [.ref x, b]) (fun v s' => ∃ r, v = .bool r ∧ Q (.done (.ret (.bool (!r)))) s') E s) : wpAny (model prog w) A (Builtin.«object.__ne__» ⟨[.ref x, b], []⟩) Q E s := by
  unfold Builtin.«object.__ne__»
  repeat (first
    | with_reducible refine wpAny_cRoomFor hu ?_
    | (refine wpAny_bind (m := callSpecialIfBound? (.ref x) (Str.ofString "__eq__") [b])
        (PySem.W.ifBound_K X I hs hf (wpAny_mono h (fun r s' hr => by
          obtain ⟨b, rfl, hq⟩ := hr
          repeat (first | exact hq | exact wpAny_pure hq | exact wpAny_truthy_bool hq | (refine wpAny_bind (m := truthy (.bool _)) (wpAny_truthy_bool ?_)) | wp_step)) fun _ _ e => e)))
    | wp_step)
theorem ifBound_B {M : Model} {args : List Value} {i : String} {Q : Option Value → Shared → Prop} {name : Str} (X : K.In s.heap) (I : PySem.W.InstAt s.heap x ox C od) (hs : PySem.W.findIn K (.ref C) name = some (some (.builtin i))) (hb : ∀ self, bindSpecial (.builtin i) self = pure (.builtin i, [self]))
    (h : wpAny M A (call (.builtin i) (.ref x :: args)) (fun v => Q (some v)) E s) : wpAny M A (callSpecialIfBound? (.ref x) name args) Q E s := by
  simp only [callSpecialIfBound?, bindSpecialIfBound?]
  refine wpAny_holding (wpAny_bind (wpAny_bind (wpAny_bind (I.type.here ((PySem.W.looks_findIn X hs).here ?_)))))
  simp only [hb]
  refine wpAny_bind (wpAny_askSetting (wpAny_ite ?_))
  have fin : wpAny M A (call (.builtin i) ([.ref x] ++ args) >>= fun v => pure (some v)) Q E s := wpAny_bind (wpAny_mono h (fun v s' h' => wpAny_pure h') fun _ _ h' => h')
  split
  · exact wpAny_bind (wpAny_pure (wpAny_pure fin))
  · exact wpAny_tryCatch (wpAny_bind (wpAny_pure (wpAny_pure fin)))
theorem ne_K {Q : Value → Shared → Prop} (hu : A.units + 1 < cLine) (F : Fr h₀ L s.heap m) (X₀ : K.In h₀) (I : PySem.W.InstAt s.heap x ox C od) (hb : PySem.W.Looks (model prog w) s.heap (typeOf b) tb) (hn : PySem.W.notFirst K C tb = true)
    (hne : PySem.W.findIn K (.ref C) "__ne__" = some (some (.builtin "object.__ne__"))) (ho : PySem.W.mroIn K C (.type "object") = some true)
    (hs : PySem.W.findIn K (.ref C) "__eq__" = some (some (.ref f))) (hf : PySem.W.isFn K (.ref f) = true)
    (h : wpAny (model prog w) A.in1 (call (.ref f) [.ref x, b]) (fun v s' => ∃ r, v = .bool r ∧ Q (.bool (!r)) s') E s) : wpAny (model prog w) A (richCompare .NotEq (.ref x) b) Q E s := by
  have X := X₀.keeps F.keep
  have one : wpAny (model prog w) A (tryCompare (.ref x) (cmpInfo .NotEq).2.1 b) (fun r s' => ∃ v, r = some v ∧ Q v s') E s := by
    unfold tryCompare
    refine wpAny_bind (ifBound_B X I hne PySem.F.cmp_object.ne.bind (wpAny_call (codeAny_call_builtin PySem.F.cmp_object.ne.plain PySem.F.cmpEntry_ne (PySem.W.check_slot PySem.F.cmpKind_ne PySem.F.cmpSplit_ne (I.type.andThen (PySem.W.looks_mroIn X ho)) (PySem.F.cmpArgs_ne _ _) (ne_entry X I (show A.in1.units < cLine from hu) hs hf (wpAny_mono h (fun v s' hv => ?_) fun _ _ e => e))))))
    obtain ⟨r, rfl, hq⟩ := hv
    exact ⟨r, rfl, wpAny_pure ⟨_, rfl, hq⟩⟩
  unfold richCompare
  simp only [oneThing_ref]
  refine wpAny_holding (wpAny_bind (wpAny_cRoomFor (Nat.lt_of_succ_lt hu) ?_))
  refine wpAny_bind (I.type.here (wpAny_bind (hb.here ?_)))
  split
  · rename_i q
    have e : PySem.W.subIn K tb (.ref C) = some false := by
      rcases Bool.or_eq_true_iff.mp hn with e | e
      · rw [beq_iff_eq.mp e] at q; simp at q
      · exact beq_iff_eq.mp e
    refine wpAny_bind ((PySem.W.looks_subIn X e).here ?_)
    simp only [Bool.false_eq_true, if_false]
    refine wpAny_bind (wpAny_mono one (fun r s' z => ?_) fun _ _ e => e)
    obtain ⟨v, rfl, hq⟩ := z
    exact wpAny_pure hq
  · refine wpAny_bind (wpAny_pure ?_)
    simp only [Bool.false_eq_true, if_false]
    refine wpAny_bind (wpAny_mono one (fun r s' z => ?_) fun _ _ e => e)
    obtain ⟨v, rfl, hq⟩ := z
    exact wpAny_pure hq
end

structure TE' (K : PySem.W.Frag) : Prop where
  eN : PySem.W.findIn K (.ref (NA K)) "__eq__" = some (some (.ref (He.ma K (PAd K) "__eq__")))
  eS : PySem.W.findIn K (.ref (SA K)) "__eq__" = some (some (.ref (He.ma K (PAd K) "__eq__")))
  nN : PySem.W.findIn K (.ref (NA K)) "__ne__" = some (some (.builtin "object.__ne__"))
  nS : PySem.W.findIn K (.ref (SA K)) "__ne__" = some (some (.builtin "object.__ne__"))
  oN : PySem.W.mroIn K (NA K) (.type "object") = some true
  oS : PySem.W.mroIn K (SA K) (.type "object") = some true
  fE : PySem.W.isFn K (.ref (He.ma K (PAd K) "__eq__")) = true
theorem sc_Part_eq : FnScope ["self", "other"] ["self", "other"] (defScope s_Part_eq) := ⟨rfl, rfl, rfl, by decide +kernel, rfl, by decide +kernel, by decide +kernel⟩
theorem bind_Part_eq : BindQ "__eq__" "Part.__eq__" s_Part_eq ["self", "other"] := fun _ _ _ _ _ _ us hl => match us, hl with | [_, _], _ => rfl
def spPartEq (K : PySem.W.Frag) : Sp := fun vs H Q _ => ∃ (t : T) (v u : V), vs = [v, u] ∧ Rep K H t v ∧ Rep K H t u ∧ Wf t ∧ ht t ≤ 8 ∧ Ret K (.bl true) H Q
section
variable {P : Program} {w : World} {K : PySem.W.Frag} {mg : Str → Option Value} {base : Heap}
theorem D_Part_eq (n : FnM1 K "Part" "__eq__" "Part.__eq__" s_Part_eq) (G : TX K mg) (D_St : DefM P w K mg base 1 "Stub" "told" ["self"] (spStubTold K)) (D_Nt : DefM P w K mg base 11 "Node" "told" ["self"] (spNodeTold K 9)) : DefM P w K mg base 12 "Part" "__eq__" ["self", "other"] (spPartEq K) := by
  refine n.mk0 sc_Part_eq bind_Part_eq (fun vs H Q E h => ?_) (fun cdv A outer s H vs Q E hr h => ?_)
  · obtain ⟨_, _, _, rfl, _⟩ := h
    rfl
  · obtain ⟨t, v, u, rfl, hv, hu, hw, h8, q⟩ := h
    refine ⟨_, (pss_one (ps_ret (pe_and (pe_callB call_isi (by rfl) G.b_isinstance (by decide +kernel) (pa_cons (pv 1) (pa_cons (pe_gR G.c_Part) pa_nil))) (pe_one (pe_cmpR (op_eqD hr.units) (PE.or' (pe_md0 (pv 0) G.tS.cl G.m_St D_St (hr.mono (by omega))) (pe_md0 (pv 0) G.tN.cl G.m_Nt D_Nt (hr.mono (by omega)))) (PE.or' (pe_md0 (pv 1) G.tS.cl G.m_St D_St (hr.mono (by omega))) (pe_md0 (pv 1) G.tN.cl G.m_Nt D_Nt (hr.mono (by omega)))) (nomark _)))))), ?_⟩
    have hu' : RepO K H (some t) u := hu
    obtain ⟨w', h1, h2⟩ := G.part hu'
    refine ⟨_, rfl, _, _, _, _, true, rfl, .own _, h1, h2, true, rfl, ?_⟩
    have main : ∀ d e H1, Gz K H H1 → RepD H1 t d → RepD H1 t e → rEqD K d e H1 Q := fun d e H1 g1 r1 r2 => ⟨_, _, dp_toldD t r1, dp_toldD t r2, shaped_dT hw h8, shaped_dT hw h8, by
      rw [SeqAt.eqv_refl (dT t) (lay_dT t hw)]
      exact q _ g1⟩
    show (_ ∨ _)
    cases t with
    | stub m => 
      obtain ⟨a, dx, rfl, ha⟩ := Rep.stub.mp hv
      obtain ⟨b, dy, rfl, hb⟩ := Rep.stub.mp hu
      refine .inl ⟨_, rfl, a, dx, _, rfl, ha, rfl, m, _, rfl, hv, fun d H1 g1 r1 => ?_⟩
      refine .inl ⟨_, rfl, b, dy, _, rfl, g1.ins hb, rfl, m, _, rfl, Rep.keep g1.keep _ hu, fun e H2 g2 r2 => ?_⟩
      exact main d e H2 (g1.trans g2) (RepD.keep g2.keep _ r1) r2
    | node st x ks =>
      obtain ⟨a, dx, l, xs, rfl, ha, hl, hx⟩ := Rep.node.mp hv
      obtain ⟨b, dy, l2, xs2, rfl, hb, hl2, hx2⟩ := Rep.node.mp hu
      have w5 := wf_few26 hw
      have hk : ∀ p ∈ ks, ht p.2 < 9 ∧ Wf p.2 := fun p hp => by
        have := ht_mem (ks := ks) hp
        simp only [ht] at h8
        exact ⟨by omega, ((Wf.node.mp hw).2.2.2.2 p hp).2⟩
      refine .inr ⟨_, rfl, a, dx, _, rfl, ha, rfl, st, x, ks, _, rfl, hv, by omega, hk, fun d H1 g1 r1 => ?_⟩
      refine .inr ⟨_, rfl, b, dy, _, rfl, g1.ins hb, rfl, st, x, ks, _, rfl, Rep.keep g1.keep _ hu, by omega, hk, fun e H2 g2 r2 => ?_⟩
      exact main d e H2 (g1.trans g2) (RepD.keep g2.keep _ r1) r2
end
/-! ### the rules -/
/-- two parts that tell the same: == True, != False -/
def rPart (K : PySem.W.Frag) (r : Bool) : R2 := fun x y H Q => ∃ t, Rep K H t x ∧ Rep K H t y ∧ Wf t ∧ ht t ≤ 8 ∧ Ret K (.bl r) H Q
def R2or (r r' : R2) : R2 := fun x y H Q => r x y H Q ∨ r' x y H Q
section
variable {X : Cx} {f : Value → Value → Sem Value} {r r' : R2}
theorem OpR.or (h : OpR X f r) (h' : OpR X f r') : OpR X f (R2or r r') := by
  intro pins s σ H x y v u Q I rx ry hq
  rcases hq with q | q
  · exact h pins s σ H x y v u Q I rx ry q
  · exact h' pins s σ H x y v u Q I rx ry q
/-- what a rich comparison of two instances comes to, by the own == -/
theorem call_part {A : Around} {k : Nat} (D : DefM X.prog X.w X.K X.mg X.base k "Part" "__eq__" ["self", "other"] (spPartEq X.K)) (hr : Room k A) (hA : A.frames = X.A.frames) {pins : List (Addr × Obj)} {s : Shared} {σ : L2.St} {H : Hp} {Q : VK} {x y : V} {u v : Value} (I : Inv X pins σ H s) (rx : RelV x u) (ry : RelV y v)
    (h : ∃ t, Rep X.K H t x ∧ Rep X.K H t y ∧ Wf t ∧ ht t ≤ 8 ∧ ∀ H', Gz X.K H H' → Q .non H') : wpAny (model X.prog X.w) A (call (.ref (He.ma X.K (He.ga X.K "Part") "__eq__")) [u, v]) (fun r s' => r = .bool true ∧ ∃ H', Inv X pins σ H' s' ∧ Q .non H') X.xe s := by
  obtain ⟨t, hx, hy, hw, h8, q⟩ := h
  obtain ⟨fd, hb, F⟩ := D.fn
  have hsp : spPartEq X.K [x, y] H (fun v H' => v = .bl true ∧ Q .non H') E0 := ⟨t, x, y, rfl, hx, hy, hw, h8, fun H' g => ⟨rfl, q H' g⟩⟩
  have e0 : Env0 X.prog X.w X.K X.mg X.base A X.stack s H := by
    have e := I.env0
    exact ⟨by rw [hA]; exact e.frames, e.mod, e.bs, e.bsz, e.funs, e.frf, e.hok, e.bare⟩
  have r2 : Vals [x, y] [u, v] := .cons rx (.cons ry .nil)
  refine wpAny_call (codeAny_mono (F.run A X.stack s H ⟨[u, v], []⟩ [u, v] [x, y] _ E0 hr e0 (by
    have := hb s [u, v] I.kIn (by simp)
    simpa using this) r2 hsp) fun r s' hq => ?_)
  cases r with
  | error e => exact pass0 pins σ H s e s' I hq
  | ok fl =>
    cases fl with
    | ret w =>
      obtain ⟨z, H', I', rz, ez, ex⟩ := I.after hq
      subst ez
      cases rz
      exact ⟨rfl, H', I', ex⟩
    | next => exact False.elim hq
    | brk => exact False.elim hq
    | cont => exact False.elim hq
/-- where two parts tell the same, their class -/
theorem part_ins {K : PySem.W.Frag} (TP : TE' K) {H : Hp} {t : T} {x y : V} (hx : Rep K H t x) (hy : Rep K H t y) : ∃ a b C dx dy fs gs, x = .ref a ∧ y = .ref b ∧ H a = some (.ins C dx fs) ∧ H b = some (.ins C dy gs) ∧
    PySem.W.findIn K (.ref C) "__eq__" = some (some (.ref (He.ma K (PAd K) "__eq__"))) ∧ PySem.W.findIn K (.ref C) "__ne__" = some (some (.builtin "object.__ne__")) ∧ PySem.W.mroIn K C (.type "object") = some true := by
  cases t with
  | stub m =>
    obtain ⟨a, dx, rfl, ha⟩ := Rep.stub.mp hx
    obtain ⟨b, dy, rfl, hb⟩ := Rep.stub.mp hy
    exact ⟨a, b, _, dx, dy, _, _, rfl, rfl, ha, hb, TP.eS, TP.nS, TP.oS⟩
  | node st o ks =>
    obtain ⟨a, dx, l, xs, rfl, ha, _⟩ := Rep.node.mp hx
    obtain ⟨b, dy, l2, xs2, rfl, hb, _⟩ := Rep.node.mp hy
    exact ⟨a, b, _, dx, dy, _, _, rfl, rfl, ha, hb, TP.eN, TP.nN, TP.oN⟩
theorem op_eqP {k : Nat} (TP : TE' X.K) (D : DefM X.prog X.w X.K X.mg X.base k "Part" "__eq__" ["self", "other"] (spPartEq X.K)) (hr : Room k X.A) : OpR X (compareOp .Eq) (rPart X.K true) := by
  intro pins s σ H x y v u Q I rx ry hq
  obtain ⟨t, hx, hy, hw, h8, q⟩ := hq
  show wpAny (model X.prog X.w) X.A (richCompare .Eq v u) (EP X pins σ Q) X.xe s
  obtain ⟨a, b, C, dx, dy, fs, gs, rfl, rfl, ha, hb, e1, e2, e3⟩ := part_ins TP hx hy
  cases id rx
  cases id ry
  obtain ⟨mA, J, _⟩ := ins_get I.hok ha
  obtain ⟨mB, J', _⟩ := ins_get I.hok hb
  obtain ⟨od, J, _⟩ := J.look
  obtain ⟨od', J', _⟩ := J'.look
  obtain ⟨m, hF⟩ := I.fr
  refine PySem.W.cmp_K (op := .Eq) (tb := .ref C) hr.units0 hF I.ok.mod.kin J J'.type (by simp [PySem.W.notFirst]) e1 TP.fE ?_
  refine wpAny_mono (call_part (Q := fun _ H' => Q (.bl true) H') D hr rfl I rx ry ⟨t, hx, hy, hw, h8, fun H' g => q H' g⟩) (fun r s' z => ?_) fun _ _ x => x
  obtain ⟨rfl, H', I', e⟩ := z
  exact ⟨.bl true, H', I', rfl, e⟩
theorem op_neP {k : Nat} (TP : TE' X.K) (D : DefM X.prog X.w X.K X.mg X.base k "Part" "__eq__" ["self", "other"] (spPartEq X.K)) (hr : Room (k + 1) X.A) : OpR X (compareOp .NotEq) (rPart X.K false) := by
  intro pins s σ H x y v u Q I rx ry hq
  obtain ⟨t, hx, hy, hw, h8, q⟩ := hq
  show wpAny (model X.prog X.w) X.A (richCompare .NotEq v u) (EP X pins σ Q) X.xe s
  obtain ⟨a, b, C, dx, dy, fs, gs, rfl, rfl, ha, hb, e1, e2, e3⟩ := part_ins TP hx hy
  cases id rx
  cases id ry
  obtain ⟨mA, J, _⟩ := ins_get I.hok ha
  obtain ⟨mB, J', _⟩ := ins_get I.hok hb
  obtain ⟨od, J, _⟩ := J.look
  obtain ⟨od', J', _⟩ := J'.look
  obtain ⟨m, hF⟩ := I.fr
  refine ne_K (tb := .ref C) hr.in1.units0 hF I.ok.mod.kin J J'.type (by simp [PySem.W.notFirst]) e2 e3 e1 TP.fE ?_
  refine wpAny_mono (call_part (Q := fun _ H' => Q (.bl false) H') D hr.in1 rfl I rx ry ⟨t, hx, hy, hw, h8, fun H' g => q H' g⟩) (fun r s' z => ?_) fun _ _ x => x
  obtain ⟨rfl, H', I', e⟩ := z
  exact ⟨true, rfl, .bl false, H', I', rfl, e⟩
end
end Seal
namespace Seal
open PySem PySem.Spec PyProof.Rows L2 LamX NdefX
/-! ### a slice shows no more than it tells -/
def GotV (H : Hp) (res : Except Err (Option W)) (r : V) : Prop := match res with
  | .ok x => r = oS x
  | .error e => ∃ u, r = .ref u ∧ H u = some (.tup (errV e))
def DoneV (K : PySem.W.Frag) (H : Hp) (res : Except Err (Option T)) (r : V) : Prop := match res with
  | .ok o => RepO K H o r
  | .error e => ∃ u, r = .ref u ∧ H u = some (.tup (errV e))
theorem tried_err {K : PySem.W.Frag} {H : Hp} {Q : VK} {E : XK} {e : Err} (hE : ∀ (e : Err) (dd : Addr) H', H' dd = some (.xd [(errF e, .str (S (errX e)))]) → (∀ u H'', Gz K H' H'' → H'' u = some (.tup (errV e)) → Q (.ref u) H'') → E (.ref (He.ga K (errC e))) (some dd) H') (q : ∀ u H', Gz K H H' → H' u = some (.tup (errV e)) → Q (.ref u) H') : ErrAt K H E e := by
  cases e with
  | unseen x => exact fun d H' g hd => hE (.unseen x) d H' hd fun u H'' g' hu => q u H'' (g.trans g') hu
  | nokey x => exact fun d H' g hd => hE (.nokey x) d H' hd fun u H'' g' hu => q u H'' (g.trans g') hu
theorem tried_got {K : PySem.W.Frag} {σ : L2.St} {i j : Nat} {H : Hp} {Q : VK} {so : Option T} {v : V} {k : W} (h1 : σ[i]? = some (some v)) (h2 : σ[j]? = some (some (.str (S k)))) (hv : RepO K H so v) (hw : WfO so) (hk : IsKey k) (hT : Tabs (tbs K) H)
    (q : ∀ r H', Gz K H H' → GotV H' (gotO so [] k) r → Q r H') : tLam (tbs K) (TTried K) (fun E => tCallS (spGot K) (fun σ => WE (fun cls d x H => E cls d H) σ) (tCons (tVar i) (tCons (tVar j) tNil))) σ H Q := by
  refine ⟨hT, fun H1 e1 t1 H2 Q' g2 hQ' => ?_⟩
  have g12 := (go_ext e1 t1).trans g2
  refine ⟨_, h1, _, h2, so, v, k, rfl, RepO.keep g12.keep hv, hw, hk, ?_⟩
  generalize gotO so [] k = res at q ⊢
  cases res with
  | ok x => exact fun H3 g3 => hQ' _ _ (q _ _ (g12.trans g3) rfl)
  | error e => exact tried_err (fun e dd H' h1 h2 => ⟨e, dd, rfl, rfl, h1, h2⟩) fun u H3 g3 hu => q _ _ (g12.trans g3) ⟨u, rfl, hu⟩
theorem tried_drop {K : PySem.W.Frag} {σ : L2.St} {i j : Nat} {H : Hp} {Q : VK} {so : Option T} {v : V} {k : W} (h1 : σ[i]? = some (some v)) (h2 : σ[j]? = some (some (.str (S k)))) (hv : RepO K H so v) (hw : WfO so) (hk : IsKey k) (hT : Tabs (tbs K) H)
    (q : ∀ r H', Gz K H H' → DoneV K H' (doD so (.drop k)) r → Q r H') : tLam (tbs K) (TTried K) (fun E => tCallS (spDone K) (fun σ => WE (fun cls d x H => E cls d H) σ) (tCons (tVar i) (tCons (tLst (tCons (tTup (tCons (tC (.str "drop")) (tCons (tVar j) tNil))) tNil)) tNil))) σ H Q := by
  refine ⟨hT, fun H1 e1 t1 H2 Q' g2 hQ' => ?_⟩
  have g12 := (go_ext e1 t1).trans g2
  refine ⟨_, h1, _, h2, by show 2 ≤ sizeLine; decide, fun a ha => ⟨by show 1 ≤ sizeLine; decide, fun l hl => ?_⟩⟩
  have ga : Gz K H2 (upd H2 a (.tup [.str "drop", .str (S k)])) := .new ha
  have gl : Gz K (upd H2 a (.tup [.str "drop", .str (S k)])) (upd (upd H2 a (.tup [.str "drop", .str (S k)])) l (.lst [.ref a])) := .new hl
  have gA := g12.trans (ga.trans gl)
  refine ⟨so, v, [.drop k], l, _, rfl, RepO.keep gA.keep hv, hw, upd_same, .cons ⟨a, rfl, gl.tup upd_same⟩ .nil, ?_, by simp, gA.t hT, ?_⟩
  · intro d hd
    rw [List.mem_singleton.mp hd]
    exact hk
  have e : doRow so [.drop k] = doD so (.drop k) := by
    unfold doRow
    cases doD so (.drop k) with
    | ok o => rfl
    | error e => rfl
  rw [e]
  generalize doD so (.drop k) = res at q ⊢
  cases res with
  | ok x => exact fun v3 H3 g3 h3 => hQ' _ _ (q _ _ (gA.trans g3) h3)
  | error e => exact tried_err (fun e dd H' h1 h2 => ⟨e, dd, rfl, rfl, h1, h2⟩) fun u H3 g3 hu => q _ _ (gA.trans g3) ⟨u, rfl, hu⟩
theorem gotIn_ltr (t : T) : ∀ (way r : W), Wf t → Ltr way → Ltr r → (∀ x, gotIn t way r = .ok (some x) → Vl x) ∧ ∀ e, gotIn t way r = .error e → Ltr (errX e) := by
  induction t using T.ind with
  | hs n =>
    intro way r _ hl _
    have e : gotIn (.stub n) way r = .error (.unseen way) := by rw [gotIn]
    rw [e]
    refine ⟨?_, ?_⟩
    · intro x h; cases h
    · intro e h; cases h; exact hl
  | hn s v ks ih =>
    intro way r hw hl hr
    obtain ⟨w1, w2, w3, w4, w5⟩ := Wf.node.mp hw
    rw [gotIn]
    cases er : rest? s r with
    | none =>
      refine ⟨?_, ?_⟩
      · intro x h; cases h
      · intro e h; cases h
    | some q =>
      cases q with
      | nil =>
        refine ⟨?_, ?_⟩
        · intro x h; cases h; exact w2 x rfl
        · intro e h; cases h
      | cons l r' =>
        have := rest_some er
        simp only [gotK_eq]
        cases ek : kat ks l with
        | none =>
          refine ⟨?_, ?_⟩
          · intro x h; cases h
          · intro e h; cases h
        | some u =>
          have hl2 : Lt l ∧ Ltr r' := by
            subst this
            exact ⟨hr l (by simp), fun c hc => hr c (by simp [hc])⟩
          refine ih _ (kat_mem ek) _ _ (w5 _ (kat_mem ek)).2 ?_ hl2.2
          intro c hc
          rcases List.mem_append.mp hc with hc | hc
          · rcases List.mem_append.mp hc with hc | hc
            · exact hl c hc
            · exact w1 c hc
          · rw [List.mem_singleton.mp hc]; exact hl2.1
theorem dropErr_ltr {N : T → Int → Prop} {so o : Option T} {C : Cont} {k : W} {e : Err} (h : SlO N so o) (ht : IsTree o C) (hk : IsKey k) (he : doD so (.drop k) = .error e) : Ltr (errX e) := by
  rcases sl_doD (d := .drop k) h ht hk with ⟨_, _, _, e1, _⟩ | ⟨w, e1, _, e3⟩ | ⟨k', e1, e2⟩
  · rw [e1] at he; cases he
  · rw [e1] at he
    cases he
    cases so with
    | none => nomatch e3
    | some s =>
      cases o with
      | none => exact h.elim
      | some t => exact nw_ltr t [] ht.1 (fun c hc => nomatch hc) w (sw_nw s t [] w h ht.2.1 e3)
  · rw [e1] at he
    cases he
    have hk' : k' = k := by
      obtain ⟨d1, d2⟩ := drop_tree ht (show (Deed.drop k).ok from hk)
      by_cases c : C k = none
      · rw [d1 c] at e2; cases e2; rfl
      · obtain ⟨o', e4, _⟩ := d2 c
        rw [e4] at e2; cases e2
    rw [hk']
    exact hk.1
def dX : Option W → PyData
  | none => .none
  | some x => .str (S x)
def dG : Except Err (Option W) → PyData
  | .ok x => dX x
  | .error e => dE e
theorem vl_ok {w : W} (h : Vl w) : PyData.strOk (S w) = true := ok_S fun c hc => by have := h.2 c hc; omega
theorem got_data {K : PySem.W.Frag} {H : Hp} {res : Except Err (Option W)} {r : V} (h : GotV H res r) : Dp K H r (dG res) := by
  cases res with
  | ok x =>
    have h : r = oS x := h
    rw [h]
    cases x with
    | none => exact .non
    | some x => exact .str _
  | error e =>
    obtain ⟨u, rfl, hu⟩ := h
    exact dp_E hu
theorem got_shaped {t : Option T} {k : W} (hw : WfO t) (hk : IsKey k) : SeqAt.shaped (dG (gotO t [] k)) = true ∧ PyData.eqv (dG (gotO t [] k)) (dG (gotO t [] k)) = true := by
  cases t with
  | none => exact ⟨rfl, rfl⟩
  | some t =>
    obtain ⟨h1, h2⟩ := gotIn_ltr t [] k hw.1 (fun c hc => nomatch hc) hk.1
    show SeqAt.shaped (dG (gotIn t [] k)) = true ∧ PyData.eqv (dG (gotIn t [] k)) (dG (gotIn t [] k)) = true
    cases e : gotIn t [] k with
    | ok x =>
      cases x with
      | none => exact ⟨rfl, rfl⟩
      | some x =>
        have := vl_ok (h1 x e)
        have h3 : (PyData.str (S x)).canLay0 = true := by rw [PyData.canLay0]; exact this
        refine ⟨?_, SeqAt.eqv_refl _ h3⟩
        unfold SeqAt.shaped
        show (PyData.canLay0 (PyData.str (S x)) && _) = true
        rw [h3]
        rfl
    | error e' => exact shaped_E (h2 e' e)
section
variable {P : Program} {w : World} {K : PySem.W.Frag} {mg : Str → Option Value} {base : Heap}
theorem sc_L_shows_no_more : FnScope ["_law_part", "_law_word_here", "_law_again", "_law_found"] ["_law_part", "_law_word_here"] (defScope s_L_shows_no_more) := ⟨rfl, rfl, rfl, by decide +kernel, rfl, by decide +kernel, by decide +kernel⟩
theorem bind_L_shows_no_more : BindQ "_law_shows_no_more" "_law_shows_no_more" s_L_shows_no_more ["_law_part", "_law_word_here"] := fun _ _ _ _ _ _ us hl => match us, hl with | [_, _], _ => rfl
def spNoMore (K : PySem.W.Frag) : Sp := fun vs H Q _ => ∃ (N : T → Int → Prop) (so o : Option T) (C : Cont) (v : V) (k : W), vs = [v, .str (S k)] ∧ RepO K H so v ∧ WfO so ∧ SlO N so o ∧ IsTree o C ∧ IsKey k ∧ Tabs (tbs K) H ∧ ∀ H', Gz K H H' → Q (.bl true) H'
theorem D_L_shows_no_more (n : Fn1 K mg "_law_shows_no_more" s_L_shows_no_more) (nTried : Fn1 K mg "_law_tried" s_L_tried) (G : TX K mg) (TP : TE' K) (TA : TT K mg base) (WG : WordX K mg) (D_L_word : Def P w K mg base CX0 1 "_law_word" ["_law_e"] (spWord K)) (D_St : DefM P w K mg base 1 "Stub" "told" ["self"] (spStubTold K)) (D_Nt : DefM P w K mg base 11 "Node" "told" ["self"] (spNodeTold K 9)) (D_Part_eq : DefM P w K mg base 12 "Part" "__eq__" ["self", "other"] (spPartEq K)) (D_got : Def P w K mg base (CX P w) 4 "got" ["tree", "key"] (spGot K)) (D_part_of : Def P w K mg base CX0 37 "part_of" ["told"] (spPartOf K)) (D_done : Def P w K mg base (CX P w) 26 "done" ["tree", "deeds"] (spDone K)) : Def P w K mg base CX0 40 "_law_shows_no_more" ["_law_part", "_law_word_here"] (spNoMore K) := by
  refine n.mkT sc_L_shows_no_more bind_L_shows_no_more (fun vs H Q E h => ?_) (fun A outer s H vs Q E hr h => ?_)
  · obtain ⟨_, _, _, _, _, _, rfl, _⟩ := h
    rfl
  · obtain ⟨N, so, o, C, v, k, rfl, hv, hw, hsl, htr, hk, hT, q⟩ := h
    have TB := TA.tab "_law_shows_no_more" (by simp)
    have hmT : ((He.cT K ("_law_shows_no_more", none)).2, ("_law_shows_no_more.<locals>." ++ "<lambda>" : Str)) ∈ tbs K := List.mem_cons_of_mem _ (List.mem_cons_of_mem _ (List.mem_cons_of_mem _ (List.mem_cons_of_mem _ (List.mem_cons_of_mem _ List.mem_cons_self))))
    have hu := tab_one TA.nd hmT
    refine ⟨_, (pss_cons (ps_set (i := 2) sc_L_shows_no_more.nd rfl (Or.inr rfl) (pe_ifExp (pt_cmpR op_isN (pv 0) pe_non (nomark _)) pe_non (pe_cd D_part_of (hr.mono (by omega)) (by rfl) (pa_cons (PE.or' (pe_md0 (pv 0) G.tS.cl G.m_St D_St (hr.mono (by omega))) (pe_md0 (pv 0) G.tN.cl G.m_Nt D_Nt (hr.mono (by omega)))) pa_nil))))
      (pss_cons (ps_set (i := 3) sc_L_shows_no_more.nd rfl (Or.inl rfl) (pe_tried (k := 34) nTried WG D_L_word (hr.mono (by omega)) (by rfl) TB rfl hmT hu (lamS_by (sc := defScope s_L_shows_no_more) (by decide +kernel)) rfl (fun _ _ _ _ _ => rfl) (fun A outer s H E f c' hr2 => (pe_cx D_got (hr2.mono (by omega)) (by rfl) (fun σ => passAt (takes_of rfl rfl rfl rfl) σ) (pa_cons (pv 0) (pa_cons (pv 1) pa_nil))))))
      (pss_cons (ps_if (pt_cmpR (op_neD hr.units) (pv 3) (pe_tried (k := 34) nTried WG D_L_word (hr.mono (by omega)) (by rfl) TB rfl hmT hu (lamS_by (sc := defScope s_L_shows_no_more) (by decide +kernel)) rfl (fun _ _ _ _ _ => rfl) (fun A outer s H E f c' hr2 => (pe_cx D_got (hr2.mono (by omega)) (by rfl) (fun σ => passAt (takes_of rfl rfl rfl rfl) σ) (pa_cons (pv 2) (pa_cons (pv 1) pa_nil))))) (nomark _)) (pss_one (ps_ret pe_bl)) pss_nil)
      (pss_cons (ps_set (i := 3) sc_L_shows_no_more.nd rfl (Or.inl rfl) (pe_tried (k := 34) nTried WG D_L_word (hr.mono (by omega)) (by rfl) TB rfl hmT hu (lamS_by (sc := defScope s_L_shows_no_more) (by decide +kernel)) rfl (fun _ _ _ _ _ => rfl) (fun A outer s H E f c' hr2 => (pe_cx D_done (hr2.mono (by omega)) (by rfl) (fun σ => passAt (takes_of rfl rfl rfl rfl) σ) (pa_cons (pv 0) (pa_cons (pe_lst (pa_cons (pe_tup (pa_cons pe_str (pa_cons (pv 1) pa_nil))) pa_nil)) pa_nil))))))
      (pss_one (ps_ret (pe_cmpR (OpR.or (op_eqD hr.units) (op_eqP TP D_Part_eq (hr.mono (by omega)))) (pv 3) (pe_tried (k := 34) nTried WG D_L_word (hr.mono (by omega)) (by rfl) TB rfl hmT hu (lamS_by (sc := defScope s_L_shows_no_more) (by decide +kernel)) rfl (fun _ _ _ _ _ => rfl) (fun A outer s H E f c' hr2 => (pe_cx D_done (hr2.mono (by omega)) (by rfl) (fun σ => passAt (takes_of rfl rfl rfl rfl) σ) (pa_cons (pv 2) (pa_cons (pe_lst (pa_cons (pe_tup (pa_cons pe_str (pa_cons (pv 1) pa_nil))) pa_nil)) pa_nil))))) (nomark _)))))))), ?_⟩
    have made : ∀ σ (Q0 : VK), σ[0]? = some (some v) → (∀ r H', Gz K H H' → RepO K H' so r → Q0 r H') → tIf (tTest (tOp (fun x y H Q => y = V.non ∧ Q (V.bl (decide (x = V.non))) H) (tVar 0) (tC V.non))) (tC V.non) (tCall (spPartOf K) [] E0 (tCons (fun σ H Q => tMeth (SA K) "told" (spStubTold K) [] E0 (tVar 0) tNil σ H Q ∨ tMeth (NA K) "told" (spNodeTold K 9) [] E0 (tVar 0) tNil σ H Q) tNil)) σ H Q0 := by
      intro σ Q0 h0 q
      refine ⟨_, h0, rfl, _, rfl, ?_⟩
      rw [hv.non]
      cases so with
      | none => exact q _ _ .refl rfl
      | some t =>
        have fin : ∀ d H1, Gz K H H1 → RepD H1 t d → spPartOf K [d] H1 Q0 E0 := fun d H1 g1 r1 => ⟨t, d, rfl, r1, hw, fun r H2 g2 h2 => q r H2 (g1.trans g2) h2⟩
        have h8 := hw.2
        cases t with
        | stub m =>
          obtain ⟨a, dx, rfl, ha⟩ := Rep.stub.mp hv
          exact .inl ⟨_, h0, a, dx, _, rfl, ha, rfl, m, _, rfl, hv, fun d H1 g1 r1 => fin d H1 g1 r1⟩
        | node st x ks =>
          obtain ⟨a, dx, l, xs, rfl, ha, hl, hx⟩ := Rep.node.mp hv
          have w5 := wf_few26 hw.1
          have hk : ∀ p ∈ ks, ht p.2 < 9 ∧ Wf p.2 := fun p hp => by
            have := ht_mem (ks := ks) hp
            simp only [ht] at h8
            exact ⟨by omega, ((Wf.node.mp hw.1).2.2.2.2 p hp).2⟩
          exact .inr ⟨_, h0, a, dx, _, rfl, ha, rfl, st, x, ks, _, rfl, hv, by omega, hk, fun d H1 g1 r1 => fin d H1 g1 r1⟩
    refine made (L2.start ["_law_part", "_law_word_here", "_law_again", "_law_found"] [v, V.str (S k)]) _ rfl fun again H1 g1 h1 => ?_
    refine tried_got rfl rfl (RepO.keep g1.keep hv) hw hk (g1.t hT) fun r1 H2 g2 h2 => ?_
    refine ⟨_, rfl, tried_got rfl rfl (RepO.keep g2.keep h1) hw hk ((g1.trans g2).t hT) fun r2 H3 g3 h3 => ?_⟩
    have h2' : GotV H3 (gotO so [] k) r1 := by
      unfold GotV at h2 ⊢
      split at h2
      · exact h2
      · obtain ⟨u, e, hu⟩ := h2
        exact ⟨u, e, g3.tup hu⟩
    obtain ⟨sh, eqv⟩ := got_shaped hw hk
    refine ⟨_, _, got_data h2', got_data h3, sh, sh, ?_⟩
    rw [eqv]
    refine ⟨_, rfl, ?_⟩
    have g03 := g1.trans (g2.trans g3)
    refine tried_drop rfl rfl (RepO.keep g03.keep hv) hw hk (g03.t hT) fun r4 H4 g4 h4 => ?_
    refine ⟨_, rfl, tried_drop rfl rfl (RepO.keep (g2.trans (g3.trans g4)).keep h1) hw hk ((g03.trans g4).t hT) fun r5 H5 g5 h5 => ?_⟩
    have g05 := g03.trans (g4.trans g5)
    cases he : doD so (.drop k) with
    | error e =>
      rw [he] at h4 h5
      obtain ⟨u, rfl, hu⟩ := h4
      obtain ⟨u', rfl, hu'⟩ := h5
      have hE := shaped_E (dropErr_ltr hsl htr hk he)
      refine .inl ⟨_, _, dp_E (g5.tup hu), dp_E hu', hE.1, hE.1, ?_⟩
      rw [hE.2]
      exact q _ g05
    | ok o' =>
      rw [he] at h4 h5
      have h4 : RepO K H4 o' r4 := h4
      have h5 : RepO K H5 o' r5 := h5
      have h4 := RepO.keep g5.keep h4
      have wo := wf_doD hw (show (Deed.drop k).ok from hk) he
      cases o' with
      | none =>
        cases h4
        cases h5
        exact .inl ⟨.none, .none, .non, .non, rfl, rfl, q _ g05⟩
      | some t => exact .inr ⟨t, h4, h5, wo.1, wo.2, fun H' g => q _ (g05.trans g)⟩
end
end Seal
namespace Seal
/-! ### how many parts a tree has -/
mutual
/-- the keys that have a value -/
def keysT : T → List W
  | .stub _ => []
  | .node s v ks => (if v.isSome then [s] else []) ++ keysTK ks s
def keysTK : List (Nat × T) → W → List W
  | [], _ => []
  | (l, t) :: r, s => (keysT t).map (fun x => s ++ l :: x) ++ keysTK r s
end
theorem mem_keysTK : ∀ {ks : List (Nat × T)} {s w : W}, w ∈ keysTK ks s ↔ ∃ p ∈ ks, ∃ x ∈ keysT p.2, w = s ++ p.1 :: x
  | [], s, w => by simp [keysTK]
  | (l, t) :: r, s, w => by
    unfold keysTK
    rw [List.mem_append, mem_keysTK]
    simp only [List.mem_map, List.mem_cons, exists_eq_or_imp]
    constructor
    · rintro (⟨x, hx, rfl⟩ | h)
      · exact .inl ⟨x, hx, rfl⟩
      · exact .inr h
    · rintro (⟨x, hx, rfl⟩ | h)
      · exact .inl ⟨x, hx, rfl⟩
      · exact .inr h
theorem mem_keysN {s : W} {v : Option W} {ks : List (Nat × T)} {w : W} : w ∈ keysT (.node s v ks) ↔ (v.isSome = true ∧ w = s) ∨ ∃ p ∈ ks, ∃ x ∈ keysT p.2, w = s ++ p.1 :: x := by
  rw [keysT, List.mem_append, mem_keysTK]
  cases v <;> simp
theorem keys_look (t : T) : ∀ k ∈ keysT t, Wf t → look t k ≠ none := by
  induction t using T.ind with
  | hs n => intro k h _; simp [keysT] at h
  | hn s v ks ih =>
    intro k h w
    obtain ⟨w1, w2, w3, w4, w5⟩ := Wf.node.mp w
    rw [look_node]
    rcases mem_keysN.mp h with ⟨h1, rfl⟩ | ⟨p, hp, x, hx, rfl⟩
    · rw [rest_self]
      intro e
      cases v with
      | none => simp at h1
      | some z => cases e
    · rw [rest_app]
      obtain ⟨l, t⟩ := p
      have hk := kat_of_mem w3 hp
      simp only at hk ⊢
      rw [hk]
      exact ih _ hp x hx (w5 _ hp).2
theorem keys_nodup (t : T) : Wf t → (keysT t).Nodup := by
  induction t using T.ind with
  | hs n => intro _; simp [keysT]
  | hn s v ks ih =>
    intro w
    obtain ⟨w1, w2, w3, w4, w5⟩ := Wf.node.mp w
    rw [keysT]
    have key : ∀ {r : List (Nat × T)}, Up r → (∀ p ∈ r, (keysT p.2).Nodup) → (keysTK r s).Nodup := fun {r} => by
      induction r with
      | nil => intro _ _; simp [keysTK]
      | cons p r ih2 =>
        obtain ⟨l, t⟩ := p
        intro u h
        unfold keysTK
        rw [List.nodup_append]
        refine ⟨?_, ih2 (List.pairwise_cons.mp u).2 fun q hq => h q (List.mem_cons_of_mem _ hq), ?_⟩
        · have hn := h _ List.mem_cons_self
          simp only at hn
          rw [List.Nodup, List.pairwise_map]
          exact hn.imp fun {a b} hab e => hab (by simpa using e)
        · intro a ha b hb e
          subst e
          obtain ⟨x, hx, rfl⟩ := List.mem_map.mp ha
          obtain ⟨q, hq, y, hy, e⟩ := mem_keysTK.mp hb
          have e1 : l = q.1 := by simpa using (List.append_cancel_left e : l :: x = q.1 :: y) |> List.cons.inj |>.1
          have := (List.pairwise_cons.mp u).1 q hq
          simp only at this
          omega
    rw [List.nodup_append]
    refine ⟨by cases v <;> simp, key w3 fun p hp => ih p hp (w5 p hp).2, ?_⟩
    intro a ha b hb e
    subst e
    obtain ⟨q, hq, y, hy, e⟩ := mem_keysTK.mp hb
    cases v with
    | none => simp at ha
    | some z =>
      simp at ha
      rw [ha] at e
      have := congrArg List.length e
      simp at this
theorem keys_cnt (t : T) : Wf t → Full t → cnt t + 1 ≤ 2 * (keysT t).length := by
  induction t using T.ind with
  | hs n => intro _ f; exact absurd f full_not_stub
  | hn s v ks ih =>
    intro w f
    obtain ⟨w1, w2, w3, w4, w5⟩ := Wf.node.mp w
    have f' := Full.node.mp f
    have key : ∀ {r : List (Nat × T)}, (∀ p ∈ r, cnt p.2 + 1 ≤ 2 * (keysT p.2).length) → cntK r + r.length ≤ 2 * (keysTK r s).length := fun {r} => by
      induction r with
      | nil => intro _; simp [keysTK, cntK]
      | cons p r ih2 =>
        obtain ⟨l, t⟩ := p
        intro h
        have h1 := h _ List.mem_cons_self
        have h2 := ih2 fun q hq => h q (List.mem_cons_of_mem _ hq)
        simp only at h1
        unfold keysTK cntK
        rw [List.length_append, List.length_map, List.length_cons]
        omega
    have hk := key fun p hp => ih p hp (w5 p hp).2 (f' p hp)
    rw [keysT, List.length_append]
    show 1 + cntK ks + 1 ≤ _
    cases v with
    | none =>
      have := w4 rfl
      simp
      omega
    | some z =>
      simp
      omega
theorem nodup_sub : ∀ {a b : List W}, a.Nodup → (∀ x ∈ a, x ∈ b) → a.length ≤ b.length
  | [], b, _, _ => Nat.zero_le _
  | x :: r, b, n, h => by
    obtain ⟨n1, n2⟩ := List.nodup_cons.mp n
    have hx := h x List.mem_cons_self
    have := nodup_sub (b := b.erase x) n2 fun y hy => by
      have hne : y ≠ x := fun e => n1 (e ▸ hy)
      exact (List.mem_erase_of_ne hne).mpr (h y (List.mem_cons_of_mem _ hy))
    rw [List.length_erase_of_mem hx] at this
    have := List.length_pos_of_mem hx
    rw [List.length_cons]
    omega
theorem tree_cnt {o : Option T} {rows : List (W × W)} (h : IsTree o (cn rows)) : cntO o ≤ 2 * rows.length + 1 ∧ cntS o ≤ 2 * rows.length := by
  cases o with
  | none => simp [cntO, cntS]
  | some t =>
    obtain ⟨w, f, h8, hl⟩ := h
    have h1 := keys_cnt t w f
    have h2 : (keysT t).length ≤ (rows.map (·.1)).length := nodup_sub (keys_nodup t w) fun k hk => by
      have := keys_look t k hk w
      rw [hl] at this
      unfold cn at this
      cases e : rows.find? fun r => decide (r.1 = k) with
      | none => rw [e] at this; exact absurd rfl this
      | some r =>
        have := List.find?_some e
        simp at this
        exact List.mem_map.mpr ⟨r, List.mem_of_find?_eq_some e, this⟩
    rw [List.length_map] at h2
    simp only [cntO, cntS]
    omega
/-! ### what is behind a row, as rows -/
theorem behR_beh : ∀ {row : List Deed} {rows : List (W × W)}, KeysN rows → (beh (cn rows) row).1 = cn (behR rows row).1 ∧ (beh (cn rows) row).2 = (behR rows row).2 ∧ KeysN (behR rows row).1 ∧ (behR rows row).1.length ≤ rows.length + row.length
  | [], rows, n => ⟨rfl, rfl, n, by simp [behR]⟩
  | .put k x :: r, rows, n => by
    have e : after (cn rows) (.put k x) = cn (putR rows k x) := by
      funext y
      rw [cn_put n]
      rfl
    have h := behR_beh (row := r) (putR_keys (k := k) (x := x) n)
    have hl := putR_len (rows := rows) (k := k) (x := x)
    unfold beh behR
    rw [e]
    exact ⟨h.1, h.2.1, h.2.2.1, by have := h.2.2.2; rw [List.length_cons]; omega⟩
  | .drop k :: r, rows, n => by
    have e : after (cn rows) (.drop k) = cn (dropR rows k) := by
      funext y
      rw [cn_drop]
      rfl
    have h := behR_beh (row := r) (dropR_keys (k := k) n)
    have hl := dropR_len (rows := rows) (k := k)
    unfold beh behR
    cases hk : cn rows k with
    | none => exact ⟨rfl, rfl, n, by simp⟩
    | some z =>
      simp only [Option.isSome_some, if_true]
      rw [if_neg (by simp), e]
      exact ⟨h.1, h.2.1, h.2.2.1, by have := h.2.2.2; rw [List.length_cons]; omega⟩
theorem behR_ok : ∀ {row : List Deed} {rows : List (W × W)}, (∀ d ∈ row, d.ok) → (∀ r ∈ rows, RowG r) → ∀ r ∈ (behR rows row).1, RowG r
  | [], rows, _, h => h
  | .put k x :: r, rows, hd, h => by
    unfold behR
    refine behR_ok (fun d hm => hd d (List.mem_cons_of_mem _ hm)) fun q hq => ?_
    rcases putR_mem hq with rfl | hq
    · exact hd _ List.mem_cons_self
    · exact h q hq
  | .drop k :: r, rows, hd, h => by
    unfold behR
    split
    · exact behR_ok (fun d hm => hd d (List.mem_cons_of_mem _ hm)) fun q hq => h q (dropR_mem hq)
    · exact h
end Seal
namespace Seal
open PySem PySem.Spec PyProof.Rows L2 LamX NdefX
/-! ### what joins the law's steps -/
theorem shn_congr {N : T → Int → Prop} {V V' : List W} (s : T) : ∀ (t : T) (way : W), Full t → (∀ w ∈ nw t way, w ∈ V ↔ w ∈ V') → Shn N V s t way → Shn N V' s t way := by
  induction s using T.ind with
  | hs n =>
    intro t way f h hh
    refine ⟨fun hV => hh.1 ?_, hh.2⟩
    cases t with
    | stub n => exact f.elim
    | node s v ks => exact (h way List.mem_cons_self).mpr hV
  | hn s v ks ih =>
    intro t way f h hh
    obtain ⟨hV, ks', rfl, a⟩ := Shn.node.mp hh
    refine Shn.node.mpr ⟨(h way List.mem_cons_self).mp hV, ks', rfl, ?_⟩
    have f' := Full.node.mp f
    have key : ∀ {k1 k2 : List (Nat × T)}, AllS (Shn N V) (way ++ s) k1 k2 → (∀ p ∈ k1, p ∈ ks) → (∀ p ∈ k2, p ∈ ks') → AllS (Shn N V') (way ++ s) k1 k2 := fun a => by
      induction a with
      | nil => intro _ _; exact .nil
      | @cons l x y r r' h1 t ih2 =>
        intro m1 m2
        have p1 := m1 _ List.mem_cons_self
        have p2 := m2 _ List.mem_cons_self
        exact .cons (ih _ p1 y _ (f' _ p2) (fun w hw => h w (List.mem_cons_of_mem _ (mem_nwK.mpr ⟨_, p2, hw⟩))) h1) (ih2 (fun p hp => m1 p (List.mem_cons_of_mem _ hp)) fun p hp => m2 p (List.mem_cons_of_mem _ hp))
    exact key a (fun _ h => h) fun _ h => h
theorem beh_key : ∀ {row : List Deed} {C : Cont} {k : W}, (∀ d ∈ row, d.ok) → (beh C row).2 = some k → IsKey k
  | [], C, k, _, h => by cases h
  | .put k' x :: r, C, k, hd, h => beh_key (row := r) (fun d hm => hd d (List.mem_cons_of_mem _ hm)) h
  | .drop k' :: r, C, k, hd, h => by
    unfold beh at h
    split at h
    · cases h
      exact hd _ List.mem_cons_self
    · exact beh_key (row := r) (fun d hm => hd d (List.mem_cons_of_mem _ hm)) h
theorem IsTree.full {o : Option T} {C : Cont} (h : IsTree o C) : FullO o := by
  cases o with
  | none => trivial
  | some t => exact h.2.1
theorem told_shaped {o : Option T} (h : WfO o) : SeqAt.shaped (dTO o) = true ∧ PyData.eqv (dTO o) (dTO o) = true := by
  cases o with
  | none => exact ⟨rfl, rfl⟩
  | some t => exact ⟨shaped_dT h.1 h.2, SeqAt.eqv_refl _ (lay_dT t h.1)⟩
theorem ne_parts {K : PySem.W.Frag} {o : Option T} {x y : V} {H : Hp} {Q : VK} (hx : RepO K H o x) (hy : RepO K H o y) (hw : WfO o) (q : ∀ H', Gz K H H' → Q (.bl false) H') : R2or (rNeD K) (rPart K false) x y H Q := by
  cases o with
  | none =>
    cases hx
    cases hy
    exact .inl ⟨.none, .none, .non, .non, rfl, rfl, q _ .refl⟩
  | some t => exact .inr ⟨t, hx, hy, hw.1, hw.2, fun H' g => q _ g⟩
section
variable {P : Program} {w : World} {K : PySem.W.Frag} {mg : Str → Option Value} {base : Heap} (g : Dig P w K mg base)
theorem NeedO.slO {g : Dig P w K mg base} {V D : List W} {o so : Option T} (h : NeedO g V D o so) : SlO (g.ND D) so o := by
  cases o with
  | none =>
    cases h
    trivial
  | some t =>
    obtain ⟨s, rfl, h⟩ := h
    exact h.sl
theorem NeedO.later {g : Dig P w K mg base} {V D D' : List W} {o so : Option T} (h : NeedO g V D o so) (hd : D <+: D') : NeedO g V D' o so := by
  cases o with
  | none => exact h
  | some t =>
    obtain ⟨s, rfl, h⟩ := h
    exact ⟨s, rfl, Shn.mono (fun t n => g.nd hd) _ _ _ h⟩
theorem ND.one {D D' : List W} (hd : D <+: D') {t : T} {n n' : Int} (h : g.ND D t n) (h' : g.ND D' t n') : n = n' := by
  rw [(g.nd hd h).2, h'.2]
theorem NeedO.one {g : Dig P w K mg base} {V D D' : List W} {o so so' : Option T} (hd : D <+: D') (h : NeedO g V D o so) (h' : NeedO g V D' o so') : so = so' := by
  cases o with
  | none =>
    cases h
    cases h'
    rfl
  | some t =>
    obtain ⟨s, rfl, h⟩ := h
    obtain ⟨s', rfl, h'⟩ := h'
    rw [Shn.one (N := g.ND D) (N' := g.ND D') (fun t n n' => ND.one g hd) _ _ _ _ h h']
theorem NeedO.shown {g : Dig P w K mg base} {V Vs D D' : List W} {o so so' : Option T} (hd : D <+: D') (f : FullO o) (hV : ∀ w ∈ nwO o [], w ∈ V ↔ w ∈ Vs) (h : NeedO g V D o so) (h' : ShnO g D' Vs so' o []) : so = so' := by
  cases o with
  | none =>
    cases h
    cases so' with
    | none => rfl
    | some s => exact h'.elim
  | some t =>
    obtain ⟨s, rfl, h⟩ := h
    cases so' with
    | none => exact h'.elim
    | some s' =>
      have h' : Shn (g.ND D') Vs s' t [] := h'
      rw [Shn.one (N := g.ND D) (N' := g.ND D') (fun t n n' => ND.one g hd) _ _ _ _ (shn_congr _ _ _ f hV h) h']
theorem Dig.knownO {D D' : List W} (h : D <+: D') {o : Option T} (k : KnownO (g.val D) D o) : KnownO (g.val D') D' o ∧ numO (g.val D') o = numO (g.val D) o := by
  cases o with
  | none => exact ⟨h.subset k, g.later h k⟩
  | some t => exact g.known h k
theorem sl_numO {D : List W} {so o : Option T} (h : SlO (g.ND D) so o) (k : KnownO (g.val D) D o) : KnownO (g.val D) D so ∧ numO (g.val D) so = numO (g.val D) o := by
  cases so with
  | none =>
    cases o with
    | none => exact ⟨k, rfl⟩
    | some t => exact h.elim
  | some s =>
    cases o with
    | none => exact h.elim
    | some t => exact sl_num s t h k
theorem slO_later {D D' : List W} (hd : D <+: D') {so o : Option T} (h : SlO (g.ND D) so o) : SlO (g.ND D') so o := by
  cases so with
  | none =>
    cases o with
    | none => trivial
    | some t => exact h.elim
  | some s =>
    cases o with
    | none => exact h.elim
    | some t => exact Sl.mono (fun t n => g.nd hd) s t h
theorem slO_cntO {N : T → Int → Prop} {so o : Option T} (h : SlO N so o) : cntO so ≤ cntO o := by
  cases so with
  | none =>
    cases o with
    | none => exact Nat.le_refl _
    | some t => exact h.elim
  | some s =>
    cases o with
    | none => exact h.elim
    | some t => exact sl_cnt s t h
end
end Seal
namespace Seal
open PySem PySem.Spec PyProof.Rows L2 LamX NdefX
/-! ### the law -/
theorem pss_ex {X : Cx} {α : Sort _} {ss : List Stmt} {t : α → TS} (h : ∀ g, PSs X ss (t g)) : PSs X ss fun D σ H => ∃ g, t g D σ H := ⟨fun pins s σ H D I ⟨g, q⟩ => (h g).run pins s σ H D I q⟩
section
variable {P : Program} {w : World} {K : PySem.W.Frag} {mg : Str → Option Value} {base : Heap} {k : Nat} {sp : Sp} {N ps : List Str} {st : Stmt} {x : Str}
theorem Fn1.mkTF (n : Fn1 K mg x st) (sc : FnScope N ps (defScope st)) (hb : BindQ x x st ps) (hl : ∀ vs H Q E, sp vs H Q E → vs.length = ps.length)
    (hw : ∀ (A : Around) (outer : List Env) (s : Shared) (H : Hp) (vs : List V) (Q : VK) (E : XK), Room k (A.deeper (envOfC x (defScope st) s.heap.objs.size (He.ga K x) (.ref (He.cT K (x, none)).1))) → sp vs H Q E →
      ∃ t, PSs (cxOf CX0 P w K mg base N x (defScope st) (He.ga K x) (.ref (He.cT K (x, none)).1) A outer s H E).nox (defBody st) t ∧ t { nx := fun _ H' => Q .non H', rt := Q } (L2.start N vs) H) : DefF P w K mg base CX0 (k + 1) x st ps sp := by
  obtain ⟨fd, F⟩ := n.fn
  refine ⟨n.g, F.kp, fd, F, F.bindsN hb, ?_⟩
  obtain ⟨oc, od, dV, kV, doc, pm, an, cdv, ct, osl, rfl, lk, hcd, _, _⟩ := F.ex
  obtain ⟨c, rfl⟩ := He.codeIn_ref hcd
  have hc : (He.cT K (x, none)).1 = c := He.codeOf_eq (p := (x, none)) lk rfl
  refine fn_of lk hcd sc hl fun A outer s H vs Q E hr h => ?_
  rw [← hc] at hr
  obtain ⟨t, a, b⟩ := hw A outer s H vs Q E hr h
  rw [hc] at a
  exact ⟨t, PSs.nox a, b⟩
theorem FnP.one {fd fd' : FuncData} (F : FnP K x st fd) (F' : FnP K x st fd') : fd = fd' := by
  obtain ⟨oc, od, dV, kV, doc, pm, an, cdv, ct, osl, rfl, lk, _⟩ := F.ex
  obtain ⟨oc', od', dV', kV', doc', pm', an', cdv', ct', osl', rfl, lk', _⟩ := F'.ex
  rw [lk] at lk'
  injection lk' with e
  injection e with _ _ e _
  injection e
end
theorem ite_same {c : Bool} {A : Prop} (h : A) : if c = true then A else A := by cases c <;> exact h
theorem ite_f {A B : Prop} (h : B) : if false = true then A else B := h
theorem bind_neededR : BindR "needed" s_needed ["tree", "deeds", "digest"] ["digest", "deeds", "tree"] := fun _ _ _ _ _ _ us hl => match us, hl with | [_, _, _], _ => rfl
theorem sc_law : FnScope ["_law_script", "_law_state", "_law_maker", "_law_letters_here", "_law_content_here", "_law_whole", "_law_told_here", "_law_row_here", "_law_later", "_law_due", "_law_part", "_law_come", "_law_ways_here", "_law_way", "_law_number_here", "_law_last"] ["_law_script"] (defScope s_law) := ⟨rfl, rfl, rfl, by decide +kernel, rfl, by decide +kernel, by decide +kernel⟩
theorem bind_law : BindQ "law" "law" s_law ["_law_script"] := fun _ _ _ _ _ _ us hl => match us, hl with | [_], _ => rfl
def spLaw (K : PySem.W.Frag) : Sp := fun vs H Q _ => ∃ (s : Addr) (ns : List Int), vs = [.ref s] ∧ SqL K H s (ns.map V.int) ∧ (∀ H', Gz K H H' → SqL K H' s (ns.map V.int)) ∧ ns.length ≤ 1000 ∧ Tabs (tbs K) H ∧ ∀ H', Q (.bl true) H'
section
variable {P : Program} {w : World} {K : PySem.W.Frag} {mg : Str → Option Value} {base : Heap}
theorem D_law (n : Fn1 K mg "law" s_law) (nTried : Fn1 K mg "_law_tried" s_L_tried) (G : TX K mg) (TP : TE' K) (TA : TT K mg base) (WG : WordX K mg)
    (D_L_word : Def P w K mg base CX0 1 "_law_word" ["_law_e"] (spWord K)) (D_L_begun : Def P w K mg base CX0 1 "_law_begun" ["_law_script"] (spBegun K)) (D_L_draw : Def P w K mg base CX0 1 "_law_draw" ["_law_state", "_law_many"] (spDraw K))
    (D_L_good : Def P w K mg base CX0 2 "_law_good" ["_law_state"] (spDig P w K mg base)) (D_L_bad : Def P w K mg base CX0 2 "_law_bad" ["_law_state"] (spDig P w K mg base)) (D_L_letters : Def P w K mg base CX0 2 "_law_letters" ["_law_state"] (spLetters K))
    (D_L_content : Def P w K mg base CX0 3 "_law_content" ["_law_state", "_law_letters_here", "_law_most"] (spContent K)) (D_tree_of : Def P w K mg base CX0 23 "tree_of" ["pairs"] (spTreeOf K)) (D_L_tree : Def P w K mg base CX0 11 "_law_tree" ["_law_content_here"] (spLTreeOf false K))
    (D_L_row : Def P w K mg base CX0 3 "_law_row" ["_law_state", "_law_letters_here", "_law_content_here", "_law_most"] (spRow K)) (D_L_behind : Def P w K mg base CX0 1 "_law_behind" ["_law_content_here", "_law_row_here"] (spBehind K))
    (D_neededF : ∀ g : Dig P w K mg base, DefF P w K mg base (CX P w) 32 "needed" s_needed ["tree", "deeds", "digest"] (spNeeded g)) (D_L_told : Def P w K mg base CX0 12 "_law_told" ["_law_whole"] (spLTold K)) (D_L_come_to : Def P w K mg base CX0 12 "_law_come_to" ["_law_content_here", "_law_row_here"] (spComeTo K))
    (D_L_ways : Def P w K mg base CX0 12 "_law_ways" ["_law_told_here", "_law_way"] (spWays K 10)) (D_L_shown : ∀ g : Dig P w K mg base, Def P w K mg base CX0 30 "_law_shown" ["_law_told_here", "_law_way", "_law_ways_here", "_law_maker"] (spShownO g)) (D_Part_eq : DefM P w K mg base 12 "Part" "__eq__" ["self", "other"] (spPartEq K))
    (D_L_number : ∀ g : Dig P w K mg base, Def P w K mg base CX0 19 "_law_number" ["_law_told_here", "_law_maker"] (spLNumber g)) (D_number_of : ∀ g : Dig P w K mg base, Def P w K mg base CX0 19 "number_of" ["tree", "digest"] (spNumber g)) (D_done : Def P w K mg base (CX P w) 26 "done" ["tree", "deeds"] (spDone K))
    (D_root_behind : ∀ g : Dig P w K mg base, Def P w K mg base CX0 27 "root_behind" ["root", "part", "deeds", "digest"] (spRootBehind g)) (D_L_key : Def P w K mg base CX0 2 "_law_key" ["_law_state", "_law_letters_here", "_law_keys"] (spKey K))
    (D_L_shows_no_more : Def P w K mg base CX0 40 "_law_shows_no_more" ["_law_part", "_law_word_here"] (spNoMore K)) (D_L_spared : ∀ g : Dig P w K mg base, Def P w K mg base CX0 40 "_law_spared" ["_law_state", "_law_told_here", "_law_ways_here", "_law_row_here", "_law_maker"] (spSpared g)) :
    DefF P w K mg base CX0 42 "law" s_law ["_law_script"] (spLaw K) := by
  refine n.mkTF sc_law bind_law (fun vs H Q E h => ?_) (fun A outer s H vs Q E hr h => ?_)
  · obtain ⟨_, _, rfl, _⟩ := h
    rfl
  · obtain ⟨s, ns, rfl, hs, hs', hlen, hT, q⟩ := h
    have TB := TA.tab "law" (by simp)
    have hmT : ((He.cT K ("law", none)).2, ("law.<locals>." ++ "<lambda>" : Str)) ∈ tbs K := List.mem_cons_of_mem _ (List.mem_cons_of_mem _ (List.mem_cons_of_mem _ List.mem_cons_self))
    have hu := tab_one TA.nd hmT
    refine ⟨_, (pss_cons (ps_set (i := 1) sc_law.nd rfl (Or.inl rfl) (pe_cd D_L_begun (hr.mono (by omega)) (by rfl) (pa_cons (pv 0) pa_nil)))
      (pss_cons (ps_set (i := 2) sc_law.nd rfl (Or.inr rfl) (pe_ifExp (pt_cmpR op_eq (pe_cd D_L_draw (hr.mono (by omega)) (by rfl) (pa_cons (pv 1) (pa_cons pe_int pa_nil))) pe_int (nomark _)) (pe_cd D_L_good (hr.mono (by omega)) (by rfl) (pa_cons (pv 1) pa_nil)) (pe_cd D_L_bad (hr.mono (by omega)) (by rfl) (pa_cons (pv 1) pa_nil))))
      (pss_ex fun g => (pss_cons (ps_set (i := 3) sc_law.nd rfl (Or.inl rfl) (pe_cd D_L_letters (hr.mono (by omega)) (by rfl) (pa_cons (pv 1) pa_nil)))
      (pss_cons (ps_set (i := 4) sc_law.nd rfl (Or.inl rfl) (pe_cd D_L_content (hr.mono (by omega)) (by rfl) (pa_cons (pv 1) (pa_cons (pv 3) (pa_cons pe_int pa_nil)))))
      (pss_cons (ps_asg (pe_tup (pa_cons (pe_cd D_tree_of (hr.mono (by omega)) (by rfl) (pa_cons (pv 4) pa_nil)) (pa_cons (pe_cd D_L_tree (hr.mono (by omega)) (by rfl) (pa_cons (pv 4) pa_nil)) pa_nil))) (pg_tup rfl (pgs_cons (pg_name (i := 5) sc_law.nd rfl (Or.inr rfl)) (pgs_cons (pg_name (i := 6) sc_law.nd rfl (Or.inl rfl)) pgs_nil))))
      (pss_cons (ps_set (i := 7) sc_law.nd rfl (Or.inr rfl) (pe_cd D_L_row (hr.mono (by omega)) (by rfl) (pa_cons (pv 1) (pa_cons (pv 3) (pa_cons (pv 4) (pa_cons pe_int pa_nil))))))
      (pss_cons (ps_asg (pe_cd D_L_behind (hr.mono (by omega)) (by rfl) (pa_cons (pv 4) (pa_cons (pv 7) pa_nil))) (pg_tup rfl (pgs_cons (pg_name (i := 8) sc_law.nd rfl (Or.inl rfl)) (pgs_cons (pg_name (i := 9) sc_law.nd rfl (Or.inl rfl)) pgs_nil))))
      (pss_cons (ps_set (i := 10) sc_law.nd rfl (Or.inl rfl) (pe_tried (k := 34) nTried WG D_L_word (hr.mono (by omega)) (by rfl) TB rfl hmT hu (lamS_by (sc := defScope s_law) (by decide +kernel)) rfl (fun _ _ _ _ _ => rfl) (fun A outer s H E f c' hr2 => (pe_cx (D_neededF g).toDef (hr2.mono (by omega)) (by rfl) (fun σ => passAt (takes_of rfl rfl rfl rfl) σ) (pa_cons (pv 5) (pa_cons (pv 7) (pa_cons (pv 2) pa_nil)))))))
      (pss_cons (ps_if (pt_cmpR op_notN (pv 9) pe_non (nomark _)) (pss_one (ps_ret (pe_and (pe_cmpR (op_eqD hr.units) (pv 10) (pv 9) (nomark _)) (pe_one (pe_cmpR (op_eqD hr.units) (pe_cd D_L_told (hr.mono (by omega)) (by rfl) (pa_cons (pv 5) pa_nil)) (pv 6) (nomark _)))))) pss_nil)
      (pss_cons (ps_set (i := 11) sc_law.nd rfl (Or.inr rfl) (pe_cd D_L_come_to (hr.mono (by omega)) (by rfl) (pa_cons (pv 4) (pa_cons (pv 7) pa_nil))))
      (pss_cons (ps_setLc (i := 12) (own := [("_law_way", 13)]) (g := gName 13) (tt := (tTest (tOp (rIn K false) (tVar 13) (tVar 11)))) (by rfl) sc_law.nd rfl rfl (sw_true rfl rfl rfl (by decide +kernel)) (pi_list (pe_cd D_L_ways (hr.mono (by omega)) (by rfl) (pa_cons (pv 6) (pa_cons pe_str pa_nil)))) (blkOk_by (N := ["_law_script", "_law_state", "_law_maker", "_law_letters_here", "_law_content_here", "_law_whole", "_law_told_here", "_law_row_here", "_law_later", "_law_due", "_law_part", "_law_come", "_law_ways_here", "_law_way", "_law_number_here", "_law_last"]) (sc := defScope s_law) (by decide +kernel)) (fun _ _ _ _ _ => pg_name (i := 13) sc_law.nd rfl (Or.inl rfl)) (fun _ _ _ _ _ => pts_one (pt_cmpR op_in_seq (pv 13) (pv 11) (by rfl))) (fun _ _ _ _ _ => (pv 13)))
      (pss_cons (ps_if (PW.pt (pw_or (pt_cmpR (op_neD hr.units) (pe_cd D_L_told (hr.mono (by omega)) (by rfl) (pa_cons (pv 10) pa_nil)) (pe_cd (D_L_shown g) (hr.mono (by omega)) (by rfl) (pa_cons (pv 6) (pa_cons pe_str (pa_cons (pv 12) (pa_cons (pv 2) pa_nil))))) (nomark _)) (pw_or1 (pt_cmpR (op_neD hr.units) (pe_cd D_L_told (hr.mono (by omega)) (by rfl) (pa_cons (pv 5) pa_nil)) (pv 6) (nomark _))))) (pss_one (ps_ret pe_bl)) pss_nil)
      (pss_cons (ps_if (pt_cmpR (OpR.or (op_neD hr.units) (op_neP TP D_Part_eq (hr.mono (by omega)))) (pe_callR (D_neededF g) bind_neededR (hr.mono (by omega)) (by rfl) (pk_cons (pv 2) (pk_cons (pv 7) (pk_cons (pv 5) pk_nil)))) (pv 10) (nomark _)) (pss_one (ps_ret pe_bl)) pss_nil)
      (pss_cons (ps_par (i := 14) (j := 15) (by rfl) sc_law.nd rfl rfl (by decide) rfl rfl (pa_cons (pe_cd (D_L_number g) (hr.mono (by omega)) (by rfl) (pa_cons (pv 6) (pa_cons (pv 2) pa_nil))) (pa_cons (pe_cd (D_L_number g) (hr.mono (by omega)) (by rfl) (pa_cons (pe_cd D_L_tree (hr.mono (by omega)) (by rfl) (pa_cons (pv 8) pa_nil)) (pa_cons (pv 2) pa_nil))) pa_nil)) (by rfl))
      (pss_cons (ps_if (PW.pt (pw_or (pt_cmpR op_ne (pe_cd (D_number_of g) (hr.mono (by omega)) (by rfl) (pa_cons (pv 10) (pa_cons (pv 2) pa_nil))) (pv 14) (nomark _)) (pw_or1 (pt_cmpR op_ne (pe_cd (D_number_of g) (hr.mono (by omega)) (by rfl) (pa_cons (pe_cn D_done (hr.mono (by omega)) (by rfl) (pa_cons (pv 10) (pa_cons (pv 7) pa_nil))) (pa_cons (pv 2) pa_nil))) (pv 15) (nomark _))))) (pss_one (ps_ret pe_bl)) pss_nil)
      (pss_cons (ps_if (pt_cmpR op_ne (pe_cd (D_root_behind g) (hr.mono (by omega)) (by rfl) (pa_cons (pv 14) (pa_cons (pv 10) (pa_cons (pv 7) (pa_cons (pv 2) pa_nil))))) (pv 15) (nomark _)) (pss_one (ps_ret pe_bl)) pss_nil)
      (pss_cons (ps_if (pt_not (pt_val (pe_cd D_L_shows_no_more (hr.mono (by omega)) (by rfl) (pa_cons (pv 10) (pa_cons (pe_cd D_L_key (hr.mono (by omega)) (by rfl) (pa_cons (pv 1) (pa_cons (pv 3) (pa_cons (pe_callB (call_sortedD rfl) (by rfl) G.b_sorted (by decide +kernel) (pa_cons (pv 4) pa_nil)) pa_nil)))) pa_nil))))) (pss_one (ps_ret pe_bl)) pss_nil)
      (pss_one (ps_ret (pe_or (pe_cmpR (op_eqD hr.units) (pv 12) (pe_lst pa_nil) (nomark _)) (pe_one (pe_cd (D_L_spared g) (hr.mono (by omega)) (by rfl) (pa_cons (pv 1) (pa_cons (pv 6) (pa_cons (pv 12) (pa_cons (pv 7) (pa_cons (pv 2) pa_nil)))))))))))))))))))))))))))), ?_⟩
    refine ⟨_, rfl, s, ns, rfl, hs, hs', hlen, fun st b H1 g1 s1 => ?_⟩
    refine ⟨_, rfl, st, b, _, rfl, s1, by decide, by decide, fun r H2 r0 r1 g2 s2 => ⟨rfl, _, rfl, ?_⟩⟩
    have g02 : Go (tbs K) (Ms st b) H H2 := g1.any.trans g2
    have hT2 := g02.t hT
    refine ite_same ?_
    refine ⟨_, rfl, st, b, rfl, s2, hT2, fun g H3 g3 s3 hD dis => ⟨g, ?_⟩⟩
    show tSeq _ _ _ [_, _, _, _, _, _, _, _, _, _, _, _, _, _, _, _] _
    -- letters, content
    refine ⟨_, rfl, st, b, rfl, s3, fun ls H4 l1 l2 l3 g4 s4 => ?_⟩
    show tSeq _ _ _ [_, _, _, _, _, _, _, _, _, _, _, _, _, _, _, _] _
    refine ⟨_, rfl, _, rfl, st, b, ls, 14, rfl, s4, l1, l2, l3, by decide, fun rows d H5 kn r14 rok hd hdm hdn g5 s5 => ?_⟩
    have g05 : Go (tbs K) (Ms st b) H H5 := g02.trans (g3.trans (g4.trans g5))
    have hT5 := g05.t hT
    have mD : ¬ g.Mt d := g.ne (g.keep hD g4 fun c hc hm => dis c hm hc) hdn
    have hD5 : g.St [] H5 := g.keep hD (g4.trans g5) fun c hc hm => dis c hm hc
    clear g05 g02 hT2 g1 g2 g3 g4 g5 s1 s2 s3 s4 hD
    show tSeq _ _ _ [_, _, _, _, _, _, _, _, _, _, _, _, _, _, _, _] _
    -- the tree, and what it tells
    refine ⟨_, rfl, rows, d, rfl, hd, kn, by omega, rok, fun v o H6 g6 hT' hv => ?_⟩
    refine ⟨_, rfl, rows, d, rfl, g6.dK hd id, kn, by omega, rok, fun vt o2 H7 g7 hT'' hvt => ?_⟩
    obtain rfl := IsTree.one hT' hT''
    clear hT''
    have hvt : RepDO H7 o vt := repDgO_false hvt
    refine ⟨by show 2 ≤ sizeLine; decide, fun t ht => ⟨t, _, rfl, SqT.of upd_same, rfl, _, _, rfl, _, _, rfl, rfl, ?_⟩⟩
    have gt : Gz K H7 (upd H7 t (.tup [v, vt])) := .new ht
    have hv := RepO.keep (g7.trans gt).keep hv
    have hvt := RepDO.keep gt.keep hvt
    have g8 := g6.trans (g7.trans gt)
    generalize upd H7 t (.tup [v, vt]) = H8 at hv hvt g8
    have hd8 := g8.dK hd id
    have s8 := s5.keep g8
    have hD8 := g.keep0 hD5 g8
    have hT8 := g8.t hT5
    clear g6 g7 gt ht hd s5 hT5 hD5 g8
    have hwf := hT'.wf
    have hful := hT'.full
    obtain ⟨hc1, hc2⟩ := tree_cnt hT'
    replace hc1 : cntO o ≤ 29 := by omega
    replace hc2 : cntS o ≤ 28 := by omega
    show tSeq _ _ _ [_, _, _, _, _, _, _, _, _, _, _, _, _, _, _, _] _
    -- the row, and what is behind
    refine ⟨_, rfl, _, rfl, _, rfl, st, b, ls, rows, d, 10, rfl, s8, l1, l2, l3, hd8, hdm, kn, by omega, rok, by decide, fun row rl xs H9 g9 s9 hrl hrok hrlx hrow hrm hrn => ?_⟩
    have mrl : ¬ g.Mt rl := g.ne hD8 hrn
    have hv := RepO.keep g9.keep hv
    have hvt := RepDO.keep g9.keep hvt
    have hd9 := g9.dK hd8 hdm
    have hD9 := g.keep hD8 g9 fun c hc hm => dis c hm hc
    have hT9 := g9.t hT8
    clear hd8 hD8 hT8 hrn g9 s8
    show tSeq _ _ _ [_, _, _, _, _, _, _, _, _, _, _, _, _, _, _, _] _
    refine ⟨_, rfl, _, rfl, rows, d, row, rl, xs, rfl, hd9, kn, by omega, rok, hrlx, hrow, hrok, by omega, fun t2 d2 dv H10 hd2n g10 ht2 hd2 hdv => ?_⟩
    refine ⟨t2, _, rfl, SqT.of ht2, rfl, _, _, rfl, _, _, rfl, rfl, ?_⟩
    obtain ⟨hbe1, hbe2, hbe3, hbe4⟩ := behR_beh (row := row) kn
    have hbeok := behR_ok hrok rok
    replace hbe4 : (behR rows row).1.length ≤ 24 := by omega
    rw [← hbe2] at hdv
    have m2 : ¬ g.Mt d2 := g.ne hD9 hd2n
    have sm2 : ¬ Ms st b d2 := s9.notM hd2n
    have hv := RepO.keep g10.keep hv
    have hvt := RepDO.keep g10.keep hvt
    have hd10 := g10.dK hd9 id
    have s10 := s9.keep g10
    have hD10 := g.keep0 hD9 g10
    have hT10 := g10.t hT9
    have hrlx := g10.lst hrlx id
    have hrow := hrow.keep g10.keep
    clear hd9 hD9 hT9 hd2n s9 ht2 g10
    have hcap : ([] : List W).length + (cntS o + 2) * (cntS o + 2) ≤ 1000 := by
      have := Nat.mul_le_mul (show cntS o + 2 ≤ 30 by omega) (show cntS o + 2 ≤ 30 by omega)
      simp
      omega
    have hsh := told_shaped hwf
    show tSeq _ _ _ [_, _, _, _, _, _, _, _, _, _, _, _, _, _, _, _] _
    -- what is needed
    refine ⟨hT10, fun H11 e11 t11 H12 Q' g12' hQ' => ?_⟩
    have g12 := (go_ext e11 t11).trans g12'
    have hv12 := RepO.keep g12.keep hv
    have hD12 := g.keep0 hD10 g12
    refine ⟨_, rfl, _, rfl, _, rfl, o, v, row, rl, xs, [], cn rows, rfl, hv12, hT', g12.lst hrlx id, mrl, hrow.keep g12.keep, hrok, by omega, g12.t hT10, hD12, by omega, fun hnone D1 H13 so r b1 b2 b3 b4 b5 b6 => hQ' _ _ ?_, fun k hk dd H13 D1 b1 b2 b3 b4 b5 => ⟨.nokey k, dd, rfl, rfl, b5, fun u H14 g14 hu => ?_⟩⟩
    · -- what is told by it
      rw [hnone] at hdv
      have hdv : dv = .non := hdv
      subst hdv
      have g1013 : Go (tbs K) g.Mt H10 H13 := g12.any.trans b4
      have hv := RepO.keep g1013.keep hv
      have hvt := RepDO.keep g1013.keep hvt
      have hd13 := g1013.dK hd10 mD
      have hd2 := g1013.dK hd2 m2
      have hrlx := g1013.lst hrlx mrl
      have hrow := hrow.keep g1013.keep
      have s13 := s10.go g1013 (fun h => dis _ h (.inl rfl)) fun h => dis _ h (.inr rfl)
      have hT13 := g1013.t hT10
      have b2 : D1.length ≤ 1000 := Nat.le_trans b2 hcap
      show tSeq _ _ _ [_, _, _, _, _, _, _, _, _, _, _, _, _, _, _, _] _
      clear b4 hv12 hD12 g12 g12' e11 t11 hQ' hD10 hT10 s10 g1013 hd10 b1 hcap
      refine ⟨_, rfl, rfl, _, rfl, ?_⟩
      refine ite_f ?_
      show tSeq _ _ _ [_, _, _, _, _, _, _, _, _, _, _, _, _, _, _, _] _
      refine ⟨_, rfl, _, rfl, rows, d, rl, row, xs, o, rfl, hd13, kn, by omega, rok, hrlx, hrow, hrok, by omega, hnone, hT', fun cl H14 g14 hcl => ?_⟩
      show tSeq _ _ _ [_, _, _, _, _, _, _, _, _, _, _, _, _, _, _, _] _
      refine ⟨_, rfl, o, vt, [], rfl, RepDO.keep g14.keep hvt, hful, hwf, ?_, by omega, ?_, fun wl0 H15 g15 hwl0 => ?_⟩
      · cases o with
        | none => decide
        | some t => have := hwf.2; simp only [htO]; omega
      · cases o with
        | none => decide
        | some t => have := hwf.2; simp only [htO, List.length_nil]; omega
      refine ⟨wl0, rfl, ⟨_, SqL.of hwl0⟩, fun wl hwln => ?_⟩
      have hnl : (nwO o []).length ≤ 29 := by
        cases o with
        | none => simp [nwO]
        | some t => have := nw_len t []; simp only [cntO] at hc1; simp only [nwO]; omega
      have hcl15 := g15.lst hcl id
      refine lc_go (Ts := tbs K) (M := M0) (walk_list (xs := (nwO o []).map fun z => V.str (S z))) hwln (by rw [List.length_map]; omega) m0_ne (fun j ac H' => Gz K H15 H' ∧ ac = (((nwO o []).take j).filter fun z => decide (z ∈ come o row)).map fun z => V.str (S z)) (fun i acc H' H'' ⟨a, b⟩ g => ⟨a.loc hwln g, b⟩) ⟨.refl, rfl⟩ (fun i acc H' _ ⟨g, _⟩ => SqL.of (g.lst hwl0 id)) ?_ ?_
      · rintro j ac y H16 H17 R1 R2 hj ⟨g16, rfl⟩ ⟨rfl, hyj⟩ k1 k2
        rw [List.getElem?_map] at hyj
        obtain ⟨z, hz, rfl⟩ := Option.map_eq_some_iff.mp hyj
        refine ⟨rfl, _, rfl, _, rfl, cl, _, rfl, .inl (SqL.of (g16.lst hcl15 id)), rfl, flat_S _, _, rfl, ?_⟩
        rw [inV_S]
        by_cases hp : z ∈ come o row
        · rw [decide_eq_true hp]
          refine ⟨_, rfl, k1 _ _ .refl ⟨g16, ?_⟩⟩
          rw [take_snoc' hz, List.filter_append, List.map_append]
          simp [hp]
        · rw [decide_eq_false hp]
          refine k2 _ .refl ⟨g16, ?_⟩
          rw [take_snoc' hz, List.filter_append]
          simp [hp]
      rintro ac H16 ⟨g16, rfl⟩ hwl _
      rw [List.length_map, List.take_length] at hwl
      have hVm : ∀ w, w ∈ ((nwO o []).filter fun z => decide (z ∈ come o row)) ↔ w ∈ nwO o [] ∧ w ∈ come o row := fun w => by
        rw [List.mem_filter]
        simp
      have hVl : ((nwO o []).filter fun z => decide (z ∈ come o row)).length ≤ 29 := Nat.le_trans (List.length_filter_le _ _) hnl
      generalize ((nwO o []).filter fun z => decide (z ∈ come o row)) = Vs at hwl hVm hVl
      have g1316 := g14.trans (g15.trans g16)
      have s15 := s13.keep (g14.trans g15)
      have swl := s15.notM hwln
      have mwl : ¬ g.Mt wl := g.ne (g.keep0 b3 (g14.trans g15)) hwln
      have hv := RepO.keep g1316.keep hv
      have hvt := RepDO.keep g1316.keep hvt
      have hr := RepO.keep g1316.keep b5
      have hd16 := g1316.dK hd13 id
      have hd2 := g1316.dK hd2 id
      have hrlx := g1316.lst hrlx id
      have hrow := hrow.keep g1316.keep
      have s16 := s13.keep g1316
      have hT16 := g1316.t hT13
      have hD16 := g.keep0 b3 g1316
      clear hcl hcl15 hwl0 hwln g14 g15 g16 s15 s13 hT13 hd13 b3 b5 g1316
      have hso := g.wfO (by omega) b6.slO hwf
      have hcso : cntO so ≤ 29 := Nat.le_trans (slO_cntO b6.slO) hc1
      show tSeq _ _ _ [_, _, _, _, _, _, _, _, _, _, _, _, _, _, _, _] _
      -- told(part), shown
      refine ⟨_, rfl, so, r, rfl, hr, hso, fun v3 H17 g17 hv3 => ?_⟩
      refine ⟨_, rfl, _, rfl, _, rfl, o, vt, wl, Vs, D1, rfl, RepDO.keep g17.keep hvt, g17.lst hwl id, mwl, by omega, hful, hwf, g.keep0 hD16 g17, by omega, fun D2 H18 r2 so2 d1 d2' d3 d4 d5 d6 => ?_⟩
      replace d2' : D2.length ≤ 1029 := by omega
      obtain rfl := NeedO.shown d1 hful (fun w hw => ⟨fun h => (hVm w).mpr ⟨hw, h⟩, fun h => ((hVm w).mp h).2⟩) b6 d5
      have hsh2 := told_shaped hso
      refine ⟨dTO so, dTO so, dp_toldO (RepDO.keep d4.keep hv3), dp_toldO d6, hsh2.1, hsh2.1, ?_⟩
      rw [hsh2.2]
      have g1618 : Go (tbs K) g.Mt H16 H18 := g17.any.trans d4
      have hv := RepO.keep g1618.keep hv
      have hvt := RepDO.keep g1618.keep hvt
      have hr := RepO.keep g1618.keep hr
      refine ⟨_, rfl, ?_⟩
      refine ⟨_, rfl, o, v, rfl, hv, hwf, fun v4 H19 g19 hv4 => ⟨_, rfl, dTO o, dTO o, dp_toldO hv4, dp_toldO (RepDO.keep g19.keep hvt), hsh.1, hsh.1, ?_⟩⟩
      rw [hsh.2]
      refine ⟨_, rfl, ?_⟩
      have g1619 := g1618.trans g19.any
      have hv := RepO.keep g19.keep hv
      have hvt := RepDO.keep g19.keep hvt
      have hr := RepO.keep g19.keep hr
      have hd19 := g1619.dK hd16 mD
      have hd2 := g1619.dK hd2 m2
      have hrlx := g1619.lst hrlx mrl
      have hwl := g1619.lst hwl mwl
      have hrow := hrow.keep g1619.keep
      have s19 := s16.go g1619 (fun h => dis _ h (.inl rfl)) fun h => dis _ h (.inr rfl)
      have hT19 := g1619.t hT16
      have hD19 := g.keep0 d3 g19
      clear g17 d4 d3 d5 d6 hv3 hv4 g1618 g1619 hd16 s16 hT16 hD16 g19
      refine ite_f ?_
      show tSeq _ _ _ [_, _, _, _, _, _, _, _, _, _, _, _, _, _, _, _] _
      -- needed, by keywords
      have hcap : (cntS o + 2) * (cntS o + 2) ≤ 1000 := by
        have := Nat.mul_le_mul (show cntS o + 2 ≤ 30 by omega) (show cntS o + 2 ≤ 30 by omega)
        omega
      refine ⟨_, rfl, _, rfl, _, rfl, o, v, row, rl, xs, D2, cn rows, rfl, hv, hT', hrlx, mrl, hrow, hrok, by omega, hT19, hD19, by omega, fun _ D3 H20 so3 r3 e1 e2 e3 e4 e5 e6 => ?_, fun k hk => by rw [hnone] at hk; cases hk⟩
      have b6 := b6.later d1
      replace e2 : D3.length ≤ 2029 := by omega
      clear d2' hcap b2
      obtain rfl := NeedO.one e1 b6 e6
      refine ⟨_, rfl, ?_⟩
      refine ne_parts e5 (RepO.keep e4.keep hr) hso fun H21 g21 => ⟨_, rfl, ?_⟩
      have g1921 : Go (tbs K) g.Mt _ H21 := e4.trans g21.any
      have hv := RepO.keep g1921.keep hv
      have hvt := RepDO.keep g1921.keep hvt
      have hr := RepO.keep g1921.keep hr
      have hd21 := g1921.dK hd19 mD
      have hd2 := g1921.dK hd2 m2
      have hrlx := g1921.lst hrlx mrl
      have hwl := g1921.lst hwl mwl
      have hrow := hrow.keep g1921.keep
      have s21 := s19.go g1921 (fun h => dis _ h (.inl rfl)) fun h => dis _ h (.inr rfl)
      have hT21 := g1921.t hT19
      have hD21 := g.keep0 e3 g21
      clear e3 e4 e5 g21 g1921 hd19 s19 hT19 hD19
      refine ite_f ?_
      show tSeq _ _ _ [_, _, _, _, _, _, _, _, _, _, _, _, _, _, _, _] _
      -- the numbers
      refine ⟨_, rfl, _, rfl, o, vt, D3, rfl, hvt, hwf, hD21, by omega, fun D4 H22 f1 f2 f3 f4 f5 => ?_⟩
      refine ⟨_, rfl, (behR rows row).1, d2, rfl, f4.dK hd2 m2, hbe3, by omega, hbeok, fun vl ol H23 g23 hTl hvl => ?_⟩
      replace f2 : D4.length ≤ 2058 := by omega
      clear e2
      have hvl : RepDO H23 ol vl := repDgO_false hvl
      have hwl' := hTl.wf
      have hl1 : cntO ol ≤ 49 := by have := (tree_cnt hTl).1; omega
      refine ⟨_, rfl, ol, vl, D4, rfl, hvl, hwl', g.keep0 f3 g23, by omega, fun D5 H24 h1 h2 h3 h4 h5 => ⟨_, _, rfl, ?_⟩⟩
      replace h2 : D5.length ≤ 2107 := by omega
      clear f2
      show tSeq _ _ _ [_, _, _, _, _, _, _, _, _, _, _, _, _, _, _, _] _
      have g2124 : Go (tbs K) g.Mt H21 H24 := f4.trans (g23.any.trans h4)
      have hv := RepO.keep g2124.keep hv
      have hvt := RepDO.keep g2124.keep hvt
      have hr := RepO.keep g2124.keep hr
      have hd24 := g2124.dK hd21 mD
      have hrlx := g2124.lst hrlx mrl
      have hwl := g2124.lst hwl mwl
      have hrow := hrow.keep g2124.keep
      have s24 := s21.go g2124 (fun h => dis _ h (.inl rfl)) fun h => dis _ h (.inr rfl)
      have hT24 := g2124.t hT21
      have b6 := (b6.later e1).later f1
      clear f3 f4 g23 h4 g2124 hd21 s21 hT21 hD21 hd2 hvl
      refine ⟨_, rfl, _, rfl, so, r, D5, rfl, hr, hso, h3, by omega, fun D6 H25 i1 i2 i3 i4 i5 => ⟨_, rfl, ?_⟩⟩
      replace i2 : D6.length ≤ 2136 := by omega
      clear h2
      have slo := (b6.later (h1.trans i1)).slO
      have ko := g.knownO (h1.trans i1) f5
      have ks := sl_numO g slo ko.1
      have en : numO (g.val D6) so = numO (g.val D4) o := by rw [ks.2, ko.2]
      refine ⟨rfl, _, rfl, ?_⟩
      rw [en]
      have hdo : ∃ so', doRow so row = .ok so' ∧ SlO (g.ND D4) so' ol := by
        obtain ⟨r1, _⟩ := row_tree hT' hrok
        obtain ⟨o', ho', hto'⟩ := r1 hnone
        rw [hbe1] at hto'
        obtain rfl := IsTree.one hto' hTl
        rcases sl_row b6.slO hT' hrok with ⟨so', o2, x1, x2, x3, _⟩ | ⟨w, _, x2, x3⟩ | ⟨k, _, x2⟩
        · rw [ho'] at x2
          cases x2
          exact ⟨so', x1, x3⟩
        · exfalso
          cases o with
          | none =>
            cases b6
            nomatch x3
          | some t =>
            obtain ⟨s', rfl, x4⟩ := b6
            exact Shn.sw _ _ _ _ x4 x3 x2
        · rw [ho'] at x2
          cases x2
      obtain ⟨so', hdo, slo'⟩ := hdo
      have hso' := g.wfO (Nat.le_trans (Nat.le_trans h1.length_le i1.length_le) (by omega)) slo' hwl'
      have hcso' : cntO so' ≤ 49 := Nat.le_trans (slO_cntO slo') hl1
      rw [decide_eq_true rfl]
      have hv := RepO.keep i4.keep hv
      have hvt := RepDO.keep i4.keep hvt
      have hr := RepO.keep i4.keep hr
      have hd25 := i4.dK hd24 mD
      have hrlx := i4.lst hrlx mrl
      have hwl := i4.lst hwl mwl
      have hrow := hrow.keep i4.keep
      have s25 := s24.go i4 (fun h => dis _ h (.inl rfl)) fun h => dis _ h (.inr rfl)
      have hT25 := i4.t hT24
      clear h3 i4 i5 hd24 s24 hT24
      refine ⟨_, rfl, _, rfl, so, r, row, rl, xs, rfl, hr, hso, hrlx, hrow, hrok, by omega, hT25, ?_⟩
      rw [hdo]
      intro v26 H26 g26 hv26
      refine ⟨_, rfl, so', v26, D6, rfl, hv26, hso', g.keep0 i3 g26, by omega, fun D7 H27 j1 j2 j3 j4 j5 => ⟨_, rfl, rfl, _, rfl, ?_⟩⟩
      replace j2 : D7.length ≤ 2185 := by omega
      clear i2
      have k7 := g.knownO (i1.trans j1) h5
      have ks' := sl_numO g (slO_later g (h1.trans (i1.trans j1)) slo') k7.1
      have en' : numO (g.val D7) so' = numO (g.val D5) ol := by rw [ks'.2, k7.2]
      rw [en', decide_eq_true rfl]
      have g2527 : Go (tbs K) g.Mt _ H27 := g26.any.trans j4
      have hv := RepO.keep g2527.keep hv
      have hvt := RepDO.keep g2527.keep hvt
      have hr := RepO.keep g2527.keep hr
      have hd27 := g2527.dK hd25 mD
      have hrlx := g2527.lst hrlx mrl
      have hwl := g2527.lst hwl mwl
      have hrow := hrow.keep g2527.keep
      have s27 := s25.go g2527 (fun h => dis _ h (.inl rfl)) fun h => dis _ h (.inr rfl)
      have hT27 := g2527.t hT25
      clear i3 g26 j4 g2527 hv26 hd25 s25 hT25
      refine ite_f ?_
      show tSeq _ _ _ [_, _, _, _, _, _, _, _, _, _, _, _, _, _, _, _] _
      -- the root behind
      refine ⟨_, rfl, _, rfl, _, rfl, _, rfl, numO (g.val D4) o, so, so', r, row, rl, xs, D7, rfl, hr, hso, hrlx, mrl, hrow, hrok, by omega, hdo, hT27, j3, by omega, fun D' hD' _ => ?_, fun D8 H28 m1 m2' m3 m4 m5 => ⟨_, rfl, rfl, _, rfl, ?_⟩⟩
      · have kk := g.knownO (h1.trans (i1.trans (j1.trans hD'))) f5
        rw [(sl_numO g (b6.later (h1.trans (i1.trans (j1.trans hD')))).slO kk.1).2, kk.2]
      replace m2' : D8.length ≤ 2263 := by omega
      clear j2
      have k8 := g.knownO (i1.trans (j1.trans m1)) h5
      have en8 : numO (g.val D8) so' = numO (g.val D5) ol := by rw [(sl_numO g (slO_later g (h1.trans (i1.trans (j1.trans m1))) slo') k8.1).2, k8.2]
      rw [en8, decide_eq_true rfl]
      have hv := RepO.keep m4.keep hv
      have hvt := RepDO.keep m4.keep hvt
      have hr := RepO.keep m4.keep hr
      have hd28 := m4.dK hd27 mD
      have hrlx := m4.lst hrlx mrl
      have hwl := m4.lst hwl mwl
      have hrow := hrow.keep m4.keep
      have s28 := s27.go m4 (fun h => dis _ h (.inl rfl)) fun h => dis _ h (.inr rfl)
      have hT28 := m4.t hT27
      clear j3 m4 m5 hd27 s27 hT27
      refine ite_f ?_
      show tSeq _ _ _ [_, _, _, _, _, _, _, _, _, _, _, _, _, _, _, _] _
      -- a slice shows no more
      refine ⟨_, rfl, _, rfl, _, rfl, _, rfl, d, _, _, rfl, .inl hd28, dkv_keys rows, by rw [List.length_map]; omega, fun ys sl hperm hsort hsl => ?_⟩
      obtain ⟨rs, hrs, rfl⟩ := perm_lift hperm.symm rows rfl
      have gs : Gz K H28 (upd H28 sl (.lst ((rs.map fun r => S r.1).map V.str))) := .new hsl
      refine ⟨st, b, ls, sl, rs.map (·.1), rfl, s28.keep gs, l1, l2, l3, by rw [upd_same, List.map_map, List.map_map]; rfl, s28.notM hsl, by rw [List.length_map, hrs.length_eq]; omega, (fun k hk => by
        obtain ⟨r, hr, rfl⟩ := List.mem_map.mp hk
        exact (rok r (hrs.mem_iff.mp hr)).1), fun key0 H29 hkey0 g29 s29 => ?_⟩
      have g2829 : Go (tbs K) (Ms st b) H28 H29 := gs.any.trans g29
      have hv := RepO.keep g2829.keep hv
      have hvt := RepDO.keep g2829.keep hvt
      have hr := RepO.keep g2829.keep hr
      have hrlx := g2829.lst hrlx hrm
      have hwl := g2829.lst hwl swl
      have hrow := hrow.keep g2829.keep
      have hT29 := g2829.t hT28
      have hD29 := g.keep m3 g2829 fun c hc hm => dis c hm hc
      clear gs g29 g2829 hd28 s28 hT28 hsl m3
      refine ⟨_, so, o, cn rows, r, key0, rfl, hr, hso, b6.slO, hT', hkey0, hT29, fun H30 g30 => ⟨true, rfl, ?_⟩⟩
      refine ite_f ?_
      refine ⟨_, rfl, by show 0 ≤ sizeLine; decide, fun e he => ?_⟩
      have ge : Gz K H30 (upd H30 e (.lst [])) := .new he
      have gE := g30.trans ge
      have hVok : ∀ w ∈ Vs, Ltr w := fun w hw => by
        cases o with
        | none => nomatch ((hVm w).mp hw).1
        | some t => exact nw_ltr t [] hwf.1 (fun c hc => nomatch hc) w ((hVm w).mp hw).1
      refine ⟨_, _, .lst (.of (gE.lst hwl id)) (dpAll_strs Vs), .lst (.of upd_same) .nil, shaped_strs fun k hk c hc => by have := hVok k hk c hc; unfold Lt at this; omega, rfl, ?_⟩
      rw [eqv_nil]
      by_cases hV0 : Vs = []
      · subst hV0
        rw [decide_eq_true (by rfl)]
        exact ⟨true, rfl, q _⟩
      rw [decide_eq_false (by simpa using hV0)]
      refine ⟨false, rfl, ?_⟩
      cases o with
      | none =>
        obtain ⟨z, hz⟩ := List.exists_mem_of_ne_nil _ hV0
        nomatch ((hVm z).mp hz).1
      | some t =>
        obtain ⟨r1, _⟩ := row_tree hT' hrok
        obtain ⟨o', ho', _⟩ := r1 hnone
        refine ⟨_, rfl, _, rfl, _, rfl, _, rfl, _, rfl, st, b, t, vt, wl, Vs, rl, row, xs, D8, cn rows, o', rfl, s29.keep gE, RepD.keep gE.keep t hvt, hT', gE.lst hwl id, hV0, by omega, gE.lst hrlx id, hrow.keep gE.keep, hrok, by omega, gE.t hT29, g.keep0 hD29 gE, by simp only [cntO] at hc1; omega, dis, mwl, mrl, swl, hrm, ho', fun w hw => ((hVm w).mp hw).1, fun w hw => ⟨fun h => ((hVm w).mp h).2, fun h => (hVm w).mpr ⟨hw, h⟩⟩, fun _ => q _⟩
    · -- the key that lacks
      have hdv : ∃ u, dv = .ref u ∧ H10 u = some (.tup [.str "NoKey", .str (S k)]) := by
        rw [hk] at hdv
        exact hdv
      obtain ⟨u', rfl, hu'⟩ := hdv
      have g1014 : Go (tbs K) g.Mt H10 H14 := g12.any.trans (b4.trans g14.any)
      have hE := shaped_E (e := .nokey k) (beh_key hrok hk).1
      refine ⟨_, rfl, rfl, _, rfl, ?_⟩
      rw [show (!decide (V.ref u' = V.non)) = true from rfl]
      refine ⟨_, rfl, _, rfl, dE (.nokey k), dE (.nokey k), dp_E hu, dp_E (e := .nokey k) (g1014.tup hu'), hE.1, hE.1, ?_⟩
      rw [hE.2]
      refine ⟨true, rfl, ?_⟩
      refine ⟨_, rfl, o, v, rfl, RepO.keep g1014.keep hv, hwf, fun v2 H15 g15 hv2 => ⟨_, rfl, dTO o, dTO o, dp_toldO hv2, dp_toldO (RepDO.keep (g1014.trans g15.any).keep hvt), hsh.1, hsh.1, ?_⟩⟩
      rw [hsh.2]
      exact q _
end
end Seal
namespace Seal
open PySem PySem.Spec PyProof.Rows L2 LamX NdefX
/-! ### all defs -/
structure Ns (K : PySem.W.Frag) (mg : Str → Option Value) : Prop where
  n_NoKey_init : FnM1 K "NoKey" "__init__" "NoKey.__init__" s_NoKey_init
  n_Unseen_init : FnM1 K "Unseen" "__init__" "Unseen.__init__" s_Unseen_init
  n_is_key : Fn1 K mg "is_key" s_is_key
  n_is_value : Fn1 K mg "is_value" s_is_value
  n_is_number : Fn1 K mg "is_number" s_is_number
  n_need_key : Fn1 K mg "need_key" s_need_key
  n_need_value : Fn1 K mg "need_value" s_need_value
  n_shared_start : Fn1 K mg "shared_start" s_shared_start
  n_Part_eq : FnM1 K "Part" "__eq__" "Part.__eq__" s_Part_eq
  n_Node_init : FnM1 K "Node" "__init__" "Node.__init__" s_Node_init
  n_Node_told : FnM1 K "Node" "told" "Node.told" s_Node_told
  n_Node_start : FnM1 K "Node" "start" "Node.start" s_Node_start
  n_Node_height : FnM1 K "Node" "height" "Node.height" s_Node_height
  n_Node_kid_at : FnM1 K "Node" "kid_at" "Node.kid_at" s_Node_kid_at
  n_Stub_init : FnM1 K "Stub" "__init__" "Stub.__init__" s_Stub_init
  n_Stub_told : FnM1 K "Stub" "told" "Stub.told" s_Stub_told
  n_Stub_height : FnM1 K "Stub" "height" "Stub.height" s_Stub_height
  n_are_kids : Fn1 K mg "are_kids" s_are_kids
  n_is_tree : Fn1 K mg "is_tree" s_is_tree
  n_need_tree : Fn1 K mg "need_tree" s_need_tree
  n_part_of : Fn1 K mg "part_of" s_part_of
  n_kid_of : Fn1 K mg "kid_of" s_kid_of
  n_written : Fn1 K mg "written" s_written
  n_text_of : Fn1 K mg "text_of" s_text_of
  n_number_of : Fn1 K mg "number_of" s_number_of
  n_as_stub : Fn1 K mg "as_stub" s_as_stub
  n_need_root : Fn1 K mg "need_root" s_need_root
  n_need_seen : Fn1 K mg "need_seen" s_need_seen
  n_with_kid : Fn1 K mg "with_kid" s_with_kid
  n_joined_up : Fn1 K mg "joined_up" s_joined_up
  n_got : Fn1 K mg "got" s_got
  n_put : Fn1 K mg "put" s_put
  n_put_in : Fn1 K mg "put_in" s_put_in
  n_parted : Fn1 K mg "parted" s_parted
  n_drop : Fn1 K mg "drop" s_drop
  n_drop_in : Fn1 K mg "drop_in" s_drop_in
  n_tree_of : Fn1 K mg "tree_of" s_tree_of
  n_tree_under : Fn1 K mg "tree_under" s_tree_under
  n_is_deed : Fn1 K mg "is_deed" s_is_deed
  n_need_deeds : Fn1 K mg "need_deeds" s_need_deeds
  n_done : Fn1 K mg "done" s_done
  n_shown_at : Fn1 K mg "shown_at" s_shown_at
  n_needed : Fn1 K mg "needed" s_needed
  n_root_behind : Fn1 K mg "root_behind" s_root_behind
  n_L_begun : Fn1 K mg "_law_begun" s_L_begun
  n_L_draw : Fn1 K mg "_law_draw" s_L_draw
  n_L_letters : Fn1 K mg "_law_letters" s_L_letters
  n_L_key : Fn1 K mg "_law_key" s_L_key
  n_L_value : Fn1 K mg "_law_value" s_L_value
  n_L_content : Fn1 K mg "_law_content" s_L_content
  n_L_tree : Fn1 K mg "_law_tree" s_L_tree
  n_L_told : Fn1 K mg "_law_told" s_L_told
  n_L_word : Fn1 K mg "_law_word" s_L_word
  n_L_tried : Fn1 K mg "_law_tried" s_L_tried
  n_L_good : Fn1 K mg "_law_good" s_L_good
  n_L_bad : Fn1 K mg "_law_bad" s_L_bad
  n_L_text : Fn1 K mg "_law_text" s_L_text
  n_L_number : Fn1 K mg "_law_number" s_L_number
  n_L_walk : Fn1 K mg "_law_walk" s_L_walk
  n_L_lone : Fn1 K mg "_law_lone" s_L_lone
  n_L_ways : Fn1 K mg "_law_ways" s_L_ways
  n_L_shown : Fn1 K mg "_law_shown" s_L_shown
  n_L_row : Fn1 K mg "_law_row" s_L_row
  n_L_behind : Fn1 K mg "_law_behind" s_L_behind
  n_L_come_to : Fn1 K mg "_law_come_to" s_L_come_to
  n_L_spared : Fn1 K mg "_law_spared" s_L_spared
  n_L_shows_no_more : Fn1 K mg "_law_shows_no_more" s_L_shows_no_more
  n_law : Fn1 K mg "law" s_law
section
variable {P : Program} {w : World} {K : PySem.W.Frag} {mg : Str → Option Value} {base : Heap}
theorem law_all (N : Ns K mg) (G : TX K mg) (TP : TE' K) (TA : TT K mg base) (WG : WordX K mg) (XUnseen : EX K mg "Unseen" "way") (XNoKey : EX K mg "NoKey" "key") (U : EU K) : DefF P w K mg base CX0 42 "law" s_law ["_law_script"] (spLaw K) := by
  have D_is_key := Seal.D_is_key (P := P) (w := w) (base := base) N.n_is_key G
  have D_is_value := Seal.D_is_value (P := P) (w := w) (base := base) N.n_is_value G
  have D_is_number := Seal.D_is_number (P := P) (w := w) (base := base) N.n_is_number G
  have D_need_key := Seal.D_need_key (P := P) (w := w) (base := base) N.n_need_key G D_is_key
  have D_need_value := Seal.D_need_value (P := P) (w := w) (base := base) N.n_need_value G D_is_value
  have D_shared_start := Seal.D_shared_start (P := P) (w := w) (base := base) N.n_shared_start G
  have D_St := Seal.D_Stub_told (P := P) (w := w) (base := base) N.n_Stub_told G
  have D_Sh := Seal.D_Stub_height (P := P) (w := w) (base := base) N.n_Stub_height G
  have D_Ns := Seal.D_Node_start (P := P) (w := w) (base := base) N.n_Node_start G
  have D_Nk := Seal.D_Node_kid_at (P := P) (w := w) (base := base) N.n_Node_kid_at G
  have D_Nt := Seal.D_Node_told (P := P) (w := w) (base := base) N.n_Node_told G D_St 9
  have D_Nh := Seal.D_Node_height (P := P) (w := w) (base := base) N.n_Node_height G D_Sh 8
  have D_are_kids := Seal.D_are_kids (P := P) (w := w) (base := base) N.n_are_kids G D_is_key
  have D_Si := Seal.D_Stub_init (P := P) (w := w) (base := base) N.n_Stub_init G D_is_number
  have D_Ni := Seal.D_Node_init (P := P) (w := w) (base := base) N.n_Node_init G D_is_key D_is_value D_are_kids D_Nh
  have D_written := Seal.D_written (P := P) (w := w) (base := base) N.n_written G
  have D_number_of := fun g : Dig P w K mg base => Seal.D_number g N.n_text_of N.n_number_of G D_written D_Ns
  have D_as_stub := fun g : Dig P w K mg base => Seal.D_as_stub g N.n_as_stub G (D_number_of g) D_Si
  have D_is_tree := Seal.D_is_tree (P := P) (w := w) (base := base) N.n_is_tree G
  have D_need_tree := Seal.D_need_tree (P := P) (w := w) (base := base) N.n_need_tree G D_is_tree
  have D_need_root := fun g : Dig P w K mg base => Seal.D_need_root g N.n_need_root G (D_number_of g) D_need_tree
  have D_part_of := Seal.D_part_of (P := P) (w := w) (base := base) N.n_part_of N.n_kid_of G D_Si D_Ni
  have D_Unseen := Seal.D_Unseen (P := P) (w := w) (base := base) N.n_Unseen_init XUnseen
  have D_NoKey := Seal.D_NoKey (P := P) (w := w) (base := base) N.n_NoKey_init XNoKey
  have D_need_seen := Seal.D_need_seen (P := P) (w := w) (base := base) N.n_need_seen G XUnseen D_Unseen
  have D_with_kid := Seal.D_with_kid (P := P) (w := w) (base := base) N.n_with_kid G TA
  have D_joined_up := Seal.D_joined_up (P := P) (w := w) (base := base) N.n_joined_up G D_Ni D_need_seen
  have D_parted := Seal.D_parted (P := P) (w := w) (base := base) N.n_parted G D_Ni D_with_kid
  have D_put_in := Seal.D_put_in (P := P) (w := w) (base := base) N.n_put_in G D_Ni D_with_kid D_parted D_shared_start D_need_seen D_Nk 9
  have D_put := Seal.D_put (P := P) (w := w) (base := base) N.n_put G D_need_key D_need_value D_put_in
  have D_drop_in := Seal.D_drop_in (P := P) (w := w) (base := base) N.n_drop_in G XNoKey D_NoKey D_joined_up D_with_kid D_need_seen D_Nk 9
  have D_drop := Seal.D_drop (P := P) (w := w) (base := base) N.n_drop G D_need_key D_drop_in
  have D_got := Seal.D_got (P := P) (w := w) (base := base) N.n_got G D_need_key D_need_seen D_Nk
  have D_is_deed := Seal.D_is_deed (P := P) (w := w) (base := base) N.n_is_deed G D_is_key D_is_value
  have D_need_deeds := Seal.D_need_deeds (P := P) (w := w) (base := base) N.n_need_deeds G D_is_deed
  have D_done := Seal.D_done (P := P) (w := w) (base := base) N.n_done G D_need_deeds D_put D_drop
  have D_shown_at := fun g : Dig P w K mg base => Seal.D_shown g N.n_shown_at G D_Ni D_with_kid D_need_seen D_Nk (D_as_stub g) 9
  have D_neededF := fun g : Dig P w K mg base => Seal.D_neededF g N.n_needed G XUnseen U D_need_deeds (D_as_stub g) D_done (D_shown_at g)
  have D_root_behind := fun g : Dig P w K mg base => Seal.D_root_behind g N.n_root_behind G (D_need_root g) (D_number_of g) D_done
  have D_tree_under := Seal.D_tree_under_at (P := P) (w := w) (base := base) N.n_tree_under G D_Ni D_shared_start 9
  have D_tree_of := Seal.D_tree_of (P := P) (w := w) (base := base) N.n_tree_of G D_need_key D_need_value D_tree_under
  have D_L_draw := Seal.D_L_draw (P := P) (w := w) (base := base) N.n_L_draw G
  have D_L_begun := Seal.D_L_begun (P := P) (w := w) (base := base) N.n_L_begun G
  have D_L_letters := Seal.D_L_letters (P := P) (w := w) (base := base) N.n_L_letters G D_L_draw
  have D_L_key := Seal.D_L_key (P := P) (w := w) (base := base) N.n_L_key G D_L_draw
  have D_L_value := Seal.D_L_value (P := P) (w := w) (base := base) N.n_L_value G D_L_draw
  have D_L_content := Seal.D_L_content (P := P) (w := w) (base := base) N.n_L_content G D_L_draw D_L_key D_L_value
  have D_L_told := Seal.D_L_told (P := P) (w := w) (base := base) N.n_L_told G D_St D_Nt
  have D_L_ways := Seal.D_L_ways_at (P := P) (w := w) (base := base) N.n_L_ways G 10
  have D_L_behind := Seal.D_L_behind (P := P) (w := w) (base := base) N.n_L_behind G
  have D_L_number := fun g : Dig P w K mg base => Seal.D_L_number g N.n_L_text N.n_L_number G
  have D_L_treeF := Seal.D_L_tree (P := P) (w := w) (base := base) false N.n_L_tree G
  have D_L_treeT := Seal.D_L_tree (P := P) (w := w) (base := base) true N.n_L_tree G
  have D_L_walk := Seal.D_L_walk (P := P) (w := w) (base := base) N.n_L_walk G
  have D_L_lone := Seal.D_L_lone (P := P) (w := w) (base := base) N.n_L_lone G
  have D_L_shown := fun g : Dig P w K mg base => Seal.D_L_shown g N.n_L_shown G (D_L_number g)
  have D_L_row := Seal.D_L_row (P := P) (w := w) (base := base) N.n_L_row G D_L_draw D_L_key D_L_value
  have D_L_come_to := Seal.D_L_come_to (P := P) (w := w) (base := base) N.n_L_come_to G D_L_treeT D_L_walk D_L_lone
  have D_L_word := Seal.D_L_word (P := P) (w := w) (base := base) N.n_L_word G WG
  have D_L_good := Seal.D_L_good (P := P) (w := w) (base := base) N.n_L_good G TA D_L_draw
  have D_L_bad := Seal.D_L_bad (P := P) (w := w) (base := base) N.n_L_bad G TA D_L_draw
  have D_Part_eq := Seal.D_Part_eq (P := P) (w := w) (base := base) N.n_Part_eq G D_St D_Nt
  have D_L_spared := fun g : Dig P w K mg base => Seal.D_L_spared g N.n_L_spared N.n_L_tried G TA WG D_L_word D_L_draw (D_L_shown g) D_part_of D_done
  have D_L_shows_no_more := Seal.D_L_shows_no_more (P := P) (w := w) (base := base) N.n_L_shows_no_more N.n_L_tried G TP TA WG D_L_word D_St D_Nt D_Part_eq D_got D_part_of D_done
  exact D_law N.n_law N.n_L_tried G TP TA WG D_L_word D_L_begun D_L_draw D_L_good D_L_bad D_L_letters D_L_content D_tree_of D_L_treeF D_L_row D_L_behind D_neededF D_L_told D_L_come_to D_L_ways D_L_shown D_Part_eq D_L_number D_number_of D_done D_root_behind D_L_key D_L_shows_no_more D_L_spared
end
end Seal
namespace Seal
open PySem PySem.Spec PyProof.Rows L2 LamX NdefX
/-! ### the head's facts -/
abbrev Sd (K : PySem.W.Frag) : Prop := He.SaysD fa fn K
section
variable {K : PySem.W.Frag} {h0 : Heap} {mg : Str → Option Value}
theorem ns_of (X : K.In h0) (Gn : h0.Ns mainGlobals mg) (c : Sd K) : Ns K mg where
  n_NoKey_init := ⟨(let ⟨fd, F⟩ := c.def_ 0 (d := d_NoKey_init) rfl; ⟨fd, F⟩)⟩
  n_Unseen_init := ⟨(let ⟨fd, F⟩ := c.def_ 1 (d := d_Unseen_init) rfl; ⟨fd, F⟩)⟩
  n_is_key := ⟨(He.glo_ok X Gn (c.fact 0 (f := .glo "is_key") rfl)), (let ⟨fd, F⟩ := c.def_ 2 (d := d_is_key) rfl; ⟨fd, F⟩)⟩
  n_is_value := ⟨(He.glo_ok X Gn (c.fact 1 (f := .glo "is_value") rfl)), (let ⟨fd, F⟩ := c.def_ 3 (d := d_is_value) rfl; ⟨fd, F⟩)⟩
  n_is_number := ⟨(He.glo_ok X Gn (c.fact 2 (f := .glo "is_number") rfl)), (let ⟨fd, F⟩ := c.def_ 4 (d := d_is_number) rfl; ⟨fd, F⟩)⟩
  n_need_key := ⟨(He.glo_ok X Gn (c.fact 3 (f := .glo "need_key") rfl)), (let ⟨fd, F⟩ := c.def_ 5 (d := d_need_key) rfl; ⟨fd, F⟩)⟩
  n_need_value := ⟨(He.glo_ok X Gn (c.fact 4 (f := .glo "need_value") rfl)), (let ⟨fd, F⟩ := c.def_ 6 (d := d_need_value) rfl; ⟨fd, F⟩)⟩
  n_shared_start := ⟨(He.glo_ok X Gn (c.fact 5 (f := .glo "shared_start") rfl)), (let ⟨fd, F⟩ := c.def_ 7 (d := d_shared_start) rfl; ⟨fd, F⟩)⟩
  n_Part_eq := ⟨(let ⟨fd, F⟩ := c.def_ 8 (d := d_Part_eq) rfl; ⟨fd, F⟩)⟩
  n_Node_init := ⟨(let ⟨fd, F⟩ := c.def_ 9 (d := d_Node_init) rfl; ⟨fd, F⟩)⟩
  n_Node_told := ⟨(let ⟨fd, F⟩ := c.def_ 10 (d := d_Node_told) rfl; ⟨fd, F⟩)⟩
  n_Node_start := ⟨(let ⟨fd, F⟩ := c.def_ 11 (d := d_Node_start) rfl; ⟨fd, F⟩)⟩
  n_Node_height := ⟨(let ⟨fd, F⟩ := c.def_ 12 (d := d_Node_height) rfl; ⟨fd, F⟩)⟩
  n_Node_kid_at := ⟨(let ⟨fd, F⟩ := c.def_ 13 (d := d_Node_kid_at) rfl; ⟨fd, F⟩)⟩
  n_Stub_init := ⟨(let ⟨fd, F⟩ := c.def_ 14 (d := d_Stub_init) rfl; ⟨fd, F⟩)⟩
  n_Stub_told := ⟨(let ⟨fd, F⟩ := c.def_ 15 (d := d_Stub_told) rfl; ⟨fd, F⟩)⟩
  n_Stub_height := ⟨(let ⟨fd, F⟩ := c.def_ 16 (d := d_Stub_height) rfl; ⟨fd, F⟩)⟩
  n_are_kids := ⟨(He.glo_ok X Gn (c.fact 6 (f := .glo "are_kids") rfl)), (let ⟨fd, F⟩ := c.def_ 17 (d := d_are_kids) rfl; ⟨fd, F⟩)⟩
  n_is_tree := ⟨(He.glo_ok X Gn (c.fact 7 (f := .glo "is_tree") rfl)), (let ⟨fd, F⟩ := c.def_ 18 (d := d_is_tree) rfl; ⟨fd, F⟩)⟩
  n_need_tree := ⟨(He.glo_ok X Gn (c.fact 8 (f := .glo "need_tree") rfl)), (let ⟨fd, F⟩ := c.def_ 19 (d := d_need_tree) rfl; ⟨fd, F⟩)⟩
  n_part_of := ⟨(He.glo_ok X Gn (c.fact 9 (f := .glo "part_of") rfl)), (let ⟨fd, F⟩ := c.def_ 20 (d := d_part_of) rfl; ⟨fd, F⟩)⟩
  n_kid_of := ⟨(He.glo_ok X Gn (c.fact 10 (f := .glo "kid_of") rfl)), (let ⟨fd, F⟩ := c.def_ 21 (d := d_kid_of) rfl; ⟨fd, F⟩)⟩
  n_written := ⟨(He.glo_ok X Gn (c.fact 11 (f := .glo "written") rfl)), (let ⟨fd, F⟩ := c.def_ 22 (d := d_written) rfl; ⟨fd, F⟩)⟩
  n_text_of := ⟨(He.glo_ok X Gn (c.fact 12 (f := .glo "text_of") rfl)), (let ⟨fd, F⟩ := c.def_ 23 (d := d_text_of) rfl; ⟨fd, F⟩)⟩
  n_number_of := ⟨(He.glo_ok X Gn (c.fact 13 (f := .glo "number_of") rfl)), (let ⟨fd, F⟩ := c.def_ 24 (d := d_number_of) rfl; ⟨fd, F⟩)⟩
  n_as_stub := ⟨(He.glo_ok X Gn (c.fact 14 (f := .glo "as_stub") rfl)), (let ⟨fd, F⟩ := c.def_ 25 (d := d_as_stub) rfl; ⟨fd, F⟩)⟩
  n_need_root := ⟨(He.glo_ok X Gn (c.fact 15 (f := .glo "need_root") rfl)), (let ⟨fd, F⟩ := c.def_ 26 (d := d_need_root) rfl; ⟨fd, F⟩)⟩
  n_need_seen := ⟨(He.glo_ok X Gn (c.fact 16 (f := .glo "need_seen") rfl)), (let ⟨fd, F⟩ := c.def_ 27 (d := d_need_seen) rfl; ⟨fd, F⟩)⟩
  n_with_kid := ⟨(He.glo_ok X Gn (c.fact 17 (f := .glo "with_kid") rfl)), (let ⟨fd, F⟩ := c.def_ 28 (d := d_with_kid) rfl; ⟨fd, F⟩)⟩
  n_joined_up := ⟨(He.glo_ok X Gn (c.fact 18 (f := .glo "joined_up") rfl)), (let ⟨fd, F⟩ := c.def_ 29 (d := d_joined_up) rfl; ⟨fd, F⟩)⟩
  n_got := ⟨(He.glo_ok X Gn (c.fact 19 (f := .glo "got") rfl)), (let ⟨fd, F⟩ := c.def_ 30 (d := d_got) rfl; ⟨fd, F⟩)⟩
  n_put := ⟨(He.glo_ok X Gn (c.fact 20 (f := .glo "put") rfl)), (let ⟨fd, F⟩ := c.def_ 31 (d := d_put) rfl; ⟨fd, F⟩)⟩
  n_put_in := ⟨(He.glo_ok X Gn (c.fact 21 (f := .glo "put_in") rfl)), (let ⟨fd, F⟩ := c.def_ 32 (d := d_put_in) rfl; ⟨fd, F⟩)⟩
  n_parted := ⟨(He.glo_ok X Gn (c.fact 22 (f := .glo "parted") rfl)), (let ⟨fd, F⟩ := c.def_ 33 (d := d_parted) rfl; ⟨fd, F⟩)⟩
  n_drop := ⟨(He.glo_ok X Gn (c.fact 23 (f := .glo "drop") rfl)), (let ⟨fd, F⟩ := c.def_ 34 (d := d_drop) rfl; ⟨fd, F⟩)⟩
  n_drop_in := ⟨(He.glo_ok X Gn (c.fact 24 (f := .glo "drop_in") rfl)), (let ⟨fd, F⟩ := c.def_ 35 (d := d_drop_in) rfl; ⟨fd, F⟩)⟩
  n_tree_of := ⟨(He.glo_ok X Gn (c.fact 25 (f := .glo "tree_of") rfl)), (let ⟨fd, F⟩ := c.def_ 36 (d := d_tree_of) rfl; ⟨fd, F⟩)⟩
  n_tree_under := ⟨(He.glo_ok X Gn (c.fact 26 (f := .glo "tree_under") rfl)), (let ⟨fd, F⟩ := c.def_ 37 (d := d_tree_under) rfl; ⟨fd, F⟩)⟩
  n_is_deed := ⟨(He.glo_ok X Gn (c.fact 27 (f := .glo "is_deed") rfl)), (let ⟨fd, F⟩ := c.def_ 38 (d := d_is_deed) rfl; ⟨fd, F⟩)⟩
  n_need_deeds := ⟨(He.glo_ok X Gn (c.fact 28 (f := .glo "need_deeds") rfl)), (let ⟨fd, F⟩ := c.def_ 39 (d := d_need_deeds) rfl; ⟨fd, F⟩)⟩
  n_done := ⟨(He.glo_ok X Gn (c.fact 29 (f := .glo "done") rfl)), (let ⟨fd, F⟩ := c.def_ 40 (d := d_done) rfl; ⟨fd, F⟩)⟩
  n_shown_at := ⟨(He.glo_ok X Gn (c.fact 30 (f := .glo "shown_at") rfl)), (let ⟨fd, F⟩ := c.def_ 41 (d := d_shown_at) rfl; ⟨fd, F⟩)⟩
  n_needed := ⟨(He.glo_ok X Gn (c.fact 31 (f := .glo "needed") rfl)), (let ⟨fd, F⟩ := c.def_ 42 (d := d_needed) rfl; ⟨fd, F⟩)⟩
  n_root_behind := ⟨(He.glo_ok X Gn (c.fact 32 (f := .glo "root_behind") rfl)), (let ⟨fd, F⟩ := c.def_ 43 (d := d_root_behind) rfl; ⟨fd, F⟩)⟩
  n_L_begun := ⟨(He.glo_ok X Gn (c.fact 33 (f := .glo "_law_begun") rfl)), (let ⟨fd, F⟩ := c.def_ 44 (d := d_L_begun) rfl; ⟨fd, F⟩)⟩
  n_L_draw := ⟨(He.glo_ok X Gn (c.fact 34 (f := .glo "_law_draw") rfl)), (let ⟨fd, F⟩ := c.def_ 45 (d := d_L_draw) rfl; ⟨fd, F⟩)⟩
  n_L_letters := ⟨(He.glo_ok X Gn (c.fact 35 (f := .glo "_law_letters") rfl)), (let ⟨fd, F⟩ := c.def_ 46 (d := d_L_letters) rfl; ⟨fd, F⟩)⟩
  n_L_key := ⟨(He.glo_ok X Gn (c.fact 36 (f := .glo "_law_key") rfl)), (let ⟨fd, F⟩ := c.def_ 47 (d := d_L_key) rfl; ⟨fd, F⟩)⟩
  n_L_value := ⟨(He.glo_ok X Gn (c.fact 37 (f := .glo "_law_value") rfl)), (let ⟨fd, F⟩ := c.def_ 48 (d := d_L_value) rfl; ⟨fd, F⟩)⟩
  n_L_content := ⟨(He.glo_ok X Gn (c.fact 38 (f := .glo "_law_content") rfl)), (let ⟨fd, F⟩ := c.def_ 49 (d := d_L_content) rfl; ⟨fd, F⟩)⟩
  n_L_tree := ⟨(He.glo_ok X Gn (c.fact 39 (f := .glo "_law_tree") rfl)), (let ⟨fd, F⟩ := c.def_ 50 (d := d_L_tree) rfl; ⟨fd, F⟩)⟩
  n_L_told := ⟨(He.glo_ok X Gn (c.fact 40 (f := .glo "_law_told") rfl)), (let ⟨fd, F⟩ := c.def_ 51 (d := d_L_told) rfl; ⟨fd, F⟩)⟩
  n_L_word := ⟨(He.glo_ok X Gn (c.fact 41 (f := .glo "_law_word") rfl)), (let ⟨fd, F⟩ := c.def_ 52 (d := d_L_word) rfl; ⟨fd, F⟩)⟩
  n_L_tried := ⟨(He.glo_ok X Gn (c.fact 42 (f := .glo "_law_tried") rfl)), (let ⟨fd, F⟩ := c.def_ 53 (d := d_L_tried) rfl; ⟨fd, F⟩)⟩
  n_L_good := ⟨(He.glo_ok X Gn (c.fact 43 (f := .glo "_law_good") rfl)), (let ⟨fd, F⟩ := c.def_ 54 (d := d_L_good) rfl; ⟨fd, F⟩)⟩
  n_L_bad := ⟨(He.glo_ok X Gn (c.fact 44 (f := .glo "_law_bad") rfl)), (let ⟨fd, F⟩ := c.def_ 55 (d := d_L_bad) rfl; ⟨fd, F⟩)⟩
  n_L_text := ⟨(He.glo_ok X Gn (c.fact 45 (f := .glo "_law_text") rfl)), (let ⟨fd, F⟩ := c.def_ 56 (d := d_L_text) rfl; ⟨fd, F⟩)⟩
  n_L_number := ⟨(He.glo_ok X Gn (c.fact 46 (f := .glo "_law_number") rfl)), (let ⟨fd, F⟩ := c.def_ 57 (d := d_L_number) rfl; ⟨fd, F⟩)⟩
  n_L_walk := ⟨(He.glo_ok X Gn (c.fact 47 (f := .glo "_law_walk") rfl)), (let ⟨fd, F⟩ := c.def_ 58 (d := d_L_walk) rfl; ⟨fd, F⟩)⟩
  n_L_lone := ⟨(He.glo_ok X Gn (c.fact 48 (f := .glo "_law_lone") rfl)), (let ⟨fd, F⟩ := c.def_ 59 (d := d_L_lone) rfl; ⟨fd, F⟩)⟩
  n_L_ways := ⟨(He.glo_ok X Gn (c.fact 49 (f := .glo "_law_ways") rfl)), (let ⟨fd, F⟩ := c.def_ 60 (d := d_L_ways) rfl; ⟨fd, F⟩)⟩
  n_L_shown := ⟨(He.glo_ok X Gn (c.fact 50 (f := .glo "_law_shown") rfl)), (let ⟨fd, F⟩ := c.def_ 61 (d := d_L_shown) rfl; ⟨fd, F⟩)⟩
  n_L_row := ⟨(He.glo_ok X Gn (c.fact 51 (f := .glo "_law_row") rfl)), (let ⟨fd, F⟩ := c.def_ 62 (d := d_L_row) rfl; ⟨fd, F⟩)⟩
  n_L_behind := ⟨(He.glo_ok X Gn (c.fact 52 (f := .glo "_law_behind") rfl)), (let ⟨fd, F⟩ := c.def_ 63 (d := d_L_behind) rfl; ⟨fd, F⟩)⟩
  n_L_come_to := ⟨(He.glo_ok X Gn (c.fact 53 (f := .glo "_law_come_to") rfl)), (let ⟨fd, F⟩ := c.def_ 64 (d := d_L_come_to) rfl; ⟨fd, F⟩)⟩
  n_L_spared := ⟨(He.glo_ok X Gn (c.fact 54 (f := .glo "_law_spared") rfl)), (let ⟨fd, F⟩ := c.def_ 65 (d := d_L_spared) rfl; ⟨fd, F⟩)⟩
  n_L_shows_no_more := ⟨(He.glo_ok X Gn (c.fact 55 (f := .glo "_law_shows_no_more") rfl)), (let ⟨fd, F⟩ := c.def_ 66 (d := d_L_shows_no_more) rfl; ⟨fd, F⟩)⟩
  n_law := ⟨(He.glo_ok X Gn (c.fact 56 (f := .glo "law") rfl)), (let ⟨fd, F⟩ := c.def_ 67 (d := d_law) rfl; ⟨fd, F⟩)⟩
theorem tx_of (X : K.In h0) (Gn : h0.Ns mainGlobals mg) (c : Sd K) (h : ex K = true) : TX K mg where
  b_len := He.free_ok X Gn (c.fact 77 (f := .free "len") rfl)
  b_isinstance := He.free_ok X Gn (c.fact 78 (f := .free "isinstance") rfl)
  b_all := He.free_ok X Gn (c.fact 79 (f := .free "all") rfl)
  b_min := He.free_ok X Gn (c.fact 80 (f := .free "min") rfl)
  b_max := He.free_ok X Gn (c.fact 81 (f := .free "max") rfl)
  b_str := He.free_ok X Gn (c.fact 82 (f := .free "str") rfl)
  b_int := He.free_ok X Gn (c.fact 83 (f := .free "int") rfl)
  b_bool := He.free_ok X Gn (c.fact 84 (f := .free "bool") rfl)
  b_list := He.free_ok X Gn (c.fact 85 (f := .free "list") rfl)
  b_tuple := He.free_ok X Gn (c.fact 86 (f := .free "tuple") rfl)
  b_dict := He.free_ok X Gn (c.fact 87 (f := .free "dict") rfl)
  b_set := He.free_ok X Gn (c.fact 88 (f := .free "set") rfl)
  b_sorted := He.free_ok X Gn (c.fact 89 (f := .free "sorted") rfl)
  b_range := He.free_ok X Gn (c.fact 90 (f := .free "range") rfl)
  b_enumerate := He.free_ok X Gn (c.fact 91 (f := .free "enumerate") rfl)
  b_abs := He.free_ok X Gn (c.fact 92 (f := .free "abs") rfl)
  b_ord := He.free_ok X Gn (c.fact 93 (f := .free "ord") rfl)
  b_ValueError := He.free_ok X Gn (c.fact 94 (f := .free "ValueError") rfl)
  LETTERS := He.str_ok X Gn (c.fact 98 (f := .str "LETTERS" "abcdefghijklmnopqrstuvwxyz") rfl)
  FIRST := He.str_ok X Gn (c.fact 99 (f := .str "FIRST" "") rfl)
  MOST_LETTERS := He.int_ok X Gn (c.fact 95 (f := .int "MOST_LETTERS" 8) rfl)
  MOST_SIGNS := He.int_ok X Gn (c.fact 96 (f := .int "MOST_SIGNS" 40) rfl)
  MOST_NUMBER := He.int_ok X Gn (c.fact 97 (f := .int "MOST_NUMBER" 1000000000000000000000000000000) rfl)
  c_Node := (He.glo_ok X Gn (c.fact 57 (f := .glo "Node") rfl))
  c_Stub := (He.glo_ok X Gn (c.fact 58 (f := .glo "Stub") rfl))
  c_Part := (He.glo_ok X Gn (c.fact 59 (f := .glo "Part") rfl))
  tN := ⟨He.cls_ok (c.fact 100 (f := .cls "Node") rfl), (ex_dec h 0 rfl), (ex_dec h 8 rfl), (ex_dec h 9 rfl), (ex_dec h 1 rfl)⟩
  mkN := He.mkr_ok (c.fact 112 (f := .mkr "Node") rfl)
  tS := ⟨He.cls_ok (c.fact 101 (f := .cls "Stub") rfl), (ex_dec h 4 rfl), (ex_dec h 8 rfl), (ex_dec h 9 rfl), (ex_dec h 5 rfl)⟩
  mkS := He.mkr_ok (c.fact 113 (f := .mkr "Stub") rfl)
  nS := He.noat_ok (c.fact 102 (f := .noat "Node" "stem") rfl)
  nV := He.noat_ok (c.fact 103 (f := .noat "Node" "value") rfl)
  nK := He.noat_ok (c.fact 104 (f := .noat "Node" "kids") rfl)
  nN := He.noat_ok (c.fact 105 (f := .noat "Stub" "number") rfl)
  kNP := (ex_dec h 11 rfl)
  kSP := (ex_dec h 12 rfl)
  kNS := (ex_dec h 13 rfl)
  kSS := (ex_dec h 14 rfl)
  kOS := (ex_dec h 15 rfl)
  m_Nt := He.meth_ok (c.fact 106 (f := .meth "Node" "told") rfl)
  m_Ns := He.meth_ok (c.fact 107 (f := .meth "Node" "start") rfl)
  m_Nh := He.meth_ok (c.fact 108 (f := .meth "Node" "height") rfl)
  m_Nk := He.meth_ok (c.fact 109 (f := .meth "Node" "kid_at") rfl)
  m_St := He.meth_ok (c.fact 110 (f := .meth "Stub" "told") rfl)
  m_Sh := He.meth_ok (c.fact 111 (f := .meth "Stub" "height") rfl)
theorem te_of (h : ex K = true) : TE' K := ⟨(ex_dec h 2 rfl), (ex_dec h 6 rfl), (ex_dec h 3 rfl), (ex_dec h 7 rfl), (ex_dec h 1 rfl), (ex_dec h 5 rfl), (ex_at h 10 rfl)⟩
theorem xUnseen_of (X : K.In h0) (Gn : h0.Ns mainGlobals mg) (c : Sd K) (h : ex K = true) : EX K mg "Unseen" "way" := ⟨oexB_ok (ex_at h 16 rfl), (ex_dec h 17 rfl), (ex_dec h 18 rfl), (He.glo_ok X Gn (c.fact 74 (f := .glo "Unseen") rfl)), (ex_dec h 19 rfl)⟩
theorem xNoKey_of (X : K.In h0) (Gn : h0.Ns mainGlobals mg) (c : Sd K) (h : ex K = true) : EX K mg "NoKey" "key" := ⟨oexB_ok (ex_at h 25 rfl), (ex_dec h 26 rfl), (ex_dec h 27 rfl), (He.glo_ok X Gn (c.fact 73 (f := .glo "NoKey") rfl)), (ex_dec h 28 rfl)⟩
theorem eu_of (h : ex K = true) : EU K := ⟨xfB_ok (ex_at h 20 rfl), (ex_dec h 34 rfl), (ex_dec h 35 rfl)⟩
theorem two {p : Str → Prop} (h1 : p "Unseen") (h2 : p "NoKey") : ∀ C ∈ [("Unseen" : Str), "NoKey"], p C := fun C hC => by
  rcases List.mem_cons.mp hC with rfl | hC
  · exact h1
  · rw [List.mem_singleton.mp hC]
    exact h2
theorem all_ex {p : Str → Prop} (a0 : p "BadKey") (a1 : p "BadValue") (a2 : p "BadNode") (a3 : p "BadPatch") (a4 : p "NoText") (a5 : p "Clash") (a6 : p "NoPaper") (a7 : p "Mismatch") (a8 : p "Conflict") (a9 : p "NoVersion") (a10 : p "Latest") (a11 : p "NoGrowth") (a12 : p "NoKey") (a13 : p "Unseen") (a14 : p "NoRoot") (a15 : p "BadDeed") : ∀ x ∈ exNames, p x := fun x hx => by
  simp only [exNames, List.mem_cons, List.not_mem_nil, or_false] at hx
  rcases hx with rfl | rfl | rfl | rfl | rfl | rfl | rfl | rfl | rfl | rfl | rfl | rfl | rfl | rfl | rfl | rfl
  · exact a0
  · exact a1
  · exact a2
  · exact a3
  · exact a4
  · exact a5
  · exact a6
  · exact a7
  · exact a8
  · exact a9
  · exact a10
  · exact a11
  · exact a12
  · exact a13
  · exact a14
  · exact a15
theorem word_of (X : K.In h0) (Gn : h0.Ns mainGlobals mg) (c : Sd K) (h : ex K = true) : WordX K mg where
  c := all_ex (p := fun x => mg x = some (.ref (He.ga K x))) (He.glo_ok X Gn (c.fact 61 (f := .glo "BadKey") rfl)) (He.glo_ok X Gn (c.fact 62 (f := .glo "BadValue") rfl)) (He.glo_ok X Gn (c.fact 63 (f := .glo "BadNode") rfl)) (He.glo_ok X Gn (c.fact 64 (f := .glo "BadPatch") rfl)) (He.glo_ok X Gn (c.fact 65 (f := .glo "NoText") rfl)) (He.glo_ok X Gn (c.fact 66 (f := .glo "Clash") rfl)) (He.glo_ok X Gn (c.fact 67 (f := .glo "NoPaper") rfl)) (He.glo_ok X Gn (c.fact 68 (f := .glo "Mismatch") rfl)) (He.glo_ok X Gn (c.fact 69 (f := .glo "Conflict") rfl)) (He.glo_ok X Gn (c.fact 70 (f := .glo "NoVersion") rfl)) (He.glo_ok X Gn (c.fact 71 (f := .glo "Latest") rfl)) (He.glo_ok X Gn (c.fact 72 (f := .glo "NoGrowth") rfl)) (He.glo_ok X Gn (c.fact 73 (f := .glo "NoKey") rfl)) (He.glo_ok X Gn (c.fact 74 (f := .glo "Unseen") rfl)) (He.glo_ok X Gn (c.fact 75 (f := .glo "NoRoot") rfl)) (He.glo_ok X Gn (c.fact 76 (f := .glo "BadDeed") rfl))
  kit := two (p := fun C => ∀ x ∈ exNames, PySem.W.kitOne K (.ref (He.ga K C)) (.ref (He.ga K x)) = some (decide (x = C))) (fun x hx => of_decide_eq_true (List.all_eq_true.mp (ex_at h 24 rfl) x hx)) (fun x hx => of_decide_eq_true (List.all_eq_true.mp (ex_at h 33 rfl) x hx))
  ve := two (p := fun C => PySem.W.kitOne K (.ref (He.ga K C)) (.type "ValueError") = some true) (ex_dec h 22 rfl) (ex_dec h 31 rfl)
  ex := two (p := fun C => ExcC K (He.ga K C)) (excB_ok (ex_at h 21 rfl) (ex_dec h 8 rfl) (ex_dec h 9 rfl)) (excB_ok (ex_at h 30 rfl) (ex_dec h 8 rfl) (ex_dec h 9 rfl))
  xU := xfB_ok (ex_at h 20 rfl)
  nU := (ex_dec h 19 rfl)
  xN := xfB_ok (ex_at h 29 rfl)
  nN := (ex_dec h 28 rfl)
  se := (He.glo_ok X Gn (c.fact 60 (f := .glo "SealError") rfl))
  sm := two (p := fun C => PySem.W.exmOne K (.ref (He.ga K C)) (.ref (He.ga K "SealError")) = some true) (ex_dec h 23 rfl) (ex_dec h 32 rfl)
theorem tbs_nd (h : ex K = true) : ((tbs K).map (·.1)).Nodup := (ex_dec h 36 rfl)
end
end Seal
namespace Seal
open PySem PySem.Spec PyProof.Rows L2 LamX
theorem sqL_go {K : PySem.W.Frag} {H H' : Hp} {a : Addr} {xs : List V} (h : SqL K H a xs) (g : Gz K H H') : SqL K H' a xs := by
  rcases h with (h | ⟨o, h⟩) | h
  · exact .inl (.inl (g.lst h id))
  · exact .inl (.inr ⟨o, g.fix h rfl⟩)
  · exact .inr h
theorem law_at {w : World} {K : PySem.W.Frag} {mg : Str → Option Value} {f : Addr} {h : Heap} (X : K.In h) (Gn : h.Ns mainGlobals mg) (hfa : mg ("law" : Str) = some (.ref f)) (c : He.SaysX fa fn [] tf ex w h K) :
    LawAtS PySem.Challenge.rw_sealroot_k37_whole_fewest_needed w K CX0 42 63 "_law_script" mg f h := by
  have cd := c.t.d
  have N := ns_of X Gn cd
  have e := hfa.symm.trans N.n_law.g
  cases e
  obtain ⟨fd, F⟩ := N.n_law.fn
  refine ⟨fd, tf.map (He.cT K), spLaw K, ?_, ?_, ?_, ?_, ?_, ?_⟩
  · intro p hp
    obtain ⟨q, hq, rfl⟩ := List.mem_map.mp hp
    exact c.empty q hq
  · intro p hp
    obtain ⟨q, hq, rfl⟩ := List.mem_map.mp hp
    exact c.out q hq
  · intro p hp
    obtain ⟨q, hq, rfl⟩ := List.mem_map.mp hp
    exact PySem.W.codeHd_of_K X (c.hd q hq)
  · exact fun s u => FunD.bindsA (ps := ["_law_script"]) F bind_law s [u] rfl
  · intro H a ns hl hb hT hS
    refine ⟨a, ns, rfl, hS, fun H' g => sqL_go hS g, by omega, fun p hp => ?_, fun _ => rfl⟩
    have hm : ∀ x ∈ tf, H (He.cT K x).2 = some (.tbl #[]) := fun x hx => hT _ (List.mem_map.mpr ⟨x, hx, rfl⟩)
    refine TabS.nil ?_
    simp only [tbs, List.mem_cons, List.not_mem_nil, or_false] at hp
    rcases hp with rfl | rfl | rfl | rfl | rfl | rfl
    · exact hm ("with_kid", none) (by simp [tf])
    · exact hm ("_law_good", none) (by simp [tf])
    · exact hm ("_law_bad", none) (by simp [tf])
    · exact hm ("law", none) (by simp [tf])
    · exact hm ("_law_spared", none) (by simp [tf])
    · exact hm ("_law_shows_no_more", none) (by simp [tf])
  · intro base Xb Gb hTB
    have hex := c.more
    have TA : TT K mg base := ⟨fun x hx => hTB _ (List.mem_map.mpr ⟨(x, none), by
      simp only [List.mem_cons, List.not_mem_nil, or_false] at hx
      rcases hx with rfl | rfl | rfl | rfl | rfl | rfl <;> simp [tf], rfl⟩), tbs_nd hex⟩
    have D := law_all (P := (PySem.Challenge.rw_sealroot_k37_whole_fewest_needed).prog) (w := w) (base := base) N (tx_of X Gn cd hex) (te_of hex) TA (word_of X Gn cd hex) (xUnseen_of X Gn cd hex) (xNoKey_of X Gn cd hex) (eu_of hex)
    obtain ⟨fd', F', _, FO⟩ := D.fn
    have := FnP.one F F'
    rw [this]
    exact FO
end Seal
open PySem PySem.W PySem.Calls PyProof.Rows
theorem PySem.Challenge.cw_sealroot_k37_whole_fewest_needed_holds : PySem.Challenge.rw_sealroot_k37_whole_fewest_needed.Holds := by
  w_on; o_law
  refine HandSHeadRun.head_any (r := OpenLaw.row PySem.Challenge.rw_sealroot_k37_whole_fewest_needed) (q := view (OpenLaw.row PySem.Challenge.rw_sealroot_k37_whole_fewest_needed).prog [88]) (H := Seal.hk) (ob := Seal.ob) (M := 7000) (loose := Seal.loose) (d := HandSHeadRun.topDef (OpenLaw.row PySem.Challenge.rw_sealroot_k37_whole_fewest_needed).prog 88) (kwd := []) Seal.ob_eq
    (by kernel_rfl) (fun s => by kernel_rfl) Seal.run (by kernel_rfl) (by kernel_rfl) (by kernel_rfl) (by rfl) (by first | assumption | decide +kernel) (by decide +kernel) ⟨rfl, rfl, rfl, rfl, rfl, by decide +kernel⟩ ?hw ?hc
  case hw => w_witness2
  case hc =>
    refine LamX.walk_ofTsE (l := PySem.Challenge.rw_sealroot_k37_whole_fewest_needed) (n := 63) (k := 42) (x := "_law_script") (CX := fun _ => L2.CX0) rfl (by decide) (by kernel_rfl) ⟨rfl, by decide, by decide⟩ ?F (fun _ _ _ _ _ z => z)
    intro w mg fa h Y G hmg0
    obtain ⟨K, KX, c⟩ := Y
    have hmg : mg ("law" : PySem.Str) = some (.ref fa) := by
      have e : (HandSHeadRun.topDef (OpenLaw.row PySem.Challenge.rw_sealroot_k37_whole_fewest_needed).prog 88).name = ("law" : PySem.Str) := by kernel_rfl
      rw [← e]
      exact hmg0
    exact ⟨K, KX, Seal.law_at KX G hmg c⟩
