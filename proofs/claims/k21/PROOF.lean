import PyProof.Rows.All
import Wide.All
import OpenK.AllK
import Wide.FinOn
import HandS.ForMost
import HandS.Zip
import HandS.Property
import HandS.Style
import HandS.TupAny
import HandS.IsInst
import HandS.DictTup
import HandS.DictComp
import HandS.Conv
import HandS.StrMore
import HandS.SetTxt0
import HandS.Wide
import HandS.Codes
import HandS.TupSets
import HandS.Defaults
import PySem.Challenge.RW_wordskips_k21_whole_searches_by_turns
import KE.KStateDown
import HandS.Head0
import HandS.Head1
import HandS.Head2
import HandS.HeadEnd
import HandS.HeadHook1
import HandS.HeadHook2
import HandS.Walk
import KE.GoesNew
import KE.GoesMore
import HandS.Strs
import HandS.Text
set_option linter.all false
/-! trees, searches, turns: plain Lean -/
namespace K21
inductive Tree where
  | go (s q : Int)
  | tell (n : Int) (t : Tree)
  | read (p : Int) (ts : List Tree)

mutual
def Tree.depth : Tree → Nat
  | .go _ _ => 1
  | .tell _ t => t.depth + 1
  | .read _ ts => depths ts + 1
def depths : List Tree → Nat
  | [] => 0
  | t :: ts => max t.depth (depths ts)
end
mutual
def Tree.size : Tree → Nat
  | .go _ _ => 1
  | .tell _ t => t.size + 1
  | .read _ ts => sizes ts + 1
def sizes : List Tree → Nat
  | [] => 0
  | t :: ts => t.size + sizes ts
end
mutual
def Tree.ok (nl w n : Nat) : Tree → Prop
  | .go s q => 1 ≤ s ∧ s ≤ w + 1 ∧ 0 ≤ q ∧ q < n
  | .tell k t => 0 ≤ k ∧ k ≤ 2 ∧ t.ok nl w n
  | .read p ts => 0 ≤ p ∧ p ≤ w ∧ ts.length = nl ∧ oks nl w n ts
def oks (nl w n : Nat) : List Tree → Prop
  | [] => True
  | t :: ts => t.ok nl w n ∧ oks nl w n ts
end
theorem depths_mem : ∀ {ts : List Tree} {t : Tree}, t ∈ ts → t.depth ≤ depths ts
  | a :: r, t, h => by
    show t.depth ≤ max a.depth (depths r)
    rcases List.mem_cons.mp h with e | h
    · subst e; exact Nat.le_max_left _ _
    · exact Nat.le_trans (depths_mem h) (Nat.le_max_right _ _)
theorem depths_le : ∀ {ts : List Tree} {d : Nat}, (∀ t ∈ ts, t.depth ≤ d) → depths ts ≤ d
  | [], _, _ => Nat.zero_le _
  | a :: r, d, h => Nat.max_le.mpr ⟨h a List.mem_cons_self, depths_le fun t ht => h t (List.mem_cons_of_mem _ ht)⟩
theorem oks_iff {nl w n : Nat} : ∀ {ts : List Tree}, oks nl w n ts ↔ ∀ t ∈ ts, t.ok nl w n
  | [] => ⟨fun _ _ h => (List.not_mem_nil h).elim, fun _ => trivial⟩
  | a :: r => by
    show (a.ok nl w n ∧ oks nl w n r) ↔ _
    rw [oks_iff (ts := r)]
    constructor
    · rintro ⟨h1, h2⟩ t ht
      rcases List.mem_cons.mp ht with e | ht
      · subst e; exact h1
      · exact h2 t ht
    · intro h
      exact ⟨h a List.mem_cons_self, fun t ht => h t (List.mem_cons_of_mem _ ht)⟩
theorem sizes_le {m : Nat} : ∀ {ts : List Tree}, (∀ t ∈ ts, t.size ≤ m) → sizes ts ≤ ts.length * m
  | [], _ => Nat.zero_le _
  | a :: r, h => by
    have h1 := h a List.mem_cons_self
    have h2 := sizes_le (ts := r) fun t ht => h t (List.mem_cons_of_mem _ ht)
    show a.size + sizes r ≤ (r.length + 1) * m
    rw [Nat.add_mul]
    omega
theorem size_pos (t : Tree) : 1 ≤ t.size := by
  cases t <;> simp only [Tree.size] <;> omega
theorem sizes_append : ∀ (a b : List Tree), sizes (a ++ b) = sizes a + sizes b
  | [], b => (Nat.zero_add _).symm
  | x :: a, b => by
    show x.size + sizes (a ++ b) = x.size + sizes a + sizes b
    rw [sizes_append a b]; omega
theorem depths_append : ∀ (a b : List Tree), depths (a ++ b) = max (depths a) (depths b)
  | [], b => (Nat.zero_max _).symm
  | x :: a, b => by
    show max x.depth (depths (a ++ b)) = max (max x.depth (depths a)) (depths b)
    rw [depths_append a b, Nat.max_assoc]

theorem getD_of {α : Type} {l : List α} {k : Nat} {a d : α} (h : l[k]? = some a) : l.getD k d = a := by
  rw [List.getD_eq_getElem?_getD, h]; rfl
/-! ### the search -/
abbrev Rd1 := Int × Nat
abbrev Way := List Rd1 × List Int × Option (Int × Int)
mutual
def walk (L tx : List Nat) (i : Nat) : Tree → Way
  | .go s q => ([], [], some (s, q))
  | .tell n t => ((walk L tx i t).1, n :: (walk L tx i t).2.1, (walk L tx i t).2.2)
  | .read p ts => if i + p.toNat = tx.length then ([], [], none) else
      ((p, tx.getD (i + p.toNat) 0) :: (walkNth L tx i ts (L.idxOf (tx.getD (i + p.toNat) 0))).1, (walkNth L tx i ts (L.idxOf (tx.getD (i + p.toNat) 0))).2)
def walkNth (L tx : List Nat) (i : Nat) : List Tree → Nat → Way
  | [], _ => ([], [], none)
  | t :: _, 0 => walk L tx i t
  | _ :: ts, k + 1 => walkNth L tx i ts k
end
theorem walk_read {L tx : List Nat} {i : Nat} {p : Int} {ts : List Tree} : walk L tx i (.read p ts) = if i + p.toNat = tx.length then ([], [], none) else
      ((p, tx.getD (i + p.toNat) 0) :: (walkNth L tx i ts (L.idxOf (tx.getD (i + p.toNat) 0))).1, (walkNth L tx i ts (L.idxOf (tx.getD (i + p.toNat) 0))).2) := rfl
theorem walkNth_get {L tx : List Nat} {i : Nat} : ∀ {ts : List Tree} {k : Nat} {t : Tree}, ts[k]? = some t → walkNth L tx i ts k = walk L tx i t
  | [], _, _, h => by simp at h
  | a :: r, 0, t, h => by
    have e : a = t := by simpa using h
    subst e; rfl
  | a :: r, k + 1, t, h => walkNth_get (ts := r) (k := k) (by simpa using h)

structure Entry where
  spot : Nat
  state : Nat
  way : Way
def search (L : List Nat) (w : Nat) (trees : List Tree) (tx : List Nat) : Nat → Nat → Nat → List Entry
  | 0, _, _ => []
  | f + 1, i, q => if i + w > tx.length then [] else
      ⟨i, q, walk L tx i (trees.getD q (.go 1 0))⟩ :: (match (walk L tx i (trees.getD q (.go 1 0))).2.2 with
        | none => []
        | some (s, q') => search L w trees tx f (i + s.toNat) q'.toNat)

/-- what a go found is ok -/
theorem walk_ok {L tx : List Nat} {nl w n i : Nat} (hL : L.length = nl) (hw : i + w ≤ tx.length) (hx : ∀ c ∈ tx, c ∈ L) : ∀ (d : Nat) (t : Tree), t.depth ≤ d → t.ok nl w n → ∀ s q, (walk L tx i t).2.2 = some (s, q) → 1 ≤ s ∧ s ≤ w + 1 ∧ 0 ≤ q ∧ q < n
  | 0, t, hd, _ => by cases t <;> simp only [Tree.depth] at hd <;> omega
  | d + 1, .go s q, _, h => by
    intro s' q' e
    have e' : (some (s, q) : Option (Int × Int)) = some (s', q') := e
    cases e'
    exact h
  | d + 1, .tell k t, hd, h => walk_ok hL hw hx d t (by simp only [Tree.depth] at hd; omega) h.2.2
  | d + 1, .read p ts, hd, h => by
    intro s' q' e
    obtain ⟨h1, h2, h3, h4⟩ := h
    unfold walk at e
    split at e
    · cases e
    · rename_i hne
      have hlt : i + p.toNat < tx.length := by omega
      have hc : tx.getD (i + p.toNat) 0 ∈ L := by
        rw [getD_of (List.getElem?_eq_getElem hlt)]
        exact hx _ (List.getElem_mem hlt)
      have hi : L.idxOf (tx.getD (i + p.toNat) 0) < ts.length := by rw [h3, ← hL]; exact List.idxOf_lt_length_of_mem hc
      have g : ts[L.idxOf (tx.getD (i + p.toNat) 0)]? = some ts[L.idxOf (tx.getD (i + p.toNat) 0)] := List.getElem?_eq_getElem hi
      rw [walkNth_get g] at e
      have hm := List.getElem_mem hi
      exact walk_ok hL hw hx d _ (by have := depths_mem hm; simp only [Tree.depth] at hd; omega) (oks_iff.mp h4 _ hm) s' q' e

/-! ### turns -/
structure TurnR where
  reads : List Rd1
  tells : List Int
  known : List Nat
  out : Option (Int × Int)
def slidN (k : List Nat) (s : Nat) : List Nat := k.drop s ++ List.replicate (min s k.length) 46
mutual
def gt (L : List Nat) (w : Nat) : Tree → List Rd1 → List Int → List Nat → List TurnR
  | .go s q, r, n, k => [⟨r, n, k, some (s, q)⟩]
  | .tell m t, r, n, k => gt L w t r (n ++ [m]) k
  | .read p ts, r, n, k => (if p = (w : Int) ∧ k.getD p.toNat 0 = 46 then [⟨r, n, k, none⟩] else []) ++ gts L w L ts p r n k
def gts (L : List Nat) (w : Nat) : List Nat → List Tree → Int → List Rd1 → List Int → List Nat → List TurnR
  | c :: cs, t :: ts, p, r, n, k => (if k.getD p.toNat 0 = 46 ∨ k.getD p.toNat 0 = c then gt L w t (r ++ [(p, c)]) n (k.set p.toNat c) else []) ++ gts L w cs ts p r n k
  | [], _, _, _, _, _ => []
  | _ :: _, [], _, _, _, _ => []
end
mutual
theorem gt_pre {L : List Nat} {w : Nat} : ∀ (t : Tree) (r : List Rd1) (n : List Int) (k : List Nat) (T : TurnR), T ∈ gt L w t r n k → ∃ y, T.reads = r ++ y
  | .go s q, r, n, k, T, h => by
    have e : T = ⟨r, n, k, some (s, q)⟩ := List.mem_singleton.mp h
    subst e
    exact ⟨[], (List.append_nil _).symm⟩
  | .tell m t, r, n, k, T, h => gt_pre t r (n ++ [m]) k T h
  | .read p ts, r, n, k, T, h => by
    rcases List.mem_append.mp (show T ∈ (if p = (w : Int) ∧ k.getD p.toNat 0 = 46 then [⟨r, n, k, none⟩] else []) ++ gts L w L ts p r n k from h) with h | h
    · split at h
      · have e := List.mem_singleton.mp h
        subst e
        exact ⟨[], (List.append_nil _).symm⟩
      · exact (List.not_mem_nil h).elim
    · obtain ⟨c, y, _, e⟩ := gts_pre L ts p r n k T h
      exact ⟨_, e⟩
theorem gts_pre {L : List Nat} {w : Nat} : ∀ (cs : List Nat) (ts : List Tree) (p : Int) (r : List Rd1) (n : List Int) (k : List Nat) (T : TurnR), T ∈ gts L w cs ts p r n k → ∃ c y, c ∈ cs ∧ T.reads = r ++ (p, c) :: y
  | c :: cs, t :: ts, p, r, n, k, T, h => by
    rcases List.mem_append.mp (show T ∈ (if k.getD p.toNat 0 = 46 ∨ k.getD p.toNat 0 = c then gt L w t (r ++ [(p, c)]) n (k.set p.toNat c) else []) ++ gts L w cs ts p r n k from h) with h | h
    · split at h
      · obtain ⟨y, e⟩ := gt_pre t _ _ _ T h
        exact ⟨c, y, List.mem_cons_self, by rw [e, List.append_assoc]; rfl⟩
      · exact (List.not_mem_nil h).elim
    · obtain ⟨c', y, hm, e⟩ := gts_pre cs ts p r n k T h
      exact ⟨c', y, List.mem_cons_of_mem _ hm, e⟩
  | [], _, _, _, _, _, _, h => by unfold gts at h; exact (List.not_mem_nil h).elim
  | _ :: _, [], _, _, _, _, _, h => by unfold gts at h; exact (List.not_mem_nil h).elim
end
abbrev sel (x : List Rd1) (l : List TurnR) : List TurnR := l.filter fun T => decide (T.reads = x)
theorem sel_append (x : List Rd1) (a b : List TurnR) : sel x (a ++ b) = sel x a ++ sel x b := List.filter_append ..
theorem sel_nil {x : List Rd1} {l : List TurnR} (h : ∀ T ∈ l, T.reads ≠ x) : sel x l = [] := by
  refine List.filter_eq_nil_iff.mpr fun T hT => ?_
  simpa using h T hT
theorem sel_gts_none {L : List Nat} {w : Nat} {cs : List Nat} {ts : List Tree} {p : Int} {r : List Rd1} {n : List Int} {k : List Nat} {c0 : Nat} {x : List Rd1} (h : c0 ∉ cs) : sel (r ++ (p, c0) :: x) (gts L w cs ts p r n k) = [] := by
  refine sel_nil fun T hT e => ?_
  obtain ⟨c, y, hm, e'⟩ := gts_pre cs ts p r n k T hT
  rw [e] at e'
  have e2 := List.append_cancel_left e'
  have e3 : (p, c0) = (p, c) := (List.cons.inj e2).1
  have e4 : c0 = c := congrArg Prod.snd e3
  exact h (e4 ▸ hm)
theorem sel_gts {L : List Nat} {w : Nat} {p : Int} {r : List Rd1} {n : List Int} {k : List Nat} {c0 : Nat} {x : List Rd1} {t0 : Tree} : ∀ {cs : List Nat} {ts : List Tree}, cs.Nodup → c0 ∈ cs → ts[cs.idxOf c0]? = some t0 → (k.getD p.toNat 0 = 46 ∨ k.getD p.toNat 0 = c0) →
    sel (r ++ (p, c0) :: x) (gts L w cs ts p r n k) = sel (r ++ (p, c0) :: x) (gt L w t0 (r ++ [(p, c0)]) n (k.set p.toNat c0))
  | [], _, _, h, _, _ => (List.not_mem_nil h).elim
  | c :: cs, [], _, _, h, _ => by simp at h
  | c :: cs, t :: ts, nd, h, g, hk => by
    show sel _ ((if k.getD p.toNat 0 = 46 ∨ k.getD p.toNat 0 = c then gt L w t (r ++ [(p, c)]) n (k.set p.toNat c) else []) ++ gts L w cs ts p r n k) = _
    rw [sel_append]
    obtain ⟨nd1, nd2⟩ := List.nodup_cons.mp nd
    by_cases e : c = c0
    · subst e
      rw [sel_gts_none nd1, List.append_nil, if_pos hk]
      rw [List.idxOf_cons_self] at g
      have e : t = t0 := by simpa using g
      rw [e]
    · have hm : c0 ∈ cs := by
        rcases List.mem_cons.mp h with q | q
        · exact absurd q.symm e
        · exact q
      rw [List.idxOf_cons, show (c == c0) = false by simpa using e, cond_false] at g
      have g' : ts[cs.idxOf c0]? = some t0 := by simpa using g
      rw [sel_gts nd2 hm g' hk]
      have z : sel (r ++ (p, c0) :: x) (if k.getD p.toNat 0 = 46 ∨ k.getD p.toNat 0 = c then gt L w t (r ++ [(p, c)]) n (k.set p.toNat c) else []) = [] := by
        refine sel_nil fun T hT e' => ?_
        split at hT
        · obtain ⟨y, e2⟩ := gt_pre t _ _ _ T hT
          rw [e', List.append_assoc] at e2
          have e3 := List.append_cancel_left e2
          have e4 : (p, c0) = (p, c) := (List.cons.inj e3).1
          exact e (congrArg Prod.snd e4).symm
        · exact (List.not_mem_nil hT).elim
      rw [z]; rfl

/-- what is known is true of the text -/
structure Tru (tx : List Nat) (w i : Nat) (k : List Nat) : Prop where
  len : k.length = w + 1
  tru : ∀ j c, k[j]? = some c → c = 46 ∨ tx[i + j]? = some c
theorem Tru.set {tx : List Nat} {w i : Nat} {k : List Nat} (h : Tru tx w i k) {p c : Nat} (hc : tx[i + p]? = some c) : Tru tx w i (k.set p c) := by
  refine ⟨by rw [List.length_set]; exact h.len, fun j d e => ?_⟩
  by_cases q : p = j
  · subst q
    by_cases hl : p < k.length
    · rw [List.getElem?_set_self hl] at e
      cases e
      exact .inr hc
    · rw [List.getElem?_eq_none (by rw [List.length_set]; omega)] at e
      cases e
  · rw [List.getElem?_set_ne q] at e
    exact h.tru j d e
theorem slidN_length (k : List Nat) (s : Nat) : (slidN k s).length = k.length := by
  unfold slidN
  rw [List.length_append, List.length_drop, List.length_replicate]
  omega
theorem Tru.slid {tx : List Nat} {w i : Nat} {k : List Nat} (h : Tru tx w i k) (s : Nat) : Tru tx w (i + s) (slidN k s) := by
  refine ⟨by rw [slidN_length]; exact h.len, fun j d e => ?_⟩
  unfold slidN at e
  by_cases q : j < (k.drop s).length
  · rw [List.getElem?_append_left q, List.getElem?_drop] at e
    have := h.tru (s + j) d e
    rw [Nat.add_assoc]
    exact this
  · rw [List.getElem?_append_right (by omega)] at e
    have := List.mem_of_getElem? e
    exact .inl (List.eq_of_mem_replicate this)
theorem Tru.first (tx : List Nat) (w i : Nat) : Tru tx w i (List.replicate (w + 1) 46) :=
  ⟨List.length_replicate, fun j c e => .inl (List.eq_of_mem_replicate (List.mem_of_getElem? e))⟩

theorem gt_walk {L tx : List Nat} {w n i : Nat} (nd : L.Nodup) (h46 : 46 ∉ L) (hw : i + w ≤ tx.length) (hx : ∀ c ∈ tx, c ∈ L) : ∀ (d : Nat) (t : Tree) (r : List Rd1) (ns : List Int) (k : List Nat), t.depth ≤ d → t.ok L.length w n → Tru tx w i k →
    ∃ T : TurnR, sel (r ++ (walk L tx i t).1) (gt L w t r ns k) = [T] ∧ T.reads = r ++ (walk L tx i t).1 ∧ T.tells = ns ++ (walk L tx i t).2.1 ∧ Tru tx w i T.known ∧ T.out = (walk L tx i t).2.2 ∧ (T.out = none → i + w = tx.length)
  | 0, t, _, _, _, hd, _, _ => by cases t <;> simp only [Tree.depth] at hd <;> omega
  | d + 1, .go s q, r, ns, k, _, _, hk => by
    refine ⟨⟨r, ns, k, some (s, q)⟩, ?_, (List.append_nil _).symm, (List.append_nil _).symm, hk, rfl, fun e => nomatch e⟩
    show List.filter _ [(⟨r, ns, k, some (s, q)⟩ : TurnR)] = _
    rw [List.filter_cons_of_pos (by simp [walk])]
    rfl
  | d + 1, .tell m t, r, ns, k, hd, h, hk => by
    obtain ⟨T, h1, h2, h3, h4, h5, h6⟩ := gt_walk nd h46 hw hx d t r (ns ++ [m]) k (by simp only [Tree.depth] at hd; omega) h.2.2 hk
    refine ⟨T, h1, h2, ?_, h4, h5, h6⟩
    rw [h3, List.append_assoc]
    rfl
  | d + 1, .read p ts, r, ns, k, hd, h, hk => by
    obtain ⟨p0, p1, hl, hoks⟩ := h
    show ∃ T : TurnR, sel (r ++ (walk L tx i (.read p ts)).1) ((if p = (w : Int) ∧ k.getD p.toNat 0 = 46 then [⟨r, ns, k, none⟩] else []) ++ gts L w L ts p r ns k) = [T] ∧ _
    by_cases hcut : i + p.toNat = tx.length
    · have hp : p = (w : Int) := by omega
      have hiw : i + w = tx.length := by omega
      have ew : walk L tx i (.read p ts) = ([], [], none) := by unfold walk; rw [if_pos hcut]
      rw [ew]
      have hlt : p.toNat < k.length := by rw [hk.len]; omega
      have hdot : k.getD p.toNat 0 = 46 := by
        have g := List.getElem?_eq_getElem hlt
        rw [getD_of g]
        rcases hk.tru _ _ g with q | q
        · exact q
        · rw [hcut, List.getElem?_eq_none (Nat.le_refl _)] at q
          cases q
      refine ⟨⟨r, ns, k, none⟩, ?_, (List.append_nil _).symm, (List.append_nil _).symm, hk, rfl, fun _ => hiw⟩
      rw [if_pos ⟨hp, hdot⟩, sel_append]
      have z : sel (r ++ []) (gts L w L ts p r ns k) = [] := by
        refine sel_nil fun T hT e => ?_
        obtain ⟨c, y, _, e'⟩ := gts_pre L ts p r ns k T hT
        rw [e] at e'
        exact nomatch List.append_cancel_left e'
      rw [z, List.append_nil]
      show List.filter _ [(⟨r, ns, k, none⟩ : TurnR)] = _
      rw [List.filter_cons_of_pos (by simp)]
      rfl
    · have hlt : i + p.toNat < tx.length := by omega
      have g : tx[i + p.toNat]? = some tx[i + p.toNat] := List.getElem?_eq_getElem hlt
      have hD : tx.getD (i + p.toNat) 0 = tx[i + p.toNat] := getD_of g
      generalize hc : tx[i + p.toNat] = c at g hD
      have hcL : c ∈ L := by rw [← hc]; exact hx _ (List.getElem_mem hlt)
      have hi : L.idxOf c < ts.length := by rw [hl]; exact List.idxOf_lt_length_of_mem hcL
      have gt0 : ts[L.idxOf c]? = some ts[L.idxOf c] := List.getElem?_eq_getElem hi
      have hm := List.getElem_mem hi
      generalize ts[L.idxOf c] = t0 at gt0 hm
      have ew : walk L tx i (.read p ts) = ((p, c) :: (walk L tx i t0).1, (walk L tx i t0).2) := by
        rw [walk_read, if_neg hcut, hD, walkNth_get gt0]
      rw [ew]
      have hpl : p.toNat < k.length := by rw [hk.len]; omega
      have hkn : k.getD p.toNat 0 = 46 ∨ k.getD p.toNat 0 = c := by
        have gk := List.getElem?_eq_getElem hpl
        rw [getD_of gk]
        rcases hk.tru _ _ gk with q | q
        · exact .inl q
        · rw [g] at q
          exact .inr (Option.some.inj q).symm
      obtain ⟨T, h1, h2, h3, h4, h5, h6⟩ := gt_walk nd h46 hw hx d t0 (r ++ [(p, c)]) ns (k.set p.toNat c) (by have := depths_mem hm; simp only [Tree.depth] at hd; omega) (oks_iff.mp hoks _ hm) (hk.set g)
      have ea : r ++ [(p, c)] ++ (walk L tx i t0).1 = r ++ (p, c) :: (walk L tx i t0).1 := by rw [List.append_assoc]; rfl
      rw [ea] at h1 h2
      refine ⟨T, ?_, h2, h3, h4, h5, h6⟩
      rw [sel_append, sel_gts nd hcL gt0 hkn, h1]
      have z : sel (r ++ (p, c) :: (walk L tx i t0).1) (if p = (w : Int) ∧ k.getD p.toNat 0 = 46 then [⟨r, ns, k, none⟩] else []) = [] := by
        refine sel_nil fun T hT e => ?_
        split at hT
        · have q := List.mem_singleton.mp hT
          subst q
          have e' : r ++ [] = r ++ (p, c) :: (walk L tx i t0).1 := by rw [List.append_nil]; exact e
          exact nomatch List.append_cancel_left e'
        · exact (List.not_mem_nil hT).elim
      rw [z]; rfl
end K21

set_option Elab.async false
set_option linter.all false
set_option maxRecDepth 100000
set_option maxHeartbeats 4000000
/-! heaps, data, defs as the callers see them -/
namespace K21
open PySem PySem.Spec PyProof.Rows L2

/-! ### what a def leaves as it was -/
/-- all but what stands at m is as it was; tuples are as they were -/
structure Ext (m : List Addr) (H H' : Hp) : Prop where
  keep : ∀ b o, H b = some o → b ∉ m → H' b = some o
  tups : ∀ b xs, H b = some (.tup xs) → H' b = some (.tup xs)
theorem Ext.refl {m : List Addr} {H : Hp} : Ext m H H := ⟨fun _ _ h _ => h, fun _ _ h => h⟩
theorem Ext.trans {m : List Addr} {H H1 H2 : Hp} (a : Ext m H H1) (b : Ext m H1 H2) : Ext m H H2 :=
  ⟨fun c o h n => b.keep c o (a.keep c o h n) n, fun c xs h => b.tups c xs (a.tups c xs h)⟩
theorem Ext.mono {m m' : List Addr} {H H' : Hp} (a : Ext m H H') (h : ∀ b ∈ m, b ∈ m') : Ext m' H H' :=
  ⟨fun c o e n => a.keep c o e fun z => n (h c z), a.tups⟩
theorem Ext.any {m : List Addr} {H H' : Hp} (a : Ext [] H H') : Ext m H H' := a.mono fun _ h => (List.not_mem_nil h).elim
theorem Ext.none {m : List Addr} {H H' : Hp} {p : Addr} (a : Ext m H H') (hm : p ∉ m) (h : H' p = Option.none) : H p = Option.none := by
  cases q : H p with
  | none => rfl
  | some o =>
    rw [a.keep p o q hm] at h
    cases h
/-- a store at an address that was free at the beginning -/
theorem Ext.new {m : List Addr} {H H' : Hp} {p : Addr} {o : HO} (a : Ext m H H') (h : H p = Option.none) : Ext m H (upd H' p o) :=
  ⟨fun b u e n => by rw [upd_ne (ne_of_none e h)]; exact a.keep b u e n, fun b xs e => by rw [upd_ne (ne_of_none e h)]; exact a.tups b xs e⟩
/-- a new object -/
theorem Ext.fresh {m : List Addr} {H H' : Hp} {p : Addr} {o : HO} (a : Ext m H H') (h : H' p = Option.none) : Ext m H (upd H' p o) :=
  ⟨fun b u e n => by rw [upd_ne (ne_of_none (a.keep b u e n) h)]; exact a.keep b u e n, fun b xs e => by rw [upd_ne (ne_of_none (a.tups b xs e) h)]; exact a.tups b xs e⟩
/-- a store at one of m -/
theorem Ext.put {m : List Addr} {H H' : Hp} {p : Addr} {o u : HO} (a : Ext m H H') (hp : p ∈ m) (h : H p = some u) (hu : ∀ xs, u ≠ .tup xs) : Ext m H (upd H' p o) := by
  refine ⟨fun b z e n => ?_, fun b xs e => ?_⟩
  · have hb : b ≠ p := fun q => n (q ▸ hp)
    rw [upd_ne hb]
    exact a.keep b z e n
  · have hb : b ≠ p := fun q => by
      subst q
      rw [h] at e
      exact hu xs (Option.some.inj e)
    rw [upd_ne hb]
    exact a.tups b xs e
theorem Ext.same {H H' : Hp} (a : Ext [] H H') : Same H H' := fun b o e => a.keep b o e List.not_mem_nil
theorem Ext.ofSame {H H' : Hp} (a : Same H H') : Ext [] H H' := ⟨fun b o e _ => a b o e, fun b xs e => a b _ e⟩
theorem Ext.seqL {K : PySem.W.Frag} {m : List Addr} {H H' : Hp} {a : Addr} {xs : List V} (e : Ext m H H') (h : SqL K H a xs) (hm : a ∉ m) : SqL K H' a xs := by
  rcases h with (h | ⟨o, h⟩) | h
  · exact .inl (.inl (e.keep _ _ h hm))
  · exact .inl (.inr ⟨o, e.keep _ _ h hm⟩)
  · exact .inr h

/-! ### data -/
mutual
def DAt (H : Hp) : PyData → V → Prop
  | .none, v => v = .non
  | .int i, v => v = .int i
  | .str x, v => v = .str x
  | .tuple ds, v => ∃ a xs, v = .ref a ∧ H a = some (.tup xs) ∧ DAts H ds xs
  | .bool _, _ => False
  | .list _, _ => False
  | .dict _, _ => False
def DAts (H : Hp) : List PyData → List V → Prop
  | [], vs => vs = []
  | d :: ds, vs => ∃ v r, vs = v :: r ∧ DAt H d v ∧ DAts H ds r
end
mutual
theorem DAt.ext {H H' : Hp} (e : ∀ b xs, H b = some (.tup xs) → H' b = some (.tup xs)) : ∀ (d : PyData) (v : V), DAt H d v → DAt H' d v
  | .none, _, h => h
  | .int _, _, h => h
  | .str _, _, h => h
  | .tuple ds, v, h => by
    obtain ⟨a, xs, rfl, h1, h2⟩ := h
    exact ⟨a, xs, rfl, e _ _ h1, DAts.ext e ds xs h2⟩
  | .bool _, _, h => h.elim
  | .list _, _, h => h.elim
  | .dict _, _, h => h.elim
theorem DAts.ext {H H' : Hp} (e : ∀ b xs, H b = some (.tup xs) → H' b = some (.tup xs)) : ∀ (ds : List PyData) (vs : List V), DAts H ds vs → DAts H' ds vs
  | [], _, h => h
  | d :: ds, vs, h => by
    obtain ⟨v, r, rfl, h1, h2⟩ := h
    exact ⟨v, r, rfl, DAt.ext e d v h1, DAts.ext e ds r h2⟩
end
theorem Ext.dat {m : List Addr} {H H' : Hp} {d : PyData} {v : V} (e : Ext m H H') (h : DAt H d v) : DAt H' d v := DAt.ext e.tups d v h
theorem Ext.dats {m : List Addr} {H H' : Hp} {d : List PyData} {v : List V} (e : Ext m H H') (h : DAts H d v) : DAts H' d v := DAts.ext e.tups d v h
theorem DAts.length {H : Hp} : ∀ {ds : List PyData} {vs : List V}, DAts H ds vs → vs.length = ds.length
  | [], _, h => by
    have e : _ = [] := h
    rw [e]; rfl
  | d :: ds, vs, h => by
    obtain ⟨v, r, rfl, _, h2⟩ := h
    rw [List.length_cons, List.length_cons, DAts.length h2]
theorem DAts.append {H : Hp} : ∀ {ds es : List PyData} {vs us : List V}, DAts H ds vs → DAts H es us → DAts H (ds ++ es) (vs ++ us)
  | [], es, vs, us, h, h' => by
    have e : vs = [] := h
    subst e
    exact h'
  | d :: ds, es, vs, us, h, h' => by
    obtain ⟨v, r, rfl, h1, h2⟩ := h
    exact ⟨v, r ++ us, rfl, h1, DAts.append h2 h'⟩
theorem DAts.one {H : Hp} {d : PyData} {v : V} (h : DAt H d v) : DAts H [d] [v] := ⟨v, [], rfl, h, rfl⟩
theorem DAts.nil {H : Hp} : DAts H [] [] := rfl
theorem DAts.cons {H : Hp} {d : PyData} {ds : List PyData} {v : V} {vs : List V} (h : DAt H d v) (h' : DAts H ds vs) : DAts H (d :: ds) (v :: vs) := ⟨v, vs, rfl, h, h'⟩
theorem DAts.get {H : Hp} : ∀ {ds : List PyData} {vs : List V} {i : Nat} {d : PyData}, DAts H ds vs → ds[i]? = some d → ∃ v, vs[i]? = some v ∧ DAt H d v
  | [], _, _, _, _, e => by simp at e
  | d :: ds, vs, 0, d', h, e => by
    obtain ⟨v, r, rfl, h1, _⟩ := h
    have e' : d = d' := by simpa using e
    subst e'
    exact ⟨v, rfl, h1⟩
  | d :: ds, vs, i + 1, d', h, e => by
    obtain ⟨v, r, rfl, _, h2⟩ := h
    obtain ⟨u, e1, e2⟩ := DAts.get (i := i) h2 (by simpa using e)
    exact ⟨u, by simpa using e1, e2⟩
theorem DAts.get' {H : Hp} : ∀ {ds : List PyData} {vs : List V} {i : Nat} {v : V}, DAts H ds vs → vs[i]? = some v → ∃ d, ds[i]? = some d ∧ DAt H d v
  | [], vs, _, _, h, e => by
    have q : vs = [] := h
    subst q
    simp at e
  | d :: ds, vs, 0, v', h, e => by
    obtain ⟨v, r, rfl, h1, _⟩ := h
    have e' : v = v' := by simpa using e
    subst e'
    exact ⟨d, rfl, h1⟩
  | d :: ds, vs, i + 1, v', h, e => by
    obtain ⟨v, r, rfl, _, h2⟩ := h
    obtain ⟨u, e1, e2⟩ := DAts.get' (i := i) h2 (by simpa using e)
    exact ⟨u, by simpa using e1, e2⟩
mutual
theorem DAt.dp {K : PySem.W.Frag} {H : Hp} : ∀ (d : PyData) (v : V), DAt H d v → Dp K H v d
  | .none, _, h => by
    have e : _ = V.non := h
    rw [e]; exact .non
  | .int _, _, h => by
    have e : _ = V.int _ := h
    rw [e]; exact .int _
  | .str _, _, h => by
    have e : _ = V.str _ := h
    rw [e]; exact .str _
  | .tuple ds, v, h => by
    obtain ⟨a, xs, rfl, h1, h2⟩ := h
    exact .tup (.inl (.inl h1)) (DAts.dp ds xs h2)
  | .bool _, _, h => h.elim
  | .list _, _, h => h.elim
  | .dict _, _, h => h.elim
theorem DAts.dp {K : PySem.W.Frag} {H : Hp} : ∀ (ds : List PyData) (vs : List V), DAts H ds vs → DpAll K H vs ds
  | [], _, h => by
    have e : _ = [] := h
    rw [e]; exact .nil
  | d :: ds, vs, h => by
    obtain ⟨v, r, rfl, h1, h2⟩ := h
    exact .cons (DAt.dp d v h1) (DAts.dp ds r h2)
end
/-- a new tuple -/
theorem DAt.tup {H : Hp} {p : Addr} {ds : List PyData} {vs : List V} (h : H p = Option.none) (hd : DAts H ds vs) : DAt (upd H p (.tup vs)) (.tuple ds) (.ref p) :=
  ⟨p, vs, rfl, upd_same, DAts.ext (fun b xs e => by rw [upd_ne (ne_of_none e h)]; exact e) ds vs hd⟩

/-! ### defs as the callers see them -/
/-- a def of the module's top: its name leads to a def that keeps the promise -/
def Dfn (P : Program) (w : World) (K : PySem.W.Frag) (mg : Str → Option Value) (base : Heap) (k : Nat) (x : Str) (ps : List Str) (sp : Sp) : Prop :=
  ∃ f fd, FnOk P w K mg base CX0 k f fd ps sp ∧ mg x = some (.ref f) ∧ PySem.W.keepIn K (.ref f) = true ∧ Binds K fd ps []
section
variable {X : Cx} {k : Nat} {x : Str} {ps : List Str} {sp : Sp} {e : Expr} {es : List Expr} {t : TA} {p pos : Pos}
theorem pe_d (D : Dfn X.prog X.w X.K X.mg X.base k x ps sp) (hr : Room k X.A) (ha : PA X (e :: es) t) (hg : Gl X x := by rfl) (hdb : (x == ("__debug__" : Str)) = false := by decide)
    (he : starEach (e :: es) X.env = (false, eval e X.env) :: starEach es X.env := by rfl) (hpl : (backTo pos (starEach es X.env)).any (·.1) = false := by rfl) : PE X (.Call (.Name x p) (e :: es) [] pos) (tCall sp [] E0 t) := by
  obtain ⟨f, fd, F, hm, hk, hb⟩ := D
  exact pe_call F hr hg hm hk hb .nil pass0 ha hdb he hpl
end
end K21

set_option Elab.async false
set_option linter.all false
set_option maxRecDepth 100000
set_option maxHeartbeats 4000000
/-! rules of our own -/
namespace K21
open PySem PySem.Spec PyProof.Rows L2

section
variable {X : Cx}
/-! ### s * n -/
def mulS (z : Str) (n : Nat) : Str := ⟨(List.replicate n z.cps.toList).flatten.toArray⟩
theorem foldl_app (z : Array Nat) : ∀ (n : Nat) (a : Array Nat), ((List.replicate n z).foldl (· ++ ·) a).toList = a.toList ++ (List.replicate n z.toList).flatten
  | 0, a => by simp
  | n + 1, a => by
    rw [List.replicate_succ, List.foldl_cons, foldl_app z n, Array.toList_append, List.replicate_succ, List.flatten_cons, List.append_assoc]
def rMulS : R2 := fun x y H Q => ∃ (z : Str) (n : Int), x = .str z ∧ y = .int n ∧ 0 ≤ n ∧ n ≤ 1000 ∧ z.length ≤ 1000 ∧ Q (.str (mulS z n.toNat)) H
theorem op_mulS : OpR X (binaryOp .Mult) rMulS := by
  intro pins s σ H x y v u Q I rx ry h
  obtain ⟨z, n, rfl, rfl, h0, h1, h2, q⟩ := h
  obtain ⟨t, rfl⟩ := rx
  obtain ⟨t', rfl⟩ := ry
  have hlen : z.length * n.toNat ≤ 1000 * 1000 := Nat.mul_le_mul h2 (by omega)
  refine PySem.P.mul_str ?_ (fun hn hz => ?_) (fun hn hz => ?_) ?_
  · rw [decide_eq_false (by omega), decide_eq_false (by omega)]; rfl
  · have hq : (1000 : Int) < (2 ^ 63 - 1) / n := by
      have : (1001 : Int) * n ≤ 2 ^ 63 - 1 := by omega
      have := (Int.le_ediv_iff_mul_le (a := 1001) (b := 2 ^ 63 - 1) (c := n) (by omega)).mpr this
      omega
    omega
  · unfold Builtin.Str.tooLong
    first
      | (refine decide_eq_false ?_; rw [sizeLine_eq]; omega)
      | skip
  · by_cases hn : n < 1
    · rw [if_pos hn]
      have e : n.toNat = 0 := by omega
      refine ⟨Nat.zero_le _, .str (mulS z n.toNat), H, I.tok _, ?_, q⟩
      rw [e]
      exact ⟨_, rfl⟩
    · rw [if_neg hn]
      by_cases hz : (n == 1 || z.length == 0) = true
      · rw [if_pos hz]
        refine ⟨.str (mulS z n.toNat), H, I, ⟨t, ?_⟩, q⟩
        have e : mulS z n.toNat = z := by
          obtain ⟨c⟩ := z
          unfold mulS
          rcases Bool.or_eq_true_iff.mp hz with e | e
          · have e1 : n = 1 := by simpa using e
            rw [e1]; simp
          · have e1 : c.size = 0 := beq_iff_eq.mp e
            have e2 : c = #[] := Array.eq_empty_of_size_eq_zero e1
            rw [e2]; simp
        rw [e]
      · rw [if_neg hz]
        have e : (⟨(List.replicate n.toNat z.cps).foldl (· ++ ·) #[]⟩ : Str) = mulS z n.toNat := by
          unfold mulS
          congr 1
          have := foldl_app z.cps n.toNat #[]
          apply Array.ext'
          rw [this]; simp
        rw [e]
        refine ⟨?_, .str (mulS z n.toNat), H, I.tok _, ⟨_, rfl⟩, q⟩
        have : (mulS z n.toNat).length = n.toNat * z.length := by
          unfold mulS
          show ((List.replicate n.toNat z.cps.toList).flatten.toArray).size = _
          rw [List.size_toArray, List.length_flatten, List.map_replicate, List.sum_replicate_nat]
          rfl
        rw [this, Nat.mul_comm, sizeLine_eq]
        omega

/-! ### o.f as a target -/
def gFld (K : PySem.W.Frag) (ta : TE) (f : Str) : TG := fun y σ H Q => ta σ H fun x H2 => ∃ a C dx fs, x = .ref a ∧ H2 a = some (.ins C dx fs) ∧ Cls K C ∧ NoAttr K C f ∧ fs.length < 1000 ∧ Q σ (upd H2 a (.ins C dx (putF f y fs)))
theorem pg_fld {o : Expr} {f : Str} {pos : Pos} {ta : TE} (ha : PE X o ta) : PG X (.Attribute o f pos) (gFld X.K ta f) := by
  refine ⟨fun pins s σ H v u Q I r h => ?_⟩
  rw [assign_Attribute]
  refine wpAny_bind (wpAny_holding (thn (ha.run pins s σ H _ I h) fun ov s1 ⟨x, H1, I1, rx, a, C, dx, fs, ex, ea, c, n, l, q⟩ => ?_))
  subst ex
  obtain rfl : ov = Value.ref a := rx
  refine wpAny_bind (wpAny_standAt (wpAny_bind (wpAny_holding (setattr_ok I1 ea c n l r fun s3 I3 => ?_))))
  exact wpAny_release ⟨σ, _, I3, q⟩
theorem pe_gl {x : Str} {v : V} {pos : Pos} (hg : Gl X x) (hm : ∃ u, X.mg x = some u ∧ RelV v u) (hd : (x == ("__debug__" : Str)) = false := by decide) : PE X (.Name x pos) (tC v) := by
  obtain ⟨u, e, r⟩ := hm
  exact pe_glob hg e r hd

/-! ### isinstance -/
def rIs3 : List V → Hp → VK → Prop := fun xs H Q => (∃ z, xs = [.str z, .ty "str"] ∧ Q (.bl true) H) ∨ (∃ i, xs = [.int i, .ty "int"] ∧ Q (.bl true) H) ∨ ∃ i, xs = [.int i, .ty "bool"] ∧ Q (.bl false) H
theorem call_is3 : CallR X (.builtin "isinstance") rIs3 := by
  intro pins s σ H xs us Q I r h
  rcases h with ⟨z, rfl, q⟩ | ⟨i, rfl, q⟩ | ⟨i, rfl, q⟩
  · exact call_isi pins s σ H _ us Q I r ⟨_, _, _, _, _, rfl, .ty _, .base (.str _), kit_ty (by decide +kernel), q⟩
  · exact call_isi pins s σ H _ us Q I r ⟨_, _, _, _, _, rfl, .ty _, .base (.int _), kit_ty (by decide +kernel), q⟩
  · exact call_isi pins s σ H _ us Q I r ⟨_, _, _, _, _, rfl, .ty _, .base (.int _), kit_ty (by decide +kernel), q⟩
end

/-! ### classes and methods as the callers see them -/
/-- a class of the module's top that is made -/
def Mkr (P : Program) (w : World) (K : PySem.W.Frag) (mg : Str → Option Value) (base : Heap) (k : Nat) (x : Str) (C : Addr) (ps : List Str) (sp : Sp) : Prop :=
  ∃ f fd, Mk K C f ∧ FnOk P w K mg base CX0 k f fd ps sp ∧ mg x = some (.ref C) ∧ Binds K fd ps []
def Mtd (P : Program) (w : World) (K : PySem.W.Frag) (mg : Str → Option Value) (base : Heap) (k : Nat) (C : Addr) (m : Str) (ps : List Str) (sp : Sp) : Prop :=
  ∃ f fd, Meth K C m f ∧ FnOk P w K mg base CX0 k f fd ps sp ∧ Binds K fd ps []
/-- a property -/
def Prp (P : Program) (w : World) (K : PySem.W.Frag) (mg : Str → Option Value) (base : Heap) (k : Nat) (C : Addr) (m : Str) (ps : List Str) (sp : Sp) : Prop :=
  ∃ p g fd, PropOf K C m p g ∧ FnOk P w K mg base CX0 k g fd ps sp ∧ Binds K fd ps []
section
variable {X : Cx} {k : Nat} {x m : Str} {C : Addr} {ps : List Str} {sp : Sp} {o e : Expr} {es : List Expr} {t : TA} {ta : TE} {p pos apos : Pos}
theorem pe_mkD (D : Mkr X.prog X.w X.K X.mg X.base k x C ps sp) (hr : Room (k + 1) X.A) (ha : PA X (e :: es) t) (hg : Gl X x := by rfl) (hdb : (x == ("__debug__" : Str)) = false := by decide)
    (he : starEach (e :: es) X.env = (false, eval e X.env) :: starEach es X.env := by rfl) (hpl : (backTo pos (starEach es X.env)).any (·.1) = false := by rfl) : PE X (.Call (.Name x p) (e :: es) [] pos) (tMake C sp [] E0 t) := by
  obtain ⟨f, fd, M, F, hm, hb⟩ := D
  exact pe_make M F hr hg hm hb .nil pass0 ha hdb he hpl
theorem pe_mD {pl : Sem Bool} (he : PE X o ta) (c : Cls X.K C) (D : Mtd X.prog X.w X.K X.mg X.base k C m ps sp) (hr : Room k X.A) (ha : PA X (e :: es) t)
    (hst : starEach (e :: es) X.env = (false, eval e X.env) :: starEach es X.env := by rfl) (hpl : (backTo pos (starEach es X.env)).any (·.1) = false := by rfl)
    (ht : eval (.Call (.Attribute o m apos) (e :: es) [] pos) X.env = (do
      let ov ← eval o X.env
      standAt apos.atName
      let (f, first) ← holding [ov] (getMethod ov m pl)
      callWith pos f first (backTo pos (starEach (e :: es) X.env)) (backToKw pos (keywordEach [] X.env))) := by rfl) :
    PE X (.Call (.Attribute o m apos) (e :: es) [] pos) (tMeth C m sp [] E0 ta t) := by
  obtain ⟨f, fd, M, F, hb⟩ := D
  exact pe_meth he c M F hr hb .nil pass0 ha hst hpl ht
theorem pe_mD0 {pl : Sem Bool} (he : PE X o ta) (c : Cls X.K C) (D : Mtd X.prog X.w X.K X.mg X.base k C m ps sp) (hr : Room k X.A)
    (ht : eval (.Call (.Attribute o m apos) [] [] pos) X.env = (do
      let ov ← eval o X.env
      standAt apos.atName
      let (f, first) ← holding [ov] (getMethod ov m pl)
      callWith pos f first (backTo pos (starEach [] X.env)) (backToKw pos (keywordEach [] X.env))) := by rfl) :
    PE X (.Call (.Attribute o m apos) [] [] pos) (tMeth C m sp [] E0 ta tNil) := by
  obtain ⟨f, fd, M, F, hb⟩ := D
  exact pe_meth0 he c M F hr hb .nil pass0 ht
theorem pe_prD (he : PE X e ta) (c : Cls X.K C) (D : Prp X.prog X.w X.K X.mg X.base k C m ps sp) (hr : Room (k + 1) X.A) (hab : attributeBase e m X.env (eval e X.env) = eval e X.env := by rfl) : PE X (.Attribute e m pos) (tProp C sp [] E0 ta) := by
  obtain ⟨p, g, fd, M, F, hb⟩ := D
  exact pe_prop he c M F hr hb .nil pass0 hab
end
end K21

set_option Elab.async false
set_option linter.all false
set_option maxRecDepth 100000
set_option maxHeartbeats 4000000
/-! the text by places -/
namespace K21
open PySem PySem.Spec PyProof.Rows L2
def topS (i : Nat) : Stmt := PySem.Challenge.pw_wordskips_k21_whole_searches_by_turns.main.body.getD i (.Pass ⟨0, 0, 0, 0⟩)
abbrev s_check_letters : Stmt := topS 15
abbrev s_is_word : Stmt := topS 16
abbrev s_check_words : Stmt := topS 17
abbrev s_check_text : Stmt := topS 18
abbrev s_fits : Stmt := topS 19
abbrev s_slid : Stmt := topS 20
abbrev s_Turn_init : Stmt := inClass (topS 22) 0
abbrev s_put_in : Stmt := topS 23
abbrev s_go_through : Stmt := topS 24
abbrev s_turns : Stmt := topS 25
abbrev s_is_number : Stmt := topS 37
abbrev s_is_head : Stmt := topS 38
abbrev s_within : Stmt := topS 39
abbrev s_checked : Stmt := topS 40
abbrev s_kept : Stmt := topS 41
abbrev s_Searcher_init : Stmt := inClass (topS 47) 0
abbrev s_borders_of : Stmt := topS 53
abbrev s_steps_down : Stmt := topS 54
abbrev s_last_of : Stmt := topS 55
abbrev s_compared : Stmt := topS 56
abbrev s_left_step : Stmt := topS 57
abbrev s_from_left : Stmt := topS 58
abbrev s_by_one_letter : Stmt := topS 59
abbrev s_is_good_slide : Stmt := topS 60
abbrev s_right_slide : Stmt := topS 61
abbrev s_from_right : Stmt := topS 62
abbrev s_Knower_init : Stmt := inClass (topS 63) 0
abbrev s_Knower_goes : Stmt := inClass (topS 63) 1
abbrev s_Knower_grown : Stmt := inClass (topS 63) 2
abbrev s_Knower_all_states : Stmt := inClass (topS 63) 3
abbrev s_made : Stmt := topS 64
abbrev s_WindowTurn_init : Stmt := inClass (topS 67) 0
abbrev s_WindowTurn_does : Stmt := inClass (topS 67) 1
abbrev s_Trace_init : Stmt := inClass (topS 68) 0
abbrev s_trace : Stmt := topS 69
abbrev s_l_pen_of : Stmt := topS 71
abbrev s_l_draw : Stmt := topS 72
abbrev s_l_pick : Stmt := topS 73
abbrev s_l_letters_of : Stmt := topS 74
abbrev s_l_word_of : Stmt := topS 75
abbrev s_l_tree_of : Stmt := topS 76
abbrev s_l_bent_tree : Stmt := topS 77
abbrev s_l_matter_of : Stmt := topS 78
abbrev s_l_made_ways : Stmt := topS 79
abbrev s_l_search : Stmt := topS 80
abbrev s_l_follows : Stmt := topS 81
abbrev s_law : Stmt := topS 82
abbrev s_Turn_is_cut : Stmt := inClass (topS 22) 1

/-- the classes' addresses, the module's tuples -/
structure Ad where
  Turn : Addr
  Searcher : Addr
  Knower : Addr
  WindowTurn : Addr
  Trace : Addr
  FROM_LEFT : Addr
  BY_ONE_STATE : Addr
  FROM_RIGHT : Addr
def vFROM_LEFT : List V := [.str "borders", .str "strict borders", .str "by letters"]
def vBY_ONE_STATE : List V := [.str "plain", .str "last letter", .str "letter behind"]
def vFROM_RIGHT : List V := [.str "bad letter", .str "good end", .str "both", .str "both and known"]
/-- what the top has left -/
structure Tx (K : PySem.W.Frag) (mg : Str → Option Value) (A : Ad) : Prop where
  isinstance : mg "isinstance" = Option.none
  len : mg "len" = Option.none
  set : mg "set" = Option.none
  all : mg "all" = Option.none
  any : mg "any" = Option.none
  enumerate : mg "enumerate" = Option.none
  zip : mg "zip" = Option.none
  min : mg "min" = Option.none
  max : mg "max" = Option.none
  range : mg "range" = Option.none
  list : mg "list" = Option.none
  tuple : mg "tuple" = Option.none
  sum : mg "sum" = Option.none
  int : mg "int" = Option.none
  abs : mg "abs" = Option.none
  str : mg "str" = Option.none
  bool : mg "bool" = Option.none
  mMOST_WIDTH : ∃ u, mg "MOST_WIDTH" = some u ∧ RelV (.int 8) u
  mMOST_WORDS : ∃ u, mg "MOST_WORDS" = some u ∧ RelV (.int 3) u
  mMOST_STATES : ∃ u, mg "MOST_STATES" = some u ∧ RelV (.int 64) u
  mMOST_LEVELS : ∃ u, mg "MOST_LEVELS" = some u ∧ RelV (.int 40) u
  mMOST_NODES : ∃ u, mg "MOST_NODES" = some u ∧ RelV (.int 3000) u
  mMOST_TOLD : ∃ u, mg "MOST_TOLD" = some u ∧ RelV (.int 3) u
  mMOST_LETTERS : ∃ u, mg "MOST_LETTERS" = some u ∧ RelV (.int 5000) u
  mSMALL : ∃ u, mg "SMALL" = some u ∧ RelV (.str "abcdefghijklmnopqrstuvwxyz") u
  mALL_KNOWN : ∃ u, mg "ALL_KNOWN" = some u ∧ RelV (.str "all knowledge") u
  mFROM_LEFT : mg "FROM_LEFT" = some (.ref A.FROM_LEFT)
  tFROM_LEFT : ∀ H, SqT K H A.FROM_LEFT vFROM_LEFT
  mBY_ONE_STATE : mg "BY_ONE_STATE" = some (.ref A.BY_ONE_STATE)
  tBY_ONE_STATE : ∀ H, SqT K H A.BY_ONE_STATE vBY_ONE_STATE
  mFROM_RIGHT : mg "FROM_RIGHT" = some (.ref A.FROM_RIGHT)
  tFROM_RIGHT : ∀ H, SqT K H A.FROM_RIGHT vFROM_RIGHT
  clTurn : Cls K A.Turn
  nTurn_reads : NoAttr K A.Turn "reads"
  nTurn_tells : NoAttr K A.Turn "tells"
  nTurn_known : NoAttr K A.Turn "known"
  nTurn_slide : NoAttr K A.Turn "slide"
  nTurn_after : NoAttr K A.Turn "after"
  clSearcher : Cls K A.Searcher
  nSearcher_letters : NoAttr K A.Searcher "letters"
  nSearcher_width : NoAttr K A.Searcher "width"
  nSearcher_states : NoAttr K A.Searcher "states"
  nSearcher_nodes : NoAttr K A.Searcher "nodes"
  clKnower : Cls K A.Knower
  nKnower_letters : NoAttr K A.Knower "letters"
  nKnower_word : NoAttr K A.Knower "word"
  nKnower_knowns : NoAttr K A.Knower "knowns"
  clWindowTurn : Cls K A.WindowTurn
  nWindowTurn_reads : NoAttr K A.WindowTurn "reads"
  nWindowTurn_numbers : NoAttr K A.WindowTurn "numbers"
  nWindowTurn_slide : NoAttr K A.WindowTurn "slide"
  nWindowTurn_state : NoAttr K A.WindowTurn "state"
  clTrace : Cls K A.Trace
  nTrace_windows : NoAttr K A.Trace "windows"
  nTrace_told : NoAttr K A.Trace "told"
  nTrace_cost : NoAttr K A.Trace "cost"

/-- a def as it stands behind the top -/
abbrev Fd (K : PySem.W.Frag) (x qual : Str) (st : Stmt) (f : Addr) (fd : FuncData) : Prop := FunD K x qual (defArgs st) (defBody st) (defScope st) [] [] f fd
theorem fok {P : Program} {w : World} {K : PySem.W.Frag} {mg : Str → Option Value} {base : Heap} {x qual : Str} {st : Stmt} {f : Addr} {fd : FuncData} {N ps : List Str} {k : Nat} {sp : Sp} (F : Fd K x qual st f fd) (S : FnScope N ps (defScope st)) (len : ∀ vs H Q E, sp vs H Q E → vs.length = ps.length)
    (hbody : ∀ (cdv : Value) (A : Around) (outer : List Env) (s : Shared) (H : Hp) (vs : List V) (Q : VK) (E : XK), Room k (A.deeper (envOfC qual (defScope st) s.heap.objs.size f cdv)) → sp vs H Q E →
      ∃ t, PSs (cxOf CX0 P w K mg base N qual (defScope st) f cdv A outer s H E).nox (defBody st) t ∧ t { nx := fun _ H' => Q .non H', rt := Q } (start N vs) H) : FnOk P w K mg base CX0 (k + 1) f fd ps sp :=
  F.ok S len fun cdv A outer s H vs Q E hr h => by
    obtain ⟨t, h1, h2⟩ := hbody cdv A outer s H vs Q E hr h
    exact ⟨t, h1.nox, h2⟩
end K21

set_option Elab.async false
set_option linter.all false
set_option maxRecDepth 100000
set_option maxHeartbeats 0
/-! the head by facts -/
namespace K21
open PySem PySem.Spec PyProof.Rows L2
def pC (K : PySem.W.Frag) : Addr := He.ma K (He.ga K "Turn") "is_cut"
def gC (K : PySem.W.Frag) : Addr := match PySem.W.recIn K (pC K) "property" with
  | some (.ref g :: _) => g
  | _ => 0
def fnAt (K : PySem.W.Frag) (a : Addr) : He.FnW := match K.lookup a with
  | some ⟨_, _, .func fd, _⟩ => some (fd.name, fd.qualname, fd.params, fd.body, fd.scope, fd.globals, fd.closure, fd.builtins)
  | _ => none
def cutB (K : PySem.W.Frag) : Bool := He.eqO (PySem.W.findIn K (.ref (He.ga K "Turn")) "is_cut") (some (some (.ref (pC K)))) && (He.eqO (PySem.W.specialIn K (.ref (pC K)) "__get__") (some (some (.builtin "property.__get__"))) &&
  (decide (PySem.W.takesIn K (.ref (pC K)) = some true) && ((match PySem.W.recIn K (pC K) "property" with
    | some (.ref _ :: _) => true
    | _ => false) && (PySem.W.keepIn K (.ref (gC K)) && (match K.lookup (gC K) with
    | some ⟨_, _, .func fd, _⟩ => PySem.W.codeIn K fd.code "Turn.is_cut" && (He.dflB K fd.defaults [] && He.kwdB K fd.kwdefaults [])
    | _ => false)))))
def d_check_letters : He.DefD := ⟨("check_letters", none), "check_letters", "check_letters", defArgs s_check_letters, defBody s_check_letters, defScope s_check_letters, [], []⟩
def d_is_word : He.DefD := ⟨("is_word", none), "is_word", "is_word", defArgs s_is_word, defBody s_is_word, defScope s_is_word, [], []⟩
def d_check_words : He.DefD := ⟨("check_words", none), "check_words", "check_words", defArgs s_check_words, defBody s_check_words, defScope s_check_words, [], []⟩
def d_check_text : He.DefD := ⟨("check_text", none), "check_text", "check_text", defArgs s_check_text, defBody s_check_text, defScope s_check_text, [], []⟩
def d_fits : He.DefD := ⟨("fits", none), "fits", "fits", defArgs s_fits, defBody s_fits, defScope s_fits, [], []⟩
def d_slid : He.DefD := ⟨("slid", none), "slid", "slid", defArgs s_slid, defBody s_slid, defScope s_slid, [], []⟩
def d_Turn_init : He.DefD := ⟨("Turn", some "__init__"), "__init__", "Turn.__init__", defArgs s_Turn_init, defBody s_Turn_init, defScope s_Turn_init, [], []⟩
def d_put_in : He.DefD := ⟨("put_in", none), "put_in", "put_in", defArgs s_put_in, defBody s_put_in, defScope s_put_in, [], []⟩
def d_go_through : He.DefD := ⟨("go_through", none), "go_through", "go_through", defArgs s_go_through, defBody s_go_through, defScope s_go_through, [], []⟩
def d_turns : He.DefD := ⟨("turns", none), "turns", "turns", defArgs s_turns, defBody s_turns, defScope s_turns, [], []⟩
def d_is_number : He.DefD := ⟨("is_number", none), "is_number", "is_number", defArgs s_is_number, defBody s_is_number, defScope s_is_number, [], []⟩
def d_is_head : He.DefD := ⟨("is_head", none), "is_head", "is_head", defArgs s_is_head, defBody s_is_head, defScope s_is_head, [], []⟩
def d_within : He.DefD := ⟨("within", none), "within", "within", defArgs s_within, defBody s_within, defScope s_within, [], []⟩
def d_checked : He.DefD := ⟨("checked", none), "checked", "checked", defArgs s_checked, defBody s_checked, defScope s_checked, [], []⟩
def d_kept : He.DefD := ⟨("kept", none), "kept", "kept", defArgs s_kept, defBody s_kept, defScope s_kept, [], []⟩
def d_Searcher_init : He.DefD := ⟨("Searcher", some "__init__"), "__init__", "Searcher.__init__", defArgs s_Searcher_init, defBody s_Searcher_init, defScope s_Searcher_init, [], []⟩
def d_borders_of : He.DefD := ⟨("borders_of", none), "borders_of", "borders_of", defArgs s_borders_of, defBody s_borders_of, defScope s_borders_of, [], []⟩
def d_steps_down : He.DefD := ⟨("steps_down", none), "steps_down", "steps_down", defArgs s_steps_down, defBody s_steps_down, defScope s_steps_down, [], []⟩
def d_last_of : He.DefD := ⟨("last_of", none), "last_of", "last_of", defArgs s_last_of, defBody s_last_of, defScope s_last_of, [], []⟩
def d_compared : He.DefD := ⟨("compared", none), "compared", "compared", defArgs s_compared, defBody s_compared, defScope s_compared, [], []⟩
def d_left_step : He.DefD := ⟨("left_step", none), "left_step", "left_step", defArgs s_left_step, defBody s_left_step, defScope s_left_step, [], []⟩
def d_from_left : He.DefD := ⟨("from_left", none), "from_left", "from_left", defArgs s_from_left, defBody s_from_left, defScope s_from_left, [], []⟩
def d_by_one_letter : He.DefD := ⟨("by_one_letter", none), "by_one_letter", "by_one_letter", defArgs s_by_one_letter, defBody s_by_one_letter, defScope s_by_one_letter, [], []⟩
def d_is_good_slide : He.DefD := ⟨("is_good_slide", none), "is_good_slide", "is_good_slide", defArgs s_is_good_slide, defBody s_is_good_slide, defScope s_is_good_slide, [], []⟩
def d_right_slide : He.DefD := ⟨("right_slide", none), "right_slide", "right_slide", defArgs s_right_slide, defBody s_right_slide, defScope s_right_slide, [], []⟩
def d_from_right : He.DefD := ⟨("from_right", none), "from_right", "from_right", defArgs s_from_right, defBody s_from_right, defScope s_from_right, [], []⟩
def d_Knower_init : He.DefD := ⟨("Knower", some "__init__"), "__init__", "Knower.__init__", defArgs s_Knower_init, defBody s_Knower_init, defScope s_Knower_init, [], []⟩
def d_Knower_goes : He.DefD := ⟨("Knower", some "goes"), "goes", "Knower.goes", defArgs s_Knower_goes, defBody s_Knower_goes, defScope s_Knower_goes, [], []⟩
def d_Knower_grown : He.DefD := ⟨("Knower", some "grown"), "grown", "Knower.grown", defArgs s_Knower_grown, defBody s_Knower_grown, defScope s_Knower_grown, [], []⟩
def d_Knower_all_states : He.DefD := ⟨("Knower", some "all_states"), "all_states", "Knower.all_states", defArgs s_Knower_all_states, defBody s_Knower_all_states, defScope s_Knower_all_states, [], []⟩
def d_made : He.DefD := ⟨("made", none), "made", "made", defArgs s_made, defBody s_made, defScope s_made, [], []⟩
def d_WindowTurn_init : He.DefD := ⟨("WindowTurn", some "__init__"), "__init__", "WindowTurn.__init__", defArgs s_WindowTurn_init, defBody s_WindowTurn_init, defScope s_WindowTurn_init, [], []⟩
def d_WindowTurn_does : He.DefD := ⟨("WindowTurn", some "does"), "does", "WindowTurn.does", defArgs s_WindowTurn_does, defBody s_WindowTurn_does, defScope s_WindowTurn_does, [], []⟩
def d_Trace_init : He.DefD := ⟨("Trace", some "__init__"), "__init__", "Trace.__init__", defArgs s_Trace_init, defBody s_Trace_init, defScope s_Trace_init, [], []⟩
def d_trace : He.DefD := ⟨("trace", none), "trace", "trace", defArgs s_trace, defBody s_trace, defScope s_trace, [], []⟩
def d_l_pen_of : He.DefD := ⟨("_law_pen_of", none), "_law_pen_of", "_law_pen_of", defArgs s_l_pen_of, defBody s_l_pen_of, defScope s_l_pen_of, [], []⟩
def d_l_draw : He.DefD := ⟨("_law_draw", none), "_law_draw", "_law_draw", defArgs s_l_draw, defBody s_l_draw, defScope s_l_draw, [], []⟩
def d_l_pick : He.DefD := ⟨("_law_pick", none), "_law_pick", "_law_pick", defArgs s_l_pick, defBody s_l_pick, defScope s_l_pick, [], []⟩
def d_l_letters_of : He.DefD := ⟨("_law_letters_of", none), "_law_letters_of", "_law_letters_of", defArgs s_l_letters_of, defBody s_l_letters_of, defScope s_l_letters_of, [], []⟩
def d_l_word_of : He.DefD := ⟨("_law_word_of", none), "_law_word_of", "_law_word_of", defArgs s_l_word_of, defBody s_l_word_of, defScope s_l_word_of, [], []⟩
def d_l_tree_of : He.DefD := ⟨("_law_tree_of", none), "_law_tree_of", "_law_tree_of", defArgs s_l_tree_of, defBody s_l_tree_of, defScope s_l_tree_of, [], []⟩
def d_l_bent_tree : He.DefD := ⟨("_law_bent_tree", none), "_law_bent_tree", "_law_bent_tree", defArgs s_l_bent_tree, defBody s_l_bent_tree, defScope s_l_bent_tree, [], []⟩
def d_l_matter_of : He.DefD := ⟨("_law_matter_of", none), "_law_matter_of", "_law_matter_of", defArgs s_l_matter_of, defBody s_l_matter_of, defScope s_l_matter_of, [], []⟩
def d_l_made_ways : He.DefD := ⟨("_law_made_ways", none), "_law_made_ways", "_law_made_ways", defArgs s_l_made_ways, defBody s_l_made_ways, defScope s_l_made_ways, [], []⟩
def d_l_search : He.DefD := ⟨("_law_search", none), "_law_search", "_law_search", defArgs s_l_search, defBody s_l_search, defScope s_l_search, [], []⟩
def d_l_follows : He.DefD := ⟨("_law_follows", none), "_law_follows", "_law_follows", defArgs s_l_follows, defBody s_l_follows, defScope s_l_follows, [], []⟩
def d_law : He.DefD := ⟨("law", none), "law", "law", defArgs s_law, defBody s_law, defScope s_law, [], []⟩
def fn : List He.DefD := [d_check_letters, d_is_word, d_check_words, d_check_text, d_fits, d_slid, d_Turn_init, d_put_in, d_go_through, d_turns, d_is_number, d_is_head, d_within, d_checked, d_kept, d_Searcher_init, d_borders_of, d_steps_down, d_last_of, d_compared, d_left_step, d_from_left, d_by_one_letter, d_is_good_slide, d_right_slide, d_from_right, d_Knower_init, d_Knower_goes, d_Knower_grown, d_Knower_all_states, d_made, d_WindowTurn_init, d_WindowTurn_does, d_Trace_init, d_trace, d_l_pen_of, d_l_draw, d_l_pick, d_l_letters_of, d_l_word_of, d_l_tree_of, d_l_bent_tree, d_l_matter_of, d_l_made_ways, d_l_search, d_l_follows, d_law]
def fa0 : List He.Fa := [.glo "check_letters", .glo "is_word", .glo "check_words", .glo "check_text", .glo "fits", .glo "slid", .glo "Turn", .glo "put_in", .glo "go_through", .glo "turns", .glo "is_number", .glo "is_head", .glo "within", .glo "checked", .glo "kept", .glo "Searcher", .glo "FROM_LEFT", .glo "BY_ONE_STATE", .glo "FROM_RIGHT", .glo "borders_of", .glo "steps_down", .glo "last_of", .glo "compared", .glo "left_step", .glo "from_left", .glo "by_one_letter", .glo "is_good_slide", .glo "right_slide", .glo "from_right", .glo "Knower"]
def fa1 : List He.Fa := [.glo "made", .glo "WindowTurn", .glo "Trace", .glo "trace", .glo "_law_pen_of", .glo "_law_draw", .glo "_law_pick", .glo "_law_letters_of", .glo "_law_word_of", .glo "_law_tree_of", .glo "_law_bent_tree", .glo "_law_matter_of", .glo "_law_made_ways", .glo "_law_search", .glo "_law_follows", .glo "law", .free "isinstance", .free "len", .free "set", .free "all", .free "any", .free "enumerate", .free "zip", .free "min", .free "max", .free "range", .free "list", .free "tuple", .free "sum", .free "int"]
def fa2 : List He.Fa := [.free "abs", .free "str", .free "bool", .int "MOST_WIDTH" 8, .int "MOST_WORDS" 3, .int "MOST_STATES" 64, .int "MOST_LEVELS" 40, .int "MOST_NODES" 3000, .int "MOST_TOLD" 3, .int "MOST_LETTERS" 5000, .str "SMALL" "abcdefghijklmnopqrstuvwxyz", .str "ALL_KNOWN" "all knowledge", .cls "Turn", .mkr "Turn", .noat "Turn" "reads", .noat "Turn" "tells", .noat "Turn" "known", .noat "Turn" "slide", .noat "Turn" "after", .cls "Searcher", .mkr "Searcher", .noat "Searcher" "letters", .noat "Searcher" "width", .noat "Searcher" "states", .noat "Searcher" "nodes", .cls "Knower", .mkr "Knower", .noat "Knower" "letters", .noat "Knower" "word", .noat "Knower" "knowns"]
def fa3 : List He.Fa := [.meth "Knower" "goes", .meth "Knower" "grown", .meth "Knower" "all_states", .cls "WindowTurn", .mkr "WindowTurn", .noat "WindowTurn" "reads", .noat "WindowTurn" "numbers", .noat "WindowTurn" "slide", .noat "WindowTurn" "state", .meth "WindowTurn" "does", .cls "Trace", .mkr "Trace", .noat "Trace" "windows", .noat "Trace" "told", .noat "Trace" "cost"]
def fa : List He.Fa := fa0 ++ fa1 ++ fa2 ++ fa3
def loose0 : List Str := ["_wall", "SkipsError", "BadLetters", "BadWords", "BadText", "BadWidth", "TooMany", "BadTree", "BadLine", "BadWay", "SMALL", "MOST_WIDTH", "MOST_WORDS", "check_letters", "is_word", "check_words", "check_text", "fits", "slid", "Turn", "put_in", "go_through", "turns", "DIGITS", "MOST_DEEP", "Signs", "read_head", "read_tree", "MOST_STATES", "MOST_LEVELS"]
def loose1 : List Str := ["MOST_NODES", "MOST_TOLD", "is_number", "is_head", "within", "checked", "kept", "renumbered", "led_to", "met_states", "alike_states", "tree_text", "Searcher", "FROM_LEFT", "BY_ONE_STATE", "FROM_RIGHT", "ALL_KNOWN", "borders_of", "steps_down", "last_of", "compared", "left_step", "from_left", "by_one_letter", "is_good_slide", "right_slide", "from_right", "Knower", "made", "MOST_LETTERS"]
def loose2 : List Str := ["WindowTurn", "Trace", "trace", "_law_pen_of", "_law_draw", "_law_pick", "_law_letters_of", "_law_word_of", "_law_tree_of", "_law_bent_tree", "_law_matter_of", "_law_made_ways", "_law_search", "_law_follows"]
def loose : List Str := loose0 ++ loose1 ++ loose2
def ex (K : PySem.W.Frag) : Bool := He.tupB K "FROM_LEFT" [.str "borders", .str "strict borders", .str "by letters"] && He.tupB K "BY_ONE_STATE" [.str "plain", .str "last letter", .str "letter behind"] && He.tupB K "FROM_RIGHT" [.str "bad letter", .str "good end", .str "both", .str "both and known"] && cutB K
def gval : He.FnW := some ("is_cut", "Turn.is_cut", defArgs s_Turn_is_cut, .stmts (defBody s_Turn_is_cut), defScope s_Turn_is_cut, mainGlobals, [], builtinsNs)
abbrev AlE : Type := He.AlD × Bool × He.FnW
def obsE (g : Addr → Option Obj) : AlE := (He.obsD fa fn (He.frG g (He.asD g 5)), ex (He.frG g (He.asD g 5)), fnAt (He.frG g (He.asD g 5)) (gC (He.frG g (He.asD g 5))))
def valE : AlE := (He.valD fn, true, gval)
structure Says (K : PySem.W.Frag) : Prop where
  d : He.SaysD fa fn K
  e : ex K = true
  g : fnAt K (gC K) = gval
def hookE : PySem.W.Hook where
  α := AlE
  obs := fun s => obsE s.heap.get?
  val := fun _ => valE
  says := fun _ h => ∃ K : PySem.W.Frag, K.In h ∧ Says K
  of := fun _ _ e => ⟨_, He.frG_in, ⟨congrArg (fun z : AlE => z.1) e, congrArg (fun z : AlE => z.2.1) e, congrArg (fun z : AlE => z.2.2) e⟩⟩
  keeps := fun _ _ _ ⟨K, hK, c⟩ k => ⟨K, PySem.W.Frag.In.keeps hK k, c⟩
abbrev R : PySem.W.OpenRow := PySem.W.OpenLaw.row PySem.Challenge.rw_wordskips_k21_whole_searches_by_turns
def ob (s : PySem.W.SharedT) : AlE := obsE (HandSHeadRun.getT s)
theorem ob_eq (s : PySem.W.SharedT) : ob s = hookE.obs s.abs := by
  have e : HandSHeadRun.getT s = s.abs.heap.get? := funext fun a => HandSHeadRun.getT_eq s a
  show obsE (HandSHeadRun.getT s) = obsE s.abs.heap.get?
  rw [e]
section
open PySem PySem.W PySem.Calls PyProof.Rows HandSHeadRun
theorem e1 (w : World) : ∀ os : OsState, (HandSHeadRun.endF (HandSHeadRun.stepQ (HandSHeadRun.denQ HandSHeadRun.tabQ) R.prog w) 7000 R.prog w os).map (fun s => HandSHeadRun.looksF R.prog (boot_heap w.params) s.abs) = some true := by
  intro os
  kernel_rfl
theorem e2 (w : World) : ∀ os : OsState, (HandSHeadRun.endF (HandSHeadRun.stepQ (HandSHeadRun.denQ HandSHeadRun.tabQ) R.prog w) 7000 R.prog w os).map (fun s => HandSHeadRun.seenQ (PySem.W.view R.prog [82]) loose (importedModules R.prog.main.body) (fun s => PySem.W.xlAt (PySem.W.view R.prog [82]) [] s && PySem.W.recOk R.toRowW.records s) s.abs) = some (PySem.W.openGood (PySem.W.view R.prog [82]) loose) := by
  intro os
  kernel_rfl
theorem e3 (w : World) : ∀ os : OsState, (HandSHeadRun.endF (HandSHeadRun.stepQ (HandSHeadRun.denQ HandSHeadRun.tabQ) R.prog w) 7000 R.prog w os).map (fun s => ob s) = some valE := by
  intro os
  kernel_rfl
theorem map_some {α β : Type} {f : α → β} {s : α} {b : β} (h : (some s).map f = some b) : f s = b := Option.some.inj h
theorem run (w : World) : HandSHeadRun.RunEq R (PySem.W.view R.prog [82]) hookE ob 7000 loose w := by
  intro os
  have h1 := e1 w os
  have h2 := e2 w os
  have h3 := e3 w os
  generalize (HandSHeadRun.endF (HandSHeadRun.stepQ (HandSHeadRun.denQ HandSHeadRun.tabQ) R.prog w) 7000 R.prog w os) = r at h1 h2 h3 ⊢
  cases r with
  | none => cases h1
  | some s =>
    have a1 := map_some h1
    have a2 := map_some h2
    have a3 : ob s = valE := map_some h3
    show some (HandSHeadRun.looksF R.prog (boot_heap w.params) s.abs, HandSHeadRun.seenQ (PySem.W.view R.prog [82]) loose (importedModules R.prog.main.body) (fun s => PySem.W.xlAt (PySem.W.view R.prog [82]) [] s && PySem.W.recOk R.toRowW.records s) s.abs, ob s) = some (true, PySem.W.openGood (PySem.W.view R.prog [82]) loose, valE)
    rw [a1, a2, a3]
end
end K21

set_option Elab.async false
set_option linter.all false
set_option maxRecDepth 100000
set_option maxHeartbeats 4000000
/-! texts, trees as data -/
namespace K21
open PySem PySem.Spec PyProof.Rows L2
abbrev S (l : List Nat) : Str := ⟨l.toArray⟩
theorem S_append (a b : List Nat) : S a ++ S b = S (a ++ b) := by
  show (⟨a.toArray ++ b.toArray⟩ : Str) = _
  rw [List.append_toArray]
theorem small {n : Nat} (h : n ≤ 100000) : n ≤ sizeLine := by rw [sizeLine_eq]; omega
theorem sIx_n {n d k : Nat} (h : k ≤ n) : HT.sIx n d (some (k : Int)) = k := by rw [HT.sIx_nat]; omega
theorem S_cut (l : List Nat) (lo hi : Option Int) : cutS (S l) lo hi = S ((l.drop (HT.sIx l.length 0 lo)).take (HT.sIx l.length l.length hi - HT.sIx l.length 0 lo)) := rfl
theorem mulS_dot (n : Nat) : mulS "." n = S (List.replicate n 46) := by
  unfold mulS
  have e : ("." : Str).cps.toList = [46] := by decide +kernel
  rw [e]
  congr 1
  congr 1
  induction n with
  | zero => rfl
  | succ n ih => rw [List.replicate_succ, List.flatten_cons, ih, List.replicate_succ]; rfl

/-! ### attributes -/
theorem look_same {f : Str} {v : V} {fs : List (Str × V)} : (putF f v fs).lookup f = some v := by rw [lookup_putF, if_pos rfl]
theorem look_ne {f g : Str} {v : V} {fs : List (Str × V)} (h : g ≠ f) : (putF f v fs).lookup g = fs.lookup g := by rw [lookup_putF, if_neg h]
theorem putF_len {f : Str} {v : V} {fs : List (Str × V)} {n : Nat} (h : fs.length ≤ n) : (putF f v fs).length ≤ n + 1 := Nat.le_trans (length_putF f v fs) (Nat.succ_le_succ h)

/-! ### trees as data -/
mutual
def enc : Tree → PyData
  | .go s q => .tuple [.str "go", .int s, .int q]
  | .tell n t => .tuple [.str "tell", .int n, enc t]
  | .read p ts => .tuple [.str "read", .int p, .tuple (encs ts)]
def encs : List Tree → List PyData
  | [] => []
  | t :: ts => enc t :: encs ts
end
theorem encs_map : ∀ ts : List Tree, encs ts = ts.map enc
  | [] => rfl
  | t :: ts => by
    show enc t :: encs ts = enc t :: ts.map enc
    rw [encs_map ts]
theorem encs_append (a b : List Tree) : encs (a ++ b) = encs a ++ encs b := by rw [encs_map, encs_map, encs_map, List.map_append]
theorem encs_length (ts : List Tree) : (encs ts).length = ts.length := by rw [encs_map, List.length_map]
theorem encs_get {ts : List Tree} {i : Nat} {t : Tree} (h : ts[i]? = some t) : (encs ts)[i]? = some (enc t) := by rw [encs_map, List.getElem?_map, h]; rfl
theorem encs_get' {ts : List Tree} {i : Nat} {d : PyData} (h : (encs ts)[i]? = some d) : ∃ t, ts[i]? = some t ∧ d = enc t := by
  rw [encs_map, List.getElem?_map] at h
  cases e : ts[i]? with
  | none =>
    rw [e] at h
    cases h
  | some t =>
    rw [e] at h
    exact ⟨t, rfl, (Option.some.inj h).symm⟩
abbrev TAt (H : Hp) (t : Tree) (v : V) : Prop := DAt H (enc t) v
abbrev TsAt (H : Hp) (ts : List Tree) (vs : List V) : Prop := DAts H (encs ts) vs
section
variable {H : Hp} {v : V}
theorem at_go {s q : Int} (h : TAt H (.go s q) v) : ∃ a, v = .ref a ∧ H a = some (.tup [.str "go", .int s, .int q]) := by
  obtain ⟨a, _, rfl, h, _, _, rfl, rfl, _, _, rfl, rfl, _, _, rfl, rfl, rfl⟩ := h
  exact ⟨a, rfl, h⟩
theorem at_tell {n : Int} {t : Tree} (h : TAt H (.tell n t) v) : ∃ a x, v = .ref a ∧ H a = some (.tup [.str "tell", .int n, x]) ∧ TAt H t x := by
  obtain ⟨a, _, rfl, h, _, _, rfl, rfl, _, _, rfl, rfl, x, _, rfl, hx, rfl⟩ := h
  exact ⟨a, x, rfl, h, hx⟩
theorem at_read {p : Int} {ts : List Tree} (h : TAt H (.read p ts) v) : ∃ a b xs, v = .ref a ∧ H a = some (.tup [.str "read", .int p, .ref b]) ∧ H b = some (.tup xs) ∧ TsAt H ts xs := by
  obtain ⟨a, _, rfl, h, _, _, rfl, rfl, _, _, rfl, rfl, x, _, rfl, hx, rfl⟩ := h
  obtain ⟨b, xs, rfl, hb, hxs⟩ := hx
  exact ⟨a, b, xs, rfl, h, hb, hxs⟩
theorem mk_go {p : Addr} {s q : Int} (h : H p = none) : TAt (upd H p (.tup [.str "go", .int s, .int q])) (.go s q) (.ref p) :=
  ⟨p, _, rfl, upd_same, _, _, rfl, rfl, _, _, rfl, rfl, _, _, rfl, rfl, rfl⟩
theorem mk_tell {p : Addr} {n : Int} {t : Tree} (h : H p = none) (ht : TAt H t v) : TAt (upd H p (.tup [.str "tell", .int n, v])) (.tell n t) (.ref p) :=
  ⟨p, _, rfl, upd_same, _, _, rfl, rfl, _, _, rfl, rfl, v, _, rfl, (Ext.refl (m := [])|>.fresh h).dat ht, rfl⟩
theorem mk_read {p b : Addr} {i : Int} {ts : List Tree} {xs : List V} (h : H p = none) (hb : H b = some (.tup xs)) (ht : TsAt H ts xs) : TAt (upd H p (.tup [.str "read", .int i, .ref b])) (.read i ts) (.ref p) :=
  ⟨p, _, rfl, upd_same, _, _, rfl, rfl, _, _, rfl, rfl, .ref b, _, rfl, ⟨b, xs, rfl, by rw [upd_ne (ne_of_none hb h)]; exact hb, (Ext.refl (m := [])|>.fresh h).dats ht⟩, rfl⟩
end
theorem tup_at {xs : List V} {j : Nat} {v : V} {z : Int} (h : xs[j]? = some v) (e : z = (j : Int) := by rfl) : atI xs z = some v := at_of e h

/-! ### tests whose answer is known -/
theorem iteF' {b : Bool} {A B : Prop} (hb : b = false) (h : B) : if b = true then A else B := by
  rw [hb]
  exact iteF h
theorem iteT' {b : Bool} {A B : Prop} (hb : b = true) (h : A) : if b = true then A else B := by
  rw [hb]
  exact iteT h
theorem iteD {c A B : Prop} [Decidable c] (hc : c) (h : A) : if decide c = true then A else B := by
  rw [decide_eq_true hc]
  exact iteT h
theorem iteN {c A B : Prop} [Decidable c] (hc : ¬ c) (h : B) : if decide c = true then A else B := by
  rw [decide_eq_false hc]
  exact iteF h
theorem iteD2 {c A B : Prop} [Decidable c] (h1 : c → A) (h2 : ¬ c → B) : if decide c = true then A else B := by
  by_cases h : c
  · exact iteD h (h1 h)
  · exact iteN h (h2 h)
theorem iteNN {c A B : Prop} [Decidable c] (hc : ¬ c) (h : A) : if (!decide c) = true then A else B := by
  rw [decide_eq_false hc]
  exact iteT h
theorem dec_t {c : Prop} [Decidable c] {Q : V → Hp → Prop} {H : Hp} (hc : c) (q : Q (.bl true) H) : Q (.bl (decide c)) H := by
  rw [decide_eq_true hc]
  exact q
theorem dec_f {c : Prop} [Decidable c] {Q : V → Hp → Prop} {H : Hp} (hc : ¬ c) (q : Q (.bl false) H) : Q (.bl (decide c)) H := by
  rw [decide_eq_false hc]
  exact q

/-! ### a comprehension without tests: I by the turn, Rel what the i-th item is -/
def Tups (H H' : Hp) : Prop := ∀ b xs, H b = some (.tup xs) → H' b = some (.tup xs)
theorem Tups.refl (H : Hp) : Tups H H := fun _ _ h => h
theorem Tups.lst {H : Hp} {D : Addr} {xs : List V} {o : HO} (h : H D = some (.lst xs)) : Tups H (upd H D o) := fun b ys e => by
  rw [upd_ne (show b ≠ D from fun z => by subst z; rw [h] at e; cases e)]
  exact e
theorem lc_rel {J : It} {n : Nat} {G : Hp → Prop} {Y : Nat → Hp → V → Hp → Prop} (w : Walk J n G Y) {g : TG} {te : TE} {vs : List Nat} {σ : L2.St} {H1 : Hp} {D : Addr} {Qd : Hp → Prop} (I : Nat → Hp → Prop) (Rel : Nat → Hp → V → Prop)
    (hn : n ≤ 100000) (h0 : I 0 (upd H1 D (.lst []))) (hG : ∀ i H, i ≤ n → I i H → G H) (hst : ∀ j H H' y, Tups H H' → Rel j H y → Rel j H' y) (hI : ∀ i H o, I i H → I i (upd H D o))
    (hs : ∀ i x H H' (Nx : V → Hp → Prop), i < n → I i H → (∃ zs, H D = some (.lst zs)) → Y i H x H' → (∀ y H4, I (i + 1) H4 → Tups H H4 → H4 D = H D → Rel i H4 y → Nx y H4) → g x (wipe σ vs) H' fun σ2 H2 => wipe σ2 vs = wipe σ vs ∧ te σ2 H2 Nx)
    (hd : ∀ H ys, I n H → H D = some (.lst ys) → ys.length = n → (∀ j y, ys[j]? = some y → Rel j H y) → Qd H) :
    ∃ W : Nat → Nat → Hp → Prop, (∃ m, W 0 m (upd H1 D (.lst []))) ∧ ∀ i m H, W i m H →
      (J.stop i H ∧ Qd H) ∨ (J.go i H ∧ ∃ Nx : Hp → Prop, (∀ H', Nx H' → ∃ m', m' < m ∧ W (i + 1) m' H') ∧ ∀ x H', J.yld i H x H' → g x (wipe σ vs) H' fun σ2 H2 => wipe σ2 vs = wipe σ vs ∧ tYes σ2 H2 fun b H3 =>
        if b = true then te σ2 H3 fun y H4 => ∃ acc, H4 D = some (.lst acc) ∧ acc.length < sizeLine ∧ Nx (upd H4 D (.lst (acc ++ [y]))) else Nx H3) := by
  refine ⟨fun i m H => m = n - i ∧ i ≤ n ∧ I i H ∧ ∃ ys, H D = some (.lst ys) ∧ ys.length = i ∧ ∀ j y, ys[j]? = some y → Rel j H y, ⟨n, by simp, Nat.zero_le _, h0, [], upd_same, rfl, fun j y e => by simp at e⟩, ?_⟩
  rintro i m H ⟨rfl, hi, p, ys, hD, hl, hR⟩
  have q := hG i H hi p
  by_cases hlt : i < n
  · refine .inr ⟨w.goes i H hlt q, fun H' => i + 1 ≤ n ∧ I (i + 1) H' ∧ ∃ ys, H' D = some (.lst ys) ∧ ys.length = i + 1 ∧ ∀ j y, ys[j]? = some y → Rel j H' y, fun H' p' => ⟨n - (i + 1), by omega, rfl, p'⟩, fun x H' hy => ?_⟩
    have z := hs i x H H' (fun y H4 => ∃ acc, H4 D = some (.lst acc) ∧ acc.length < sizeLine ∧ i + 1 ≤ n ∧ I (i + 1) (upd H4 D (.lst (acc ++ [y]))) ∧ ∃ ys, (upd H4 D (.lst (acc ++ [y]))) D = some (.lst ys) ∧ ys.length = i + 1 ∧ ∀ j z, ys[j]? = some z → Rel j (upd H4 D (.lst (acc ++ [y]))) z) hlt p ⟨ys, hD⟩ (w.yields i H x H' hlt q hy) (fun y H4 p4 t4 d4 r4 => ?_)
    · exact z
    · rw [hD] at d4
      refine ⟨ys, d4, by rw [sizeLine_eq]; omega, hlt, hI _ _ _ p4, ys ++ [y], upd_same, by rw [List.length_append, hl]; rfl, fun j z e => ?_⟩
      have tt := Tups.lst (o := .lst (ys ++ [y])) d4
      by_cases hj : j < ys.length
      · rw [List.getElem?_append_left hj] at e
        exact hst _ _ _ _ tt (hst _ _ _ _ t4 (hR j z e))
      · rw [List.getElem?_append_right (by omega)] at e
        have hj2 : j = i := by
          have := (List.getElem?_eq_some_iff.mp e).1
          simp at this
          omega
        subst hj2
        rw [hl, Nat.sub_self] at e
        have ez : y = z := by simpa using e
        subst ez
        exact hst _ _ _ _ tt r4
  · have e : i = n := by omega
    subst e
    exact .inl ⟨w.stops H q, hd H ys p hD hl hR⟩
theorem all_same {ys : List V} {v : V} (h : ∀ (j : Nat) y, ys[j]? = some y → y = v) : ys = List.replicate ys.length v :=
  List.eq_replicate_iff.mpr ⟨rfl, fun b hb => by
    obtain ⟨i, hi, e⟩ := List.mem_iff_getElem.mp hb
    exact h i b (by rw [List.getElem?_eq_getElem hi, e])⟩
theorem bl_true (n : Nat) : List.replicate n (V.bl true) = (List.replicate n true).map V.bl := by rw [List.map_replicate]
theorem all_true (n : Nat) : (List.replicate n true).all id = true := by
  rw [List.all_eq_true]
  intro x hx
  rw [List.eq_of_mem_replicate hx]; rfl

/-! ### tuples as data added -/
def rCatD : R2 := fun x y H Q => ∃ ds es, DAt H (.tuple ds) x ∧ DAt H (.tuple es) y ∧ ds.length + es.length ≤ 100000 ∧ ∀ z H', Ext [] H H' → DAt H' (.tuple (ds ++ es)) z → Q z H'
theorem op_catD {X : Cx} : OpR X (binaryOp .Add) rCatD := by
  intro pins s σ H x y v u Q I rx ry h
  obtain ⟨ds, es, ⟨a, xs, rfl, ha, hxs⟩, ⟨b, ys, rfl, hb, hys⟩, hl, q⟩ := h
  have l1 := hxs.length
  have l2 := hys.length
  refine op_catA pins s σ H _ _ v u Q I rx ry ⟨a, b, xs, ys, rfl, rfl, SqT.of ha, SqT.of hb, small (by omega), fun e => ?_, fun e1 e2 => ?_, fun e1 e2 p np => ?_⟩
  · have e' : ds = [] := List.eq_nil_of_length_eq_zero (by rw [← l1, e]; rfl)
    exact q _ _ Ext.refl (by rw [e']; exact ⟨b, ys, rfl, hb, hys⟩)
  · have e' : es = [] := List.eq_nil_of_length_eq_zero (by rw [← l2, e2]; rfl)
    exact q _ _ Ext.refl (by rw [e', List.append_nil]; exact ⟨a, xs, rfl, ha, hxs⟩)
  · exact q _ _ (Ext.refl.fresh np) (DAt.tup np (hxs.append hys))
/-! ### signs -/
theorem dot_iff {c : Nat} : (V.str ⟨#[c]⟩ = V.str ".") ↔ c = 46 := by
  have e : ("." : Str) = ⟨#[46]⟩ := by decide +kernel
  rw [e]
  constructor
  · intro h
    injection h with h
    injection h with h
    simpa using h
  · intro h
    rw [h]
theorem sgn_iff {c d : Nat} : (V.str ⟨#[c]⟩ = V.str ⟨#[d]⟩) ↔ c = d := by
  constructor
  · intro h
    injection h with h
    injection h with h
    simpa using h
  · intro h
    rw [h]
theorem inV_dot {kc c : Nat} : inV (.str ⟨#[kc]⟩) [.str ".", .str ⟨#[c]⟩] = decide (kc = 46 ∨ kc = c) := by
  have e1 : eqV (.str ".") (.str ⟨#[kc]⟩) = decide (kc = 46) := by
    have e : ("." : Str) = ⟨#[46]⟩ := by decide +kernel
    rw [e]
    unfold eqV
    by_cases h : kc = 46
    · rw [h]; decide +kernel
    · rw [decide_eq_false h]
      simp
      intro z
      exact h z.symm
  have e2 : eqV (.str ⟨#[c]⟩) (.str ⟨#[kc]⟩) = decide (kc = c) := by
    unfold eqV
    by_cases h : kc = c
    · rw [h]; simp
    · rw [decide_eq_false h]
      simp
      intro z
      exact h z.symm
  unfold inV
  rw [List.any_cons, List.any_cons, List.any_nil, e1, e2]
  simp
theorem made_ext {m : List Addr} {H1 H' : Hp} {x dx C : Addr} (nx : H1 x = none) (nd : H1 dx = none) (e : Ext [x] (upd (upd H1 dx (.own x)) x (.ins C dx [])) H') : Ext m H1 H' := by
  refine ⟨fun b o h _ => ?_, fun b xs h => ?_⟩
  · have h1 := ne_of_none h nx
    refine e.keep b o ?_ (by simpa using h1)
    rw [upd_ne h1, upd_ne (ne_of_none h nd)]
    exact h
  · have h1 := ne_of_none h nx
    refine e.tups b xs ?_
    rw [upd_ne h1, upd_ne (ne_of_none h nd)]
    exact h
end K21

set_option Elab.async false
set_option linter.all false
set_option maxRecDepth 100000
set_option maxHeartbeats 4000000
/-! zip of texts and tuples, enumerate of a text -/
namespace K21
open PySem PySem.Spec PyProof.Rows L2

/-- zip of two texts -/
def ItzSS (x y : Str) : It :=
  ⟨fun i _ => i < x.cps.size ∧ i < y.cps.size,
    fun i H v H' => ∃ T c d, v = .ref T ∧ H T = none ∧ H' = upd H T (.tup [.str ⟨#[c]⟩, .str ⟨#[d]⟩]) ∧ x.cps[i]? = some c ∧ y.cps[i]? = some d,
    fun i _ => i ≤ x.cps.size ∧ i ≤ y.cps.size ∧ (i = x.cps.size ∨ i = y.cps.size)⟩
/-- zip of a text and a tuple -/
def ItzST (K : PySem.W.Frag) (x : Str) (l : Addr) : It :=
  ⟨fun i H => i < x.cps.size ∧ ∃ (ys : List V) (y : V), SqT K H l ys ∧ ys[i]? = some y,
    fun i H v H' => ∃ T c y, v = .ref T ∧ H T = none ∧ H' = upd H T (.tup [.str ⟨#[c]⟩, y]) ∧ x.cps[i]? = some c ∧ ∀ ys, SqT K H l ys → ys[i]? = some y,
    fun i H => i = x.cps.size ∧ ∃ ys : List V, SqT K H l ys ∧ i = ys.length⟩
/-- enumerate of a text -/
def IteS (x : Str) : It :=
  ⟨fun i _ => i < x.cps.size,
    fun i H v H' => ∃ T c, v = .ref T ∧ H T = none ∧ H' = upd H T (.tup [.int (i : Nat), .str ⟨#[c]⟩]) ∧ x.cps[i]? = some c,
    fun i _ => i = x.cps.size⟩
theorem strIter_obj {h : Heap} {it : Addr} {ty : String} {x : Str} {t : Tok} {i : Nat} (st : h.IsStrIter it ty x t i) : ∃ o, h.get? it = some o ∧ ∀ v, o.data ≠ .cell v := by
  obtain ⟨o, e, c, d⟩ := st
  exact ⟨o, e, fun v z => by rw [d] at z; cases z⟩
theorem strIter_at {h h' : Heap} {it : Addr} {ty : String} {x : Str} {t : Tok} {i : Nat} (st : h.IsStrIter it ty x t i) (k : ∀ o, h.get? it = some o → h'.get? it = some o) : h'.IsStrIter it ty x t i :=
  let ⟨o, e, r⟩ := st; ⟨o, k o e, r⟩
theorem five {c z TI TO i1 i2 : Addr} (h : c ∈ [z, TI, TO, i1, i2]) : c = z ∨ c = TI ∨ c = TO ∨ c = i1 ∨ c = i2 := by simpa using h

theorem turn_zipSS {P : Program} {w : World} {K : PySem.W.Frag} {elts : List Expr} {kk : Nat} {tpos : Pos} {x y : Str} {t u : Tok} {z TI TO i1 i2 : Addr} (D : ZipSep2 z TI TO i1 i2 [i1] [i2]) :
    Turn P w K (.Tuple elts kk tpos) (ItzSS x y) [z, TI, TO, i1, i2] z (fun i h => IsZip h z TI TO .none ∧ IsTupOf2 h TI (.ref i1) (.ref i2) ∧ (∃ a b, IsTupOf2 h TO a b) ∧ h.IsStrIter i1 (strIterType x) x t i ∧ h.IsStrIter i2 (strIterType y) y u i) where
  mem := by simp
  obj := fun i h st c hc => by
    obtain ⟨hz, hTI, ⟨a, b, hTO⟩, h1, h2⟩ := st
    rcases five hc with q | q | q | q | q
    · rw [q]; exact ⟨_, hz, fun v q => nomatch q⟩
    · rw [q]; exact ⟨_, hTI, fun v q => nomatch q⟩
    · rw [q]; exact ⟨_, hTO, fun v q => nomatch q⟩
    · rw [q]; exact strIter_obj h1
    · rw [q]; exact strIter_obj h2
  keep := fun i h h' st k => by
    obtain ⟨hz, hTI, ⟨a, b, hTO⟩, h1, h2⟩ := st
    exact ⟨k z (by simp) _ hz, k TI (by simp) _ hTI, ⟨a, b, k TO (by simp) _ hTO⟩, strIter_at h1 fun o q => k i1 (by simp) o q, strIter_at h2 fun o q => k i2 (by simp) o q⟩
  item := by
    intro X hP hw hK hc i pins s σ H E I hf st hg
    subst hP hw hK
    obtain ⟨hz, hTI, ⟨a0, b0, hTO⟩, h1, h2⟩ := st
    obtain ⟨g1, g2⟩ := hg
    have hzl : z < s.heap.objs.size := Heap.lt_size hz
    have D1 := Draws.text (prog := X.prog) (w := X.w) (A := X.A.in1) (I.ok.hd hc) i1 x t
    have D2 := Draws.text (prog := X.prog) (w := X.w) (A := X.A.in1) (I.ok.hd hc) i2 y u
    refine wpAny_pyNext_zipD2_item D D1 D2 hz hTI hTO h1 h2 g1 g2 fun x1 x2 h' tk p1 p2 z' TO' h1' h2' hT hsz hk => ?_
    obtain ⟨c, t1, hc1, rfl⟩ := p1
    obtain ⟨d, t2, hd1, rfl⟩ := p2
    refine ⟨_, rfl, wpAny_letOwnedTupleGo_zip (s := { s with heap := h', toks := tk }) z' fun h'' z'' sb => ?_⟩
    have hT2 : h''.get? s.heap.objs.size = some { cls := .type "tuple", data := .seq #[.str ⟨#[c]⟩ t1, .str ⟨#[d]⟩ t2] } := (sb.2 _ (Nat.ne_of_gt hzl)).trans hT
    have new : ObjOk X.prog X.w (upd H s.heap.objs.size (.tup [.str ⟨#[c]⟩, .str ⟨#[d]⟩])) h'' s.heap.objs.size (.tup [.str ⟨#[c]⟩, .str ⟨#[d]⟩]) :=
      ⟨by show 2 ≤ sizeLine; decide, [.str ⟨#[c]⟩ t1, .str ⟨#[d]⟩ t2], .cons ⟨_, rfl⟩ (.cons ⟨_, rfl⟩ .nil), ⟨_, hT2, rfl, _, rfl⟩⟩
    have I1 : Inv X pins σ (upd H s.heap.objs.size (.tup [.str ⟨#[c]⟩, .str ⟨#[d]⟩])) { s with heap := h'', toks := tk } :=
      I.turnedNew (t' := tk) (ch := [z, TI, TO, i1, i2]) (fun c o hb q => (sb.2 c (fun q' => hb (by simp [q']))).trans (hk c o (fun q' => hb (by simp [q'])) (fun q' => hb (by simp [q'])) (fun q' => hb (by simp [q'])) (fun q' => hb (by simp [q'])) q)) hf (Nat.le_refl _) new
    refine ⟨.ref s.heap.objs.size, _, I1, rfl, ⟨_, c, d, rfl, I.hok.fresh (Nat.le_refl _), rfl, hc1, hd1⟩, ⟨z'', ?_, ⟨_, _, (sb.2 _ D.TOz).trans TO'⟩, ?_, ?_⟩, fun c hcm => ?_⟩
    · exact (sb.2 _ D.TIz).trans (hk _ _ D.TIz D.TITO D.TIi1 D.TIi2 hTI)
    · exact strIter_at h1' fun o q => (sb.2 _ D.zi1.symm).trans q
    · exact strIter_at h2' fun o q => (sb.2 _ D.zi2.symm).trans q
    · have hlt : c < s.heap.objs.size := by
        rcases five hcm with q | q | q | q | q
        · rw [q]; exact hzl
        · rw [q]; exact Heap.lt_size hTI
        · rw [q]; exact Heap.lt_size hTO
        · rw [q]; obtain ⟨_, e1, _⟩ := h1; exact Heap.lt_size e1
        · rw [q]; obtain ⟨_, e2, _⟩ := h2; exact Heap.lt_size e2
      rw [upd_ne (Nat.ne_of_lt hlt)]
      exact (hf c hcm).1
  done := by
    intro X hP hw hK hc i pins s σ H E I hf st hg
    subst hP hw hK
    obtain ⟨hz, hTI, ⟨a0, b0, hTO⟩, h1, h2⟩ := st
    obtain ⟨l1, l2, he⟩ := hg
    have D1 := Draws.text (prog := X.prog) (w := X.w) (A := X.A.in1) (I.ok.hd hc) i1 x t
    have D2 := Draws.text (prog := X.prog) (w := X.w) (A := X.A.in1) (I.ok.hd hc) i2 y u
    exact wpAny_pyNext_zipD2_end D D1 D2 hz hTI hTO h1 h2 l1 l2 he fun h' tk hk => ⟨rfl, I.turnedL (t' := tk) (ch := [z, TI, TO, i1, i2]) (fun c o hb q =>
      hk c o (fun q' => hb (by simp [q'])) (fun q' => hb (by simp [q'])) (fun q' => hb (by simp [q'])) (fun q' => hb (by simp [q'])) q) hf⟩
  self := fun A i s Q E st h => wpAny_pyIter_zip st.1 h

theorem turn_zipST {P : Program} {w : World} {K : PySem.W.Frag} {elts : List Expr} {kk : Nat} {tpos : Pos} {x : Str} {t : Tok} {l z TI TO i1 i2 : Addr} (D : ZipSep2 z TI TO i1 i2 [i1] [i2, l]) :
    Turn P w K (.Tuple elts kk tpos) (ItzST K x l) [z, TI, TO, i1, i2] z (fun i h => IsZip h z TI TO .none ∧ IsTupOf2 h TI (.ref i1) (.ref i2) ∧ (∃ a b, IsTupOf2 h TO a b) ∧ h.IsStrIter i1 (strIterType x) x t i ∧ h.IsTupleIter i2 l i) where
  mem := by simp
  obj := fun i h st c hc => by
    obtain ⟨hz, hTI, ⟨a, b, hTO⟩, h1, ⟨o2, e2, _, d2⟩⟩ := st
    rcases five hc with q | q | q | q | q
    · rw [q]; exact ⟨_, hz, fun v q => nomatch q⟩
    · rw [q]; exact ⟨_, hTI, fun v q => nomatch q⟩
    · rw [q]; exact ⟨_, hTO, fun v q => nomatch q⟩
    · rw [q]; exact strIter_obj h1
    · rw [q]; exact ⟨o2, e2, fun v q => by rw [d2] at q; cases q⟩
  keep := fun i h h' st k => by
    obtain ⟨hz, hTI, ⟨a, b, hTO⟩, h1, h2⟩ := st
    exact ⟨k z (by simp) _ hz, k TI (by simp) _ hTI, ⟨a, b, k TO (by simp) _ hTO⟩, strIter_at h1 fun o q => k i1 (by simp) o q, h2.at fun o q => k i2 (by simp) o q⟩
  item := by
    intro X hP hw hK hc i pins s σ H E I hf st hg
    subst hP hw hK
    obtain ⟨hz, hTI, ⟨a0, b0, hTO⟩, h1, h2⟩ := st
    obtain ⟨g1, ys, y, hq, hy⟩ := hg
    obtain ⟨its, rv, p, _⟩ := I.tuple hq
    obtain ⟨u, hu, ru⟩ := rv.get hy
    have hzl : z < s.heap.objs.size := Heap.lt_size hz
    have hli : l ≠ i2 := by
      intro e
      obtain ⟨o1, q1, c1, _⟩ := id h2
      obtain ⟨o2, q2, c2, _⟩ := id p
      rw [e, q1] at q2
      cases q2
      rw [c1] at c2
      simp at c2
    have hsz2 : i < its.toArray.size := by
      have := (List.getElem?_eq_some_iff.mp hu).1
      simpa using this
    have D1 := Draws.text (prog := X.prog) (w := X.w) (A := X.A.in1) (I.ok.hd hc) i1 x t
    have D2 := Draws.tuple (prog := X.prog) (w := X.w) (A := X.A.in1) (I.ok.hd hc) i2 l hli its.toArray
    refine wpAny_pyNext_zipD2_item D D1 D2 hz hTI hTO h1 ⟨h2, p⟩ g1 hsz2 fun x1 x2 h' tk p1 p2 z' TO' h1' h2' hT hsz hk => ?_
    obtain ⟨c, t1, hc1, rfl⟩ := p1
    have ex2 : x2 = u := by
      have q : its[i]? = some x2 := by simpa using p2
      rw [hu] at q
      exact (Option.some.inj q).symm
    subst ex2
    refine ⟨_, rfl, wpAny_letOwnedTupleGo_zip (s := { s with heap := h', toks := tk }) z' fun h'' z'' sb => ?_⟩
    have hT2 : h''.get? s.heap.objs.size = some { cls := .type "tuple", data := .seq #[.str ⟨#[c]⟩ t1, x2] } := (sb.2 _ (Nat.ne_of_gt hzl)).trans hT
    have new : ObjOk X.prog X.w (upd H s.heap.objs.size (.tup [.str ⟨#[c]⟩, y])) h'' s.heap.objs.size (.tup [.str ⟨#[c]⟩, y]) :=
      ⟨by show 2 ≤ sizeLine; decide, [.str ⟨#[c]⟩ t1, x2], .cons ⟨_, rfl⟩ (.cons ru .nil), ⟨_, hT2, rfl, _, rfl⟩⟩
    have I1 : Inv X pins σ (upd H s.heap.objs.size (.tup [.str ⟨#[c]⟩, y])) { s with heap := h'', toks := tk } :=
      I.turnedNew (t' := tk) (ch := [z, TI, TO, i1, i2]) (fun c o hb q => (sb.2 c (fun q' => hb (by simp [q']))).trans (hk c o (fun q' => hb (by simp [q'])) (fun q' => hb (by simp [q'])) (fun q' => hb (by simp [q'])) (fun q' => hb (by simp [q'])) q)) hf (Nat.le_refl _) new
    refine ⟨.ref s.heap.objs.size, _, I1, rfl, ⟨_, c, y, rfl, I.hok.fresh (Nat.le_refl _), rfl, hc1, fun zs hz => by rw [I.tuple_inj hz hq]; exact hy⟩, ⟨z'', ?_, ⟨_, _, (sb.2 _ D.TOz).trans TO'⟩, ?_, ?_⟩, fun c hcm => ?_⟩
    · exact (sb.2 _ D.TIz).trans (hk _ _ D.TIz D.TITO D.TIi1 D.TIi2 hTI)
    · exact strIter_at h1' fun o q => (sb.2 _ D.zi1.symm).trans q
    · exact h2'.1.at fun o q => (sb.2 _ D.zi2.symm).trans q
    · have hlt : c < s.heap.objs.size := by
        rcases five hcm with q | q | q | q | q
        · rw [q]; exact hzl
        · rw [q]; exact Heap.lt_size hTI
        · rw [q]; exact Heap.lt_size hTO
        · rw [q]; obtain ⟨_, e1, _⟩ := h1; exact Heap.lt_size e1
        · rw [q]; obtain ⟨_, e2, _⟩ := h2; exact Heap.lt_size e2
      rw [upd_ne (Nat.ne_of_lt hlt)]
      exact (hf c hcm).1
  done := by
    intro X hP hw hK hc i pins s σ H E I hf st hg
    subst hP hw hK
    obtain ⟨hz, hTI, ⟨a0, b0, hTO⟩, h1, h2⟩ := st
    obtain ⟨l1, ys, hq, l2⟩ := hg
    obtain ⟨its, rv, p, _⟩ := I.tuple hq
    have hli : l ≠ i2 := by
      intro e
      obtain ⟨o1, q1, c1, _⟩ := id h2
      obtain ⟨o2, q2, c2, _⟩ := id p
      rw [e, q1] at q2
      cases q2
      rw [c1] at c2
      simp at c2
    have hl := rv.length
    have D1 := Draws.text (prog := X.prog) (w := X.w) (A := X.A.in1) (I.ok.hd hc) i1 x t
    have D2 := Draws.tuple (prog := X.prog) (w := X.w) (A := X.A.in1) (I.ok.hd hc) i2 l hli its.toArray
    exact wpAny_pyNext_zipD2_end D D1 D2 hz hTI hTO h1 ⟨h2, p⟩ (Nat.le_of_eq l1) (by simp; omega) (.inl l1) fun h' tk hk => ⟨rfl, I.turnedL (t' := tk) (ch := [z, TI, TO, i1, i2]) (fun c o hb q =>
      hk c o (fun q' => hb (by simp [q'])) (fun q' => hb (by simp [q'])) (fun q' => hb (by simp [q'])) (fun q' => hb (by simp [q'])) q) hf⟩
  self := fun A i s Q E st h => wpAny_pyIter_zip st.1 h

theorem turn_enumS {P : Program} {w : World} {K : PySem.W.Frag} {elts : List Expr} {kk : Nat} {tpos : Pos} {x : Str} {t : Tok} {e it : Addr} (hne : e ≠ it) :
    Turn P w K (.Tuple elts kk tpos) (IteS x) [e, it] e (fun i h => (∃ old, IsEnum h e it ((i : Nat) : Int) old) ∧ h.IsStrIter it (strIterType x) x t i) where
  mem := by simp
  obj := fun i h st b hb => by
    obtain ⟨⟨old, he⟩, h1⟩ := st
    have e' : b = e ∨ b = it := by simpa using hb
    rcases e' with z | z
    · rw [z]; exact ⟨_, he, fun v q => nomatch q⟩
    · rw [z]; exact strIter_obj h1
  keep := fun i h h' st k => let ⟨⟨old, he⟩, hi⟩ := st; ⟨⟨old, k e (by simp) _ he⟩, strIter_at hi fun o q => k it (by simp) o q⟩
  item := by
    intro X hP hw hK hc i pins s σ H E I hf st hg
    subst hP hw hK
    obtain ⟨⟨old, he⟩, hit⟩ := st
    have hel : e < s.heap.objs.size := Heap.lt_size he
    have hil : it < s.heap.objs.size := by obtain ⟨_, q, _⟩ := hit; exact Heap.lt_size q
    have DE := Draws.text (prog := X.prog) (w := X.w) (A := X.A.in1) (I.ok.hd hc) it x t
    refine wpAny_pyNext_enum_itemD DE he hit hg hne (by simpa using hne) fun x1 h' tk p1 ho hit' hT hsz hk => ?_
    obtain ⟨c, t1, hc1, rfl⟩ := p1
    refine ⟨_, rfl, wpAny_letOwnedTupleGo_enum (s := { s with heap := h', toks := tk + 1 }) ho fun h'' he' sb => ?_⟩
    have hT2 : h''.get? s.heap.objs.size = some { cls := .type "tuple", data := .seq #[.int i tk, .str ⟨#[c]⟩ t1] } := (sb.2 _ (Nat.ne_of_gt hel)).trans hT
    have new : ObjOk X.prog X.w (upd H s.heap.objs.size (.tup [.int (i : Nat), .str ⟨#[c]⟩])) h'' s.heap.objs.size (.tup [.int (i : Nat), .str ⟨#[c]⟩]) :=
      ⟨by show 2 ≤ sizeLine; decide, [.int i tk, .str ⟨#[c]⟩ t1], .cons ⟨_, rfl⟩ (.cons ⟨_, rfl⟩ .nil), ⟨_, hT2, rfl, _, rfl⟩⟩
    have I1 : Inv X pins σ (upd H s.heap.objs.size (.tup [.int (i : Nat), .str ⟨#[c]⟩])) { s with heap := h'', toks := tk + 1 } :=
      I.turnedNew (t' := tk + 1) (ch := [e, it]) (fun b ob hb q => (sb.2 b (fun z => hb (by simp [z]))).trans (hk b ob (fun z => hb (by simp [z])) (fun z => hb (by simp [z])) q)) hf (Nat.le_refl _) new
    refine ⟨.ref s.heap.objs.size, _, I1, rfl, ⟨_, c, rfl, I.hok.fresh (Nat.le_refl _), rfl, hc1⟩, ⟨⟨.str ⟨#[c]⟩ t1, ?_⟩, strIter_at hit' fun o q => (sb.2 it (Ne.symm hne)).trans q⟩, fun b hb => ?_⟩
    · have e1 : ((i + 1 : Nat) : Int) = (i : Int) + 1 := by omega
      rw [e1]; exact he'
    · have hb' : b < s.heap.objs.size := by
        have e' : b = e ∨ b = it := by simpa using hb
        rcases e' with z | z
        · rw [z]; exact hel
        · rw [z]; exact hil
      rw [upd_ne (Nat.ne_of_lt hb')]
      exact (hf b hb).1
  done := by
    intro X hP hw hK hc i pins s σ H E I hf st hg
    subst hP hw hK
    obtain ⟨⟨old, he⟩, hit⟩ := st
    have hg' : i = x.cps.size := hg
    subst hg'
    obtain ⟨f0, f1, f2, f3, f4, f5⟩ := hf it (by simp)
    have DE := Draws.text (prog := X.prog) (w := X.w) (A := X.A.in1) (I.ok.hd hc) it x t
    exact wpAny_pyNext_enum_endD DE he hit fun h' eb => ⟨rfl, I.turned (t' := s.toks) (fun b o hb q => eb b o hb q) f0 f1 f3 f4 f5⟩
  self := fun A i s Q E st h => let ⟨⟨_, he⟩, _⟩ := st; wpAny_pyIter_enum he h

section
variable {X : Cx} {e e2 : Expr} {te te2 : TE} {p pos tpos : Pos} {elts : List Expr} {kk : Nat}
def iZipSS (te te2 : TE) : TI := fun σ H R => te σ H fun v H1 => te2 σ H1 fun v2 H2 => ∃ x y, v = .str x ∧ v2 = .str y ∧ R (ItzSS x y) H2
def iZipST (K : PySem.W.Frag) (te te2 : TE) : TI := fun σ H R => te σ H fun v H1 => te2 σ H1 fun v2 H2 => ∃ x l ys, v = .str x ∧ v2 = .ref l ∧ SqT K H2 l ys ∧ R (ItzST K x l) H2
def iEnumS (te : TE) : TI := fun σ H R => te σ H fun v H1 => ∃ x, v = .str x ∧ R (IteS x) H1
theorem fresh5 {pins : List (Addr × Obj)} {σ : L2.St} {H : Hp} {s : Shared} (I : Inv X pins σ H s) : ∀ c, c ∈ [s.heap.objs.size + 4, s.heap.objs.size + 2, s.heap.objs.size + 3, s.heap.objs.size, s.heap.objs.size + 1] → FpOk X pins H c := fun c hcm => by
  have hle : s.heap.objs.size ≤ c := by
    rcases five hcm with z | z | z | z | z <;> (rw [z]; first | exact Nat.le_add_right _ _ | exact Nat.le_refl _)
  exact I.fpOk hle (I.hok.fresh hle)
theorem pi_zipSS (hg : Gl X "zip") (hm : X.mg "zip" = none) (he : PE X e te) (he2 : PE X e2 te2) (hs : starEach [e, e2] X.env = (false, eval e X.env) :: starEach [e2] X.env := by rfl) (hpl : (backTo pos (starEach [e2] X.env)).any (·.1) = false := by rfl)
    (hs2 : starEach [e2] X.env = (false, eval e2 X.env) :: starEach [] X.env := by rfl) : PI X (.Tuple elts kk tpos) (.Call (.Name "zip" p) [e, e2] [] pos) (iZipSS te te2) := by
  refine ⟨fun pins s σ H R I h => ?_⟩
  refine Call_ (ld_blt I hg hm PyProof.Rows.boot_zip (PyProof.Rows.callWith_type1 (PyProof.Rows.args_cons (thn (he.run pins s σ H _ I h) fun v s1 ⟨x, H1, I1, r1, q1⟩ => PyProof.Rows.args_cons (thn (he2.run pins s1 σ H1 _ I1 q1) fun u s2 ⟨y, H2, I2, r2, q2⟩ => PyProof.Rows.args_nil ?_) hs2) hs) hs hpl))
  obtain ⟨a, b, rfl, rfl, q⟩ := q2
  obtain ⟨t, rfl⟩ := r1
  obtain ⟨t2, rfl⟩ := r2
  refine zip_begins2 (begins_text a t) (begins_text b t2) trivial trivial fun h' hz hTI hTO h1 h2 hsz hk => wpAny_pyIter_zip hz ?_
  have I3 : Inv X pins σ H2 { s2 with heap := h' } := I2.kept (t' := s2.toks) hk
  exact ⟨s2.heap.objs.size + 4, _, _, _, H2, rfl, I3, turn_zipSS (t := t) (u := t2) (zip_sep2 (fun _ z => (List.not_mem_nil z).elim) (fun _ z => (List.not_mem_nil z).elim)), ⟨hz, hTI, ⟨_, _, hTO⟩, ⟨_, h1, rfl, rfl⟩, ⟨_, h2, rfl, rfl⟩⟩, fresh5 I2, q⟩
theorem pi_zipST (hg : Gl X "zip") (hm : X.mg "zip" = none) (he : PE X e te) (he2 : PE X e2 te2) (hs : starEach [e, e2] X.env = (false, eval e X.env) :: starEach [e2] X.env := by rfl) (hpl : (backTo pos (starEach [e2] X.env)).any (·.1) = false := by rfl)
    (hs2 : starEach [e2] X.env = (false, eval e2 X.env) :: starEach [] X.env := by rfl) : PI X (.Tuple elts kk tpos) (.Call (.Name "zip" p) [e, e2] [] pos) (iZipST X.K te te2) := by
  refine ⟨fun pins s σ H R I h => ?_⟩
  refine Call_ (ld_blt I hg hm PyProof.Rows.boot_zip (PyProof.Rows.callWith_type1 (PyProof.Rows.args_cons (thn (he.run pins s σ H _ I h) fun v s1 ⟨x, H1, I1, r1, q1⟩ => PyProof.Rows.args_cons (thn (he2.run pins s1 σ H1 _ I1 q1) fun u s2 ⟨y, H2, I2, r2, q2⟩ => PyProof.Rows.args_nil ?_) hs2) hs) hs hpl))
  obtain ⟨a, l, ys, rfl, rfl, hq, q⟩ := q2
  obtain ⟨t, rfl⟩ := r1
  cases r2
  obtain ⟨its, rv, p1, _⟩ := I2.tuple hq
  refine zip_begins2 (begins_text a t) (begins_tuple l its.toArray) trivial p1 fun h' hz hTI hTO h1 h2 hsz hk => wpAny_pyIter_zip hz ?_
  have I3 : Inv X pins σ H2 { s2 with heap := h' } := I2.kept (t' := s2.toks) hk
  exact ⟨s2.heap.objs.size + 4, _, _, _, H2, rfl, I3, turn_zipST (t := t) (zip_sep2 (fun _ z => (List.not_mem_nil z).elim) (fun b z => by rw [List.mem_singleton.mp z]; exact p1.lt)), ⟨hz, hTI, ⟨_, _, hTO⟩, ⟨_, h1, rfl, rfl⟩, ⟨_, h2, rfl, rfl⟩⟩, fresh5 I2, q⟩
theorem pi_enumS (hg : Gl X "enumerate") (hm : X.mg "enumerate" = none) (he : PE X e te) (hs : starEach [e] X.env = (false, eval e X.env) :: starEach [] X.env := by rfl) : PI X (.Tuple elts kk tpos) (.Call (.Name "enumerate" p) [e] [] pos) (iEnumS te) := by
  refine ⟨fun pins s σ H R I h => ?_⟩
  refine Call_ (ld_blt I hg hm boot_enumerate (PyProof.Rows.callWith_type1 (PyProof.Rows.args_cons (thn (he.run pins s σ H _ I h) fun v s1 ⟨x, H1, I1, r1, q1⟩ => PyProof.Rows.args_nil ?_) hs) hs rfl))
  obtain ⟨a, rfl, q⟩ := q1
  obtain ⟨t, rfl⟩ := r1
  refine call_enumerate_str fun h' hz h1 hsz hk => wpAny_pyIter_enum hz ?_
  have I3 : Inv X pins σ H1 { s1 with heap := h' } := I1.kept (t' := s1.toks) hk
  refine ⟨s1.heap.objs.size + 1, [s1.heap.objs.size + 1, s1.heap.objs.size], _, _, H1, rfl, I3, turn_enumS (t := t) (Nat.succ_ne_self _), ⟨⟨.none, hz⟩, h1⟩, fun b hb => ?_, q⟩
  have e' : b = s1.heap.objs.size + 1 ∨ b = s1.heap.objs.size := by simpa using hb
  have hle : s1.heap.objs.size ≤ b := by
    rcases e' with z | z <;> (rw [z]; first | exact Nat.le_add_right _ _ | exact Nat.le_refl _)
  exact I1.fpOk hle (I1.hok.fresh hle)
end
theorem walk_enumS {x : Str} : Walk (IteS x) x.cps.size (fun _ => True) (fun i H v H' => ∃ T c, v = .ref T ∧ H T = none ∧ H' = upd H T (.tup [.int (i : Nat), .str ⟨#[c]⟩]) ∧ x.cps[i]? = some c) :=
  ⟨fun _ _ hi _ => hi, fun _ _ => rfl, fun _ _ _ _ _ _ y => y⟩
theorem walk_zipSS {x y : Str} {n : Nat} (hn : n = min x.cps.size y.cps.size) : Walk (ItzSS x y) n (fun _ => True) (fun i H v H' => ∃ T c d, v = .ref T ∧ H T = none ∧ H' = upd H T (.tup [.str ⟨#[c]⟩, .str ⟨#[d]⟩]) ∧ x.cps[i]? = some c ∧ y.cps[i]? = some d) :=
  ⟨fun _ _ hi _ => ⟨by omega, by omega⟩, fun _ _ => ⟨by omega, by omega, by omega⟩, fun _ _ _ _ _ _ y => y⟩
theorem walk_zipST {K : PySem.W.Frag} {x : Str} {l : Addr} {ys : List V} (hn : x.cps.size = ys.length) : Walk (ItzST K x l) ys.length (fun H => SqT K H l ys) (fun i H v H' => ∃ T c y, v = .ref T ∧ H T = none ∧ H' = upd H T (.tup [.str ⟨#[c]⟩, y]) ∧ x.cps[i]? = some c ∧ ys[i]? = some y) :=
  ⟨fun i _ hi q => ⟨by omega, ys, ys[i], q, List.getElem?_eq_getElem hi⟩, fun _ q => ⟨hn.symm, ys, q, rfl⟩, fun _ _ _ _ _ q y => by
    obtain ⟨T, c, z, h1, h2, h3, h4, h5⟩ := y
    exact ⟨T, c, z, h1, h2, h3, h4, h5 ys q⟩⟩

/-! ### s.index(c) -/
theorem occ_idx {L : List Nat} {c : Nat} (nd : L.Nodup) (hc : c ∈ L) : ∃ rest, Builtin.Str.occurrences (S L) (S [c]) 0 (S L).length 1 = L.idxOf c :: rest := by
  have h := PySem.StrLaws.found_one (S L) c
  rw [decide_eq_true (show c ∈ (S L).cps.toList from hc)] at h
  cases q : Builtin.Str.occurrences (S L) (S [c]) 0 (S L).length 1 with
  | nil =>
    have q' : Builtin.Str.occurrences (S L) ⟨#[c]⟩ 0 (S L).length 1 = [] := q
    rw [q'] at h
    cases h
  | cons k rest =>
    have hk := PySem.StrLaws.occ_spec (S L) (S [c]) 0 (S L).length 1 k (by rw [q]; exact List.mem_cons_self)
    have g : L[k]? = some c := (PySem.StrLaws.subAt_one (S L) c k).mp hk
    obtain ⟨hlt, e⟩ := List.getElem?_eq_some_iff.mp g
    have hi : L.idxOf c < L.length := List.idxOf_lt_length_of_mem hc
    have e2 : L[L.idxOf c] = c := List.getElem_idxOf hi
    have e3 : k = L.idxOf c := (List.getElem_inj nd).mp (e.trans e2.symm)
    exact ⟨rest, by rw [e3]⟩
def rIdx : V → List V → Hp → VK → Prop := fun x xs H Q => ∃ (L : List Nat) (c : Nat), x = .str (S L) ∧ xs = [.str (S [c])] ∧ L.Nodup ∧ c ∈ L ∧ Q (.int (L.idxOf c : Nat)) H
section
variable {X : Cx}
theorem mt_idx : MtR X "str.index" rIdx := by
  intro pins s σ H x xs v us Q I rx rs h
  obtain ⟨L, c, rfl, rfl, nd, hc, q⟩ := h
  obtain ⟨t, rfl⟩ := rx
  cases rs with
  | cons r1 rs =>
    cases rs
    obtain ⟨u, rfl⟩ := r1
    obtain ⟨rest, e⟩ := occ_idx nd hc
    exact PySem.SC.index e ⟨.int (L.idxOf c : Nat), H, I.tok _, ⟨_, rfl⟩, q⟩
theorem pe_idxS {o e : Expr} {to te : TE} {apos pos : Pos} (ho : PE X o to) (he : PE X e te) (hs : starEach [e] X.env = [(false, eval e X.env)] := by rfl) (hbase : attributeBase o "index" X.env (eval o X.env) = eval o X.env := by rfl) (hline : (apos.endLine == pos.line) = true := by rfl) :
    PE X (.Call (.Attribute o "index" apos) [e] [] pos) (tM1 rIdx to te) := pe_m1 F.slot_str_index F.type_str_index mt_idx ho he hs hbase hline
end
end K21

set_option Elab.async false
set_option linter.all false
set_option maxRecDepth 100000
set_option maxHeartbeats 4000000
/-! rules that name their K, for use inside comprehensions -/
namespace K21
open PySem PySem.Spec PyProof.Rows L2
def rLenK (K : PySem.W.Frag) : List V → Hp → VK → Prop := fun xs H Q => ∃ p ys, xs = [V.ref p] ∧ (SqL K H p ys ∨ SqT K H p ys) ∧ Q (V.int (ys.length : Nat)) H
section
variable {X : Cx} {K : PySem.W.Frag}
theorem call_len_seqK (h : X.K = K) : CallR X (.builtin "len") (rLenK K) := by
  subst h
  exact call_len_seq
theorem ix_tupK (h : X.K = K) : IxR X (rIxT K) := by
  subst h
  exact ix_tup
theorem ix_listK (h : X.K = K) : IxR X (rIxL K) := by
  subst h
  exact ix_list
theorem op_eqDK (hu : X.A.units + 64 < cLine) (h : X.K = K) : OpR X (compareOp .Eq) (rEqD K) := by
  subst h
  exact op_eqD hu
theorem pe_fldK {e : Expr} {f : Str} {pos : Pos} {ta : TE} (h : X.K = K) (he : PE X e ta) (hb : attributeBase e f X.env (eval e X.env) = eval e X.env) : PE X (.Attribute e f pos) (tFld K ta f) := by
  subst h
  exact pe_fld he hb
end
end K21

set_option Elab.async false
set_option linter.all false
set_option maxRecDepth 100000
set_option maxHeartbeats 4000000
/-! len(set(text)), the text's signs all unlike; list(text); defs without arguments; len and [] of a list or a text -/
namespace K21
open PySem PySem.Spec PyProof.Rows L2
section
variable {prog : Program} {w : World} {A : Around} {E : Value → Shared → Prop} {s : Shared}
theorem run_ok : ∀ (cs : List Nat) (tk : Tok) (D : Froz.SD) (l : List Str), Froz.TxOk prog w D l → ∃ l', Froz.TxOk prog w (Froz.runD w cs tk D) l' ∧ l'.length = l.length + cs.length
  | [], tk, D, l, F => ⟨l, F, rfl⟩
  | c :: r, tk, D, l, F => by
    obtain ⟨l', h1, h2⟩ := run_ok r (tk + 2) _ _ (Froz.add_ok (k := Froz.sing c) tk F)
    exact ⟨l', h1, by rw [h2, List.length_cons, List.length_cons]; omega⟩
theorem sub_str_set : isSubtype (.type "str") (.type "set") = pure false := by rw [isSubtype_type]; kernel_rfl
theorem sub_str_frozenset : isSubtype (.type "str") (.type "frozenset") = pure false := by rw [isSubtype_type]; kernel_rfl
theorem call_set_str {x : Str} {t : Tok} {Q : Value → Shared → Prop} (hh : A.handled = none) (ha : x.cps.all (· < 128) = true) (nd : x.cps.toList.Nodup) (hb : x.cps.toList.length < scanBound)
    (h : ∀ (h' : Heap) (tk : Nat) (D : Froz.SD), h'.get? s.heap.objs.size = some (Froz.sObj "set" D) → D.2.2.fits D.1.size = true → D.1.size = x.cps.toList.length → (∀ b o, b < s.heap.objs.size → s.heap.get? b = some o → h'.get? b = some o) → Q (.ref s.heap.objs.size) { s with heap := h', toks := tk }) :
    wpAny (model prog w) A (call (.type "set") [.str x t]) Q E s := by
  obtain ⟨c, tl, hmro⟩ := PySem.F.called_set.mro
  have hmade := PySem.F.called_set.made
  have hsub := PySem.F.called_set.sub
  refine wpAny_call (codeAny_of_tree ?_)
  show wpAny _ _ (callAny (.type "set") _) _ _ _
  refine wpAny_pure ⟨Code.quiet_builtin _ (by decide +kernel), codeAny_builtin PySem.F.entry_type_call ?_⟩
  rw [Around.under_plain (weight_type_call_type "set" [.str x t] []) rfl]
  have h1 := PySem.F.called_set.notType
  have h2 := PySem.F.called_set.canCreate
  have hct := PySem.F.typeCall_set_1 (.str x t)
  repeat (any_goals (first | assumption | wp_step))
  refine codeAny_mono (code_set_new_1 (.str x t) (E := E) (Q₁ := fun obj s₁ => ∃ led : Bool, obj = .ref s.heap.objs.size ∧ s₁ = { s with heap := s.heap.push { cls := .type "set", dict := none, data := .set #[] 0 (.fresh 0 0 led) } }) fun led => ⟨led, rfl, rfl⟩) fun r s₁ hr => ?_
  cases r with
  | error e => exact hr
  | ok fl =>
    cases fl with
    | ret obj =>
      obtain ⟨led, rfl, rfl⟩ := hr
      have hS : (s.heap.push { cls := .type "set", dict := none, data := .set #[] 0 (.fresh 0 0 led) }).get? s.heap.objs.size = some (Froz.sObj "set" (#[], 0, .fresh 0 0 led)) := Heap.get?_push_size _ rfl
      have hT : Shared.TypeIs { s with heap := s.heap.push { cls := .type "set", dict := none, data := .set #[] 0 (.fresh 0 0 led) } } (.ref s.heap.objs.size) "set" := ⟨_, hS, rfl⟩
      have hli := PySem.F.called_set.init.lookup
      have hbi := PySem.F.called_set.init.bind (.ref s.heap.objs.size)
      repeat (any_goals (first | assumption | wp_step))
      refine codeAny_mono (codeAny_call_builtin (R := wants (fun r s₂ => r = .none ∧ ∃ h' tk, s₂ = { s with heap := h', toks := tk } ∧ ∃ D : Froz.SD,
          h'.get? s.heap.objs.size = some (Froz.sObj "set" D) ∧ D.2.2.fits D.1.size = true ∧ D.1.size = x.cps.toList.length ∧
          (∀ b o, b < s.heap.objs.size → s.heap.get? b = some o → h'.get? b = some o)) E) PySem.F.called_set.init.plain PySem.F.entry_set_init (check_set_init_1 hT ?_)) fun r₂ s₂ hr₂ => ?_
      · have hsls := sub_str_set
        have hslf := sub_str_frozenset
        have hne : (Value.type "str" == Value.type "dict") = false := by decide
        unfold Builtin.«set.__init__» noKeywords Builtin.Frozenset.updateFrom
        generalize hPI : pyIter = PI
        wp_walk
        subst hPI
        refine wpAny_pyIter_ascii ha ?_
        refine wpAny_bind (wpAny_runValue ?_)
        have hh3 : A.in1.in1.handled = none := by simp [hh]
        have hsz : (s.heap.push { cls := .type "set", dict := none, data := .set #[] 0 (.fresh 0 0 led) }).objs.size = s.heap.objs.size + 1 := Heap.size_push _ _
        have hne2 : s.heap.objs.size ≠ (s.heap.push { cls := .type "set", dict := none, data := .set #[] 0 (.fresh 0 0 led) }).objs.size := by rw [hsz]; omega
        have F0 : Froz.TxOk prog w (#[], 0, SetTable.fresh 0 0 led) [] := Froz.TxOk.nil rfl
        refine Froz.code_update (T := "set") (u := t) hne2 hh3 x.cps.toList 0 _ [] _ rfl ?ga ?gb F0 (fun _ _ => List.not_mem_nil) nd (by rw [List.length_nil, Nat.zero_add]; exact hb) ?gc
        case ga => exact Heap.get?_push_of_some _ hS
        case gb => exact Heap.get?_push_size _ rfl
        case gc =>
          show wpAny _ _ _ _ _ _
          refine wpAny_pure ?_
          show wpAny _ _ (ret Value.none) _ _ _
          obtain ⟨l', F1, hl'⟩ := run_ok x.cps.toList s.toks _ [] F0
          refine wpAny_pure ⟨rfl, _, _, rfl, _, ?_, F1.fit, ?_, fun b o hb e => ?_⟩
          · exact Heap.get?_push_of_some _ (Heap.get?_push_of_some _ (PySem.Heap.get?_update_of_ne _ (Ne.symm hne2) (Froz.get_upd _ (Heap.get?_push_of_some _ hS) rfl)))
          · rw [F1.sz, hl', List.length_nil, Nat.zero_add]
          · have hb1 : s.heap.objs.size ≠ b := fun z => Nat.lt_irrefl _ (z ▸ hb)
            have hb2 : (s.heap.push { cls := .type "set", dict := none, data := .set #[] 0 (.fresh 0 0 led) }).objs.size ≠ b := by rw [hsz]; omega
            exact Heap.get?_push_of_some _ (Heap.get?_push_of_some _ (PySem.Heap.get?_update_of_ne _ hb2 (PySem.Heap.get?_update_of_ne _ hb1 (Heap.get?_push_of_some _ (Heap.get?_push_of_some _ e)))))
      · cases r₂ with
        | error e => exact hr₂
        | ok fl₂ =>
          cases fl₂ with
          | ret r =>
            obtain ⟨rfl, h', tk, rfl, D, g1, g2, g3, g4⟩ := hr₂
            repeat (any_goals (first | assumption | wp_step))
            exact h _ _ D g1 g2 g3 g4
          | _ => exact hr₂.elim
    | _ => exact hr.elim
end
section
variable {X : Cx}
/-- len(set(text)), the signs small and all unlike -/
def tLenSetS (ta : TE) : TE := fun σ H Q => ta σ H fun x H1 => ∃ z : Str, x = .str z ∧ z.cps.all (· < 128) = true ∧ z.cps.toList.Nodup ∧ z.cps.toList.length ≤ 1000 ∧ Q (.int (z.cps.toList.length : Nat)) H1
theorem pe_lenSetS {a : Expr} {ta : TE} {p p2 q pos : Pos} (hg : Gl X "len") (hm : X.mg "len" = none) (hg2 : Gl X "set") (hm2 : X.mg "set" = none) (ha : PE X a ta) (hc : X.calm = true := by rfl)
    (na : starEach [a] X.env = (false, eval a X.env) :: starEach [] X.env := by rfl) : PE X (.Call (.Name "len" p) [.Call (.Name "set" p2) [a] [] q] [] pos) (tLenSetS ta) := by
  refine ⟨fun pins s σ H Q I h => ?_⟩
  refine Call_ (ld_blt I hg hm boot_len ?_)
  refine PyProof.Rows.callWith_builtin1 (PyProof.Rows.args_cons ?_ rfl) rfl rfl
  refine Call_ (ld_blt I hg2 hm2 boot_set ?_)
  refine PyProof.Rows.callWith_type1 (PyProof.Rows.args_cons (thn (ha.run pins s σ H _ I h) fun v s1 ⟨x, H1, I1, r1, q1⟩ => PyProof.Rows.args_nil ?_) na) na rfl
  obtain ⟨z, rfl, h1, h2, h3, q1⟩ := q1
  obtain ⟨t, rfl⟩ := r1
  refine call_set_str (I1.ok.hd hc) h1 h2 (by unfold scanBound; omega) fun h' tk D g1 g2 g3 g4 => ?_
  refine PyProof.Rows.args_nil ?_
  have I2 : Inv X pins σ H1 { s1 with heap := h', toks := tk } := I1.kept fun b o e => g4 b o (Heap.lt_size e) e
  exact call_len_set g1 ⟨rfl, rfl, rfl⟩ rfl g2 (by rw [g3]; omega) ⟨.int (z.cps.toList.length : Nat), H1, I2.tok _, ⟨_, by rw [g3]⟩, q1⟩
/-- list(text) -/
def sgnV (z : Str) : List V := z.cps.toList.map fun c => V.str ⟨#[c]⟩
def rListS : List V → Hp → VK → Prop := fun xs H Q => ∃ z : Str, xs = [.str z] ∧ z.length ≤ 100000 ∧ ∀ p, H p = none → Q (.ref p) (upd H p (.lst (sgnV z)))
theorem call_list_strR (hc : X.calm = true := by rfl) : CallR X (.type "list") rListS := by
  intro pins s σ H xs us Q I r h
  obtain ⟨z, rfl, hz, q⟩ := h
  cases r with
  | cons r1 rs =>
    cases rs
    obtain ⟨t, rfl⟩ := r1
    refine call_list_str (I.ok.hd hc) z t (hn := small hz) fun h' tk acc c' hk e' hi => ?_
    refine ⟨.ref s.heap.objs.size, upd H s.heap.objs.size (.lst (sgnV z)), I.laid hk (Nat.le_refl _) (show ObjOk X.prog X.w _ _ _ (.lst (sgnV z)) from ⟨?_, acc.toList, c', ?_, ?_⟩), rfl, q _ (I.hok.fresh (Nat.le_refl _))⟩
    · unfold sgnV
      rw [List.length_map]
      exact small hz
    · have e : sgnV z = (List.range acc.toList.length).map fun i => V.str ⟨#[z.cps.getD i 0]⟩ := by
        unfold sgnV
        rw [Array.length_toList, hi.1]
        refine List.ext_getElem? fun j => ?_
        rw [List.getElem?_map, List.getElem?_map]
        by_cases hj : j < z.cps.size
        · rw [List.getElem?_range hj]
          simp [hj]
        · rw [List.getElem?_eq_none (by simpa using hj), List.getElem?_eq_none (by simpa using hj)]; rfl
      rw [e]
      refine vals_of_get acc.toList _ fun j u hj => ?_
      obtain ⟨c, t', hc', rfl⟩ := hi.2 j u (by rw [← hj, Array.getElem?_toList])
      refine ⟨t', ?_⟩
      have : z.cps.getD j 0 = c := by
        rw [Array.getD_eq_getD_getElem?, hc']; rfl
      rw [this]
    · rw [Array.toArray_toList]; exact e'
def rLenA (K : PySem.W.Frag) : List V → Hp → VK → Prop := fun xs H Q => (∃ z, xs = [V.str z] ∧ z.length ≤ sizeLine ∧ Q (.int (z.length : Nat)) H) ∨ rLenK K xs H Q
theorem call_len_any : CallR X (.builtin "len") (rLenA X.K) := call_len_str.or (call_len_seqK rfl)
theorem ix_any : IxR X (fun x y H Q => rIxS x y H Q ∨ rIxL X.K x y H Q) := ix_str.or ix_list
theorem pe_d0 {k : Nat} {x : Str} {sp : Sp} {p pos : Pos} (D : Dfn X.prog X.w X.K X.mg X.base k x [] sp) (hr : Room k X.A) (hg : Gl X x := by rfl) (hdb : (x == ("__debug__" : Str)) = false := by decide) : PE X (.Call (.Name x p) [] [] pos) (tCall sp [] E0 tNil) := by
  obtain ⟨f, fd, F, hm, hk, hb⟩ := D
  exact pe_call0 F hr hg hm hk hb .nil pass0 hdb
end
end K21

set_option Elab.async false
set_option linter.all false
set_option maxRecDepth 100000
set_option maxHeartbeats 4000000
/-! words.py -/
namespace K21
open PySem PySem.Spec PyProof.Rows L2
structure Ltr (L : List Nat) : Prop where
  lo : 2 ≤ L.length
  hi : L.length ≤ 4
  nd : L.Nodup
  sm : ∀ c ∈ L, 97 ≤ c ∧ c ≤ 122
def spCheckLetters : Sp := fun vs H Q _ => ∃ L : List Nat, vs = [.str (S L)] ∧ Ltr L ∧ ∀ H', Ext [] H H' → Q .non H'
section
variable {P : Program} {w : World} {K : PySem.W.Frag} {mg : Str → Option Value} {base : Heap} {A0 : Ad} {f : Addr} {fd : FuncData}

abbrev N_slid : List Str := ["known", "by"]
theorem sc_slid : FnScope N_slid ["known", "by"] (defScope s_slid) := ⟨rfl, rfl, rfl, by decide +kernel, rfl, by decide +kernel, by decide +kernel⟩
def spSlid : Sp := fun vs H Q _ => ∃ (k : List Nat) (s : Nat), vs = [.str (S k), .int s] ∧ s ≤ 1000 ∧ k.length ≤ 1000 ∧ Q (.str (S (slidN k s))) H
theorem ok_slid (T : Tx K mg A0) (F : Fd K "slid" "slid" s_slid f fd) : FnOk P w K mg base CX0 1 f fd ["known", "by"] spSlid := by
  refine fok F sc_slid (fun vs H Q E h => ?_) (fun cdv A outer s0 H vs Q E hr h => ?_)
  · obtain ⟨k, s, rfl, _⟩ := h
    rfl
  · obtain ⟨k, s, rfl, hs, hk, q⟩ := h
    refine ⟨_, (pss_one (ps_ret (pe_op op_add_str (pe_slice sl_str (pv 0) (po_some (pv 1)) po_none) (pe_op op_mulS pe_str (pe_callB (call_min2 rfl) (by rfl) T.min (by decide +kernel) (pa_cons (pv 1) (pa_cons (pe_callB call_len_str (by rfl) T.len PySem.boot_len (pa_cons (pv 0) pa_nil)) pa_nil))))))), ?_⟩
    refine ⟨_, rfl, _, rfl, _, rfl, S k, rfl, small (by show k.length ≤ _; omega), ?_⟩
    refine ⟨_, rfl, _, rfl, S k, rfl, small (by show k.length ≤ _; omega), _, _, rfl, ?_⟩
    have e1 : (if (((S k).length : Nat) : Int) < (s : Int) then (((S k).length : Nat) : Int) else (s : Int)) = ((min s k.length : Nat) : Int) := by
      show (if ((k.length : Nat) : Int) < (s : Int) then ((k.length : Nat) : Int) else (s : Int)) = _
      split <;> omega
    rw [e1]
    refine ⟨_, _, rfl, rfl, Int.natCast_nonneg _, by omega, by decide +kernel, ?_⟩
    have e2 : cutS (S k) (some (s : Int)) none = S (k.drop s) := by
      rw [S_cut]
      congr 1
      rw [HT.sIx_none, HT.sIx_nat]
      by_cases h : s ≤ k.length
      · rw [Nat.min_eq_left h, List.take_of_length_le (by rw [List.length_drop]; omega)]
      · rw [Nat.min_eq_right (by omega), List.drop_eq_nil_of_le (Nat.le_refl _), List.drop_eq_nil_of_le (by omega), List.take_nil]
    rw [Int.toNat_natCast, mulS_dot, e2]
    refine ⟨_, _, rfl, rfl, ?_, ?_⟩
    · show (k.drop s).length + (List.replicate (min s k.length) 46).length ≤ sizeLine
      rw [List.length_drop, List.length_replicate]
      exact small (by omega)
    · rw [S_append]
      exact q

abbrev N_put_in : List Str := ["known", "place", "letter"]
theorem sc_put_in : FnScope N_put_in ["known", "place", "letter"] (defScope s_put_in) := ⟨rfl, rfl, rfl, by decide +kernel, rfl, by decide +kernel, by decide +kernel⟩
def spPutIn : Sp := fun vs H Q _ => ∃ (k : List Nat) (p c : Nat), vs = [.str (S k), .int p, .str (S [c])] ∧ p < k.length ∧ k.length ≤ 1000 ∧ Q (.str (S (k.set p c))) H
theorem ok_put_in (T : Tx K mg A0) (F : Fd K "put_in" "put_in" s_put_in f fd) : FnOk P w K mg base CX0 1 f fd ["known", "place", "letter"] spPutIn := by
  refine fok F sc_put_in (fun vs H Q E h => ?_) (fun cdv A outer s0 H vs Q E hr h => ?_)
  · obtain ⟨k, p, c, rfl, _⟩ := h
    rfl
  · obtain ⟨k, p, c, rfl, hp, hk, q⟩ := h
    refine ⟨_, (pss_one (ps_ret (pe_op op_add_str (pe_op op_add_str (pe_slice sl_str (pv 0) po_none (po_some (pv 1))) (pv 2)) (pe_slice sl_str (pv 0) (po_some (pe_op op_add (pv 1) pe_int)) po_none)))), ?_⟩
    have e1 : cutS (S k) none (some (p : Int)) = S (k.take p) := by
      rw [S_cut, HT.sIx_none, sIx_n (by omega)]; rfl
    have e2 : cutS (S k) (some ((p : Int) + 1)) none = S (k.drop (p + 1)) := by
      have e : ((p : Int) + 1) = ((p + 1 : Nat) : Int) := by omega
      rw [e, S_cut, HT.sIx_none, sIx_n (by omega), List.take_of_length_le (by rw [List.length_drop]; omega)]
    refine ⟨_, rfl, _, rfl, _, rfl, S k, rfl, small (by show k.length ≤ _; omega), ?_⟩
    rw [e1]
    refine ⟨_, rfl, _, _, rfl, rfl, ?_, ?_⟩
    · show (k.take p).length + 1 ≤ sizeLine
      rw [List.length_take]
      exact small (by omega)
    refine ⟨_, rfl, _, rfl, _, _, rfl, rfl, _, rfl, S k, rfl, small (by show k.length ≤ _; omega), ?_⟩
    rw [e2, S_append]
    refine ⟨_, _, rfl, rfl, ?_, ?_⟩
    · show (k.take p ++ [c]).length + (k.drop (p + 1)).length ≤ sizeLine
      rw [List.length_append, List.length_take, List.length_drop]
      exact small (by simp; omega)
    · rw [S_append, List.append_assoc]
      have e3 : k.take p ++ ([c] ++ k.drop (p + 1)) = k.set p c := by
        rw [List.set_eq_take_append_cons_drop, if_pos hp]; rfl
      rw [e3]
      exact q

abbrev N_is_word : List Str := ["letters", "value", "letter"]
theorem sc_is_word : FnScope N_is_word ["letters", "value"] (defScope s_is_word) := ⟨rfl, rfl, rfl, by decide +kernel, rfl, by decide +kernel, by decide +kernel⟩
def spIsWord : Sp := fun vs H Q _ => ∃ (L l : List Nat), vs = [.str (S L), .str (S l)] ∧ 1 ≤ l.length ∧ l.length ≤ 8 ∧ (∀ c ∈ l, c ∈ L) ∧ ∀ H', Ext [] H H' → Q (.bl true) H'
theorem ok_is_word (T : Tx K mg A0) (F : Fd K "is_word" "is_word" s_is_word f fd) : FnOk P w K mg base CX0 1 f fd ["letters", "value"] spIsWord := by
  refine fok F sc_is_word (fun vs H Q E h => ?_) (fun cdv A outer s0 H vs Q E hr h => ?_)
  · obtain ⟨k, p, rfl, _⟩ := h
    rfl
  · obtain ⟨L, l, rfl, h1, h8, hl, q⟩ := h
    refine ⟨_, (pss_cons (ps_if (PW.pt (pw_or (pt_not (pt_val (pe_callB call_is3 (by rfl) T.isinstance (by decide +kernel) (pa_cons (pv 1) (pa_cons (pe_bltn (v := .ty "str") (by rfl) T.str (by decide +kernel) rfl) pa_nil))))) (pw_or1 (pt_not (pt_chain op_le op_le pe_int (pe_callB call_len_str (by rfl) T.len PySem.boot_len (pa_cons (pv 1) pa_nil)) (pe_gl rfl T.mMOST_WIDTH))))))
       (pss_one (ps_ret pe_bl))
       pss_nil)
      (pss_one (ps_ret (pe_callB (cr_all rfl) (by rfl) T.all (by decide +kernel) (pa_cons (pe_lc (own := [("letter", 2)]) (g := gName 2) (tt := tYes) rfl sc_is_word.nd (pi_str (pv 1)) (blkOk_by (N := N_is_word) (sc := defScope s_is_word) (by decide +kernel)) (fun _ _ _ _ _ => (pg_name (i := 2) sc_is_word.nd rfl (.inl rfl))) (fun _ _ _ _ _ => pts_nil) (fun _ _ _ _ _ => (pe_cmpR op_in_sign (pv 2) (pv 0) rfl))) pa_nil))))), ?_⟩
    refine ⟨_, rfl, .inl ⟨_, rfl, true, rfl, iteF ?_⟩⟩
    refine ⟨_, rfl, S l, rfl, small (by show l.length ≤ _; omega), _, _, rfl, rfl, _, rfl, iteD (by show (1 : Int) ≤ (l.length : Nat); omega) ?_⟩
    refine ⟨_, _, rfl, rfl, _, rfl, ?_⟩
    refine iteF' (by show (!decide (((l.length : Nat) : Int) ≤ 8)) = false; rw [decide_eq_true (by omega)]; rfl) ?_
    refine ⟨_, rfl, S l, rfl, fun D nD => ?_⟩
    refine lc_rel walk_str (fun _ H' => Ext [] H H') (fun _ _ y => y = .bl true) (by show l.length ≤ _; omega) (Ext.refl.new nD) (fun _ _ _ _ => trivial) (fun _ _ _ _ _ h => h) (fun _ _ _ h => h.new nD) ?_ ?_
    · rintro i x H2 H3 Nx hi p _ ⟨rfl, c, hc, rfl⟩ nx
      refine ⟨rfl, _, rfl, _, rfl, c, S L, rfl, rfl, nx _ _ p (Tups.refl _) rfl ?_⟩
      rw [decide_eq_true (hl c (List.mem_of_getElem? (by simpa using hc)))]
    · intro H2 ys p hD hlen hR
      refine ⟨D, List.replicate ys.length true, rfl, ?_, ?_⟩
      · rw [← bl_true, ← all_same hR]
        exact SqL.of hD
      · rw [all_true]
        exact q _ p

theorem bools {ys : List V} (h : ∀ (j : Nat) y, ys[j]? = some y → ∃ b, y = V.bl b) : ∃ bs : List Bool, ys = bs.map V.bl := by
  induction ys with
  | nil => exact ⟨[], rfl⟩
  | cons y r ih =>
    obtain ⟨b, e⟩ := h 0 y rfl
    obtain ⟨bs, e2⟩ := ih fun j z hz => h (j + 1) z (by simpa using hz)
    exact ⟨b :: bs, by rw [e, e2]; rfl⟩

abbrev N_fits : List Str := ["known", "word", "offset", "signs", "sign", "letter"]
theorem sc_fits : FnScope N_fits ["known", "word", "offset"] (defScope s_fits) := ⟨rfl, rfl, rfl, by decide +kernel, rfl, by decide +kernel, by decide +kernel⟩
def spFits : Sp := fun vs H Q _ => ∃ (k l : List Nat) (o : Nat), vs = [.str (S k), .str (S l), .int o] ∧ k.length ≤ 1000 ∧ l.length ≤ 1000 ∧ ∀ H' b, Ext [] H H' → (k.length ≤ o → b = true) → Q (.bl b) H'
theorem ok_fits (T : Tx K mg A0) (F : Fd K "fits" "fits" s_fits f fd) : FnOk P w K mg base CX0 1 f fd ["known", "word", "offset"] spFits := by
  refine fok F sc_fits (fun vs H Q E h => ?_) (fun cdv A outer s0 H vs Q E hr h => ?_)
  · obtain ⟨_, _, _, rfl, _⟩ := h
    rfl
  · obtain ⟨k, l, o, rfl, hk, hl, q⟩ := h
    refine ⟨_, (pss_cons (ps_set (i := 3) sc_fits.nd rfl (.inl rfl) (pe_slice sl_str (pv 0) (po_some (pv 2)) (po_some (pe_op op_add (pv 2) (pe_callB call_len_str (by rfl) T.len PySem.boot_len (pa_cons (pv 1) pa_nil))))))
      (pss_one (ps_ret (pe_callB (cr_all rfl) (by rfl) T.all (by decide +kernel) (pa_cons (pe_lc (own := [("sign", 4), ("letter", 5)]) (g := gTup K 2 (gCons (gName 4) (gCons (gName 5) gNil))) (tt := tYes) rfl sc_fits.nd (pi_zipSS (by rfl) T.zip (pv 3) (pv 1)) (blkOk_by (N := N_fits) (sc := defScope s_fits) (by decide +kernel)) (fun _ _ _ _ _ => (pg_tup rfl (pgs_cons (pg_name (i := 4) sc_fits.nd rfl (.inl rfl)) (pgs_cons (pg_name (i := 5) sc_fits.nd rfl (.inl rfl)) pgs_nil)))) (fun _ _ _ _ _ => pts_nil) (fun _ _ _ _ _ => (pe_or (pe_cmpR op_eq (pv 4) pe_str (nomark _)) (pe_one (pe_cmpR op_eq (pv 4) (pv 5) (nomark _)))))) pa_nil))))), ?_⟩
    refine ⟨_, rfl, _, rfl, _, rfl, _, rfl, _, rfl, S l, rfl, small (by show l.length ≤ _; omega), _, _, rfl, rfl, _, rfl, S k, rfl, small (by show k.length ≤ _; omega), ?_⟩
    generalize hz : cutS (S k) (some (o : Int)) (some ((o : Int) + ((S l).length : Nat))) = z
    have hz0 : k.length ≤ o → z.cps.size = 0 := fun h => by
      rw [← hz, S_cut]
      show ((k.drop (HT.sIx k.length 0 (some (o : Int)))).take _).length = 0
      rw [HT.sIx_nat, List.length_take, List.length_drop]
      omega
    refine ⟨_, rfl, _, rfl, z, S l, rfl, rfl, fun D nD => ?_⟩
    refine lc_rel (walk_zipSS rfl) (fun _ H' => Ext [] H H') (fun _ _ y => ∃ b, y = .bl b) (by show min _ l.length ≤ _; omega) (Ext.refl.new nD) (fun _ _ _ _ => trivial) (fun _ _ _ _ _ h => h) (fun _ _ _ h => h.new nD) ?_ ?_
    · rintro i _ H2 _ Nx hi p ⟨zs, hzs⟩ ⟨T1, c, d, rfl, nT, rfl, hc, hd⟩ nx
      have x3 : Ext [] H2 (upd H2 T1 (.tup [.str ⟨#[c]⟩, .str ⟨#[d]⟩])) := Ext.refl.fresh nT
      have fin : ∀ b, Nx (.bl b) (upd H2 T1 (.tup [.str ⟨#[c]⟩, .str ⟨#[d]⟩])) := fun b => nx _ _ (p.trans x3) x3.tups ((x3.keep _ _ hzs List.not_mem_nil).trans hzs.symm) ⟨b, rfl⟩
      refine ⟨T1, _, rfl, SqT.of upd_same, rfl, _, _, rfl, _, _, rfl, rfl, rfl, ?_⟩
      refine ⟨_, rfl, rfl, _, rfl, ite2 (fun _ => fin _) (fun _ => ⟨_, rfl, _, rfl, rfl, fin _⟩)⟩
    · intro H2 ys p hD hlen hR
      obtain ⟨bs, rfl⟩ := bools hR
      refine ⟨D, bs, rfl, SqL.of hD, q _ _ p fun h => ?_⟩
      have e : bs = [] := by
        have h0 := hz0 h
        rw [List.length_map] at hlen
        exact List.eq_nil_of_length_eq_zero (by omega)
      rw [e]; rfl

abbrev N_check_text : List Str := ["letters", "text", "place", "letter"]
theorem sc_check_text : FnScope N_check_text ["letters", "text"] (defScope s_check_text) := ⟨rfl, rfl, rfl, by decide +kernel, rfl, by decide +kernel, by decide +kernel⟩
def spCheckText : Sp := fun vs H Q _ => ∃ (L l : List Nat), vs = [.str (S L), .str (S l)] ∧ (∀ c ∈ l, c ∈ L) ∧ ∀ H', Ext [] H H' → Q .non H'
theorem ok_check_text (T : Tx K mg A0) (F : Fd K "check_text" "check_text" s_check_text f fd) : FnOk P w K mg base CX0 1 f fd ["letters", "text"] spCheckText := by
  refine fok F sc_check_text (fun vs H Q E h => ?_) (fun cdv A outer s0 H vs Q E hr h => ?_)
  · obtain ⟨_, _, rfl, _⟩ := h
    rfl
  · obtain ⟨L, l, rfl, hl, q⟩ := h
    refine ⟨_, (pss_cons (ps_if (pt_not (pt_val (pe_callB call_is3 (by rfl) T.isinstance (by decide +kernel) (pa_cons (pv 1) (pa_cons (pe_bltn (v := .ty "str") (by rfl) T.str (by decide +kernel) rfl) pa_nil)))))
       (pss_one ps_never)
       pss_nil)
      (pss_one (ps_for PassesOwn.never rfl (pi_enumS (by rfl) T.enumerate (pv 1)) (pg_tup rfl (pgs_cons (pg_name (i := 2) sc_check_text.nd rfl (.inl rfl)) (pgs_cons (pg_name (i := 3) sc_check_text.nd rfl (.inl rfl)) pgs_nil)))
       (pss_one (ps_if (pt_cmpR op_notIn_sign (pv 3) (pv 0) rfl)
         (pss_one ps_never)
         pss_nil))))), ?_⟩
    refine ⟨_, rfl, .inl ⟨_, rfl, true, rfl, iteF ?_⟩⟩
    refine ⟨_, rfl, S l, rfl, for_it walk_enumS (fun _ σ H' => ∃ s2 s3, σ = [some (.str (S L)), some (.str (S l)), s2, s3] ∧ Ext [] H H') ⟨_, _, rfl, Ext.refl⟩ (fun _ _ _ _ _ => trivial) ?_ ?_⟩
    · rintro i _ σ H2 _ hi ⟨s2, s3, rfl, x2⟩ ⟨T1, c, rfl, nT, rfl, hc⟩
      have x3 := x2.fresh (o := .tup [.int (i : Nat), .str ⟨#[c]⟩]) nT
      refine ⟨T1, _, rfl, SqT.of upd_same, rfl, _, _, rfl, _, _, rfl, rfl, ?_⟩
      refine ⟨_, rfl, _, rfl, c, S L, rfl, rfl, _, rfl, iteF' ?_ ⟨_, _, rfl, x3⟩⟩
      have : c ∈ (S L).cps.toList := hl c (List.mem_of_getElem? (by simpa using hc))
      rw [decide_eq_true this]; rfl
    · rintro σ H2 ⟨s2, s3, rfl, x2⟩
      exact q _ x2

abbrev N_check_words : List Str := ["letters", "words", "place", "word"]
theorem sc_check_words : FnScope N_check_words ["letters", "words"] (defScope s_check_words) := ⟨rfl, rfl, rfl, by decide +kernel, rfl, by decide +kernel, by decide +kernel⟩
def spCheckWords : Sp := fun vs H Q _ => ∃ (L l : List Nat) (a : Addr), vs = [.str (S L), .ref a] ∧ H a = some (.lst [.str (S l)]) ∧ Ltr L ∧ 1 ≤ l.length ∧ l.length ≤ 8 ∧ (∀ c ∈ l, c ∈ L) ∧ ∀ H', Ext [] H H' → Q .non H'
theorem ok_check_words (T : Tx K mg A0) (D_check_letters : Dfn P w K mg base 1 "check_letters" ["letters"] spCheckLetters) (D_is_word : Dfn P w K mg base 1 "is_word" ["letters", "value"] spIsWord)
    (F : Fd K "check_words" "check_words" s_check_words f fd) : FnOk P w K mg base CX0 2 f fd ["letters", "words"] spCheckWords := by
  refine fok F sc_check_words (fun vs H Q E h => ?_) (fun cdv A outer s0 H vs Q E hr h => ?_)
  · obtain ⟨_, _, _, rfl, _⟩ := h
    rfl
  · obtain ⟨L, l, a, rfl, ha, hL, h1, h8, hl, q⟩ := h
    refine ⟨_, (pss_cons (ps_expr (pe_d D_check_letters (hr.mono (by omega)) (pa_cons (pv 0) pa_nil)))
      (pss_cons (ps_for PassesOwn.never rfl (pi_enum (by rfl) T.enumerate (pa_cons (pv 1) pa_nil)) (pg_tup rfl (pgs_cons (pg_name (i := 2) sc_check_words.nd rfl (.inl rfl)) (pgs_cons (pg_name (i := 3) sc_check_words.nd rfl (.inl rfl)) pgs_nil)))
       (pss_one (ps_if (PW.pt (pw_or (pt_cmpR op_eq (pv 2) (pe_gl rfl T.mMOST_WORDS) (nomark _)) (pw_or (pt_not (pt_val (pe_d D_is_word (hr.mono (by omega)) (pa_cons (pv 0) (pa_cons (pv 3) pa_nil))))) (pw_or (pt_cmpR op_ne (pe_callB call_len_str (by rfl) T.len PySem.boot_len (pa_cons (pv 3) pa_nil)) (pe_callB call_len_str (by rfl) T.len PySem.boot_len (pa_cons (pe_ix ix_list (pv 1) pe_int (fun _ _ => rfl)) pa_nil)) (nomark _)) (pw_or1 (pt_cmpR op_in_seq (pv 3) (pe_slice sl_list (pv 1) po_none (po_some (pv 2))) rfl))))))
         (pss_one ps_never)
         pss_nil)))
      (pss_one (ps_if (pt_cmpR op_eq (pe_callB call_len_seq (by rfl) T.len PySem.boot_len (pa_cons (pv 1) pa_nil)) pe_int (nomark _))
       (pss_one ps_never)
       pss_nil)))), ?_⟩
    refine ⟨_, rfl, L, rfl, hL, fun H1 x1 => ?_⟩
    refine ⟨_, rfl, a, _, rfl, SqL.of (x1.keep _ _ ha List.not_mem_nil), for_it walk_enum (fun _ σ H' => ∃ s2 s3, σ = [some (.str (S L)), some (.ref a), s2, s3] ∧ Ext [] H H') ⟨_, _, rfl, x1⟩ (fun _ _ _ _ ⟨_, _, _, x⟩ => SqL.of (x.keep _ _ ha List.not_mem_nil)) ?_ ?_⟩
    · rintro i _ σ H2 _ hi ⟨s2, s3, rfl, x2⟩ ⟨T1, _, y, rfl, nT, rfl, e1, hy⟩
      cases e1
      have hi0 : i = 0 := by simp at hi; exact hi
      subst hi0
      have ey : V.str (S l) = y := by simpa using hy
      subst ey
      have x3 := x2.fresh (o := .tup [.int (0 : Nat), .str (S l)]) nT
      have ha3 := x3.keep _ _ ha List.not_mem_nil
      refine ⟨T1, _, rfl, SqT.of upd_same, rfl, _, _, rfl, _, _, rfl, rfl, ?_⟩
      refine ⟨_, rfl, rfl, _, rfl, iteN (by decide) ?_⟩
      refine ⟨_, rfl, _, rfl, L, l, rfl, h1, h8, hl, fun H4 x4 => ⟨true, rfl, iteF ?_⟩⟩
      have x5 := x3.trans x4
      have ha4 := x5.keep _ _ ha List.not_mem_nil
      refine ⟨_, rfl, S l, rfl, small (by show l.length ≤ _; omega), _, rfl, a, _, _, _, rfl, rfl, SqL.of ha4, tup_at (j := 0) rfl, S l, rfl, small (by show l.length ≤ _; omega), rfl, _, rfl, iteF' (by rw [decide_eq_true rfl]; rfl) ?_⟩
      refine ⟨_, rfl, _, rfl, _, rfl, _, rfl, a, _, rfl, SqL.of ha4, fun p np => ⟨p, _, rfl, .inl (SqL.of upd_same), rfl, rfl, _, rfl, iteF' rfl ?_⟩⟩
      exact ⟨_, _, rfl, x5.fresh np⟩
    · rintro σ H2 ⟨s2, s3, rfl, x2⟩
      refine ⟨_, rfl, a, _, rfl, .inl (SqL.of (x2.keep _ _ ha List.not_mem_nil)), rfl, _, rfl, iteN (by show ¬ V.int ((1 : Nat) : Int) = V.int 0; decide) ?_⟩
      exact q _ x2
end
end K21

set_option Elab.async false
set_option linter.all false
set_option maxRecDepth 100000
set_option maxHeartbeats 4000000
/-! check_letters -/
namespace K21
open PySem PySem.Spec PyProof.Rows L2
theorem abc : ("abcdefghijklmnopqrstuvwxyz" : Str).cps.toList = List.range' 97 26 := by decide +kernel
theorem abc_mem {c : Nat} (h1 : 97 ≤ c) (h2 : c ≤ 122) : c ∈ ("abcdefghijklmnopqrstuvwxyz" : Str).cps.toList := by
  rw [abc, List.mem_range'_1]
  omega
section
variable {P : Program} {w : World} {K : PySem.W.Frag} {mg : Str → Option Value} {base : Heap} {A0 : Ad} {f : Addr} {fd : FuncData}

abbrev N_check_letters : List Str := ["letters", "letter"]
theorem sc_check_letters : FnScope N_check_letters ["letters"] (defScope s_check_letters) := ⟨rfl, rfl, rfl, by decide +kernel, rfl, by decide +kernel, by decide +kernel⟩
theorem ok_check_letters (T : Tx K mg A0) (F : Fd K "check_letters" "check_letters" s_check_letters f fd) : FnOk P w K mg base CX0 1 f fd ["letters"] spCheckLetters := by
  refine fok F sc_check_letters (fun vs H Q E h => ?_) (fun cdv A outer s0 H vs Q E hr h => ?_)
  · obtain ⟨_, rfl, _⟩ := h
    rfl
  · obtain ⟨L, rfl, hL, q⟩ := h
    refine ⟨_, (pss_cons (ps_if (PW.pt (pw_or (pt_not (pt_val (pe_callB call_is3 (by rfl) T.isinstance (by decide +kernel) (pa_cons (pv 0) (pa_cons (pe_bltn (v := .ty "str") (by rfl) T.str (by decide +kernel) rfl) pa_nil))))) (pw_or (pt_not (pt_chain op_le op_le pe_int (pe_callB call_len_str (by rfl) T.len PySem.boot_len (pa_cons (pv 0) pa_nil)) pe_int)) (pw_or1 (pt_cmpR op_lt (pe_lenSetS (by rfl) T.len (by rfl) T.set (pv 0)) (pe_callB call_len_str (by rfl) T.len PySem.boot_len (pa_cons (pv 0) pa_nil)) (nomark _))))))
       (pss_one ps_never)
       pss_nil)
      (pss_one (ps_if (pt_not (pt_val (pe_callB (cr_all rfl) (by rfl) T.all (by decide +kernel) (pa_cons (pe_lc (own := [("letter", 1)]) (g := gName 1) (tt := tYes) rfl sc_check_letters.nd (pi_str (pv 0)) (blkOk_by (N := N_check_letters) (sc := defScope s_check_letters) (by decide +kernel)) (fun _ _ _ _ _ => (pg_name (i := 1) sc_check_letters.nd rfl (.inl rfl))) (fun _ _ _ _ _ => pts_nil) (fun _ _ _ _ _ => (pe_cmpR op_in_sign (pv 1) (pe_gl rfl T.mSMALL) rfl))) pa_nil))))
       (pss_one ps_never)
       pss_nil))), ?_⟩
    have h1 := hL.lo
    have h2 := hL.hi
    refine ⟨_, rfl, .inl ⟨_, rfl, true, rfl, iteF ?_⟩⟩
    refine ⟨_, rfl, S L, rfl, small (by show L.length ≤ _; omega), _, _, rfl, rfl, _, rfl, iteD (by show (2 : Int) ≤ (L.length : Nat); omega) ?_⟩
    refine ⟨_, _, rfl, rfl, _, rfl, ?_⟩
    refine iteF' (by show (!decide (((L.length : Nat) : Int) ≤ 4)) = false; rw [decide_eq_true (by omega)]; rfl) ?_
    refine ⟨_, rfl, S L, rfl, ?_, hL.nd, by show L.length ≤ _; omega, _, rfl, S L, rfl, small (by show L.length ≤ _; omega), _, _, rfl, rfl, _, rfl, iteN (by show ¬ ((L.length : Nat) : Int) < ((L.length : Nat) : Int); omega) ?_⟩
    · rw [← Array.all_toList, List.all_eq_true]
      intro c hc
      have := hL.sm c hc
      exact decide_eq_true (by omega)
    refine ⟨_, rfl, S L, rfl, fun D nD => ?_⟩
    refine lc_rel walk_str (fun _ H' => Ext [] H H') (fun _ _ y => y = .bl true) (by show L.length ≤ _; omega) (Ext.refl.new nD) (fun _ _ _ _ => trivial) (fun _ _ _ _ _ h => h) (fun _ _ _ h => h.new nD) ?_ ?_
    · rintro i x H2 H3 Nx hi p _ ⟨rfl, c, hc, rfl⟩ nx
      have hcL : c ∈ L := List.mem_of_getElem? (by simpa using hc)
      refine ⟨rfl, _, rfl, c, _, rfl, rfl, nx _ _ p (Tups.refl _) rfl ?_⟩
      have := hL.sm c hcL
      rw [decide_eq_true (abc_mem this.1 this.2)]
    · intro H2 ys p hD hlen hR
      refine ⟨D, List.replicate ys.length true, rfl, ?_, ?_⟩
      · rw [← bl_true, ← all_same hR]
        exact SqL.of hD
      · rw [all_true]
        exact ⟨true, rfl, iteF (q _ p)⟩
end
end K21

set_option Elab.async false
set_option linter.all false
set_option maxRecDepth 100000
set_option maxHeartbeats 4000000
/-! searchers.py -/
namespace K21
open PySem PySem.Spec PyProof.Rows L2
def kids : Tree → List Tree
  | .go _ _ => []
  | .tell _ t => [t]
  | .read _ ts => ts
section
variable {P : Program} {w : World} {K : PySem.W.Frag} {mg : Str → Option Value} {base : Heap} {A0 : Ad} {f : Addr} {fd : FuncData}

abbrev N_is_number : List Str := ["value", "least", "most"]
theorem sc_is_number : FnScope N_is_number ["value", "least", "most"] (defScope s_is_number) := ⟨rfl, rfl, rfl, by decide +kernel, rfl, by decide +kernel, by decide +kernel⟩
def spIsNumber : Sp := fun vs H Q _ => ∃ v a b : Int, vs = [.int v, .int a, .int b] ∧ a ≤ v ∧ v ≤ b ∧ Q (.bl true) H
theorem ok_is_number (T : Tx K mg A0) (F : Fd K "is_number" "is_number" s_is_number f fd) : FnOk P w K mg base CX0 1 f fd ["value", "least", "most"] spIsNumber := by
  refine fok F sc_is_number (fun vs H Q E h => ?_) (fun cdv A outer s0 H vs Q E hr h => ?_)
  · obtain ⟨k, p, c, rfl, _⟩ := h
    rfl
  · obtain ⟨v, a, b, rfl, h1, h2, q⟩ := h
    refine ⟨_, (pss_one (ps_ret (pe_and (pe_callB call_is3 (by rfl) T.isinstance (by decide +kernel) (pa_cons (pv 0) (pa_cons (pe_bltn (v := .ty "int") (by rfl) T.int (by decide +kernel) rfl) pa_nil))) (pe_and (pe_not (pe_callB call_is3 (by rfl) T.isinstance (by decide +kernel) (pa_cons (pv 0) (pa_cons (pe_bltn (v := .ty "bool") (by rfl) T.bool (by decide +kernel) rfl) pa_nil)))) (pe_one (pe_chain op_le op_le (pv 1) (pv 0) (pv 2))))))), ?_⟩
    refine ⟨_, rfl, .inr (.inl ⟨_, rfl, true, rfl, iteT ?_⟩)⟩
    refine ⟨_, rfl, .inr (.inr ⟨_, rfl, false, rfl, true, rfl, iteT ?_⟩)⟩
    refine ⟨_, rfl, _, rfl, _, _, rfl, rfl, _, rfl, iteD h1 ⟨_, rfl, _, _, rfl, rfl, dec_t h2 q⟩⟩

abbrev N_is_head : List Str := ["tree", "letters", "width", "states"]
theorem sc_is_head : FnScope N_is_head ["tree", "letters", "width", "states"] (defScope s_is_head) := ⟨rfl, rfl, rfl, by decide +kernel, rfl, by decide +kernel, by decide +kernel⟩
def spIsHead : Sp := fun vs H Q _ => ∃ (t : Tree) (v : V) (nl wd n : Nat), vs = [v, .int nl, .int wd, .int n] ∧ TAt H t v ∧ t.ok nl wd n ∧ ∀ H', Ext [] H H' → Q (.bl true) H'
theorem ok_is_head (T : Tx K mg A0) (D_is_number : Dfn P w K mg base 1 "is_number" ["value", "least", "most"] spIsNumber) (F : Fd K "is_head" "is_head" s_is_head f fd) : FnOk P w K mg base CX0 2 f fd ["tree", "letters", "width", "states"] spIsHead := by
  refine fok F sc_is_head (fun vs H Q E h => ?_) (fun cdv A outer s0 H vs Q E hr h => ?_)
  · obtain ⟨k, p, c, _, _, rfl, _⟩ := h
    rfl
  · obtain ⟨t, v, nl, wd, n, rfl, ht, hok, q⟩ := h
    refine ⟨_, (pss_cons (ps_if (PW.pt (pw_or (pt_not (pt_val (pe_isiTL (pv 0) (by rfl) T.isinstance (pa_cons (pe_bltn (v := .ty "tuple") (by rfl) T.tuple (by decide +kernel) rfl) (pa_cons (pe_bltn (v := .ty "list") (by rfl) T.list (by decide +kernel) rfl) pa_nil))))) (pw_or (pt_cmpR op_ne (pe_callB call_len_seq (by rfl) T.len PySem.boot_len (pa_cons (pv 0) pa_nil)) pe_int (nomark _)) (pw_or1 (pt_not (pt_val (pe_callB call_is3 (by rfl) T.isinstance (by decide +kernel) (pa_cons (pe_ix ix_tup (pv 0) pe_int (fun _ _ => rfl)) (pa_cons (pe_bltn (v := .ty "str") (by rfl) T.str (by decide +kernel) rfl) pa_nil)))))))))
       (pss_one (ps_ret pe_bl))
       pss_nil)
      (pss_cons (ps_if (pt_cmpR op_eq (pe_ix ix_tup (pv 0) pe_int (fun _ _ => rfl)) pe_str (nomark _))
       (pss_one (ps_ret (pe_and (pe_d D_is_number (hr.mono (by omega)) (pa_cons (pe_ix ix_tup (pv 0) pe_int (fun _ _ => rfl)) (pa_cons pe_int (pa_cons (pe_op op_add (pv 2) pe_int) pa_nil)))) (pe_one (pe_d D_is_number (hr.mono (by omega)) (pa_cons (pe_ix ix_tup (pv 0) pe_int (fun _ _ => rfl)) (pa_cons pe_int (pa_cons (pe_op op_sub (pv 3) pe_int) pa_nil))))))))
       pss_nil)
      (pss_cons (ps_if (pt_cmpR op_eq (pe_ix ix_tup (pv 0) pe_int (fun _ _ => rfl)) pe_str (nomark _))
       (pss_one (ps_ret (pe_d D_is_number (hr.mono (by omega)) (pa_cons (pe_ix ix_tup (pv 0) pe_int (fun _ _ => rfl)) (pa_cons pe_int (pa_cons (pe_op op_sub (pe_gl rfl T.mMOST_TOLD) pe_int) pa_nil))))))
       pss_nil)
      (pss_cons (ps_if (PW.pt (pw_or (pt_cmpR op_ne (pe_ix ix_tup (pv 0) pe_int (fun _ _ => rfl)) pe_str (nomark _)) (pw_or1 (pt_not (pt_val (pe_d D_is_number (hr.mono (by omega)) (pa_cons (pe_ix ix_tup (pv 0) pe_int (fun _ _ => rfl)) (pa_cons pe_int (pa_cons (pv 2) pa_nil)))))))))
       (pss_one (ps_ret pe_bl))
       pss_nil)
      (pss_one (ps_ret (pe_and (pe_isiTL (pe_ix ix_tup (pv 0) pe_int (fun _ _ => rfl)) (by rfl) T.isinstance (pa_cons (pe_bltn (v := .ty "tuple") (by rfl) T.tuple (by decide +kernel) rfl) (pa_cons (pe_bltn (v := .ty "list") (by rfl) T.list (by decide +kernel) rfl) pa_nil))) (pe_one (pe_cmpR op_eq (pe_callB call_len_seq (by rfl) T.len PySem.boot_len (pa_cons (pe_ix ix_tup (pv 0) pe_int (fun _ _ => rfl)) pa_nil)) (pv 1) (nomark _)))))))))), ?_⟩
    have key : ∃ (a : Addr) (k : Str) (i : Int) (x : V), v = .ref a ∧ H a = some (.tup [.str k, .int i, x]) := by
      cases t with
      | go s q =>
        obtain ⟨a, e, h⟩ := at_go ht
        exact ⟨a, _, _, _, e, h⟩
      | tell m t =>
        obtain ⟨a, x, e, h, _⟩ := at_tell ht
        exact ⟨a, _, _, _, e, h⟩
      | read p ts =>
        obtain ⟨a, b, xs, e, h, _⟩ := at_read ht
        exact ⟨a, _, _, _, e, h⟩
    obtain ⟨a, k, i, x, rfl, ha⟩ := key
    refine ⟨_, rfl, ⟨a, _, rfl, SqT.of ha⟩, fun T1 n1 => ⟨true, rfl, iteF ?_⟩⟩
    have x1 : Ext [] H (upd H T1 (.tup [.ty "tuple", .ty "list"])) := Ext.refl.fresh n1
    have ha1 := x1.tups _ _ ha
    generalize upd H T1 (.tup [.ty "tuple", .ty "list"]) = H1 at x1 ha1
    refine ⟨_, rfl, a, _, rfl, .inr (SqT.of ha1), rfl, _, rfl, iteF ?_⟩
    refine ⟨_, rfl, _, _, _, _, rfl, rfl, SqT.of ha1, tup_at (j := 0) rfl, .inl ⟨_, rfl, true, rfl, iteF ?_⟩⟩
    have ht1 := x1.dat ht
    cases t with
    | go s q0 =>
      obtain ⟨a', e, h⟩ := at_go ht1
      cases e
      obtain ⟨o1, o2, o3, o4⟩ := hok
      refine ⟨_, rfl, _, _, _, _, rfl, rfl, SqT.of h, tup_at (j := 0) rfl, rfl, _, rfl, iteD rfl ?_⟩
      refine ⟨_, rfl, _, _, _, _, rfl, rfl, SqT.of h, tup_at (j := 1) rfl, _, rfl, _, _, rfl, rfl, _, _, _, rfl, o1, o2, true, rfl, iteT ?_⟩
      refine ⟨_, rfl, _, _, _, _, rfl, rfl, SqT.of h, tup_at (j := 2) rfl, _, rfl, _, _, rfl, rfl, _, _, _, rfl, o3, by omega, q _ x1⟩
    | tell m t =>
      obtain ⟨a', x', e, h, _⟩ := at_tell ht1
      cases e
      obtain ⟨o1, o2, o3⟩ := hok
      refine ⟨_, rfl, _, _, _, _, rfl, rfl, SqT.of h, tup_at (j := 0) rfl, rfl, _, rfl, iteN (by decide +kernel) ?_⟩
      refine ⟨_, rfl, _, _, _, _, rfl, rfl, SqT.of h, tup_at (j := 0) rfl, rfl, _, rfl, iteD rfl ?_⟩
      refine ⟨_, rfl, _, _, _, _, rfl, rfl, SqT.of h, tup_at (j := 1) rfl, _, _, rfl, rfl, _, _, _, rfl, o1, by omega, q _ x1⟩
    | read p ts =>
      obtain ⟨a', b, xs, e, h, hb, hxs⟩ := at_read ht1
      cases e
      obtain ⟨o1, o2, o3, o4⟩ := hok
      refine ⟨_, rfl, _, _, _, _, rfl, rfl, SqT.of h, tup_at (j := 0) rfl, rfl, _, rfl, iteN (by decide +kernel) ?_⟩
      refine ⟨_, rfl, _, _, _, _, rfl, rfl, SqT.of h, tup_at (j := 0) rfl, rfl, _, rfl, iteN (by decide +kernel) ?_⟩
      refine ⟨_, rfl, _, _, _, _, rfl, rfl, SqT.of h, tup_at (j := 0) rfl, rfl, _, rfl, iteF' (by decide +kernel) ?_⟩
      refine ⟨_, rfl, _, _, _, _, rfl, rfl, SqT.of h, tup_at (j := 1) rfl, _, rfl, _, _, _, rfl, o1, o2, true, rfl, iteF ?_⟩
      refine ⟨_, rfl, _, _, _, _, rfl, rfl, SqT.of h, tup_at (j := 2) rfl, ⟨b, _, rfl, SqT.of hb⟩, fun T2 n2 => ⟨true, rfl, iteT ?_⟩⟩
      have x2 : Ext [] H1 (upd H1 T2 (.tup [.ty "tuple", .ty "list"])) := Ext.refl.fresh n2
      refine ⟨_, rfl, _, _, _, _, rfl, rfl, SqT.of (x2.tups _ _ h), tup_at (j := 2) rfl, _, _, rfl, .inr (SqT.of (x2.tups _ _ hb)), _, rfl, rfl, dec_t ?_ (q _ (x1.trans x2))⟩
      rw [hxs.length, encs_length, o3]

abbrev N_within : List Str := ["tree"]
theorem sc_within : FnScope N_within ["tree"] (defScope s_within) := ⟨rfl, rfl, rfl, by decide +kernel, rfl, by decide +kernel, by decide +kernel⟩
def spWithin : Sp := fun vs H Q _ => ∃ (t : Tree) (v : V), vs = [v] ∧ TAt H t v ∧ (kids t).length ≤ 1000 ∧ ∀ H' p xs, Ext [] H H' → H p = none → H' p = some (.lst xs) → TsAt H' (kids t) xs → Q (.ref p) H'
theorem ok_within (T : Tx K mg A0) (F : Fd K "within" "within" s_within f fd) : FnOk P w K mg base CX0 1 f fd ["tree"] spWithin := by
  refine fok F sc_within (fun vs H Q E h => ?_) (fun cdv A outer s0 H vs Q E hr h => ?_)
  · obtain ⟨t, v, rfl, _⟩ := h
    rfl
  · obtain ⟨t, v, rfl, ht, hk, q⟩ := h
    refine ⟨_, (pss_cons (ps_if (pt_cmpR op_eq (pe_ix ix_tup (pv 0) pe_int (fun _ _ => rfl)) pe_str (nomark _))
       (pss_one (ps_ret (pe_lst pa_nil)))
       pss_nil)
      (pss_one (ps_ret (pe_ifExp (pt_cmpR op_eq (pe_ix ix_tup (pv 0) pe_int (fun _ _ => rfl)) pe_str (nomark _)) (pe_lst (pa_cons (pe_ix ix_tup (pv 0) pe_int (fun _ _ => rfl)) pa_nil)) (pe_callTy call_list_of (by rfl) T.list (by decide +kernel) (pa_cons (pe_ix ix_tup (pv 0) pe_int (fun _ _ => rfl)) pa_nil)))))), ?_⟩
    cases t with
    | go s q0 =>
      obtain ⟨a', rfl, h⟩ := at_go ht
      refine ⟨_, rfl, _, _, _, _, rfl, rfl, SqT.of h, tup_at (j := 0) rfl, rfl, _, rfl, iteD rfl ⟨Nat.zero_le _, fun p np => ?_⟩⟩
      exact q _ p [] (Ext.refl.fresh np) np upd_same rfl
    | tell m t =>
      obtain ⟨a', x', rfl, h, hx⟩ := at_tell ht
      refine ⟨_, rfl, _, _, _, _, rfl, rfl, SqT.of h, tup_at (j := 0) rfl, rfl, _, rfl, iteN (by decide +kernel) ?_⟩
      refine ⟨_, rfl, _, _, _, _, rfl, rfl, SqT.of h, tup_at (j := 0) rfl, rfl, _, rfl, iteD rfl ?_⟩
      refine ⟨_, rfl, _, _, _, _, rfl, rfl, SqT.of h, tup_at (j := 2) rfl, small (by show 1 ≤ 100000; omega), fun p np => ?_⟩
      exact q _ p _ (Ext.refl.fresh np) np upd_same (DAts.one ((Ext.refl (m := [])|>.fresh np).dat hx))
    | read p ts =>
      obtain ⟨a', b, xs, rfl, h, hb, hxs⟩ := at_read ht
      refine ⟨_, rfl, _, _, _, _, rfl, rfl, SqT.of h, tup_at (j := 0) rfl, rfl, _, rfl, iteN (by decide +kernel) ?_⟩
      refine ⟨_, rfl, _, _, _, _, rfl, rfl, SqT.of h, tup_at (j := 0) rfl, rfl, _, rfl, iteN (by decide +kernel) ?_⟩
      refine ⟨_, rfl, _, _, _, _, rfl, rfl, SqT.of h, tup_at (j := 2) rfl, b, xs, rfl, .inr (SqT.of hb), fun p np => ?_⟩
      exact q _ p _ (Ext.refl.fresh np) np upd_same ((Ext.refl (m := [])|>.fresh np).dats hxs)

theorem sizes_take {ts : List Tree} {i : Nat} {t : Tree} (h : ts[i]? = some t) : sizes (ts.take (i + 1)) = sizes (ts.take i) + t.size := by
  rw [List.take_add_one, h, sizes_append]
  show _ + (t.size + 0) = _
  omega
theorem size_kids (t : Tree) : t.size = 1 + sizes (kids t) := by
  cases t with
  | go s q => rfl
  | tell n t => show t.size + 1 = 1 + (t.size + 0); omega
  | read p ts => show sizes ts + 1 = 1 + sizes ts; omega
theorem kids_ok {nl wd n : Nat} {t : Tree} (h : t.ok nl wd n) : ∀ u ∈ kids t, u.ok nl wd n := by
  cases t with
  | go s q => intro u hu; exact (List.not_mem_nil hu).elim
  | tell m t =>
    intro u hu
    have e := List.mem_singleton.mp hu
    subst e
    exact h.2.2
  | read p ts => exact oks_iff.mp h.2.2.2
theorem kids_depth {t u : Tree} (h : u ∈ kids t) : u.depth + 1 ≤ t.depth := by
  cases t with
  | go s q => exact (List.not_mem_nil h).elim
  | tell m t =>
    have e := List.mem_singleton.mp h
    subst e
    exact Nat.le_refl _
  | read p ts => exact Nat.succ_le_succ (depths_mem h)
theorem kids_len {nl wd n : Nat} {t : Tree} (h : t.ok nl wd n) : (kids t).length ≤ nl + 1 := by
  cases t with
  | go s q => exact Nat.zero_le _
  | tell m t => show 1 ≤ _; omega
  | read p ts => show ts.length ≤ _; rw [h.2.2.1]; omega
theorem depth_pos (t : Tree) : 1 ≤ t.depth := by
  cases t <;> simp only [Tree.depth] <;> omega

abbrev N_checked : List Str := ["tree", "letters", "width", "states", "level", "number", "inner", "is_wrong"]
theorem sc_checked : FnScope N_checked ["tree", "letters", "width", "states", "level", "number"] (defScope s_checked) := ⟨rfl, rfl, rfl, by decide +kernel, rfl, by decide +kernel, by decide +kernel⟩
def spChecked (d : Nat) : Sp := fun vs H Q _ => ∃ (t : Tree) (v : V) (nl wd n lev num : Nat), vs = [v, .int nl, .int wd, .int n, .int lev, .int num] ∧ TAt H t v ∧ t.ok nl wd n ∧ nl ≤ 100 ∧ t.depth ≤ d ∧ lev + t.depth ≤ 41 ∧
  ∀ H' p, Ext [] H H' → H' p = some (.tup [.bl false, .int (num + t.size : Nat)]) → Q (.ref p) H'
theorem ok_checked (T : Tx K mg A0) (D_is_head : Dfn P w K mg base 2 "is_head" ["tree", "letters", "width", "states"] spIsHead) (D_within : Dfn P w K mg base 1 "within" ["tree"] spWithin) (F : Fd K "checked" "checked" s_checked f fd)
    (hm : mg "checked" = some (.ref f)) (hk : PySem.W.keepIn K (.ref f) = true) (hb : Binds K fd ["tree", "letters", "width", "states", "level", "number"] []) : ∀ d, FnOk P w K mg base CX0 (d + 3) f fd ["tree", "letters", "width", "states", "level", "number"] (spChecked d)
  | 0 => by
    refine fok F sc_checked (fun vs H Q E h => ?_) (fun cdv A outer s0 H vs Q E hr h => ?_)
    · obtain ⟨_, _, _, _, _, _, _, rfl, _⟩ := h
      rfl
    · obtain ⟨t, _, _, _, _, _, _, _, _, _, _, hd, _⟩ := h
      have := depth_pos t
      omega
  | d + 1 => by
    have D_checked : Dfn P w K mg base (d + 3) "checked" ["tree", "letters", "width", "states", "level", "number"] (spChecked d) := ⟨f, fd, ok_checked T D_is_head D_within F hm hk hb d, hm, hk, hb⟩
    refine fok F sc_checked (fun vs H Q E h => ?_) (fun cdv A outer s0 H vs Q E hr h => ?_)
    · obtain ⟨_, _, _, _, _, _, _, rfl, _⟩ := h
      rfl
    · obtain ⟨t, v, nl, wd, n, lev, num, rfl, ht, hok, hnl, hd, hlev, q⟩ := h
      refine ⟨_, (pss_cons (ps_if (PW.pt (pw_or (pt_cmpR op_gt (pv 4) (pe_gl rfl T.mMOST_LEVELS) (nomark _)) (pw_or1 (pt_not (pt_val (pe_d D_is_head (hr.mono (by omega)) (pa_cons (pv 0) (pa_cons (pv 1) (pa_cons (pv 2) (pa_cons (pv 3) pa_nil))))))))))
       (pss_one (ps_ret (pe_tup (pa_cons pe_bl (pa_cons (pv 5) pa_nil)))))
       pss_nil)
      (pss_cons (ps_set (i := 5) sc_checked.nd rfl (.inl rfl) (pe_op op_add (pv 5) pe_int))
      (pss_cons (ps_for PassesOwn.never rfl (pi_list (pe_d D_within (hr.mono (by omega)) (pa_cons (pv 0) pa_nil))) (pg_name (i := 6) sc_checked.nd rfl (.inl rfl))
       (pss_cons (ps_asg (pe_d D_checked (hr.mono (by omega)) (pa_cons (pv 6) (pa_cons (pv 1) (pa_cons (pv 2) (pa_cons (pv 3) (pa_cons (pe_op op_add (pv 4) pe_int) (pa_cons (pv 5) pa_nil))))))) (pg_tup rfl (pgs_cons (pg_name (i := 7) sc_checked.nd rfl (.inl rfl)) (pgs_cons (pg_name (i := 5) sc_checked.nd rfl (.inl rfl)) pgs_nil))))
        (pss_one (ps_if (pt_val (pv 7))
         (pss_one (ps_ret (pe_tup (pa_cons pe_bl (pa_cons (pv 5) pa_nil)))))
         pss_nil))))
      (pss_one (ps_ret (pe_tup (pa_cons pe_bl (pa_cons (pv 5) pa_nil)))))))), ?_⟩
      have hpos := depth_pos t
      refine ⟨_, rfl, _, _, rfl, rfl, _, rfl, iteN (by omega) ?_⟩
      refine ⟨_, rfl, _, rfl, _, rfl, _, rfl, t, v, nl, wd, n, rfl, ht, hok, fun H1 x1 => ⟨true, rfl, iteF ?_⟩⟩
      refine ⟨_, rfl, _, _, rfl, rfl, ?_⟩
      refine ⟨_, rfl, t, v, rfl, x1.dat ht, Nat.le_trans (kids_len hok) (by omega), fun H2 p xs x2 np hp hxs => ?_⟩
      refine ⟨p, rfl, ⟨xs, SqL.of hp⟩, for_list (K := K) (a := p) (xs := xs) (fun i σ H' => ∃ s6 s7, σ = [some v, some (.int nl), some (.int wd), some (.int n), some (.int lev), some (.int (num + 1 + sizes ((kids t).take i) : Nat)), s6, s7] ∧ Ext [] H2 H')
        ⟨none, none, rfl, Ext.refl⟩ (fun i σ H' _ ⟨_, _, _, x3⟩ => x3.seqL (SqL.of hp) List.not_mem_nil) ?_ ?_⟩
      · rintro i y σ H3 hi ⟨s6, s7, rfl, x3⟩
        obtain ⟨d', hd', hy⟩ := hxs.get' hi
        obtain ⟨u, hu, rfl⟩ := encs_get' hd'
        have hmem := List.mem_of_getElem? hu
        refine ⟨_, rfl, _, rfl, _, rfl, _, rfl, _, rfl, _, _, rfl, rfl, _, rfl, ?_⟩
        refine ⟨u, y, nl, wd, n, lev + 1, _, rfl, x3.dat hy, kids_ok hok u hmem, hnl, by have := kids_depth hmem; omega, by have := kids_depth hmem; omega, fun H4 p4 x4 hp4 => ?_⟩
        refine ⟨p4, _, rfl, SqT.of hp4, rfl, _, _, rfl, _, _, rfl, rfl, ?_⟩
        refine ⟨_, rfl, false, rfl, iteF ?_⟩
        refine ⟨some y, some (.bl false), ?_, x3.trans x4⟩
        rw [sizes_take hu, ← Nat.add_assoc]; rfl
      · rintro σ H3 ⟨s6, s7, rfl, x3⟩
        have e : (kids t).take xs.length = kids t := List.take_of_length_le (by rw [hxs.length, encs_length]; omega)
        rw [e]
        refine ⟨_, rfl, small (by show 2 ≤ 100000; omega), fun T1 n1 => ?_⟩
        refine q _ T1 ((x1.trans (x2.trans x3)).fresh n1) ?_
        rw [upd_same, size_kids t, ← Nat.add_assoc]

theorem tsAt_of {H : Hp} : ∀ {ts : List Tree} {ys : List V}, ys.length = ts.length → (∀ (j : Nat) y, ys[j]? = some y → ∃ t, ts[j]? = some t ∧ TAt H t y) → TsAt H ts ys
  | [], [], _, _ => rfl
  | [], _ :: _, h, _ => by simp at h
  | _ :: _, [], h, _ => by simp at h
  | t :: ts, y :: ys, h, hR => by
    obtain ⟨t', e, ht⟩ := hR 0 y rfl
    have e' : t = t' := by simpa using e
    subst e'
    exact ⟨y, ys, rfl, ht, tsAt_of (by simpa using h) fun j z hz => by
      obtain ⟨u, e1, e2⟩ := hR (j + 1) z (by simpa using hz)
      exact ⟨u, by simpa using e1, e2⟩⟩

abbrev N_kept : List Str := ["tree", "inner"]
theorem sc_kept : FnScope N_kept ["tree"] (defScope s_kept) := ⟨rfl, rfl, rfl, by decide +kernel, rfl, by decide +kernel, by decide +kernel⟩
def spKept (d : Nat) : Sp := fun vs H Q _ => ∃ (t : Tree) (v : V) (nl wd n : Nat), vs = [v] ∧ TAt H t v ∧ t.ok nl wd n ∧ nl ≤ 100 ∧ t.depth ≤ d ∧ ∀ H' v', Ext [] H H' → TAt H' t v' → Q v' H'
theorem ok_kept (T : Tx K mg A0) (F : Fd K "kept" "kept" s_kept f fd)
    (hm : mg "kept" = some (.ref f)) (hk : PySem.W.keepIn K (.ref f) = true) (hb : Binds K fd ["tree"] []) : ∀ d, FnOk P w K mg base CX0 (d + 1) f fd ["tree"] (spKept d)
  | 0 => by
    refine fok F sc_kept (fun vs H Q E h => ?_) (fun cdv A outer s0 H vs Q E hr h => ?_)
    · obtain ⟨_, _, _, _, _, rfl, _⟩ := h
      rfl
    · obtain ⟨t, _, _, _, _, _, _, _, _, hd, _⟩ := h
      have := depth_pos t
      omega
  | d + 1 => by
    have D_kept : Dfn P w K mg base (d + 1) "kept" ["tree"] (spKept d) := ⟨f, fd, ok_kept T F hm hk hb d, hm, hk, hb⟩
    refine fok F sc_kept (fun vs H Q E h => ?_) (fun cdv A outer s0 H vs Q E hr h => ?_)
    · obtain ⟨_, _, _, _, _, rfl, _⟩ := h
      rfl
    · obtain ⟨t, v, nl, wd, n, rfl, ht, hok, hnl, hd, q⟩ := h
      refine ⟨_, (pss_cons (ps_if (pt_cmpR op_eq (pe_ix ix_tup (pv 0) pe_int (fun _ _ => rfl)) pe_str (nomark _))
       (pss_one (ps_ret (pe_callTy call_tuple_of (by rfl) T.tuple (by decide +kernel) (pa_cons (pv 0) pa_nil))))
       pss_nil)
      (pss_cons (ps_if (pt_cmpR op_eq (pe_ix ix_tup (pv 0) pe_int (fun _ _ => rfl)) pe_str (nomark _))
       (pss_one (ps_ret (pe_tup (pa_cons (pe_ix ix_tup (pv 0) pe_int (fun _ _ => rfl)) (pa_cons (pe_ix ix_tup (pv 0) pe_int (fun _ _ => rfl)) (pa_cons (pe_d D_kept (hr.mono (by omega)) (pa_cons (pe_ix ix_tup (pv 0) pe_int (fun _ _ => rfl)) pa_nil)) pa_nil))))))
       pss_nil)
      (pss_one (ps_ret (pe_tup (pa_cons (pe_ix ix_tup (pv 0) pe_int (fun _ _ => rfl)) (pa_cons (pe_ix ix_tup (pv 0) pe_int (fun _ _ => rfl)) (pa_cons (pe_callTy call_tuple_of (by rfl) T.tuple (by decide +kernel) (pa_cons (pe_lc (own := [("inner", 1)]) (g := gName 1) (tt := tYes) rfl sc_kept.nd (pi_tup (pe_ix ix_tup (pv 0) pe_int (fun _ _ => rfl))) (blkOk_by (N := N_kept) (sc := defScope s_kept) (by decide +kernel)) (fun _ _ _ _ _ => (pg_name (i := 1) sc_kept.nd rfl (.inl rfl))) (fun _ _ _ _ _ => pts_nil) (fun _ _ _ _ _ => (pe_d D_kept (hr.mono (by omega)) (pa_cons (pv 1) pa_nil)))) pa_nil)) pa_nil)))))))), ?_⟩
      cases t with
      | go s q0 =>
        obtain ⟨a', rfl, h⟩ := at_go ht
        refine ⟨_, rfl, _, _, _, _, rfl, rfl, SqT.of h, tup_at (j := 0) rfl, rfl, _, rfl, iteD rfl ?_⟩
        exact ⟨_, rfl, a', _, rfl, .inr ⟨SqT.of h, q _ _ Ext.refl ht⟩⟩
      | tell m t =>
        obtain ⟨a', x', rfl, h, hx⟩ := at_tell ht
        refine ⟨_, rfl, _, _, _, _, rfl, rfl, SqT.of h, tup_at (j := 0) rfl, rfl, _, rfl, iteN (by decide +kernel) ?_⟩
        refine ⟨_, rfl, _, _, _, _, rfl, rfl, SqT.of h, tup_at (j := 0) rfl, rfl, _, rfl, iteD rfl ?_⟩
        refine ⟨_, rfl, _, _, _, _, rfl, rfl, SqT.of h, tup_at (j := 0) rfl, _, rfl, _, _, _, _, rfl, rfl, SqT.of h, tup_at (j := 1) rfl, ?_⟩
        refine ⟨_, rfl, _, _, _, _, rfl, rfl, SqT.of h, tup_at (j := 2) rfl, t, x', nl, wd, n, rfl, hx, hok.2.2, hnl, by simp only [Tree.depth] at hd; omega, fun H1 v1 x1 h1 => ?_⟩
        refine ⟨small (by show 3 ≤ 100000; omega), fun p np => ?_⟩
        exact q _ _ (x1.fresh np) (mk_tell np h1)
      | read p ts =>
        obtain ⟨a', b, xs, rfl, h, hb', hxs⟩ := at_read ht
        refine ⟨_, rfl, _, _, _, _, rfl, rfl, SqT.of h, tup_at (j := 0) rfl, rfl, _, rfl, iteN (by decide +kernel) ?_⟩
        refine ⟨_, rfl, _, _, _, _, rfl, rfl, SqT.of h, tup_at (j := 0) rfl, rfl, _, rfl, iteN (by decide +kernel) ?_⟩
        refine ⟨_, rfl, _, _, _, _, rfl, rfl, SqT.of h, tup_at (j := 0) rfl, _, rfl, _, _, _, _, rfl, rfl, SqT.of h, tup_at (j := 1) rfl, ?_⟩
        refine ⟨_, rfl, _, _, _, _, rfl, rfl, SqT.of h, tup_at (j := 2) rfl, b, rfl, ⟨xs, SqT.of hb'⟩, fun D nD => ?_⟩
        obtain ⟨o1, o2, o3, o4⟩ := hok
        have hlen : xs.length = ts.length := by rw [hxs.length, encs_length]
        refine lc_rel walk_tup (fun _ H' => Ext [] H H') (fun j H' y => ∃ t, ts[j]? = some t ∧ TAt H' t y) (by omega) (Ext.refl.new nD) (fun _ _ _ x => .inl (.inl (x.tups _ _ hb'))) (fun j H1 H2 y tt ⟨t, e1, e2⟩ => ⟨t, e1, DAt.ext tt _ _ e2⟩) (fun _ _ _ x => x.new nD) ?_ ?_
        · rintro i y H1 H2 Nx hi x1 ⟨zs, hz⟩ ⟨rfl, hy⟩ nx
          obtain ⟨d', hd', hy'⟩ := hxs.get' hy
          obtain ⟨u, hu, rfl⟩ := encs_get' hd'
          have hmem := List.mem_of_getElem? hu
          refine ⟨rfl, _, rfl, u, y, nl, wd, n, rfl, x1.dat hy', oks_iff.mp o4 u hmem, hnl, by have := depths_mem hmem; simp only [Tree.depth] at hd; omega, fun H3 v3 x3 h3 => ?_⟩
          exact nx v3 H3 (x1.trans x3) x3.tups ((x3.keep _ _ hz List.not_mem_nil).trans hz.symm) ⟨u, hu, h3⟩
        · intro H1 ys x1 hD hys hR
          have hts : TsAt H1 ts ys := tsAt_of (by omega) hR
          refine ⟨D, ys, rfl, .inl ⟨SqL.of hD, fun p np => ?_⟩⟩
          refine ⟨small (by show 3 ≤ 100000; omega), fun p2 np2 => ?_⟩
          exact q _ _ ((x1.fresh np).fresh np2) (mk_read np2 upd_same ((Ext.refl (m := [])|>.fresh np).dats hts))
end
end K21

set_option Elab.async false
set_option linter.all false
set_option maxRecDepth 100000
set_option maxHeartbeats 4000000
/-! Searcher -/
namespace K21
open PySem PySem.Spec PyProof.Rows L2
/-- a searcher stands at a -/
def SrAt (A0 : Ad) (H : Hp) (a : Addr) (L : List Nat) (wd : Nat) (ts : List Tree) : Prop := ∃ (dx : Addr) (fs : List (Str × V)) (tp : Addr) (xs : List V), H a = some (.ins A0.Searcher dx fs) ∧
  fs.lookup ("letters" : Str) = some (V.str (S L)) ∧ fs.lookup ("width" : Str) = some (V.int wd) ∧ fs.lookup ("states" : Str) = some (V.ref tp) ∧ H tp = some (.tup xs) ∧ TsAt H ts xs
theorem SrAt.ext {A0 : Ad} {m : List Addr} {H H' : Hp} {a : Addr} {L : List Nat} {wd : Nat} {ts : List Tree} (h : SrAt A0 H a L wd ts) (x : Ext m H H') (hm : a ∉ m) : SrAt A0 H' a L wd ts := by
  obtain ⟨dx, fs, tp, xs, h1, h2, h3, h4, h5, h6⟩ := h
  exact ⟨dx, fs, tp, xs, x.keep _ _ h1 hm, h2, h3, h4, x.tups _ _ h5, x.dats h6⟩
/-- letters, width, trees that make a searcher -/
structure Good (L : List Nat) (wd : Nat) (ts : List Tree) : Prop where
  ltr : Ltr L
  w1 : 1 ≤ wd
  w8 : wd ≤ 8
  n1 : 1 ≤ ts.length
  n64 : ts.length ≤ 64
  ok : ∀ t ∈ ts, t.ok L.length wd ts.length
  dep : ∀ t ∈ ts, t.depth ≤ 10
  siz : sizes ts ≤ 3000
section
variable {P : Program} {w : World} {K : PySem.W.Frag} {mg : Str → Option Value} {base : Heap} {A0 : Ad} {f : Addr} {fd : FuncData}

abbrev N_Searcher_init : List Str := ["self", "letters", "width", "states", "total", "state", "tree", "is_wrong", "number"]
theorem sc_Searcher_init : FnScope N_Searcher_init ["self", "letters", "width", "states"] (defScope s_Searcher_init) := ⟨rfl, rfl, rfl, by decide +kernel, rfl, by decide +kernel, by decide +kernel⟩
def spSearcher (A0 : Ad) : Sp := fun vs H Q _ => ∃ (x l dx : Addr) (L : List Nat) (wd : Nat) (ts : List Tree) (xs : List V), vs = [.ref x, .str (S L), .int wd, .ref l] ∧ H x = some (.ins A0.Searcher dx []) ∧ H l = some (.lst xs) ∧ TsAt H ts xs ∧ Good L wd ts ∧
  ∀ H', Ext [x] H H' → SrAt A0 H' x L wd ts → Q .non H'
theorem ok_Searcher (T : Tx K mg A0) (D_check_letters : Dfn P w K mg base 1 "check_letters" ["letters"] spCheckLetters) (D_is_number : Dfn P w K mg base 1 "is_number" ["value", "least", "most"] spIsNumber)
    (D_checked : Dfn P w K mg base 13 "checked" ["tree", "letters", "width", "states", "level", "number"] (spChecked 10)) (D_kept : Dfn P w K mg base 11 "kept" ["tree"] (spKept 10))
    (F : Fd K "__init__" "Searcher.__init__" s_Searcher_init f fd) : FnOk P w K mg base CX0 14 f fd ["self", "letters", "width", "states"] (spSearcher A0) := by
  refine fok F sc_Searcher_init (fun vs H Q E h => ?_) (fun cdv A outer s0 H vs Q E hr h => ?_)
  · obtain ⟨_, _, _, _, _, _, _, rfl, _⟩ := h
    rfl
  · obtain ⟨x, l, dx, L, wd, ts, xs, rfl, hx, hl, hxs, G, q⟩ := h
    refine ⟨_, (pss_cons (ps_expr (pe_d D_check_letters (hr.mono (by omega)) (pa_cons (pv 1) pa_nil)))
      (pss_cons (ps_if (pt_not (pt_val (pe_d D_is_number (hr.mono (by omega)) (pa_cons (pv 2) (pa_cons pe_int (pa_cons (pe_gl rfl T.mMOST_WIDTH) pa_nil))))))
       (pss_one ps_never)
       pss_nil)
      (pss_cons (ps_if (pt_not (pt_chain op_le op_le pe_int (pe_callB call_len_seq (by rfl) T.len PySem.boot_len (pa_cons (pv 3) pa_nil)) (pe_gl rfl T.mMOST_STATES)))
       (pss_one ps_never)
       pss_nil)
      (pss_cons (ps_set (i := 4) sc_Searcher_init.nd rfl (.inl rfl) pe_int)
      (pss_cons (ps_for PassesOwn.never rfl (pi_enum (by rfl) T.enumerate (pa_cons (pv 3) pa_nil)) (pg_tup rfl (pgs_cons (pg_name (i := 5) sc_Searcher_init.nd rfl (.inl rfl)) (pgs_cons (pg_name (i := 6) sc_Searcher_init.nd rfl (.inl rfl)) pgs_nil)))
       (pss_cons (ps_asg (pe_d D_checked (hr.mono (by omega)) (pa_cons (pv 6) (pa_cons (pe_callB call_len_str (by rfl) T.len PySem.boot_len (pa_cons (pv 1) pa_nil)) (pa_cons (pv 2) (pa_cons (pe_callB call_len_seq (by rfl) T.len PySem.boot_len (pa_cons (pv 3) pa_nil)) (pa_cons pe_int (pa_cons pe_int pa_nil))))))) (pg_tup rfl (pgs_cons (pg_name (i := 7) sc_Searcher_init.nd rfl (.inl rfl)) (pgs_cons (pg_name (i := 8) sc_Searcher_init.nd rfl (.inl rfl)) pgs_nil))))
        (pss_cons (ps_if (pt_val (pv 7))
         (pss_one ps_never)
         pss_nil)
        (pss_one (ps_set (i := 4) sc_Searcher_init.nd rfl (.inl rfl) (pe_op op_add (pv 4) (pv 8)))))))
      (pss_cons (ps_if (pt_cmpR op_gt (pv 4) (pe_gl rfl T.mMOST_NODES) (nomark _))
       (pss_one ps_never)
       pss_nil)
      (pss_cons (ps_fld (pv 0) (pv 1) rfl)
      (pss_cons (ps_fld (pv 0) (pv 2) rfl)
      (pss_cons (ps_fld (pv 0) (pe_callTy call_tuple_of (by rfl) T.tuple (by decide +kernel) (pa_cons (pe_lc (own := [("tree", 6)]) (g := gName 6) (tt := tYes) rfl sc_Searcher_init.nd (pi_list (pv 3)) (blkOk_by (N := N_Searcher_init) (sc := defScope s_Searcher_init) (by decide +kernel)) (fun _ _ _ _ _ => (pg_name (i := 6) sc_Searcher_init.nd rfl (.inl rfl))) (fun _ _ _ _ _ => pts_nil) (fun _ _ _ _ _ => (pe_d D_kept (hr.mono (by omega)) (pa_cons (pv 6) pa_nil)))) pa_nil)) rfl)
      (pss_one (ps_fld (pv 0) (pv 4) rfl))))))))))), ?_⟩
    have hlen : xs.length = ts.length := by rw [hxs.length, encs_length]
    have hn1 := G.n1
    have hn2 := G.n64
    have hL := G.ltr.hi
    refine ⟨_, rfl, L, rfl, G.ltr, fun H1 x1 => ?_⟩
    refine ⟨_, rfl, _, _, _, rfl, by have := G.w1; omega, by have := G.w8; omega, true, rfl, iteF ?_⟩
    refine ⟨_, rfl, l, xs, rfl, .inl (SqL.of (x1.keep _ _ hl List.not_mem_nil)), _, _, rfl, rfl, _, rfl, iteD (by omega) ⟨_, _, rfl, rfl, _, rfl, iteF' (by rw [decide_eq_true (by omega)]; rfl) ?_⟩⟩
    refine ⟨_, rfl, l, xs, rfl, SqL.of (x1.keep _ _ hl List.not_mem_nil), for_it walk_enum (fun i σ H' => ∃ s5 s6 s7 s8, σ = [some (.ref x), some (.str (S L)), some (.int wd), some (.ref l), some (.int (sizes (ts.take i) : Nat)), s5, s6, s7, s8] ∧ Ext [] H H')
      ⟨none, none, none, none, rfl, x1⟩ (fun i σ H' _ ⟨_, _, _, _, _, x3⟩ => SqL.of (x3.keep _ _ hl List.not_mem_nil)) ?_ ?_⟩
    · rintro i _ σ H2 _ hi ⟨s5, s6, s7, s8, rfl, x2⟩ ⟨T1, _, y, rfl, nT, rfl, e1, hy⟩
      cases e1
      obtain ⟨d', hd', hy'⟩ := hxs.get' hy
      obtain ⟨u, hu, rfl⟩ := encs_get' hd'
      have hmem := List.mem_of_getElem? hu
      have x3 := x2.fresh (o := .tup [.int i, y]) nT
      refine ⟨T1, _, rfl, SqT.of upd_same, rfl, _, _, rfl, _, _, rfl, rfl, ?_⟩
      refine ⟨_, rfl, _, rfl, S L, rfl, small (by show L.length ≤ _; omega), _, rfl, _, rfl, l, xs, rfl, .inl (SqL.of (x3.keep _ _ hl List.not_mem_nil)), ?_⟩
      refine ⟨u, y, L.length, wd, ts.length, 1, 0, ?_, x3.dat hy', G.ok u hmem, by omega, G.dep u hmem, by have := G.dep u hmem; omega, fun H4 p4 x4 hp4 => ?_⟩
      · rw [hlen]; rfl
      refine ⟨p4, _, rfl, SqT.of hp4, rfl, _, _, rfl, _, _, rfl, rfl, ?_⟩
      refine ⟨_, rfl, false, rfl, iteF ?_⟩
      refine ⟨_, rfl, _, rfl, _, _, rfl, rfl, ?_⟩
      refine ⟨some (.int i), some y, some (.bl false), some (.int (0 + u.size : Nat)), ?_, x3.trans x4⟩
      rw [sizes_take hu, Nat.zero_add]; rfl
    · rintro σ H2 ⟨s5, s6, s7, s8, rfl, x2⟩
      have e : ts.take xs.length = ts := List.take_of_length_le (by omega)
      rw [e]
      refine ⟨_, rfl, _, _, rfl, rfl, _, rfl, iteN (by have := G.siz; omega) ?_⟩
      have hx2 := x2.keep _ _ hx List.not_mem_nil
      have nx : ∀ H' : Hp, Ext [] H H' → ∀ o, Ext [x] H (upd H' x o) := fun H' x3 o => x3.any.put List.mem_cons_self hx (fun ys z => nomatch z)
      refine ⟨_, rfl, _, rfl, x, _, dx, _, rfl, hx2, T.clSearcher, T.nSearcher_letters, by decide, ?_⟩
      refine ⟨_, rfl, _, rfl, x, _, dx, _, rfl, upd_same, T.clSearcher, T.nSearcher_width, Nat.lt_of_le_of_lt (putF_len (n := 0) (Nat.le_refl 0)) (by decide), ?_⟩
      rw [upd_upd]
      have x3 := nx H2 x2 (.ins A0.Searcher dx (putF "width" (.int wd) (putF "letters" (.str (S L)) [])))
      generalize hH3 : upd H2 x (.ins A0.Searcher dx (putF "width" (.int wd) (putF "letters" (.str (S L)) []))) = H3 at x3
      have hx3 : H3 x = some (.ins A0.Searcher dx (putF "width" (.int wd) (putF "letters" (.str (S L)) []))) := by rw [← hH3, upd_same]
      have hlx : l ≠ x := ne_of hl hx (fun z => nomatch z)
      have hl3 : H3 l = some (.lst xs) := x3.keep _ _ hl (by simpa using hlx)
      have hxs3 := x3.dats hxs
      refine ⟨_, rfl, l, rfl, ⟨xs, SqL.of hl3⟩, fun D nD => ?_⟩
      refine lc_rel walk_list (fun _ H' => Ext [] H3 H') (fun j H' y => ∃ t, ts[j]? = some t ∧ TAt H' t y) (by omega) (Ext.refl.new nD) (fun _ _ _ x => SqL.of (x.keep _ _ hl3 List.not_mem_nil)) (fun j H1 H2 y tt ⟨t, e1, e2⟩ => ⟨t, e1, DAt.ext tt _ _ e2⟩) (fun _ _ _ x => x.new nD) ?_ ?_
      · rintro i y H4 _ Nx hi x4 ⟨zs, hz⟩ ⟨rfl, hy⟩ nx
        obtain ⟨d', hd', hy'⟩ := hxs3.get' hy
        obtain ⟨u, hu, rfl⟩ := encs_get' hd'
        have hmem := List.mem_of_getElem? hu
        refine ⟨rfl, _, rfl, u, y, L.length, wd, ts.length, rfl, x4.dat hy', G.ok u hmem, by omega, G.dep u hmem, fun H5 v5 x5 h5 => ?_⟩
        exact nx v5 H5 (x4.trans x5) x5.tups ((x5.keep _ _ hz List.not_mem_nil).trans hz.symm) ⟨u, hu, h5⟩
      · intro H4 ys x4 hD hys hR
        have hts : TsAt H4 ts ys := tsAt_of (by omega) hR
        refine ⟨D, ys, rfl, .inl ⟨SqL.of hD, fun p np => ?_⟩⟩
        have hx4 := x4.keep _ _ hx3 List.not_mem_nil
        have npx : x ≠ p := ne_of_none hx4 np
        refine ⟨_, rfl, x, _, dx, _, rfl, (by rw [upd_ne npx]; exact hx4), T.clSearcher, T.nSearcher_states, Nat.lt_of_le_of_lt (putF_len (n := 1) (putF_len (n := 0) (fs := []) (Nat.le_refl 0))) (by decide), ?_⟩
        refine ⟨_, rfl, _, rfl, x, _, dx, _, rfl, upd_same, T.clSearcher, T.nSearcher_nodes, Nat.lt_of_le_of_lt (putF_len (n := 2) (putF_len (n := 1) (putF_len (n := 0) (fs := []) (Nat.le_refl 0)))) (by decide), ?_⟩
        rw [upd_upd]
        have x5 : Ext [x] H (upd H4 p (.tup ys)) := (x3.trans x4.any).fresh np
        have x6 := x5.put (o := .ins A0.Searcher dx (putF "nodes" (.int (sizes ts : Nat)) (putF "states" (.ref p) (putF "width" (.int wd) (putF "letters" (.str (S L)) []))))) List.mem_cons_self hx (fun ys z => nomatch z)
        have hpx : p ≠ x := npx.symm
        refine q _ x6 ⟨dx, _, p, ys, upd_same, ?_, ?_, ?_, by rw [upd_ne hpx, upd_same], ?_⟩
        · rw [look_ne (by decide +kernel), look_ne (by decide +kernel), look_ne (by decide +kernel), look_same]
        · rw [look_ne (by decide +kernel), look_ne (by decide +kernel), look_same]
        · rw [look_ne (by decide +kernel), look_same]
        · refine DAts.ext (fun b zs hb => ?_) _ _ hts
          have hbx : b ≠ x := fun z => by
            subst z
            rw [hx4] at hb
            cases hb
          rw [upd_ne hbx, upd_ne (ne_of_none hb np)]
          exact hb
end
end K21

set_option Elab.async false
set_option linter.all false
set_option maxRecDepth 100000
set_option maxHeartbeats 4000000
/-! knowledge.py -/
namespace K21
open PySem PySem.Spec PyProof.Rows L2
def encR (r : List Rd1) : PyData := .tuple (r.map fun x => .tuple [.int x.1, .str (S [x.2])])
def encN (n : List Int) : PyData := .tuple (n.map .int)
/-- a turn's attributes -/
def tf (rv nv : V) (k : Str) (sv av : V) : List (Str × V) := putF "after" av (putF "slide" sv (putF "known" (.str k) (putF "tells" nv (putF "reads" rv []))))
def OutAt (H : Hp) (k : List Nat) (o : Option (Int × Int)) (sv av : V) : Prop := match o with
  | none => sv = .non ∧ av = .non
  | some (s, q) => sv = .int s ∧ DAt H (.tuple [.int q, .str (S (slidN k s.toNat))]) av
/-- a Turn stands at v -/
def TurnAt (A0 : Ad) (H : Hp) (v : V) (T : TurnR) : Prop := ∃ (a dx : Addr) (rv nv sv av : V), v = .ref a ∧ H a = some (.ins A0.Turn dx (tf rv nv (S T.known) sv av)) ∧ DAt H (encR T.reads) rv ∧ DAt H (encN T.tells) nv ∧ OutAt H T.known T.out sv av
theorem OutAt.ext {H H' : Hp} {k : List Nat} {o : Option (Int × Int)} {sv av : V} (t : Tups H H') (h : OutAt H k o sv av) : OutAt H' k o sv av := by
  cases o with
  | none => exact h
  | some p => exact ⟨h.1, DAt.ext t _ _ h.2⟩
theorem TurnAt.ext {A0 : Ad} {m : List Addr} {H H' : Hp} {v : V} {T : TurnR} (x : Ext m H H') (h : TurnAt A0 H v T) (hm : ∀ a, v = .ref a → a ∉ m) : TurnAt A0 H' v T := by
  obtain ⟨a, dx, rv, nv, sv, av, e, h1, h2, h3, h4⟩ := h
  exact ⟨a, dx, rv, nv, sv, av, e, x.keep _ _ h1 (hm a e), x.dat h2, x.dat h3, h4.ext x.tups⟩
theorem TurnAt.ne {A0 : Ad} {H : Hp} {v : V} {T : TurnR} (h : TurnAt A0 H v T) {f : Addr} {xs : List V} (hf : H f = some (.lst xs)) : ∀ a, v = .ref a → a ∉ [f] := fun a e hm => by
  obtain ⟨b, dx, rv, nv, sv, av, e', h1, _⟩ := h
  rw [e] at e'
  cases e'
  rw [List.mem_singleton.mp hm, hf] at h1
  cases h1
/-- Turns, one for each -/
def TurnsAt (A0 : Ad) (H : Hp) : List TurnR → List V → Prop
  | [], vs => vs = []
  | T :: Ts, vs => ∃ v r, vs = v :: r ∧ TurnAt A0 H v T ∧ TurnsAt A0 H Ts r
theorem TurnsAt.ext {A0 : Ad} {m : List Addr} {H H' : Hp} (x : Ext m H H') : ∀ {Ts : List TurnR} {vs : List V}, TurnsAt A0 H Ts vs → (∀ a, V.ref a ∈ vs → a ∉ m) → TurnsAt A0 H' Ts vs
  | [], _, h, _ => h
  | T :: Ts, vs, h, hm => by
    obtain ⟨v, r, rfl, h1, h2⟩ := h
    exact ⟨v, r, rfl, h1.ext x fun a e => hm a (e ▸ List.mem_cons_self), TurnsAt.ext x h2 fun a e => hm a (List.mem_cons_of_mem _ e)⟩
theorem TurnsAt.mem {A0 : Ad} {H : Hp} : ∀ {Ts : List TurnR} {vs : List V} {v : V}, TurnsAt A0 H Ts vs → v ∈ vs → ∃ T, TurnAt A0 H v T
  | [], vs, _, h, hv => by
    have e : vs = [] := h
    rw [e] at hv
    exact (List.not_mem_nil hv).elim
  | T :: Ts, vs, v, h, hv => by
    obtain ⟨u, r, rfl, h1, h2⟩ := h
    rcases List.mem_cons.mp hv with e | hv
    · exact ⟨T, e ▸ h1⟩
    · exact TurnsAt.mem h2 hv
theorem TurnsAt.ext1 {A0 : Ad} {H H' : Hp} {f : Addr} {xs : List V} (x : Ext [f] H H') (hf : H f = some (.lst xs)) {Ts : List TurnR} {vs : List V} (h : TurnsAt A0 H Ts vs) : TurnsAt A0 H' Ts vs :=
  h.ext x fun a e => by
    obtain ⟨T, ht⟩ := h.mem e
    exact ht.ne hf a rfl
theorem TurnsAt.append {A0 : Ad} {H : Hp} : ∀ {Ts Us : List TurnR} {vs us : List V}, TurnsAt A0 H Ts vs → TurnsAt A0 H Us us → TurnsAt A0 H (Ts ++ Us) (vs ++ us)
  | [], _, vs, _, h, h' => by
    have e : vs = [] := h
    subst e
    exact h'
  | T :: Ts, _, vs, us, h, h' => by
    obtain ⟨v, r, rfl, h1, h2⟩ := h
    exact ⟨v, r ++ us, rfl, h1, TurnsAt.append h2 h'⟩
theorem TurnsAt.length {A0 : Ad} {H : Hp} : ∀ {Ts : List TurnR} {vs : List V}, TurnsAt A0 H Ts vs → vs.length = Ts.length
  | [], vs, h => by
    have e : vs = [] := h
    rw [e]; rfl
  | T :: Ts, vs, h => by
    obtain ⟨v, r, rfl, _, h2⟩ := h
    rw [List.length_cons, List.length_cons, TurnsAt.length h2]
mutual
theorem gt_len {L : List Nat} {w : Nat} : ∀ (t : Tree) (r : List Rd1) (n : List Int) (k : List Nat), (gt L w t r n k).length ≤ t.size
  | .go s q, r, n, k => Nat.le_refl 1
  | .tell m t, r, n, k => Nat.le_succ_of_le (gt_len t r (n ++ [m]) k)
  | .read p ts, r, n, k => by
    show ((if p = (w : Int) ∧ k.getD p.toNat 0 = 46 then [(⟨r, n, k, none⟩ : TurnR)] else []) ++ gts L w L ts p r n k).length ≤ sizes ts + 1
    rw [List.length_append]
    have h := gts_len (L := L) (w := w) L ts p r n k
    have h1 : (if p = (w : Int) ∧ k.getD p.toNat 0 = 46 then [(⟨r, n, k, none⟩ : TurnR)] else []).length ≤ 1 := by split <;> simp
    omega
theorem gts_len {L : List Nat} {w : Nat} : ∀ (cs : List Nat) (ts : List Tree) (p : Int) (r : List Rd1) (n : List Int) (k : List Nat), (gts L w cs ts p r n k).length ≤ sizes ts
  | c :: cs, t :: ts, p, r, n, k => by
    show ((if k.getD p.toNat 0 = 46 ∨ k.getD p.toNat 0 = c then gt L w t (r ++ [(p, c)]) n (k.set p.toNat c) else []) ++ gts L w cs ts p r n k).length ≤ t.size + sizes ts
    rw [List.length_append]
    have h := gts_len (L := L) (w := w) cs ts p r n k
    have h1 : (if k.getD p.toNat 0 = 46 ∨ k.getD p.toNat 0 = c then gt L w t (r ++ [(p, c)]) n (k.set p.toNat c) else []).length ≤ t.size := by
      split
      · exact gt_len t _ _ _
      · exact Nat.zero_le _
    omega
  | [], _, _, _, _, _ => by unfold gts; exact Nat.zero_le _
  | _ :: _, [], _, _, _, _ => by unfold gts; exact Nat.zero_le _
end
theorem gts_take {L : List Nat} {w : Nat} {p : Int} {r : List Rd1} {n : List Int} {k : List Nat} : ∀ {cs : List Nat} {ts : List Tree} {i c : Nat} {t : Tree}, cs[i]? = some c → ts[i]? = some t →
    gts L w (cs.take (i + 1)) (ts.take (i + 1)) p r n k = gts L w (cs.take i) (ts.take i) p r n k ++ (if k.getD p.toNat 0 = 46 ∨ k.getD p.toNat 0 = c then gt L w t (r ++ [(p, c)]) n (k.set p.toNat c) else [])
  | [], _, _, _, _, h, _ => by simp at h
  | _ :: _, [], _, _, _, _, h => by simp at h
  | a :: cs, u :: ts, 0, c, t, h1, h2 => by
    have e1 : a = c := by simpa using h1
    have e2 : u = t := by simpa using h2
    subst e1 e2
    show _ ++ gts L w [] [] p r n k = gts L w [] [] p r n k ++ _
    unfold gts
    rw [List.append_nil, List.nil_append]
  | a :: cs, u :: ts, i + 1, c, t, h1, h2 => by
    show _ ++ gts L w (cs.take (i + 1)) (ts.take (i + 1)) p r n k = (_ ++ gts L w (cs.take i) (ts.take i) p r n k) ++ _
    rw [gts_take (cs := cs) (ts := ts) (i := i) (c := c) (t := t) (by simpa using h1) (by simpa using h2), List.append_assoc]
section
variable {P : Program} {w : World} {K : PySem.W.Frag} {mg : Str → Option Value} {base : Heap} {A0 : Ad} {f : Addr} {fd : FuncData}

abbrev N_Turn_init : List Str := ["self", "reads", "tells", "known", "slide", "after"]
theorem sc_Turn_init : FnScope N_Turn_init ["self", "reads", "tells", "known", "slide", "after"] (defScope s_Turn_init) := ⟨rfl, rfl, rfl, by decide +kernel, rfl, by decide +kernel, by decide +kernel⟩
def spTurn (A0 : Ad) : Sp := fun vs H Q _ => ∃ (x dx a b : Addr) (rs ns : List V) (k : Str) (sv av : V), vs = [.ref x, .ref a, .ref b, .str k, sv, av] ∧ H x = some (.ins A0.Turn dx []) ∧ H a = some (.tup rs) ∧ H b = some (.tup ns) ∧
  ∀ H', Ext [x] H H' → H' x = some (.ins A0.Turn dx (tf (.ref a) (.ref b) k sv av)) → Q .non H'
theorem ok_Turn (T : Tx K mg A0) (F : Fd K "__init__" "Turn.__init__" s_Turn_init f fd) : FnOk P w K mg base CX0 1 f fd ["self", "reads", "tells", "known", "slide", "after"] (spTurn A0) := by
  refine fok F sc_Turn_init (fun vs H Q E h => ?_) (fun cdv A outer s0 H vs Q E hr h => ?_)
  · obtain ⟨_, _, _, _, _, _, _, _, _, rfl, _⟩ := h
    rfl
  · obtain ⟨x, dx, a, b, rs, ns, k, sv, av, rfl, hx, ha, hb, q⟩ := h
    refine ⟨_, (pss_cons (ps_fld (pv 0) (pe_callTy call_tuple_of (by rfl) T.tuple (by decide +kernel) (pa_cons (pv 1) pa_nil)) rfl)
      (pss_cons (ps_fld (pv 0) (pe_callTy call_tuple_of (by rfl) T.tuple (by decide +kernel) (pa_cons (pv 2) pa_nil)) rfl)
      (pss_cons (ps_fld (pv 0) (pv 3) rfl)
      (pss_cons (ps_fld (pv 0) (pv 4) rfl)
      (pss_one (ps_fld (pv 0) (pv 5) rfl)))))), ?_⟩
    have nax : b ≠ x := ne_of hb hx (fun z => nomatch z)
    refine ⟨_, rfl, a, rs, rfl, .inr ⟨SqT.of ha, _, rfl, x, _, dx, _, rfl, hx, T.clTurn, T.nTurn_reads, by decide, ?_⟩⟩
    refine ⟨_, rfl, b, ns, rfl, .inr ⟨SqT.of (by rw [upd_ne nax]; exact hb), _, rfl, x, _, dx, _, rfl, upd_same, T.clTurn, T.nTurn_tells, Nat.lt_of_le_of_lt (putF_len (n := 0) (fs := []) (Nat.le_refl 0)) (by decide), ?_⟩⟩
    rw [upd_upd]
    refine ⟨_, rfl, _, rfl, x, _, dx, _, rfl, upd_same, T.clTurn, T.nTurn_known, Nat.lt_of_le_of_lt (putF_len (n := 1) (putF_len (n := 0) (fs := []) (Nat.le_refl 0))) (by decide), ?_⟩
    rw [upd_upd]
    refine ⟨_, rfl, _, rfl, x, _, dx, _, rfl, upd_same, T.clTurn, T.nTurn_slide, Nat.lt_of_le_of_lt (putF_len (n := 2) (putF_len (n := 1) (putF_len (n := 0) (fs := []) (Nat.le_refl 0)))) (by decide), ?_⟩
    rw [upd_upd]
    refine ⟨_, rfl, _, rfl, x, _, dx, _, rfl, upd_same, T.clTurn, T.nTurn_after, Nat.lt_of_le_of_lt (putF_len (n := 3) (putF_len (n := 2) (putF_len (n := 1) (putF_len (n := 0) (fs := []) (Nat.le_refl 0))))) (by decide), ?_⟩
    rw [upd_upd]
    exact q _ (Ext.refl.put List.mem_cons_self hx (fun ys z => nomatch z)) upd_same

abbrev N_Turn_is_cut : List Str := ["self"]
theorem sc_Turn_is_cut : FnScope N_Turn_is_cut ["self"] (defScope s_Turn_is_cut) := ⟨rfl, rfl, rfl, by decide +kernel, rfl, by decide +kernel, by decide +kernel⟩
def spCut (A0 : Ad) : Sp := fun vs H Q _ => ∃ (x dx : Addr) (rv nv : V) (k : Str) (sv av : V), vs = [.ref x] ∧ H x = some (.ins A0.Turn dx (tf rv nv k sv av)) ∧ Q (.bl (decide (sv = .non))) H
theorem tf_slide {rv nv : V} {k : Str} {sv av : V} : (tf rv nv k sv av).lookup ("slide" : Str) = some sv := by
  unfold tf
  rw [look_ne (by decide +kernel), look_same]
theorem tf_after {rv nv : V} {k : Str} {sv av : V} : (tf rv nv k sv av).lookup ("after" : Str) = some av := look_same
theorem tf_known {rv nv : V} {k : Str} {sv av : V} : (tf rv nv k sv av).lookup ("known" : Str) = some (.str k) := by
  unfold tf
  rw [look_ne (by decide +kernel), look_ne (by decide +kernel), look_same]
theorem tf_tells {rv nv : V} {k : Str} {sv av : V} : (tf rv nv k sv av).lookup ("tells" : Str) = some nv := by
  unfold tf
  rw [look_ne (by decide +kernel), look_ne (by decide +kernel), look_ne (by decide +kernel), look_same]
theorem tf_reads {rv nv : V} {k : Str} {sv av : V} : (tf rv nv k sv av).lookup ("reads" : Str) = some rv := by
  unfold tf
  rw [look_ne (by decide +kernel), look_ne (by decide +kernel), look_ne (by decide +kernel), look_ne (by decide +kernel), look_same]
theorem ok_cut (T : Tx K mg A0) (F : Fd K "is_cut" "Turn.is_cut" s_Turn_is_cut f fd) : FnOk P w K mg base CX0 1 f fd ["self"] (spCut A0) := by
  refine fok F sc_Turn_is_cut (fun vs H Q E h => ?_) (fun cdv A outer s0 H vs Q E hr h => ?_)
  · obtain ⟨_, _, _, _, _, _, _, rfl, _⟩ := h
    rfl
  · obtain ⟨x, dx, rv, nv, k, sv, av, rfl, hx, q⟩ := h
    refine ⟨_, (pss_one (ps_ret (pe_cmpR op_isN (pe_fld (pv 0) rfl) pe_non (nomark _)))), ?_⟩
    exact ⟨_, rfl, x, _, dx, _, _, rfl, hx, T.clTurn, T.nTurn_slide, tf_slide, rfl, q⟩
end
end K21

set_option Elab.async false
set_option linter.all false
set_option maxRecDepth 100000
set_option maxHeartbeats 4000000
/-! go_through, turns -/
namespace K21
open PySem PySem.Spec PyProof.Rows L2
section
variable {P : Program} {w : World} {K : PySem.W.Frag} {mg : Str → Option Value} {base : Heap} {A0 : Ad} {f : Addr} {fd : FuncData}
theorem encR_snoc (r : List Rd1) (p : Int) (c : Nat) : encR (r ++ [(p, c)]) = .tuple ((r.map fun x => PyData.tuple [.int x.1, .str (S [x.2])]) ++ [.tuple [.int p, .str (S [c])]]) := by
  unfold encR
  rw [List.map_append]; rfl
theorem encN_snoc (n : List Int) (m : Int) : encN (n ++ [m]) = .tuple (n.map PyData.int ++ [.int m]) := by
  unfold encN
  rw [List.map_append]; rfl
theorem getD_some {k : List Nat} {j : Nat} (h : j < k.length) : k[j]? = some (k.getD j 0) := by
  rw [List.getElem?_eq_getElem h, getD_of (List.getElem?_eq_getElem h)]

abbrev N_go_through : List Str := ["searcher", "tree", "past", "found", "reads", "tells", "known", "place", "letter", "below"]
theorem sc_go_through : FnScope N_go_through ["searcher", "tree", "past", "found"] (defScope s_go_through) := ⟨rfl, rfl, rfl, by decide +kernel, rfl, by decide +kernel, by decide +kernel⟩
def spGo (A0 : Ad) (d : Nat) : Sp := fun vs H Q _ => ∃ (a pp fl : Addr) (L : List Nat) (wd : Nat) (ts : List Tree) (t : Tree) (v rv nv : V) (r : List Rd1) (n : List Int) (k : List Nat) (xs : List V) (nst : Nat),
  vs = [.ref a, v, .ref pp, .ref fl] ∧ SrAt A0 H a L wd ts ∧ Ltr L ∧ wd ≤ 8 ∧ TAt H t v ∧ t.ok L.length wd nst ∧ t.depth ≤ d ∧ H pp = some (.tup [rv, nv, .str (S k)]) ∧ DAt H (encR r) rv ∧ DAt H (encN n) nv ∧ k.length = wd + 1 ∧
  r.length + d ≤ 1000 ∧ n.length + d ≤ 1000 ∧ H fl = some (.lst xs) ∧ xs.length + t.size ≤ 10000 ∧ ∀ H' ys, Ext [fl] H H' → H' fl = some (.lst (xs ++ ys)) → TurnsAt A0 H' (gt L wd t r n k) ys → Q .non H'
theorem ok_go_through (T : Tx K mg A0) (D_Turn : Mkr P w K mg base 1 "Turn" A0.Turn ["self", "reads", "tells", "known", "slide", "after"] (spTurn A0)) (D_slid : Dfn P w K mg base 1 "slid" ["known", "by"] spSlid) (D_put_in : Dfn P w K mg base 1 "put_in" ["known", "place", "letter"] spPutIn)
    (F : Fd K "go_through" "go_through" s_go_through f fd) (hm : mg "go_through" = some (.ref f)) (hk : PySem.W.keepIn K (.ref f) = true) (hb : Binds K fd ["searcher", "tree", "past", "found"] []) : ∀ d, FnOk P w K mg base CX0 (d + 3) f fd ["searcher", "tree", "past", "found"] (spGo A0 d)
  | 0 => by
    refine fok F sc_go_through (fun vs H Q E h => ?_) (fun cdv A outer s0 H vs Q E hr h => ?_)
    · obtain ⟨_, _, _, _, _, _, _, _, _, _, _, _, _, _, _, rfl, _⟩ := h
      rfl
    · obtain ⟨_, _, _, _, _, _, t, _, _, _, _, _, _, _, _, _, _, _, _, _, _, hd, _⟩ := h
      have := depth_pos t
      omega
  | d + 1 => by
    have D_go_through : Dfn P w K mg base (d + 3) "go_through" ["searcher", "tree", "past", "found"] (spGo A0 d) := ⟨f, fd, ok_go_through T D_Turn D_slid D_put_in F hm hk hb d, hm, hk, hb⟩
    refine fok F sc_go_through (fun vs H Q E h => ?_) (fun cdv A outer s0 H vs Q E hr h => ?_)
    · obtain ⟨_, _, _, _, _, _, _, _, _, _, _, _, _, _, _, rfl, _⟩ := h
      rfl
    · obtain ⟨a, pp, fl, L, wd, ts, t, v, rv, nv, r, n, k, xs, nst, rfl, hS, hL, hw8, ht, hok, hd, hpp, hrv, hnv, hkl, hr1, hn1, hfl, hsz, q⟩ := h
      refine ⟨_, (pss_cons (ps_asg (pv 2) (pg_tup rfl (pgs_cons (pg_name (i := 4) sc_go_through.nd rfl (.inl rfl)) (pgs_cons (pg_name (i := 5) sc_go_through.nd rfl (.inl rfl)) (pgs_cons (pg_name (i := 6) sc_go_through.nd rfl (.inl rfl)) pgs_nil)))))
      (pss_one (ps_if (pt_cmpR op_eq (pe_ix ix_tup (pv 1) pe_int (fun _ _ => rfl)) pe_str (nomark _))
       (pss_one (ps_expr (pe_bm PySem.F.plainAttrs_list PySem.F.slot_list_append PySem.F.type_list_append mt_append (pv 3) (pa_cons (pe_mkD D_Turn (hr.mono (by omega)) (pa_cons (pv 4) (pa_cons (pv 5) (pa_cons (pv 6) (pa_cons (pe_ix ix_tup (pv 1) pe_int (fun _ _ => rfl)) (pa_cons (pe_tup (pa_cons (pe_ix ix_tup (pv 1) pe_int (fun _ _ => rfl)) (pa_cons (pe_d D_slid (hr.mono (by omega)) (pa_cons (pv 6) (pa_cons (pe_ix ix_tup (pv 1) pe_int (fun _ _ => rfl)) pa_nil))) pa_nil))) pa_nil)))))) pa_nil))))
       (pss_one (ps_if (pt_cmpR op_eq (pe_ix ix_tup (pv 1) pe_int (fun _ _ => rfl)) pe_str (nomark _))
         (pss_one (ps_expr (pe_d D_go_through (hr.mono (by omega)) (pa_cons (pv 0) (pa_cons (pe_ix ix_tup (pv 1) pe_int (fun _ _ => rfl)) (pa_cons (pe_tup (pa_cons (pv 4) (pa_cons (pe_op op_catD (pv 5) (pe_tup (pa_cons (pe_ix ix_tup (pv 1) pe_int (fun _ _ => rfl)) pa_nil))) (pa_cons (pv 6) pa_nil)))) (pa_cons (pv 3) pa_nil)))))))
         (pss_cons (ps_set (i := 7) sc_go_through.nd rfl (.inl rfl) (pe_ix ix_tup (pv 1) pe_int (fun _ _ => rfl)))
          (C8.pss_cut (ps_if (PW.pt (pw_and (pt_cmpR op_eq (pv 7) (pe_fld (pv 0) rfl) (nomark _)) (pw_and1 (pt_cmpR op_eq (pe_ix ix_str (pv 6) (pv 7) (fun _ _ => rfl)) pe_str (nomark _)))))
           (pss_one (ps_expr (pe_bm PySem.F.plainAttrs_list PySem.F.slot_list_append PySem.F.type_list_append mt_append (pv 3) (pa_cons (pe_mkD D_Turn (hr.mono (by omega)) (pa_cons (pv 4) (pa_cons (pv 5) (pa_cons (pv 6) (pa_cons pe_non (pa_cons pe_non pa_nil)))))) pa_nil))))
           pss_nil)
          (pss_one (ps_for PassesOwn.never rfl (pi_zipST (by rfl) T.zip (pe_fld (pv 0) rfl) (pe_ix ix_tup (pv 1) pe_int (fun _ _ => rfl))) (pg_tup rfl (pgs_cons (pg_name (i := 8) sc_go_through.nd rfl (.inl rfl)) (pgs_cons (pg_name (i := 9) sc_go_through.nd rfl (.inl rfl)) pgs_nil)))
           (pss_one (ps_if (pt_cmpR op_in_seq (pe_ix ix_str (pv 6) (pv 7) (fun _ _ => rfl)) (pe_tup (pa_cons pe_str (pa_cons (pv 8) pa_nil))) rfl)
             (pss_cons (ps_set (i := 2) sc_go_through.nd rfl (.inl rfl) (pe_tup (pa_cons (pe_op op_catD (pv 4) (pe_tup (pa_cons (pe_tup (pa_cons (pv 7) (pa_cons (pv 8) pa_nil))) pa_nil))) (pa_cons (pv 5) (pa_cons (pe_d D_put_in (hr.mono (by omega)) (pa_cons (pv 6) (pa_cons (pv 7) (pa_cons (pv 8) pa_nil)))) pa_nil)))))
              (pss_one (ps_expr (pe_d D_go_through (hr.mono (by omega)) (pa_cons (pv 0) (pa_cons (pv 9) (pa_cons (pv 2) (pa_cons (pv 3) pa_nil))))))))
             pss_nil))))))))))), ?_⟩
      obtain ⟨ra, rxs, rfl, hra, hrxs⟩ := id hrv
      obtain ⟨na, nxs, rfl, hna, hnxs⟩ := id hnv
      refine ⟨_, rfl, pp, _, rfl, SqT.of hpp, rfl, _, _, rfl, _, _, rfl, _, _, rfl, rfl, ?_⟩
      -- a Turn is laid
      have lay : ∀ {H1 H' : Hp} {x dx : Addr} {sv av : V} {o : Option (Int × Int)}, Ext [fl] H H1 → H1 x = none → H1 dx = none → Ext [x] (upd (upd H1 dx (.own x)) x (.ins A0.Turn dx [])) H' → H' x = some (.ins A0.Turn dx (tf (.ref ra) (.ref na) (S k) sv av)) →
          OutAt H1 k o sv av → Ext [fl] H H' ∧ (∀ l z, H1 l = some (.lst z) → H' l = some (.lst z)) ∧ Tups H1 H' ∧ TurnAt A0 H' (.ref x) ⟨r, n, k, o⟩ := by
        intro H1 H' x dx sv av o x1 nx nd x2 hx ho
        have x3 : Ext [] H1 H' := made_ext nx nd x2
        exact ⟨x1.trans x3.any, fun l z h => x3.keep _ _ h List.not_mem_nil, x3.tups, x, dx, _, _, sv, av, rfl, hx, x3.dat (x1.dat hrv), x3.dat (x1.dat hnv), ho.ext x3.tups⟩
      cases t with
      | go s q0 =>
        obtain ⟨ta, rfl, h⟩ := at_go ht
        obtain ⟨o1, o2, o3, o4⟩ := hok
        obtain ⟨sn, rfl⟩ := Int.eq_ofNat_of_zero_le (show 0 ≤ s by omega)
        refine ⟨_, rfl, _, _, _, _, rfl, rfl, SqT.of h, tup_at (j := 0) rfl, rfl, _, rfl, iteD rfl ?_⟩
        refine ⟨_, rfl, .inl ⟨rfl, _, SqL.of hfl⟩, _, rfl, _, rfl, _, rfl, _, rfl, _, _, _, _, rfl, rfl, SqT.of h, tup_at (j := 1) rfl, ?_⟩
        refine ⟨_, rfl, _, _, _, _, rfl, rfl, SqT.of h, tup_at (j := 2) rfl, _, rfl, _, rfl, _, _, _, _, rfl, rfl, SqT.of h, tup_at (j := 1) rfl, k, sn, rfl, by omega, by omega, ?_⟩
        refine ⟨small (by show 2 ≤ 100000; omega), fun p np x dx nx nd hne => ?_⟩
        have xp : Ext [] H (upd H p (.tup [.int q0, .str (S (slidN k sn))])) := Ext.refl.fresh np
        have hx0 : ∀ b, b ≠ x → b ≠ dx → (upd (upd (upd H p (.tup [.int q0, .str (S (slidN k sn))])) dx (.own x)) x (.ins A0.Turn dx [])) b = (upd H p (.tup [.int q0, .str (S (slidN k sn))])) b := fun b h1 h2 => by rw [upd_ne h1, upd_ne h2]
        have ra' := xp.tups _ _ hra
        have na' := xp.tups _ _ hna
        refine ⟨x, dx, ra, na, rxs, nxs, S k, _, _, rfl, upd_same, ?_, ?_, fun H5 x5 h5 => ⟨rfl, ?_⟩⟩
        · rw [hx0 _ (ne_of_none ra' nx) (ne_of_none ra' nd)]; exact ra'
        · rw [hx0 _ (ne_of_none na' nx) (ne_of_none na' nd)]; exact na'
        obtain ⟨y1, y2, y3, y4⟩ := lay (o := some ((sn : Int), q0)) xp.any nx nd x5 h5 ⟨rfl, p, _, rfl, upd_same, _, _, rfl, rfl, _, _, rfl, by rw [Int.toNat_natCast]; rfl, rfl⟩
        have hfl5 := y2 fl xs (xp.keep _ _ hfl List.not_mem_nil)
        refine ⟨fl, xs, _, rfl, rfl, hfl5, Nat.lt_of_le_of_lt (show xs.length ≤ 10000 by omega) (by rw [sizeLine_eq]; omega), ?_⟩
        refine q _ [.ref x] (y1.put List.mem_cons_self hfl (fun ys z => nomatch z)) upd_same ⟨.ref x, [], rfl, y4.ext (Ext.refl.put List.mem_cons_self hfl5 (fun ys z => nomatch z)) (y4.ne hfl5), rfl⟩
      | tell m t =>
        obtain ⟨ta, tv, rfl, h, htv⟩ := at_tell ht
        obtain ⟨o1, o2, o3⟩ := hok
        refine ⟨_, rfl, _, _, _, _, rfl, rfl, SqT.of h, tup_at (j := 0) rfl, rfl, _, rfl, iteN (by decide +kernel) ?_⟩
        refine ⟨_, rfl, _, _, _, _, rfl, rfl, SqT.of h, tup_at (j := 0) rfl, rfl, _, rfl, iteD rfl ?_⟩
        refine ⟨_, rfl, _, rfl, _, _, _, _, rfl, rfl, SqT.of h, tup_at (j := 2) rfl, _, rfl, _, rfl, _, rfl, _, _, _, _, rfl, rfl, SqT.of h, tup_at (j := 1) rfl, ?_⟩
        refine ⟨small (by show 1 ≤ 100000; omega), fun p np => ?_⟩
        have xp : Ext [] H (upd H p (.tup [.int m])) := Ext.refl.fresh np
        refine ⟨_, [.int m], xp.dat hnv, ⟨p, _, rfl, upd_same, _, _, rfl, rfl, rfl⟩, by rw [List.length_map]; show n.length + 1 ≤ _; omega, fun z H2 x2 hz => ?_⟩
        refine ⟨_, rfl, small (by show 3 ≤ 100000; omega), fun p2 np2 => ⟨_, rfl, ?_⟩⟩
        have x3 : Ext [] H (upd H2 p2 (.tup [.ref ra, z, .str (S k)])) := (xp.trans x2).fresh np2
        have x4 : Ext [] H2 (upd H2 p2 (.tup [.ref ra, z, .str (S k)])) := Ext.refl.fresh np2
        refine ⟨a, p2, fl, L, wd, ts, t, tv, .ref ra, z, r, n ++ [m], k, xs, nst, rfl, hS.ext x3 List.not_mem_nil, hL, hw8, x3.dat htv, o3, by simp only [Tree.depth] at hd; omega, upd_same, x3.dat hrv, ?_, hkl, by omega, by rw [List.length_append]; show n.length + 1 + d ≤ _; omega, x3.keep _ _ hfl List.not_mem_nil, by simp only [Tree.size] at hsz; omega, fun H5 ys x5 h5 hT => ?_⟩
        · rw [encN_snoc]
          exact x4.dat hz
        · exact q _ ys (x3.any.trans x5) h5 hT
      | read pl ts' =>
        obtain ⟨ta, tb, txs, rfl, h, htb, htxs⟩ := at_read ht
        obtain ⟨o1, o2, o3, o4⟩ := hok
        obtain ⟨p, rfl⟩ := Int.eq_ofNat_of_zero_le o1
        have hp : p < k.length := by omega
        have hkp := getD_some hp
        have hS' := hS
        obtain ⟨dx, fs, tp, sxs, hA, hlet, hwid, hst, _, _⟩ := hS'
        have hafl : a ≠ fl := ne_of hA hfl (fun z => nomatch z)
        refine ⟨_, rfl, _, _, _, _, rfl, rfl, SqT.of h, tup_at (j := 0) rfl, rfl, _, rfl, iteN (by decide +kernel) ?_⟩
        refine ⟨_, rfl, _, _, _, _, rfl, rfl, SqT.of h, tup_at (j := 0) rfl, rfl, _, rfl, iteN (by decide +kernel) ?_⟩
        refine ⟨_, rfl, _, _, _, _, rfl, rfl, SqT.of h, tup_at (j := 1) rfl, ?_⟩
        -- if place == searcher.width and known[place] == '.'
        refine ⟨fun σ H' => ∃ zs, σ = [some (.ref a), some (.ref ta), some (.ref pp), some (.ref fl), some (.ref ra), some (.ref na), some (.str (S k)), some (.int p), none, none] ∧ Ext [fl] H H' ∧ H' fl = some (.lst (xs ++ zs)) ∧
          TurnsAt A0 H' (if (p : Int) = (wd : Int) ∧ k.getD p 0 = 46 then [⟨r, n, k, none⟩] else []) zs, ?_, ?_⟩
        · refine ⟨_, rfl, _, rfl, a, _, dx, fs, _, rfl, hA, T.clSearcher, T.nSearcher_width, hwid, rfl, _, rfl, iteD2 (fun hpw => ?_) (fun hpw => ?_)⟩
          · have hpw' : (p : Int) = (wd : Int) := by simpa using hpw
            refine ⟨_, rfl, _, rfl, S k, _, _, rfl, rfl, small (by show k.length ≤ _; omega), atI_nat hkp, rfl, _, rfl, iteD2 (fun hdot => ?_) (fun hdot => ?_)⟩
            · have hd46 := dot_iff.mp hdot
              refine ⟨_, rfl, .inl ⟨rfl, _, SqL.of hfl⟩, _, rfl, _, rfl, _, rfl, fun x dx' nx nd hne => ?_⟩
              have hx0 : ∀ b, b ≠ x → b ≠ dx' → (upd (upd H dx' (.own x)) x (.ins A0.Turn dx' [])) b = H b := fun b h1 h2 => by rw [upd_ne h1, upd_ne h2]
              refine ⟨x, dx', ra, na, rxs, nxs, S k, _, _, rfl, upd_same, ?_, ?_, fun H5 x5 h5 => ⟨rfl, ?_⟩⟩
              · rw [hx0 _ (ne_of_none hra nx) (ne_of_none hra nd)]; exact hra
              · rw [hx0 _ (ne_of_none hna nx) (ne_of_none hna nd)]; exact hna
              obtain ⟨y1, y2, y3, y4⟩ := lay (o := none) Ext.refl nx nd x5 h5 ⟨rfl, rfl⟩
              have hfl5 := y2 fl xs hfl
              refine ⟨fl, xs, _, rfl, rfl, hfl5, Nat.lt_of_le_of_lt (show xs.length ≤ 10000 by omega) (by rw [sizeLine_eq]; omega), ?_⟩
              refine ⟨[.ref x], rfl, y1.put List.mem_cons_self hfl (fun ys z => nomatch z), upd_same, ?_⟩
              rw [if_pos ⟨hpw', hd46⟩]
              exact ⟨.ref x, [], rfl, y4.ext (Ext.refl.put List.mem_cons_self hfl5 (fun ys z => nomatch z)) (y4.ne hfl5), rfl⟩
            · refine ⟨[], rfl, Ext.refl, by rw [List.append_nil]; exact hfl, ?_⟩
              rw [if_neg fun z => hdot (dot_iff.mpr z.2)]
              exact rfl
          · refine ⟨[], rfl, Ext.refl, by rw [List.append_nil]; exact hfl, ?_⟩
            rw [if_neg fun z => hpw (by rw [z.1])]
            exact rfl
        · rintro σ H1 ⟨cs, rfl, x1, hf1, hT1⟩
          generalize hcut : (if (p : Int) = (wd : Int) ∧ k.getD p 0 = 46 then [(⟨r, n, k, none⟩ : TurnR)] else []) = cut at hT1
          have hA1 := x1.keep _ _ hA (by simpa using hafl)
          have h1 := x1.tups _ _ h
          have hb1 := x1.tups _ _ htb
          have hlen : txs.length = ts'.length := by rw [htxs.length, encs_length]
          have hLn : (S L).cps.size = txs.length := by show L.length = _; omega
          refine ⟨_, rfl, a, _, dx, fs, _, rfl, hA1, T.clSearcher, T.nSearcher_letters, hlet, _, rfl, _, _, _, _, rfl, rfl, SqT.of h1, tup_at (j := 2) rfl, S L, tb, txs, rfl, rfl, SqT.of hb1, ?_⟩
          refine for_it (walk_zipST hLn) (fun i σ H' => ∃ s2 s8 s9 zs, σ = [some (.ref a), some (.ref ta), s2, some (.ref fl), some (.ref ra), some (.ref na), some (.str (S k)), some (.int p), s8, s9] ∧ Ext [fl] H H' ∧ H' fl = some (.lst (xs ++ zs)) ∧
            TurnsAt A0 H' (cut ++ gts L wd (L.take i) (ts'.take i) p r n k) zs) ⟨_, _, _, cs, rfl, x1, hf1, ?_⟩ (fun _ _ _ _ ⟨_, _, _, _, _, x, _⟩ => SqT.of (x.tups _ _ htb)) ?_ ?_
          · have e : gts L wd (L.take 0) (ts'.take 0) p r n k = [] := by
              rw [List.take_zero]
              unfold gts
              rfl
            rw [e, List.append_nil]
            exact hT1
          · rintro i _ σ H2 _ hi ⟨s2, s8, s9, zs, rfl, x2, hf2, hT2⟩ ⟨T1, c, y, rfl, nT, rfl, hc, hy⟩
            obtain ⟨d', hd', hy'⟩ := htxs.get' hy
            obtain ⟨u, hu, rfl⟩ := encs_get' hd'
            have hmem := List.mem_of_getElem? hu
            have hcL : L[i]? = some c := by simpa using hc
            have eg := gts_take (L := L) (w := wd) (p := p) (r := r) (n := n) (k := k) hcL hu
            rw [Int.toNat_natCast] at eg
            have x3 : Ext [] H2 (upd H2 T1 (.tup [.str ⟨#[c]⟩, y])) := Ext.refl.fresh nT
            refine ⟨T1, _, rfl, SqT.of upd_same, rfl, _, _, rfl, _, _, rfl, rfl, ?_⟩
            refine ⟨_, rfl, _, rfl, S k, _, _, rfl, rfl, small (by show k.length ≤ _; omega), atI_nat hkp, _, rfl, small (by show 2 ≤ 100000; omega), fun T2 nT2 => ?_⟩
            have x4 : Ext [] H2 (upd (upd H2 T1 (.tup [.str ⟨#[c]⟩, y])) T2 (.tup [.str ".", .str ⟨#[c]⟩])) := x3.fresh nT2
            refine ⟨T2, _, rfl, .inr (SqT.of upd_same), rfl, rfl, _, rfl, ?_⟩
            show if inV (.str ⟨#[k.getD p 0]⟩) [.str ".", .str ⟨#[c]⟩] = true then _ else _
            rw [inV_dot]
            generalize upd (upd H2 T1 (.tup [.str ⟨#[c]⟩, y])) T2 (.tup [.str ".", .str ⟨#[c]⟩]) = H4 at x4
            have hf4 := x4.keep _ _ hf2 List.not_mem_nil
            have hT4 : TurnsAt A0 H4 _ zs := hT2.ext x4 fun _ _ => List.not_mem_nil
            refine iteD2 (fun hin => ?_) (fun hin => ?_)
            · -- past = .., go_through(..)
              have hrv4 := (x2.trans x4.any).dat hrv
              refine ⟨_, rfl, _, rfl, _, rfl, small (by show 2 ≤ 100000; omega), fun q1 nq1 => ⟨small (by show 1 ≤ 100000; omega), fun q2 nq2 => ?_⟩⟩
              have x5 : Ext [] H4 (upd (upd H4 q1 (.tup [.int p, .str ⟨#[c]⟩])) q2 (.tup [.ref q1])) := (Ext.refl.fresh nq1).fresh nq2
              have hpair : DAt (upd (upd H4 q1 (.tup [.int p, .str ⟨#[c]⟩])) q2 (.tup [.ref q1])) (.tuple [.tuple [.int p, .str (S [c])]]) (.ref q2) :=
                DAt.tup nq2 (DAts.one ⟨q1, _, rfl, upd_same, _, _, rfl, rfl, _, _, rfl, rfl, rfl⟩)
              refine ⟨_, _, x5.dat hrv4, hpair, by rw [List.length_map]; show r.length + 1 ≤ _; omega, fun z H6 x6 hz => ?_⟩
              refine ⟨_, rfl, _, rfl, _, rfl, _, rfl, k, p, c, rfl, hp, by omega, ?_⟩
              refine ⟨small (by show 3 ≤ 100000; omega), fun q3 nq3 => ?_⟩
              have x7 : Ext [] H4 (upd H6 q3 (.tup [z, .ref na, .str (S (k.set p c))])) := (x5.trans x6).fresh nq3
              have x8 : Ext [fl] H (upd H6 q3 (.tup [z, .ref na, .str (S (k.set p c))])) := x2.trans (x4.trans x7).any
              have x9 : Ext [] H6 (upd H6 q3 (.tup [z, .ref na, .str (S (k.set p c))])) := Ext.refl.fresh nq3
              refine ⟨_, rfl, _, rfl, _, rfl, _, rfl, ?_⟩
              have hglen := gts_len (L := L) (w := wd) (L.take i) (ts'.take i) p r n k
              have hsz' : sizes (ts'.take i) + u.size ≤ sizes ts' := by
                rw [← sizes_take hu]
                conv => rhs; rw [← List.take_append_drop (i + 1) ts', sizes_append]
                omega
              have hcl : cut.length ≤ 1 := by
                rw [← hcut]
                split <;> simp
              have hzl : zs.length ≤ 1 + sizes (ts'.take i) := by
                have := hT2.length
                rw [List.length_append] at this
                omega
              refine ⟨a, q3, fl, L, wd, ts, u, y, z, .ref na, r ++ [((p : Int), c)], n, k.set p c, xs ++ zs, nst, rfl, hS.ext x8 (by simpa using hafl), hL, hw8, x8.dat hy', oks_iff.mp o4 u hmem, by have := depths_mem hmem; simp only [Tree.depth] at hd; omega, upd_same, ?_, x8.dat hnv, by rw [List.length_set]; exact hkl,
                by rw [List.length_append]; show r.length + 1 + d ≤ _; omega, by omega, x7.keep _ _ hf4 List.not_mem_nil, by rw [List.length_append]; simp only [Tree.size] at hsz; omega, fun H10 ys x10 h10 hT10 => ?_⟩
              · rw [encR_snoc]
                exact x9.dat hz
              · refine ⟨_, _, _, zs ++ ys, rfl, x8.trans x10, by rw [← List.append_assoc]; exact h10, ?_⟩
                rw [eg, if_pos hin, ← List.append_assoc]
                have hT7 := hT4.ext x7 fun _ _ => List.not_mem_nil
                exact (hT7.ext1 x10 (x7.keep _ _ hf4 List.not_mem_nil)).append hT10
            · refine ⟨_, _, _, zs, rfl, x2.trans x4.any, hf4, ?_⟩
              rw [eg, if_neg hin, List.append_nil]
              exact hT4
          · rintro σ H2 ⟨s2, s8, s9, zs, rfl, x2, hf2, hT2⟩
            refine q _ zs x2 hf2 ?_
            have e1 : L.take txs.length = L := List.take_of_length_le (by omega)
            have e2 : ts'.take txs.length = ts' := List.take_of_length_le (by omega)
            rw [e1, e2] at hT2
            rw [← hcut] at hT2
            exact hT2

abbrev N_turns : List Str := ["searcher", "standing", "found"]
theorem sc_turns : FnScope N_turns ["searcher", "standing"] (defScope s_turns) := ⟨rfl, rfl, rfl, by decide +kernel, rfl, by decide +kernel, by decide +kernel⟩
def spTurns (A0 : Ad) : Sp := fun vs H Q _ => ∃ (a st : Addr) (L : List Nat) (wd : Nat) (ts : List Tree) (t : Tree) (k : List Nat) (i nst : Nat), vs = [.ref a, .ref st] ∧ SrAt A0 H a L wd ts ∧ Ltr L ∧ wd ≤ 8 ∧ ts[i]? = some t ∧ t.ok L.length wd nst ∧ t.depth ≤ 10 ∧ t.size ≤ 3000 ∧ H st = some (.tup [.int i, .str (S k)]) ∧ k.length = wd + 1 ∧
  ∀ H' p ys, Ext [] H H' → H' p = some (.lst ys) → TurnsAt A0 H' (gt L wd t [] [] k) ys → Q (.ref p) H'
theorem ok_turns (T : Tx K mg A0) (D_go_through : Dfn P w K mg base 13 "go_through" ["searcher", "tree", "past", "found"] (spGo A0 10)) (F : Fd K "turns" "turns" s_turns f fd) : FnOk P w K mg base CX0 14 f fd ["searcher", "standing"] (spTurns A0) := by
  refine fok F sc_turns (fun vs H Q E h => ?_) (fun cdv A outer s0 H vs Q E hr h => ?_)
  · obtain ⟨_, _, _, _, _, _, _, _, _, rfl, _⟩ := h
    rfl
  · obtain ⟨a, st, L, wd, ts, t, k, i, nst, rfl, hS, hL, hw8, hti, hok, hd, hsz, hst, hkl, q⟩ := h
    refine ⟨_, (pss_cons (ps_set (i := 2) sc_turns.nd rfl (.inl rfl) (pe_lst pa_nil))
      (pss_cons (ps_expr (pe_d D_go_through (hr.mono (by omega)) (pa_cons (pv 0) (pa_cons (pe_ix ix_tup (pe_fld (pv 0) rfl) (pe_ix ix_tup (pv 1) pe_int (fun _ _ => rfl)) (fun _ _ => rfl)) (pa_cons (pe_tup (pa_cons (pe_tup pa_nil) (pa_cons (pe_tup pa_nil) (pa_cons (pe_ix ix_tup (pv 1) pe_int (fun _ _ => rfl)) pa_nil)))) (pa_cons (pv 2) pa_nil))))))
      (pss_one (ps_ret (pv 2))))), ?_⟩
    refine ⟨Nat.zero_le _, fun p np => ?_⟩
    have x1 : Ext [] H (upd H p (.lst [])) := Ext.refl.fresh np
    have hS1 := hS.ext x1 List.not_mem_nil
    have hst1 := x1.tups _ _ hst
    generalize hH1 : upd H p (.lst []) = H1 at x1 hS1 hst1
    have hp1 : H1 p = some (.lst []) := by rw [← hH1, upd_same]
    obtain ⟨dx, fs, tp, sxs, hA, hlet, hwid, hstt, htp, hsxs⟩ := id hS1
    obtain ⟨v, hv, htv⟩ := hsxs.get (encs_get hti)
    refine ⟨_, rfl, _, rfl, a, _, dx, fs, _, rfl, hA, T.clSearcher, T.nSearcher_states, hstt, _, rfl, _, _, _, _, rfl, rfl, SqT.of hst1, tup_at (j := 0) rfl, _, _, _, _, rfl, rfl, SqT.of htp, at_of rfl hv, ?_⟩
    refine ⟨small (by show 0 ≤ 100000; omega), fun q1 nq1 => ⟨small (by show 0 ≤ 100000; omega), fun q2 nq2 => ?_⟩⟩
    have x2 : Ext [] H1 (upd (upd H1 q1 (.tup [])) q2 (.tup [])) := (Ext.refl.fresh nq1).fresh nq2
    refine ⟨_, rfl, _, _, _, _, rfl, rfl, SqT.of (x2.tups _ _ hst1), tup_at (j := 1) rfl, small (by show 3 ≤ 100000; omega), fun q3 nq3 => ?_⟩
    have x3 := x2.fresh (o := .tup [.ref q1, .ref q2, .str (S k)]) nq3
    have h12 : q1 ≠ q2 := fun e => by
      rw [e, upd_same] at nq2
      cases nq2
    have hq1 : (upd (upd H1 q1 (.tup [])) q2 (.tup [])) q1 = some (.tup []) := by rw [upd_ne h12, upd_same]
    have hq2 : (upd (upd H1 q1 (.tup [])) q2 (.tup [])) q2 = some (.tup []) := upd_same
    have x23 : Ext [] (upd (upd H1 q1 (.tup [])) q2 (.tup [])) (upd (upd (upd H1 q1 (.tup [])) q2 (.tup [])) q3 (.tup [.ref q1, .ref q2, .str (S k)])) := Ext.refl.fresh nq3
    refine ⟨_, rfl, a, q3, p, L, wd, ts, t, v, .ref q1, .ref q2, [], [], k, [], nst, rfl, hS1.ext x3 List.not_mem_nil, hL, hw8, x3.dat htv, hok, hd, upd_same, ⟨q1, [], rfl, x23.tups _ _ hq1, rfl⟩, ⟨q2, [], rfl, x23.tups _ _ hq2, rfl⟩, hkl, by decide, by decide, x3.keep _ _ hp1 List.not_mem_nil, by show 0 + t.size ≤ _; omega, fun H5 ys x5 h5 hT => ?_⟩
    have x6 := x3.any.trans x5
    refine ⟨_, rfl, q H5 p ys ⟨fun b o e _ => ?_, fun b zs e => x6.tups _ _ (x1.tups _ _ e)⟩ h5 hT⟩
    have hbp : b ≠ p := fun z => by
      rw [z, np] at e
      cases e
    exact x6.keep _ _ (x1.keep _ _ e List.not_mem_nil) (by simpa using hbp)
end
end K21

set_option Elab.async false
set_option linter.all false
set_option maxRecDepth 100000
set_option maxHeartbeats 4000000
/-! runs.py -/
namespace K21
open PySem PySem.Spec PyProof.Rows L2
/-- a window turn's attributes -/
def wf (ra na : Addr) (sv tv : V) : List (Str × V) := [("reads", .ref ra), ("numbers", .ref na), ("slide", sv), ("state", tv)]
theorem s_rn : ¬ (("reads" : Str) = "numbers") := by decide +kernel
theorem s_rs : ¬ (("reads" : Str) = "slide") := by decide +kernel
theorem s_rt : ¬ (("reads" : Str) = "state") := by decide +kernel
theorem s_ns : ¬ (("numbers" : Str) = "slide") := by decide +kernel
theorem s_nt : ¬ (("numbers" : Str) = "state") := by decide +kernel
theorem s_st : ¬ (("slide" : Str) = "state") := by decide +kernel
theorem wf_mk {ra na : Addr} {sv tv : V} : putF "state" tv (putF "slide" sv (putF "numbers" (.ref na) (putF "reads" (.ref ra) []))) = wf ra na sv tv := by
  show putF "state" tv (putF "slide" sv (if ("reads" : Str) = "numbers" then _ else (("reads" : Str), V.ref ra) :: [(("numbers" : Str), V.ref na)])) = _
  rw [if_neg s_rn]
  show putF "state" tv (if ("reads" : Str) = "slide" then _ else (("reads" : Str), V.ref ra) :: (if ("numbers" : Str) = "slide" then _ else (("numbers" : Str), V.ref na) :: [(("slide" : Str), sv)])) = _
  rw [if_neg s_rs, if_neg s_ns]
  show (if ("reads" : Str) = "state" then _ else (("reads" : Str), V.ref ra) :: (if ("numbers" : Str) = "state" then _ else (("numbers" : Str), V.ref na) :: (if ("slide" : Str) = "state" then _ else (("slide" : Str), sv) :: [(("state" : Str), tv)]))) = _
  rw [if_neg s_rt, if_neg s_nt, if_neg s_st]
  rfl
theorem wf_slide {ra na : Addr} {sv tv u : V} : putF "slide" u (wf ra na sv tv) = wf ra na u tv := by
  show (if ("reads" : Str) = "slide" then _ else (("reads" : Str), V.ref ra) :: (if ("numbers" : Str) = "slide" then _ else (("numbers" : Str), V.ref na) :: (if ("slide" : Str) = "slide" then (("slide" : Str), u) :: [(("state" : Str), tv)] else _))) = _
  rw [if_neg s_rs, if_neg s_ns, if_pos rfl]
  rfl
theorem wf_state {ra na : Addr} {sv tv u : V} : putF "state" u (wf ra na sv tv) = wf ra na sv u := by
  show (if ("reads" : Str) = "state" then _ else (("reads" : Str), V.ref ra) :: (if ("numbers" : Str) = "state" then _ else (("numbers" : Str), V.ref na) :: (if ("slide" : Str) = "state" then _ else (("slide" : Str), sv) :: (if ("state" : Str) = "state" then [(("state" : Str), u)] else _)))) = _
  rw [if_neg s_rt, if_neg s_nt, if_neg s_st, if_pos rfl]
  rfl
theorem wf_lr {ra na : Addr} {sv tv : V} : (wf ra na sv tv).lookup ("reads" : Str) = some (.ref ra) := by
  rw [← wf_mk, look_ne (by decide +kernel), look_ne (by decide +kernel), look_ne (by decide +kernel), look_same]
theorem wf_ln {ra na : Addr} {sv tv : V} : (wf ra na sv tv).lookup ("numbers" : Str) = some (.ref na) := by
  rw [← wf_mk, look_ne (by decide +kernel), look_ne (by decide +kernel), look_same]
theorem wf_ls {ra na : Addr} {sv tv : V} : (wf ra na sv tv).lookup ("slide" : Str) = some sv := by
  rw [← wf_mk, look_ne (by decide +kernel), look_same]
theorem wf_lt {ra na : Addr} {sv tv : V} : (wf ra na sv tv).lookup ("state" : Str) = some tv := by
  rw [← wf_mk, look_same]
theorem wf_no {ra na : Addr} {sv tv : V} : (wf ra na sv tv).lookup ("does" : Str) = none := by
  rw [← wf_mk, look_ne (by decide +kernel), look_ne (by decide +kernel), look_ne (by decide +kernel), look_ne (by decide +kernel)]
  rfl
def RdD (r : List Rd1) : List PyData := r.map fun x => .tuple [.int x.1, .str (S [x.2])]
theorem encR_eq (r : List Rd1) : encR r = .tuple (RdD r) := rfl
theorem RdD_append (a b : List Rd1) : RdD (a ++ b) = RdD a ++ RdD b := List.map_append
def OutV (o : Option (Int × Int)) (sv tv : V) : Prop := match o with
  | none => sv = .non ∧ tv = .non
  | some (s, q) => sv = .int s ∧ tv = .int q
section
variable {P : Program} {w : World} {K : PySem.W.Frag} {mg : Str → Option Value} {base : Heap} {A0 : Ad} {f : Addr} {fd : FuncData}

abbrev N_WindowTurn_does : List Str := ["self", "searcher", "tree", "view", "letter"]
theorem sc_WindowTurn_does : FnScope N_WindowTurn_does ["self", "searcher", "tree", "view"] (defScope s_WindowTurn_does) := ⟨rfl, rfl, rfl, by decide +kernel, rfl, by decide +kernel, by decide +kernel⟩
def doesQ (Q : VK) (H : Hp) (x dx ra na : Addr) (rs ns : List V) (L view : List Nat) (A0 : Ad) : Tree → Prop
  | .go s q => ∀ H', Ext [x] H H' → H' x = some (.ins A0.WindowTurn dx (wf ra na (.int s) (.int q))) → Q .non H'
  | .tell m t => ∀ H' v', Ext [na] H H' → H' na = some (.lst (ns ++ [.int m])) → TAt H' t v' → Q v' H'
  | .read p ts => if p.toNat = view.length then Q .non H else ∀ H' y v' t, Ext [ra] H H' → H' ra = some (.lst (rs ++ [y])) → DAt H' (.tuple [.int p, .str (S [view.getD p.toNat 0])]) y → ts[L.idxOf (view.getD p.toNat 0)]? = some t → TAt H' t v' → Q v' H'
def spDoes (A0 : Ad) : Sp := fun vs H Q _ => ∃ (x a dx ra na : Addr) (rs ns : List V) (L view : List Nat) (wd nst : Nat) (ts : List Tree) (t : Tree) (v : V), vs = [.ref x, .ref a, v, .str (S view)] ∧ SrAt A0 H a L wd ts ∧ Ltr L ∧ TAt H t v ∧ t.ok L.length wd nst ∧ wd ≤ 8 ∧
  wd ≤ view.length ∧ view.length ≤ wd + 1 ∧ (∀ c ∈ view, c ∈ L) ∧ H x = some (.ins A0.WindowTurn dx (wf ra na .non .non)) ∧ H ra = some (.lst rs) ∧ H na = some (.lst ns) ∧ rs.length ≤ 1000 ∧ ns.length ≤ 1000 ∧ doesQ Q H x dx ra na rs ns L view A0 t
theorem ok_does (T : Tx K mg A0) (F : Fd K "does" "WindowTurn.does" s_WindowTurn_does f fd) : FnOk P w K mg base CX0 1 f fd ["self", "searcher", "tree", "view"] (spDoes A0) := by
  refine fok F sc_WindowTurn_does (fun vs H Q E h => ?_) (fun cdv A outer s0 H vs Q E hr h => ?_)
  · obtain ⟨_, _, _, _, _, _, _, _, _, _, _, _, _, _, rfl, _⟩ := h
    rfl
  · obtain ⟨x, a, dx, ra, na, rs, ns, L, view, wd, nst, ts, t, v, rfl, hS, hL, ht, hok, hw8, hv1, hv2, hvL, hx, hra, hna, hrl, hnl, q⟩ := h
    refine ⟨_, (pss_cons (ps_if (pt_cmpR op_eq (pe_ix ix_tup (pv 2) pe_int (fun _ _ => rfl)) pe_str (nomark _))
       (pss_cons (ps_asg (pe_tup (pa_cons (pe_ix ix_tup (pv 2) pe_int (fun _ _ => rfl)) (pa_cons (pe_ix ix_tup (pv 2) pe_int (fun _ _ => rfl)) pa_nil))) (pg_tup rfl (pgs_cons (pg_fld (pv 0)) (pgs_cons (pg_fld (pv 0)) pgs_nil))))
        (pss_one (ps_ret pe_non)))
       pss_nil)
      (pss_cons (ps_if (pt_cmpR op_eq (pe_ix ix_tup (pv 2) pe_int (fun _ _ => rfl)) pe_str (nomark _))
       (pss_cons (ps_expr (pe_bm PySem.F.plainAttrs_list PySem.F.slot_list_append PySem.F.type_list_append mt_append (pe_fld (pv 0) rfl) (pa_cons (pe_ix ix_tup (pv 2) pe_int (fun _ _ => rfl)) pa_nil)))
        (pss_one (ps_ret (pe_ix ix_tup (pv 2) pe_int (fun _ _ => rfl)))))
       pss_nil)
      (pss_cons (ps_if (pt_cmpR op_eq (pe_ix ix_tup (pv 2) pe_int (fun _ _ => rfl)) (pe_callB call_len_str (by rfl) T.len PySem.boot_len (pa_cons (pv 3) pa_nil)) (nomark _))
       (pss_one (ps_ret pe_non))
       pss_nil)
      (pss_cons (ps_set (i := 4) sc_WindowTurn_does.nd rfl (.inl rfl) (pe_ix ix_str (pv 3) (pe_ix ix_tup (pv 2) pe_int (fun _ _ => rfl)) (fun _ _ => rfl)))
      (pss_cons (ps_expr (pe_bm PySem.F.plainAttrs_list PySem.F.slot_list_append PySem.F.type_list_append mt_append (pe_fld (pv 0) rfl) (pa_cons (pe_tup (pa_cons (pe_ix ix_tup (pv 2) pe_int (fun _ _ => rfl)) (pa_cons (pv 4) pa_nil))) pa_nil)))
      (pss_one (ps_ret (pe_ix ix_tup (pe_ix ix_tup (pv 2) pe_int (fun _ _ => rfl)) (pe_idxS (pe_fld (pv 1) rfl) (pv 4)) (fun _ _ => rfl))))))))), ?_⟩
    cases t with
    | go s q0 =>
      obtain ⟨ta, rfl, h⟩ := at_go ht
      refine ⟨_, rfl, _, _, _, _, rfl, rfl, SqT.of h, tup_at (j := 0) rfl, rfl, _, rfl, iteD rfl ?_⟩
      refine ⟨_, rfl, _, _, _, _, rfl, rfl, SqT.of h, tup_at (j := 1) rfl, _, rfl, _, _, _, _, rfl, rfl, SqT.of h, tup_at (j := 2) rfl, small (by show 2 ≤ 100000; omega), fun p np => ?_⟩
      have xp : Ext [] H (upd H p (.tup [.int s, .int q0])) := Ext.refl.fresh np
      refine ⟨p, _, rfl, SqT.of upd_same, rfl, _, _, rfl, ?_⟩
      refine ⟨_, rfl, x, _, dx, _, rfl, xp.keep _ _ hx List.not_mem_nil, T.clWindowTurn, T.nWindowTurn_slide, by show 4 < 1000; omega, ?_⟩
      rw [wf_slide]
      refine ⟨_, _, rfl, _, rfl, x, _, dx, _, rfl, upd_same, T.clWindowTurn, T.nWindowTurn_state, by show 4 < 1000; omega, rfl, ?_⟩
      rw [wf_state, upd_upd]
      exact q _ (xp.any.put List.mem_cons_self hx (fun ys z => nomatch z)) upd_same
    | tell m t =>
      obtain ⟨ta, tv, rfl, h, htv⟩ := at_tell ht
      refine ⟨_, rfl, _, _, _, _, rfl, rfl, SqT.of h, tup_at (j := 0) rfl, rfl, _, rfl, iteN (by decide +kernel) ?_⟩
      refine ⟨_, rfl, _, _, _, _, rfl, rfl, SqT.of h, tup_at (j := 0) rfl, rfl, _, rfl, iteD rfl ?_⟩
      refine ⟨_, rfl, x, _, dx, _, _, rfl, hx, T.clWindowTurn, T.nWindowTurn_numbers, wf_ln, .inl ⟨rfl, _, SqL.of hna⟩, _, rfl, _, _, _, _, rfl, rfl, SqT.of h, tup_at (j := 1) rfl, na, _, _, rfl, rfl, hna, Nat.lt_of_le_of_lt hnl (by decide), ?_⟩
      have x1 : Ext [na] H (upd H na (.lst (ns ++ [.int m]))) := Ext.refl.put List.mem_cons_self hna (fun ys z => nomatch z)
      refine ⟨_, rfl, _, _, _, _, rfl, rfl, SqT.of (x1.tups _ _ h), tup_at (j := 2) rfl, ?_⟩
      exact q _ _ x1 upd_same (x1.dat htv)
    | read p ts' =>
      obtain ⟨ta, tb, txs, rfl, h, htb, htxs⟩ := at_read ht
      obtain ⟨o1, o2, o3, o4⟩ := hok
      obtain ⟨p, rfl⟩ := Int.eq_ofNat_of_zero_le o1
      refine ⟨_, rfl, _, _, _, _, rfl, rfl, SqT.of h, tup_at (j := 0) rfl, rfl, _, rfl, iteN (by decide +kernel) ?_⟩
      refine ⟨_, rfl, _, _, _, _, rfl, rfl, SqT.of h, tup_at (j := 0) rfl, rfl, _, rfl, iteN (by decide +kernel) ?_⟩
      refine ⟨_, rfl, _, _, _, _, rfl, rfl, SqT.of h, tup_at (j := 1) rfl, _, rfl, S view, rfl, small (by show view.length ≤ _; omega), rfl, _, rfl, iteD2 (fun he => ?_) (fun he => ?_)⟩
      · have he' : (p : Int) = ((view.length : Nat) : Int) := V.int.inj he
        have q' : if ((p : Int)).toNat = view.length then Q .non H else _ := q
        rw [if_pos (by omega)] at q'
        exact q'
      · have hne : p ≠ view.length := fun z => he (by rw [z]; rfl)
        have hp : p < view.length := by omega
        have hc := getD_some hp
        have hcL : view.getD p 0 ∈ L := hvL _ (List.mem_of_getElem? hc)
        have q' : if ((p : Int)).toNat = view.length then Q .non H else _ := q
        rw [if_neg (by omega)] at q'
        obtain ⟨dxs, fs, tp, sxs, hA, hlet, _⟩ := id hS
        refine ⟨_, rfl, _, rfl, _, _, _, _, rfl, rfl, SqT.of h, tup_at (j := 1) rfl, S view, _, _, rfl, rfl, small (by show view.length ≤ _; omega), atI_nat hc, ?_⟩
        refine ⟨_, rfl, x, _, dx, _, _, rfl, hx, T.clWindowTurn, T.nWindowTurn_reads, wf_lr, .inl ⟨rfl, _, SqL.of hra⟩, _, rfl, _, _, _, _, rfl, rfl, SqT.of h, tup_at (j := 1) rfl, _, rfl, small (by show 2 ≤ 100000; omega), fun y ny => ?_⟩
        have xy : Ext [] H (upd H y (.tup [.int p, .str ⟨#[view.getD p 0]⟩])) := Ext.refl.fresh ny
        have hra' := xy.keep _ _ hra List.not_mem_nil
        have hyra : y ≠ ra := (ne_of_none hra ny).symm
        refine ⟨ra, _, _, rfl, rfl, hra', Nat.lt_of_le_of_lt hrl (by decide), ?_⟩
        have x2 : Ext [ra] H (upd (upd H y (.tup [.int p, .str ⟨#[view.getD p 0]⟩])) ra (.lst (rs ++ [.ref y]))) := xy.any.put List.mem_cons_self hra (fun ys z => nomatch z)
        have haa : a ≠ ra := ne_of hA hra (fun z => nomatch z)
        have hidx : L.idxOf (view.getD p 0) < txs.length := by
          rw [htxs.length, encs_length, o3]
          exact List.idxOf_lt_length_of_mem hcL
        have hidx' : L.idxOf (view.getD p 0) < ts'.length := by
          rw [o3]
          exact List.idxOf_lt_length_of_mem hcL
        have hu : ts'[L.idxOf (view.getD p 0)]? = some ts'[L.idxOf (view.getD p 0)] := List.getElem?_eq_getElem hidx'
        obtain ⟨v', hv', hvt⟩ := htxs.get (encs_get hu)
        refine ⟨_, rfl, _, _, _, _, rfl, rfl, SqT.of (x2.tups _ _ h), tup_at (j := 2) rfl, _, rfl, a, _, dxs, fs, _, rfl, x2.keep _ _ hA (by simpa using haa), T.clSearcher, T.nSearcher_letters, hlet, ⟨_, rfl⟩, _, rfl, L, _, rfl, rfl, hL.nd, hcL, _, _, _, _, rfl, rfl, SqT.of (x2.tups _ _ htb), at_of rfl hv', ?_⟩
        refine q' _ (.ref y) v' _ x2 upd_same ⟨y, _, rfl, by rw [upd_ne hyra, upd_same], _, _, rfl, rfl, _, _, rfl, ?_, rfl⟩ hu (x2.dat hvt)
        rw [Int.toNat_natCast]
        rfl

theorem view_get {tx : List Nat} {i wd p : Nat} (hp : p ≤ wd) : ((tx.drop i).take (wd + 1))[p]? = tx[i + p]? := by
  rw [List.getElem?_take, if_pos (by omega), List.getElem?_drop]
theorem view_len {tx : List Nat} {i wd : Nat} (h : i + wd ≤ tx.length) : wd ≤ ((tx.drop i).take (wd + 1)).length ∧ ((tx.drop i).take (wd + 1)).length ≤ wd + 1 := by
  rw [List.length_take, List.length_drop]
  omega
theorem view_cut {tx : List Nat} {i wd p : Nat} (h : i + wd ≤ tx.length) (hp : p ≤ wd) : p = ((tx.drop i).take (wd + 1)).length ↔ i + p = tx.length := by
  rw [List.length_take, List.length_drop]
  omega

abbrev N_WindowTurn_init : List Str := ["self", "searcher", "state", "view", "tree"]
theorem sc_WindowTurn_init : FnScope N_WindowTurn_init ["self", "searcher", "state", "view"] (defScope s_WindowTurn_init) := ⟨rfl, rfl, rfl, by decide +kernel, rfl, by decide +kernel, by decide +kernel⟩
def spWin (A0 : Ad) : Sp := fun vs H Q _ => ∃ (x a dx : Addr) (L tx : List Nat) (i wd nst q : Nat) (ts : List Tree) (t : Tree), vs = [.ref x, .ref a, .int q, .str (S ((tx.drop i).take (wd + 1)))] ∧ SrAt A0 H a L wd ts ∧ Ltr L ∧ ts[q]? = some t ∧ t.ok L.length wd nst ∧ t.depth ≤ 20 ∧ wd ≤ 8 ∧
  i + wd ≤ tx.length ∧ (∀ c ∈ tx, c ∈ L) ∧ H x = some (.ins A0.WindowTurn dx []) ∧
  ∀ H' ra na rs sv tv, H ra = none → H na = none → Ext [x] H H' → H' x = some (.ins A0.WindowTurn dx (wf ra na sv tv)) → H' ra = some (.lst rs) → DAts H' (RdD (walk L tx i t).1) rs → H' na = some (.lst ((walk L tx i t).2.1.map V.int)) → OutV (walk L tx i t).2.2 sv tv → Q .non H'
theorem ok_Win (T : Tx K mg A0) (M_does : Mtd P w K mg base 1 A0.WindowTurn "does" ["self", "searcher", "tree", "view"] (spDoes A0)) (F : Fd K "__init__" "WindowTurn.__init__" s_WindowTurn_init f fd) : FnOk P w K mg base CX0 2 f fd ["self", "searcher", "state", "view"] (spWin A0) := by
  refine fok F sc_WindowTurn_init (fun vs H Q E h => ?_) (fun cdv A outer s0 H vs Q E hr h => ?_)
  · obtain ⟨_, _, _, _, _, _, _, _, _, _, _, rfl, _⟩ := h
    rfl
  · obtain ⟨x, a, dx, L, tx, i, wd, nst, q0, ts, t, rfl, hS, hL, ht, hok, hd, hw8, hi, htx, hx, q⟩ := h
    refine ⟨_, (pss_cons (ps_fld (pv 0) (pe_lst pa_nil) rfl)
      (pss_cons (ps_fld (pv 0) (pe_lst pa_nil) rfl)
      (pss_cons (ps_fld (pv 0) pe_non rfl)
      (pss_cons (ps_fld (pv 0) pe_non rfl)
      (pss_cons (ps_set (i := 4) sc_WindowTurn_init.nd rfl (.inl rfl) (pe_ix ix_tup (pe_fld (pv 1) rfl) (pv 2) (fun _ _ => rfl)))
      (pss_one (ps_while PassesOwn.never (pt_cmpR op_notN (pv 4) pe_non (nomark _))
       (pss_one (ps_set (i := 4) sc_WindowTurn_init.nd rfl (.inl rfl) (pe_mD (pv 0) T.clWindowTurn M_does (hr.mono (by omega)) (pa_cons (pv 1) (pa_cons (pv 4) (pa_cons (pv 3) pa_nil))))))))))))), ?_⟩
    obtain ⟨dxs, fs, tp, sxs, hA, hlet, hwid, hst, htp, hsxs⟩ := id hS
    have hax : a ≠ x := ne_of hA hx (fun z => by
      injection z with _ _ e
      rw [e] at hlet
      cases hlet)
    refine ⟨Nat.zero_le _, fun ra nra => ?_⟩
    have xra := ne_of_none hx nra
    refine ⟨_, rfl, x, _, dx, _, rfl, by rw [upd_ne xra]; exact hx, T.clWindowTurn, T.nWindowTurn_reads, by decide, ?_⟩
    refine ⟨Nat.zero_le _, fun na nna => ?_⟩
    have xna : x ≠ na := fun e => by
      rw [← e, upd_same] at nna
      cases nna
    have rana : ra ≠ na := fun e => by
      rw [← e, upd_ne xra.symm, upd_same] at nna
      cases nna
    have nna0 : H na = none := by
      rw [upd_ne xna.symm, upd_ne rana.symm] at nna
      exact nna
    refine ⟨_, rfl, x, _, dx, _, rfl, by rw [upd_ne xna, upd_same], T.clWindowTurn, T.nWindowTurn_numbers, Nat.lt_of_le_of_lt (putF_len (n := 0) (fs := []) (Nat.le_refl 0)) (by decide), ?_⟩
    refine ⟨_, rfl, x, _, dx, _, rfl, upd_same, T.clWindowTurn, T.nWindowTurn_slide, Nat.lt_of_le_of_lt (putF_len (n := 1) (putF_len (n := 0) (fs := []) (Nat.le_refl 0))) (by decide), ?_⟩
    rw [upd_upd]
    refine ⟨_, rfl, x, _, dx, _, rfl, upd_same, T.clWindowTurn, T.nWindowTurn_state, Nat.lt_of_le_of_lt (putF_len (n := 2) (putF_len (n := 1) (putF_len (n := 0) (fs := []) (Nat.le_refl 0)))) (by decide), ?_⟩
    rw [upd_upd, wf_mk]
    generalize hH1 : upd (upd (upd (upd H ra (.lst [])) x (.ins A0.WindowTurn dx (putF "reads" (.ref ra) []))) na (.lst [])) x (.ins A0.WindowTurn dx (wf ra na .non .non)) = H1
    have x1 : Ext [x] H H1 := by
      rw [← hH1]
      exact (((Ext.refl.new nra).put List.mem_cons_self hx (fun ys z => nomatch z)).new nna0).put List.mem_cons_self hx (fun ys z => nomatch z)
    have hx1 : H1 x = some (.ins A0.WindowTurn dx (wf ra na .non .non)) := by rw [← hH1, upd_same]
    have hra1 : H1 ra = some (.lst []) := by rw [← hH1, upd_ne xra.symm, upd_ne rana, upd_ne xra.symm, upd_same]
    have hna1 : H1 na = some (.lst []) := by rw [← hH1, upd_ne xna.symm, upd_same]
    obtain ⟨v, hv, htv⟩ := hsxs.get (encs_get ht)
    refine ⟨_, rfl, a, _, dxs, fs, _, rfl, x1.keep _ _ hA (by simpa using hax), T.clSearcher, T.nSearcher_states, hst, _, rfl, _, _, _, _, rfl, rfl, SqT.of (x1.tups _ _ htp), at_of rfl hv, ?_⟩
    -- the loop
    refine ⟨fun m σ H' => ∃ (cur : V) (rd : List Rd1) (nn : List Int) (rs : List V) (sv tv : V), σ = [some (.ref x), some (.ref a), some (.int q0), some (.str (S ((tx.drop i).take (wd + 1)))), some cur] ∧ Ext [x] H H' ∧ H' x = some (.ins A0.WindowTurn dx (wf ra na sv tv)) ∧ H' ra = some (.lst rs) ∧ DAts H' (RdD rd) rs ∧
      H' na = some (.lst (nn.map V.int)) ∧ ((cur = .non ∧ m = 0 ∧ rd = (walk L tx i t).1 ∧ nn = (walk L tx i t).2.1 ∧ OutV (walk L tx i t).2.2 sv tv) ∨
        ∃ u : Tree, sv = .non ∧ tv = .non ∧ TAt H' u cur ∧ u.ok L.length wd nst ∧ m = u.depth ∧ rd.length + u.depth ≤ 21 ∧ nn.length + u.depth ≤ 21 ∧ rd ++ (walk L tx i u).1 = (walk L tx i t).1 ∧ nn ++ (walk L tx i u).2.1 = (walk L tx i t).2.1 ∧ (walk L tx i u).2.2 = (walk L tx i t).2.2),
      ⟨t.depth, v, [], [], [], .non, .non, rfl, x1, hx1, hra1, rfl, hna1, .inr ⟨t, rfl, rfl, x1.dat htv, hok, rfl, by show 0 + t.depth ≤ 21; omega, by show 0 + t.depth ≤ 21; omega, rfl, rfl, rfl⟩⟩, ?_⟩
    rintro m σ H2 ⟨cur, rd, nn, rs, sv, tv, rfl, x2, hx2, hra2, hrd2, hna2, hc⟩
    rcases hc with ⟨rfl, rfl, e1, e2, e3⟩ | ⟨u, rfl, rfl, hu, huok, rfl, hrl, hnl, e1, e2, e3⟩
    · refine ⟨_, rfl, rfl, _, rfl, iteF' rfl ?_⟩
      subst e1 e2
      exact q H2 ra na rs sv tv nra nna0 x2 hx2 hra2 hrd2 hna2 e3
    · have hcur : cur ≠ .non := by
        cases u with
        | go s q =>
          obtain ⟨_, rfl, _⟩ := at_go hu
          exact fun z => nomatch z
        | tell m t =>
          obtain ⟨_, _, rfl, _⟩ := at_tell hu
          exact fun z => nomatch z
        | read p ts =>
          obtain ⟨_, _, _, rfl, _⟩ := at_read hu
          exact fun z => nomatch z
      refine ⟨_, rfl, rfl, _, rfl, iteNN hcur ?_⟩
      refine ⟨fun σ' H' => ∃ m' < u.depth, ∃ (cur : V) (rd : List Rd1) (nn : List Int) (rs : List V) (sv tv : V), σ' = [some (.ref x), some (.ref a), some (.int q0), some (.str (S ((tx.drop i).take (wd + 1)))), some cur] ∧ Ext [x] H H' ∧ H' x = some (.ins A0.WindowTurn dx (wf ra na sv tv)) ∧ H' ra = some (.lst rs) ∧ DAts H' (RdD rd) rs ∧
        H' na = some (.lst (nn.map V.int)) ∧ ((cur = .non ∧ m' = 0 ∧ rd = (walk L tx i t).1 ∧ nn = (walk L tx i t).2.1 ∧ OutV (walk L tx i t).2.2 sv tv) ∨
          ∃ u : Tree, sv = .non ∧ tv = .non ∧ TAt H' u cur ∧ u.ok L.length wd nst ∧ m' = u.depth ∧ rd.length + u.depth ≤ 21 ∧ nn.length + u.depth ≤ 21 ∧ rd ++ (walk L tx i u).1 = (walk L tx i t).1 ∧ nn ++ (walk L tx i u).2.1 = (walk L tx i t).2.1 ∧ (walk L tx i u).2.2 = (walk L tx i t).2.2), fun σ' H' h => by
          obtain ⟨m', hm', rest⟩ := h
          exact ⟨m', hm', rest⟩, ?_⟩
      have hpos := depth_pos u
      have hvl := view_len (i := i) (wd := wd) hi
      have hS2 := hS.ext x2 (by simpa using hax)
      have hLsub : ∀ c ∈ (tx.drop i).take (wd + 1), c ∈ L := fun c hc => htx c (List.mem_of_mem_drop (List.mem_of_mem_take hc))
      have hran : ∀ l, H2 l = some (.lst rs) → l ≠ x := fun l h z => by
        rw [z, hx2] at h
        cases h
      have hrax : ra ≠ x := ne_of hra2 hx2 (fun z => nomatch z)
      have hnax : na ≠ x := ne_of hna2 hx2 (fun z => nomatch z)
      refine ⟨_, rfl, x, dx, _, rfl, hx2, wf_no, _, rfl, _, rfl, _, rfl, ?_⟩
      refine ⟨x, a, dx, ra, na, rs, nn.map V.int, L, _, wd, nst, ts, u, cur, rfl, hS2, hL, hu, huok, hw8, hvl.1, hvl.2, hLsub, hx2, hra2, hna2, ?_, ?_, ?_⟩
      · rw [hrd2.length]
        show (rd.map _).length ≤ 1000
        rw [List.length_map]
        omega
      · rw [List.length_map]
        omega
      · -- a change at one of the lists, seen from the start
        have back : ∀ {l : Addr} {H' : Hp}, H l = none → Ext [l] H2 H' → l ≠ x → Ext [x] H H' := fun hl xl hlx => ⟨fun b o e n => xl.keep _ _ (x2.keep _ _ e n) (by
          have : b ≠ _ := ne_of_none e hl
          simpa using this), fun b zs e => xl.tups _ _ (x2.tups _ _ e)⟩
        cases u with
        | go s q1 =>
          intro H' xx hx'
          refine ⟨0, hpos, .non, rd, nn, rs, .int s, .int q1, rfl, x2.trans xx, hx', xx.keep _ _ hra2 (by simpa using hrax), xx.dats hrd2, xx.keep _ _ hna2 (by simpa using hnax), .inl ⟨rfl, rfl, ?_, ?_, ?_⟩⟩
          · rw [← e1]
            show rd = rd ++ []
            rw [List.append_nil]
          · rw [← e2]
            show nn = nn ++ []
            rw [List.append_nil]
          · rw [← e3]
            exact ⟨rfl, rfl⟩
        | tell m u =>
          intro H' v' xx hna' hv'
          refine ⟨u.depth, Nat.lt_succ_self _, v', rd, nn ++ [m], rs, .non, .non, rfl, back nna0 xx hnax, xx.keep _ _ hx2 (by simpa using hnax.symm), xx.keep _ _ hra2 (by simpa using rana), xx.dats hrd2, by rw [List.map_append]; exact hna', .inr ⟨u, rfl, rfl, hv', huok.2.2, rfl, ?_, ?_, ?_, ?_, ?_⟩⟩
          · simp only [Tree.depth] at hrl; omega
          · simp only [Tree.depth] at hnl; rw [List.length_append]; show nn.length + 1 + _ ≤ _; omega
          · rw [← e1]; rfl
          · rw [← e2, List.append_assoc]; rfl
          · rw [← e3]; rfl
        | read p ts' =>
          obtain ⟨o1, o2, o3, o4⟩ := huok
          have hpw : p.toNat ≤ wd := by omega
          have hcut := view_cut (tx := tx) hi hpw
          show if p.toNat = ((tx.drop i).take (wd + 1)).length then _ else _
          by_cases hpc : p.toNat = ((tx.drop i).take (wd + 1)).length
          · rw [if_pos hpc]
            have ew : walk L tx i (.read p ts') = ([], [], none) := by rw [walk_read, if_pos (hcut.mp hpc)]
            rw [ew] at e1 e2 e3
            refine ⟨0, hpos, .non, rd, nn, rs, .non, .non, rfl, x2, hx2, hra2, hrd2, hna2, .inl ⟨rfl, rfl, ?_, ?_, ?_⟩⟩
            · rw [← e1, List.append_nil]
            · rw [← e2, List.append_nil]
            · rw [← e3]
              exact ⟨rfl, rfl⟩
          · rw [if_neg hpc]
            intro H' y v' u' xx hra' hy hu' hv'
            have hplt : p.toNat < ((tx.drop i).take (wd + 1)).length := by omega
            have eD : ((tx.drop i).take (wd + 1)).getD p.toNat 0 = tx.getD (i + p.toNat) 0 := by
              rw [List.getD_eq_getElem?_getD, List.getD_eq_getElem?_getD, view_get hpw]
            rw [eD] at hy hu'
            have ew : walk L tx i (.read p ts') = ((p, tx.getD (i + p.toNat) 0) :: (walk L tx i u').1, (walk L tx i u').2) := by
              rw [walk_read, if_neg fun z => hpc (hcut.mpr z), walkNth_get hu']
            rw [ew] at e1 e2 e3
            have hmem := List.mem_of_getElem? hu'
            have hdm := depths_mem hmem
            have hra0 : H ra = none := nra
            refine ⟨u'.depth, by show _ < depths ts' + 1; omega, v', rd ++ [(p, tx.getD (i + p.toNat) 0)], nn, rs ++ [y], .non, .non, rfl, back hra0 xx hrax, xx.keep _ _ hx2 (by simpa using hrax.symm), hra', ?_, xx.keep _ _ hna2 (by simpa using rana.symm), .inr ⟨u', rfl, rfl, hv', oks_iff.mp o4 u' hmem, rfl, ?_, ?_, ?_, e2, e3⟩⟩
            · rw [RdD_append]
              exact (xx.dats hrd2).append (DAts.one hy)
            · simp only [Tree.depth] at hrl; rw [List.length_append]; show rd.length + 1 + _ ≤ _; omega
            · simp only [Tree.depth] at hnl; omega
            · rw [← e1, List.append_assoc]; rfl
end
end K21

set_option Elab.async false
set_option linter.all false
set_option maxRecDepth 100000
set_option maxHeartbeats 4000000
/-! Trace, trace -/
namespace K21
open PySem PySem.Spec PyProof.Rows L2
def encE (e : Entry) : PyData := .tuple [.int e.spot, .int e.state, encR e.way.1]
def toldE (e : Entry) : List PyData := e.way.2.1.map fun n => .tuple [.int e.spot, .int n]
def told (es : List Entry) : List PyData := (es.map toldE).flatten
def cost (es : List Entry) : List Int := es.map fun e => (e.way.1.length : Int)
theorem told_append (a b : List Entry) : told (a ++ b) = told a ++ told b := by unfold told; rw [List.map_append, List.flatten_append]
theorem told_one (e : Entry) : told [e] = toldE e := by unfold told; simp
def trf (tw tt c : V) : List (Str × V) := putF "cost" c (putF "told" tt (putF "windows" tw []))
theorem trf_w {tw tt c : V} : (trf tw tt c).lookup ("windows" : Str) = some tw := by
  unfold trf
  rw [look_ne (by decide +kernel), look_ne (by decide +kernel), look_same]
theorem trf_t {tw tt c : V} : (trf tw tt c).lookup ("told" : Str) = some tt := by
  unfold trf
  rw [look_ne (by decide +kernel), look_same]
theorem trf_c {tw tt c : V} : (trf tw tt c).lookup ("cost" : Str) = some c := look_same
theorem encR_len (r : List Rd1) : (RdD r).length = r.length := List.length_map ..
theorem at_encE {H : Hp} {e : Entry} {v : V} (h : DAt H (encE e) v) : ∃ a b rs, v = .ref a ∧ H a = some (.tup [.int e.spot, .int e.state, .ref b]) ∧ H b = some (.tup rs) ∧ DAts H (RdD e.way.1) rs := by
  obtain ⟨a, xs, rfl, h1, _, _, rfl, rfl, _, _, rfl, rfl, _, _, rfl, ⟨b, rs, rfl, hb, hrs⟩, rfl⟩ := h
  exact ⟨a, b, rs, rfl, h1, hb, hrs⟩
section
variable {P : Program} {w : World} {K : PySem.W.Frag} {mg : Str → Option Value} {base : Heap} {A0 : Ad} {f : Addr} {fd : FuncData}

abbrev N_Trace_init : List Str := ["self", "windows", "told", "place", "state", "reads"]
theorem sc_Trace_init : FnScope N_Trace_init ["self", "windows", "told"] (defScope s_Trace_init) := ⟨rfl, rfl, rfl, by decide +kernel, rfl, by decide +kernel, by decide +kernel⟩
def spTraceI (A0 : Ad) : Sp := fun vs H Q _ => ∃ (x lw lt dx : Addr) (es : List Entry) (ws ns : List V), vs = [.ref x, .ref lw, .ref lt] ∧ H x = some (.ins A0.Trace dx []) ∧ H lw = some (.lst ws) ∧ H lt = some (.lst ns) ∧ DAts H (es.map encE) ws ∧ es.length ≤ 100000 ∧ (∀ e ∈ es, e.way.1.length ≤ 1000) ∧
  ∀ H' tw tt, Ext [x] H H' → H' x = some (.ins A0.Trace dx (trf (.ref tw) (.ref tt) (.int (cost es).sum))) → H' tw = some (.tup ws) → H' tt = some (.tup ns) → Q .non H'
theorem ok_TraceI (T : Tx K mg A0) (F : Fd K "__init__" "Trace.__init__" s_Trace_init f fd) : FnOk P w K mg base CX0 1 f fd ["self", "windows", "told"] (spTraceI A0) := by
  refine fok F sc_Trace_init (fun vs H Q E h => ?_) (fun cdv A outer s0 H vs Q E hr h => ?_)
  · obtain ⟨_, _, _, _, _, _, _, rfl, _⟩ := h
    rfl
  · obtain ⟨x, lw, lt, dx, es, ws, ns, rfl, hx, hw, ht, hws, hn, hrl, q⟩ := h
    refine ⟨_, (pss_cons (ps_fld (pv 0) (pe_callTy call_tuple_of (by rfl) T.tuple (by decide +kernel) (pa_cons (pv 1) pa_nil)) rfl)
      (pss_cons (ps_fld (pv 0) (pe_callTy call_tuple_of (by rfl) T.tuple (by decide +kernel) (pa_cons (pv 2) pa_nil)) rfl)
      (pss_one (ps_fld (pv 0) (pe_callB (cr_sum rfl) (by rfl) T.sum (by decide +kernel) (pa_cons (pe_lc (own := [("place", 3), ("state", 4), ("reads", 5)]) (g := gTup K 3 (gCons (gName 3) (gCons (gName 4) (gCons (gName 5) gNil)))) (tt := tYes) rfl sc_Trace_init.nd (pi_tup (pe_fld (pv 0) rfl)) (blkOk_by (N := N_Trace_init) (sc := defScope s_Trace_init) (by decide +kernel)) (fun _ _ _ _ _ => (pg_tup rfl (pgs_cons (pg_name (i := 3) sc_Trace_init.nd rfl (.inl rfl)) (pgs_cons (pg_name (i := 4) sc_Trace_init.nd rfl (.inl rfl)) (pgs_cons (pg_name (i := 5) sc_Trace_init.nd rfl (.inl rfl)) pgs_nil))))) (fun _ _ _ _ _ => pts_nil) (fun _ _ _ _ _ => (pe_callB (call_len_seqK (K := K) rfl) (by rfl) T.len PySem.boot_len (pa_cons (pv 5) pa_nil)))) pa_nil)) rfl)))), ?_⟩
    refine ⟨_, rfl, lw, ws, rfl, .inl ⟨SqL.of hw, fun tw ntw => ?_⟩⟩
    have xtw := ne_of_none hx ntw
    have x1 : Ext [x] H (upd H tw (.tup ws)) := Ext.refl.fresh ntw
    refine ⟨_, rfl, x, _, dx, _, rfl, (by rw [upd_ne xtw]; exact hx), T.clTrace, T.nTrace_windows, by decide, ?_⟩
    have x2 := x1.put (o := .ins A0.Trace dx (putF "windows" (.ref tw) [])) List.mem_cons_self hx (fun ys z => nomatch z)
    have ltx : lt ≠ x := ne_of ht hx (fun z => nomatch z)
    have h2t := x2.keep _ _ ht (by simpa using ltx)
    refine ⟨_, rfl, lt, ns, rfl, .inl ⟨SqL.of h2t, fun tt ntt => ?_⟩⟩
    have xtt := ne_of_none (upd_same (H := upd H tw (.tup ws)) (a := x) (o := .ins A0.Trace dx (putF "windows" (.ref tw) []))) ntt
    have x3 := x2.fresh (o := .tup ns) ntt
    refine ⟨_, rfl, x, _, dx, _, rfl, (by rw [upd_ne xtt, upd_same]), T.clTrace, T.nTrace_told, Nat.lt_of_le_of_lt (putF_len (n := 0) (fs := []) (Nat.le_refl 0)) (by decide), ?_⟩
    have x4 := x3.put (o := .ins A0.Trace dx (putF "told" (.ref tt) (putF "windows" (.ref tw) []))) List.mem_cons_self hx (fun ys z => nomatch z)
    generalize hH4 : upd (upd (upd (upd H tw (.tup ws)) x (.ins A0.Trace dx (putF "windows" (.ref tw) []))) tt (.tup ns)) x (.ins A0.Trace dx (putF "told" (.ref tt) (putF "windows" (.ref tw) []))) = H4 at x4
    have hx4 : H4 x = some (.ins A0.Trace dx (putF "told" (.ref tt) (putF "windows" (.ref tw) []))) := by rw [← hH4, upd_same]
    have htt4 : H4 tt = some (.tup ns) := by rw [← hH4, upd_ne xtt.symm, upd_same]
    have tttw : tw ≠ tt := fun e => by
      rw [← e, upd_ne xtw.symm, upd_same] at ntt
      cases ntt
    have htw4 : H4 tw = some (.tup ws) := by rw [← hH4, upd_ne xtw.symm, upd_ne tttw, upd_ne xtw.symm, upd_same]
    have hws4 := x4.dats hws
    have hlen : ws.length = es.length := by rw [hws.length, List.length_map]
    refine ⟨_, rfl, x, _, dx, _, _, rfl, hx4, T.clTrace, T.nTrace_windows, (by rw [look_ne (by decide +kernel), look_same]), tw, rfl, ⟨ws, SqT.of htw4⟩, fun D nD => ?_⟩
    refine lc_rel walk_tup (fun _ H' => Ext [] H4 H') (fun j H' y => ∃ e, es[j]? = some e ∧ y = .int (e.way.1.length : Int)) (by omega) (Ext.refl.new nD) (fun _ _ _ x => SqT.of (x.tups _ _ htw4)) (fun _ _ _ _ _ h => h) (fun _ _ _ x => x.new nD) ?_ ?_
    · rintro i y H5 _ Nx hi x5 ⟨zs, hz⟩ ⟨rfl, hy⟩ nx
      obtain ⟨d', hd', hy'⟩ := hws4.get' hy
      rw [List.getElem?_map] at hd'
      obtain ⟨e, he, rfl⟩ := Option.map_eq_some_iff.mp hd'
      obtain ⟨a, b, rs, rfl, ha, hb, hrs⟩ := at_encE (x5.dat hy')
      refine ⟨a, _, rfl, SqT.of ha, rfl, _, _, rfl, _, _, rfl, _, _, rfl, rfl, ?_⟩
      have hl : rs.length = e.way.1.length := by rw [hrs.length, encR_len]
      refine ⟨rfl, _, rfl, b, rs, rfl, .inr (SqT.of hb), ?_⟩
      exact nx (.int (rs.length : Nat)) _ x5 (Tups.refl _) rfl ⟨e, he, by rw [hl]⟩
    · intro H5 ys x5 hD hys hR
      have eys : ys = (cost es).map V.int := by
        refine List.ext_getElem? fun j => ?_
        unfold cost
        rw [List.getElem?_map, List.getElem?_map]
        by_cases hj : j < ys.length
        · have g := List.getElem?_eq_getElem hj
          obtain ⟨e, he, e2⟩ := hR _ _ g
          rw [g, he, e2]; rfl
        · rw [List.getElem?_eq_none (by omega), List.getElem?_eq_none (by omega)]; rfl
      refine ⟨D, cost es, rfl, by rw [← eys]; exact SqL.of hD, ?_⟩
      have hx5 := x5.keep _ _ hx4 List.not_mem_nil
      refine ⟨_, rfl, x, _, dx, _, rfl, hx5, T.clTrace, T.nTrace_cost, Nat.lt_of_le_of_lt (putF_len (n := 1) (putF_len (n := 0) (fs := []) (Nat.le_refl 0))) (by decide), ?_⟩
      have x6 : Ext [x] H (upd H5 x (.ins A0.Trace dx (trf (.ref tw) (.ref tt) (.int (cost es).sum)))) := (x4.trans x5.any).put List.mem_cons_self hx (fun ys z => nomatch z)
      exact q _ tw tt x6 upd_same (by rw [upd_ne xtw.symm]; exact x5.tups _ _ htw4) (by rw [upd_ne xtt.symm]; exact x5.tups _ _ htt4)
end
end K21

set_option Elab.async false
set_option linter.all false
set_option maxRecDepth 100000
set_option maxHeartbeats 4000000
/-! trace -/
namespace K21
open PySem PySem.Spec PyProof.Rows L2
theorem search_stop {L : List Nat} {wd : Nat} {ts : List Tree} {tx : List Nat} {f i q : Nat} (h : tx.length < i + wd) : search L wd ts tx f i q = [] := by
  cases f with
  | zero => rfl
  | succ f =>
    unfold search
    rw [if_pos h]
theorem search_go {L : List Nat} {wd : Nat} {ts : List Tree} {tx : List Nat} {f i q : Nat} {t : Tree} (h : i + wd ≤ tx.length) (ht : ts[q]? = some t) : search L wd ts tx (f + 1) i q = ⟨i, q, walk L tx i t⟩ :: (match (walk L tx i t).2.2 with
        | none => []
        | some (s, q') => search L wd ts tx f (i + s.toNat) q'.toNat) := by
  show (if i + wd > tx.length then [] else _) = _
  rw [if_neg (by omega), getD_of ht]
  all_goals (cases (walk L tx i t).2.2 <;> rfl)
theorem walk_len {L tx : List Nat} {i : Nat} : ∀ (d : Nat) (t : Tree), t.depth ≤ d → (walk L tx i t).1.length ≤ d ∧ (walk L tx i t).2.1.length ≤ d
  | 0, t, hd => by cases t <;> simp only [Tree.depth] at hd <;> omega
  | d + 1, .go s q, _ => ⟨Nat.zero_le _, Nat.zero_le _⟩
  | d + 1, .tell k t, hd => by
    have h := walk_len (L := L) (tx := tx) (i := i) d t (by simp only [Tree.depth] at hd; omega)
    exact ⟨Nat.le_succ_of_le h.1, Nat.succ_le_succ h.2⟩
  | d + 1, .read p ts, hd => by
    rw [walk_read]
    split
    · exact ⟨Nat.zero_le _, Nat.zero_le _⟩
    · by_cases hk : L.idxOf (tx.getD (i + p.toNat) 0) < ts.length
      · have g := List.getElem?_eq_getElem hk
        rw [walkNth_get g]
        have h := walk_len (L := L) (tx := tx) (i := i) d ts[L.idxOf (tx.getD (i + p.toNat) 0)] (by have := depths_mem (List.mem_of_getElem? g); simp only [Tree.depth] at hd; omega)
        exact ⟨Nat.succ_le_succ h.1, Nat.le_succ_of_le h.2⟩
      · have e : ∀ (ts : List Tree) (k : Nat), ts.length ≤ k → walkNth L tx i ts k = ([], [], none) := by
          intro ts
          induction ts with
          | nil => intro k _; rfl
          | cons a r ih =>
            intro k hk
            cases k with
            | zero => simp at hk
            | succ k => exact ih k (by simpa using hk)
        rw [e _ _ (by omega)]
        exact ⟨by simp, by simp⟩
theorem dats_of {H : Hp} : ∀ {ds : List PyData} {ys : List V}, ys.length = ds.length → (∀ (j : Nat) y, ys[j]? = some y → ∃ d, ds[j]? = some d ∧ DAt H d y) → DAts H ds ys
  | [], ys, hl, _ => List.eq_nil_of_length_eq_zero hl
  | d :: ds, [], hl, _ => by simp at hl
  | d :: ds, y :: ys, hl, h => by
    obtain ⟨d', e, hd⟩ := h 0 y rfl
    have e' : d = d' := by simpa using e
    subst e'
    exact ⟨y, ys, rfl, hd, dats_of (by simpa using hl) fun j z e => h (j + 1) z (by simpa using e)⟩
theorem upd_none {H : Hp} {a b : Addr} {o : HO} (h : upd H b o a = none) : H a = none := by
  by_cases e : a = b
  · rw [e, upd_same] at h
    cases h
  · rw [upd_ne e] at h
    exact h
/-- what the loop of trace keeps -/
def TrI (H : Hp) (a lw lt : Addr) (L tx : List Nat) (wd : Nat) (ts : List Tree) (m : Nat) (σ : L2.St) (H' : Hp) : Prop := ∃ (pv qv : V) (s6 s7 : Option V) (es : List Entry) (ws ns : List V), σ = [some (.ref a), some (.str (S tx)), some (.ref lw), some (.ref lt), some pv, some qv, s6, s7] ∧ Ext [] H H' ∧
  H' lw = some (.lst ws) ∧ H' lt = some (.lst ns) ∧ DAts H' (es.map encE) ws ∧ DAts H' (told es) ns ∧ (∀ e ∈ es, e.way.1.length ≤ 10) ∧ ns.length ≤ 10 * es.length ∧
  ((pv = .non ∧ qv = .non ∧ m = 0 ∧ es = search L wd ts tx (tx.length + 1) 0 0 ∧ es.length ≤ tx.length + 1) ∨ ∃ i q f : Nat, pv = .int i ∧ qv = .int q ∧ m = f + 1 ∧ tx.length + 1 ≤ i + f ∧ q < ts.length ∧ es.length ≤ i ∧ i ≤ tx.length + 1 ∧ es ++ search L wd ts tx f i q = search L wd ts tx (tx.length + 1) 0 0)
section
variable {P : Program} {w : World} {K : PySem.W.Frag} {mg : Str → Option Value} {base : Heap} {A0 : Ad} {f : Addr} {fd : FuncData}

abbrev N_trace : List Str := ["searcher", "text", "windows", "told", "place", "state", "turn", "number"]
theorem sc_trace : FnScope N_trace ["searcher", "text"] (defScope s_trace) := ⟨rfl, rfl, rfl, by decide +kernel, rfl, by decide +kernel, by decide +kernel⟩
def spTrace (A0 : Ad) : Sp := fun vs H Q _ => ∃ (a : Addr) (L tx : List Nat) (wd : Nat) (ts : List Tree), vs = [.ref a, .str (S tx)] ∧ SrAt A0 H a L wd ts ∧ Good L wd ts ∧ (∀ c ∈ tx, c ∈ L) ∧ tx.length ≤ 1000 ∧
  ∀ H' x dx tw tt ws ns, Ext [] H H' → H' x = some (.ins A0.Trace dx (trf (.ref tw) (.ref tt) (.int (cost (search L wd ts tx (tx.length + 1) 0 0)).sum))) → H' tw = some (.tup ws) → H' tt = some (.tup ns) →
    DAts H' ((search L wd ts tx (tx.length + 1) 0 0).map encE) ws → DAts H' (told (search L wd ts tx (tx.length + 1) 0 0)) ns → Q (.ref x) H'
theorem ok_trace (T : Tx K mg A0) (D_check_text : Dfn P w K mg base 1 "check_text" ["letters", "text"] spCheckText) (D_WindowTurn : Mkr P w K mg base 2 "WindowTurn" A0.WindowTurn ["self", "searcher", "state", "view"] (spWin A0)) (D_Trace : Mkr P w K mg base 1 "Trace" A0.Trace ["self", "windows", "told"] (spTraceI A0))
    (F : Fd K "trace" "trace" s_trace f fd) : FnOk P w K mg base CX0 4 f fd ["searcher", "text"] (spTrace A0) := by
  refine fok F sc_trace (fun vs H Q E h => ?_) (fun cdv A outer s0 H vs Q E hr h => ?_)
  · obtain ⟨_, _, _, _, _, rfl, _⟩ := h
    rfl
  · obtain ⟨a, L, tx, wd, ts, rfl, hS, G, htx, hlen, q⟩ := h
    refine ⟨_, (pss_cons (ps_expr (pe_d D_check_text (hr.mono (by omega)) (pa_cons (pe_fld (pv 0) rfl) (pa_cons (pv 1) pa_nil))))
      (pss_cons (ps_if (pt_cmpR op_gt (pe_callB call_len_str (by rfl) T.len PySem.boot_len (pa_cons (pv 1) pa_nil)) (pe_gl rfl T.mMOST_LETTERS) (nomark _))
       (pss_one ps_never)
       pss_nil)
      (pss_cons (ps_asg (pe_tup (pa_cons (pe_lst pa_nil) (pa_cons (pe_lst pa_nil) (pa_cons pe_int (pa_cons pe_int pa_nil))))) (pg_tup rfl (pgs_cons (pg_name (i := 2) sc_trace.nd rfl (.inl rfl)) (pgs_cons (pg_name (i := 3) sc_trace.nd rfl (.inl rfl)) (pgs_cons (pg_name (i := 4) sc_trace.nd rfl (.inr rfl)) (pgs_cons (pg_name (i := 5) sc_trace.nd rfl (.inl rfl)) pgs_nil))))))
      (pss_cons (ps_while PassesOwn.never (PW.pt (pw_and (pt_cmpR op_notN (pv 4) pe_non (nomark _)) (pw_and1 (pt_cmpR op_le (pe_op op_add (pv 4) (pe_fld (pv 0) rfl)) (pe_callB call_len_str (by rfl) T.len PySem.boot_len (pa_cons (pv 1) pa_nil)) (nomark _)))))
       (pss_cons (ps_set (i := 6) sc_trace.nd rfl (.inl rfl) (pe_mkD D_WindowTurn (hr.mono (by omega)) (pa_cons (pv 0) (pa_cons (pv 5) (pa_cons (pe_slice sl_str (pv 1) (po_some (pv 4)) (po_some (pe_op op_add (pe_op op_add (pv 4) (pe_fld (pv 0) rfl)) pe_int))) pa_nil)))))
        (pss_cons (ps_expr (pe_bm PySem.F.plainAttrs_list PySem.F.slot_list_append PySem.F.type_list_append mt_append (pv 2) (pa_cons (pe_tup (pa_cons (pv 4) (pa_cons (pv 5) (pa_cons (pe_callTy call_tuple_of (by rfl) T.tuple (by decide +kernel) (pa_cons (pe_fld (pv 6) rfl) pa_nil)) pa_nil)))) pa_nil)))
        (pss_cons (ps_expr (pe_bm PySem.F.plainAttrs_list PySem.F.slot_list_extend PySem.F.type_list_extend mt_extend (pv 3) (pa_cons (pe_lc (own := [("number", 7)]) (g := gName 7) (tt := tYes) rfl sc_trace.nd (pi_list (pe_fld (pv 6) rfl)) (blkOk_by (N := N_trace) (sc := defScope s_trace) (by decide +kernel)) (fun _ _ _ _ _ => (pg_name (i := 7) sc_trace.nd rfl (.inl rfl))) (fun _ _ _ _ _ => pts_nil) (fun _ _ _ _ _ => (pe_tup (pa_cons (pv 4) (pa_cons (pv 7) pa_nil))))) pa_nil)))
        (pss_cons (ps_set (i := 4) sc_trace.nd rfl (.inr rfl) (pe_ifExp (pt_cmpR op_isN (pe_fld (pv 6) rfl) pe_non (nomark _)) pe_non (pe_op op_add (pv 4) (pe_fld (pv 6) rfl))))
        (pss_one (ps_set (i := 5) sc_trace.nd rfl (.inl rfl) (pe_fld (pv 6) rfl))))))))
      (pss_one (ps_ret (pe_mkD D_Trace (hr.mono (by omega)) (pa_cons (pv 2) (pa_cons (pv 3) pa_nil))))))))), ?_⟩
    have hw1 := G.w1
    have hw8 := G.w8
    obtain ⟨dx, fs, tp, sxs, hA, hlet, hwid, hst, htp, hsxs⟩ := id hS
    refine ⟨_, rfl, a, _, dx, fs, _, rfl, hA, T.clSearcher, T.nSearcher_letters, hlet, _, rfl, L, tx, rfl, htx, fun H1 x1 => ?_⟩
    refine ⟨_, rfl, S tx, rfl, small (by show tx.length ≤ _; omega), _, _, rfl, rfl, _, rfl, iteN (by show ¬ ((tx.length : Nat) : Int) > 5000; omega) ?_⟩
    refine ⟨Nat.zero_le _, fun lw nw => ⟨Nat.zero_le _, fun lt nt => ?_⟩⟩
    have hlwt : lw ≠ lt := fun e => by
      rw [← e, upd_same] at nt
      cases nt
    refine ⟨small (by show 4 ≤ 100000; omega), fun p np => ⟨p, _, rfl, SqT.of upd_same, rfl, _, _, rfl, _, _, rfl, _, _, rfl, _, _, rfl, rfl, ?_⟩⟩
    have x2 : Ext [] H (upd (upd (upd H1 lw (.lst [])) lt (.lst [])) p (.tup [.ref lw, .ref lt, .int 0, .int 0])) := ((x1.fresh nw).fresh nt).fresh np
    have hplw : lw ≠ p := fun e => by
      rw [← e, upd_ne hlwt, upd_same] at np
      cases np
    have hplt : lt ≠ p := fun e => by
      rw [← e, upd_same] at np
      cases np
    generalize hH2 : upd (upd (upd H1 lw (.lst [])) lt (.lst [])) p (.tup [.ref lw, .ref lt, .int 0, .int 0]) = H2 at x2
    have hlw2 : H2 lw = some (.lst []) := by rw [← hH2, upd_ne hplw, upd_ne hlwt, upd_same]
    have hlt2 : H2 lt = some (.lst []) := by rw [← hH2, upd_ne hplt, upd_same]
    have nwH : H lw = none := x1.none List.not_mem_nil nw
    have ntH : H lt = none := x1.none List.not_mem_nil (by rw [upd_ne hlwt.symm] at nt; exact nt)
    -- at the end
    have fin : ∀ m σ H', TrI H a lw lt L tx wd ts m σ H' → (m = 0 ∨ ∃ i q0 f : Nat, m = f + 1 ∧ σ[4]? = some (some (.int i)) ∧ tx.length < i + wd) → (tMake A0.Trace (spTraceI A0) [] E0 (tCons (tVar 2) (tCons (tVar 3) tNil))) σ H' Q := by
      rintro m σ H' ⟨pv, qv, s6, s7, es, ws, ns, rfl, x3, hlw, hlt, hws, hns, hr, hnl, hc⟩ hm
      have key : es = search L wd ts tx (tx.length + 1) 0 0 ∧ es.length ≤ tx.length + 1 := by
        rcases hc with ⟨_, _, _, e1, e2⟩ | ⟨i, q0, f0, rfl, rfl, rfl, _, _, h3, h4, e⟩
        · exact ⟨e1, e2⟩
        · rcases hm with z | ⟨i', _, _, _, z, hi⟩
          · cases z
          · have e0 : (V.int (i : Int)) = V.int i' := by simpa using z
            have ei : i = i' := by
              injection e0 with e0
              omega
            subst ei
            rw [search_stop hi, List.append_nil] at e
            exact ⟨e, by omega⟩
      obtain ⟨e1, e2⟩ := key
      refine ⟨_, rfl, _, rfl, fun x dx' nx nd hne => ?_⟩
      have hx0 : ∀ b o, H' b = some o → (upd (upd H' dx' (.own x)) x (.ins A0.Trace dx' [])) b = some o := fun b o h => by rw [upd_ne (ne_of_none h nx), upd_ne (ne_of_none h nd)]; exact h
      refine ⟨x, lw, lt, dx', es, ws, ns, rfl, upd_same, hx0 _ _ hlw, hx0 _ _ hlt, ?_, by omega, fun e he => by have := hr e he; omega, fun H5 tw tt x5 h5 htw htt => ⟨rfl, ?_⟩⟩
      · exact DAts.ext (fun b xs h => hx0 _ _ h) _ _ hws
      · have x6 : Ext [] H' H5 := made_ext nx nd x5
        rw [e1] at h5 hws hns
        exact q H5 x dx' tw tt ws ns (x3.trans x6) h5 htw htt (x6.dats hws) (x6.dats hns)
    refine ⟨TrI H a lw lt L tx wd ts, ⟨tx.length + 2, .int 0, .int 0, none, none, [], [], [], rfl, x2, hlw2, hlt2, rfl, rfl, fun e he => (List.not_mem_nil he).elim, Nat.le_refl _, .inr ⟨0, 0, tx.length + 1, rfl, rfl, rfl, by omega, by have := G.n1; omega, Nat.le_refl _, Nat.zero_le _, rfl⟩⟩, ?_⟩
    intro m σ H' hI
    obtain ⟨pv, qv, s6, s7, es, ws, ns, rfl, x3, hlw, hlt, hws, hns, hr, hnl, hc⟩ := id hI
    rcases hc with ⟨rfl, rfl, rfl, e1, e2⟩ | ⟨i, q0, f0, rfl, rfl, rfl, hif, hqn, hei, hil, e⟩
    · refine ⟨_, rfl, rfl, _, rfl, iteF' rfl ?_⟩
      exact fin _ _ _ hI (.inl rfl)
    · have hA' := x3.keep _ _ hA List.not_mem_nil
      refine ⟨_, rfl, rfl, _, rfl, iteNN (fun z => nomatch z) ?_⟩
      refine ⟨_, rfl, _, rfl, a, _, dx, fs, _, rfl, hA', T.clSearcher, T.nSearcher_width, hwid, _, _, rfl, rfl, _, rfl, S tx, rfl, small (by show tx.length ≤ _; omega), _, _, rfl, rfl, _, rfl, iteD2 (fun hle => ?_) (fun hle => ?_)⟩
      · have hiw : i + wd ≤ tx.length := by
          have : (i : Int) + wd ≤ ((tx.length : Nat) : Int) := hle
          omega
        refine ⟨fun σ' H'' => ∃ m' < f0 + 1, TrI H a lw lt L tx wd ts m' σ' H'', fun σ' H'' h => by
          obtain ⟨m', h1, h2⟩ := h
          exact ⟨m', h1, h2⟩, ?_⟩
        have htq := List.getElem?_eq_getElem hqn
        generalize ts[q0] = t at htq
        have hmem := List.mem_of_getElem? htq
        refine ⟨_, rfl, _, rfl, _, rfl, _, rfl, _, rfl, _, rfl, _, rfl, a, _, dx, fs, _, rfl, hA', T.clSearcher, T.nSearcher_width, hwid, _, _, rfl, rfl, _, _, rfl, rfl, _, rfl, S tx, rfl, small (by show tx.length ≤ _; omega), ?_⟩
        have ecut : cutS (S tx) (some (i : Int)) (some ((i : Int) + (wd : Int) + 1)) = S ((tx.drop i).take (wd + 1)) := by
          have e0 : ((i : Int) + (wd : Int) + 1) = ((i + wd + 1 : Nat) : Int) := by omega
          rw [e0, S_cut, HT.sIx_nat, HT.sIx_nat]
          congr 1
          have : min i tx.length = i := by omega
          rw [this]
          by_cases h : i + wd + 1 ≤ tx.length
          · rw [Nat.min_eq_left h]
            congr 1; omega
          · rw [Nat.min_eq_right (by omega), List.take_of_length_le (by rw [List.length_drop]; omega), List.take_of_length_le (by rw [List.length_drop]; omega)]
        rw [ecut]
        have hdep := G.dep t hmem
        have wl := walk_len (L := L) (tx := tx) (i := i) 10 t hdep
        refine fun x dx' nx nd hne => ⟨x, a, dx', L, tx, i, wd, ts.length, q0, ts, t, rfl, ?_, G.ltr, htq, G.ok t hmem, by omega, hw8, hiw, htx, upd_same, fun H5 ra na rs sv tv nra nna x5 h5 hra hrd hna ho => ⟨rfl, ?_⟩⟩
        · exact (hS.ext x3 List.not_mem_nil).ext (m := []) ((Ext.refl.new nd).new nx) List.not_mem_nil
        have x6 : Ext [] H' H5 := made_ext nx nd x5
        have hrl : rs.length ≤ 10 := by rw [hrd.length, encR_len]; exact wl.1
        -- windows.append
        refine ⟨_, rfl, .inl ⟨rfl, _, SqL.of (x6.keep _ _ hlw List.not_mem_nil)⟩, _, rfl, _, rfl, _, rfl, x, _, dx', _, _, rfl, h5, T.clWindowTurn, T.nWindowTurn_reads, wf_lr, ra, rs, rfl, .inl ⟨SqL.of hra, fun p1 np1 => ?_⟩⟩
        refine ⟨small (by show 3 ≤ 100000; omega), fun p2 np2 => ?_⟩
        have x7 : Ext [] H5 (upd (upd H5 p1 (.tup rs)) p2 (.tup [.int i, .int q0, .ref p1])) := (Ext.refl.fresh np1).fresh np2
        have h12 : p1 ≠ p2 := fun e => by
          rw [e, upd_same] at np2
          cases np2
        have hent : DAt (upd (upd H5 p1 (.tup rs)) p2 (.tup [.int i, .int q0, .ref p1])) (encE ⟨i, q0, walk L tx i t⟩) (.ref p2) := by
          refine ⟨p2, _, rfl, upd_same, _, _, rfl, rfl, _, _, rfl, rfl, _, _, rfl, ⟨p1, rs, rfl, ?_, ?_⟩, rfl⟩
          · rw [upd_ne h12, upd_same]
          · exact x7.dats hrd
        have hlw7 := x7.keep _ _ (x6.keep _ _ hlw List.not_mem_nil) List.not_mem_nil
        have hlt7 := x7.keep _ _ (x6.keep _ _ hlt List.not_mem_nil) List.not_mem_nil
        have hna7 := x7.keep _ _ hna List.not_mem_nil
        have hx7 := x7.keep _ _ h5 List.not_mem_nil
        have hwl : ws.length = es.length := by rw [hws.length, List.length_map]
        refine ⟨lw, ws, _, rfl, rfl, hlw7, Nat.lt_of_le_of_lt (show ws.length ≤ 10000 by omega) (by rw [sizeLine_eq]; omega), ?_⟩
        generalize hH7 : upd (upd H5 p1 (.tup rs)) p2 (.tup [.int i, .int q0, .ref p1]) = H7 at x7 hent hlw7 hlt7 hna7 hx7
        have x37 : Ext [] H H7 := x3.trans (x6.trans x7)
        have x8 : Ext [] H (upd H7 lw (.lst (ws ++ [.ref p2]))) := x37.new nwH
        have t8 : Tups H7 (upd H7 lw (.lst (ws ++ [.ref p2]))) := Tups.lst hlw7
        have hxlw : x ≠ lw := ne_of hx7 hlw7 (fun z => nomatch z)
        have hna' : H' na = none := upd_none (upd_none nna)
        have hnalw : na ≠ lw := (ne_of_none hlw hna').symm
        -- told.extend
        have hx8 : (upd H7 lw (.lst (ws ++ [.ref p2]))) x = _ := (upd_ne hxlw).trans hx7
        have hna8 : (upd H7 lw (.lst (ws ++ [.ref p2]))) na = _ := (upd_ne hnalw).trans hna7
        have hlt8 : (upd H7 lw (.lst (ws ++ [.ref p2]))) lt = _ := (upd_ne hlwt.symm).trans hlt7
        have hws8 : DAts (upd H7 lw (.lst (ws ++ [.ref p2]))) ((es ++ [(⟨i, q0, walk L tx i t⟩ : Entry)]).map encE) (ws ++ [.ref p2]) := by
          rw [List.map_append]
          exact DAts.ext t8 _ _ (((x6.trans x7).dats hws).append (DAts.one hent))
        have hns8 := DAts.ext t8 _ _ ((x6.trans x7).dats hns)
        have hlw8 : (upd H7 lw (.lst (ws ++ [.ref p2]))) lw = _ := upd_same
        generalize upd H7 lw (.lst (ws ++ [.ref p2])) = H8 at x8 hx8 hna8 hlt8 hws8 hns8 hlw8
        refine ⟨_, rfl, .inl ⟨rfl, _, SqL.of hlt8⟩, _, rfl, x, _, dx', _, _, rfl, hx8, T.clWindowTurn, T.nWindowTurn_numbers, wf_ln, na, rfl, ⟨_, SqL.of hna8⟩, fun D nD => ?_⟩
        refine lc_rel walk_list (fun _ H' => Ext [] H8 H') (fun j H' y => ∃ n, (walk L tx i t).2.1[j]? = some n ∧ DAt H' (.tuple [.int i, .int n]) y) (by rw [List.length_map]; omega) (Ext.refl.new nD) (fun _ _ _ x => SqL.of (x.keep _ _ hna8 List.not_mem_nil)) (fun _ _ _ y tt ⟨n, e1, e2⟩ => ⟨n, e1, DAt.ext tt _ _ e2⟩) (fun _ _ _ x => x.new nD) ?_ ?_
        · rintro j y H9 _ Nx hj x9 ⟨zs, hz⟩ ⟨rfl, hy⟩ nx
          rw [List.getElem?_map] at hy
          obtain ⟨n, hn, rfl⟩ := Option.map_eq_some_iff.mp hy
          refine ⟨rfl, _, rfl, _, rfl, small (by show 2 ≤ 100000; omega), fun p3 np3 => ?_⟩
          have x10 := Ext.refl.fresh (m := []) (o := .tup [.int i, .int n]) np3
          exact nx (.ref p3) _ (x9.fresh np3) x10.tups (upd_ne (ne_of_none hz np3)) ⟨n, hn, p3, _, rfl, upd_same, _, _, rfl, rfl, _, _, rfl, rfl, rfl⟩
        · intro H9 ys x9 hD hys hR
          have hlt9 := x9.keep _ _ hlt8 List.not_mem_nil
          have hns9 := x9.dats hns8
          have hws9 := x9.dats hws8
          have hlw9 := x9.keep _ _ hlw8 List.not_mem_nil
          have hx9 := x9.keep _ _ hx8 List.not_mem_nil
          rw [List.length_map] at hys
          have hyd : DAts H9 (toldE ⟨i, q0, walk L tx i t⟩) ys := dats_of (by unfold toldE; rw [List.length_map]; exact hys) fun j y e => by
            obtain ⟨n, h1, h2⟩ := hR j y e
            refine ⟨_, ?_, h2⟩
            unfold toldE
            rw [List.getElem?_map, h1]; rfl
          refine ⟨lt, D, ns, ys, rfl, rfl, hlt9, hD, small (by omega), ?_⟩
          have x10 : Ext [] H (upd H9 lt (.lst (ns ++ ys))) := (x8.trans x9).new ntH
          have t10 : Tups H9 (upd H9 lt (.lst (ns ++ ys))) := Tups.lst hlt9
          have hxlt : x ≠ lt := ne_of hx9 hlt9 (fun z => nomatch z)
          have hx10 : (upd H9 lt (.lst (ns ++ ys))) x = _ := (upd_ne hxlt).trans hx9
          have hlw10 : (upd H9 lt (.lst (ns ++ ys))) lw = _ := (upd_ne hlwt).trans hlw9
          have hlt10 : (upd H9 lt (.lst (ns ++ ys))) lt = _ := upd_same
          have hws10 := DAts.ext t10 _ _ hws9
          have hns10 : DAts (upd H9 lt (.lst (ns ++ ys))) (told (es ++ [⟨i, q0, walk L tx i t⟩])) (ns ++ ys) := by
            rw [told_append, told_one]
            exact DAts.ext t10 _ _ (hns9.append hyd)
          generalize upd H9 lt (.lst (ns ++ ys)) = H10 at x10 hx10 hlw10 hlt10 hws10 hns10
          have hf0 : f0 ≠ 0 := by omega
          obtain ⟨f1, rfl⟩ := Nat.exists_eq_succ_of_ne_zero hf0
          rw [search_go hiw htq] at e
          have hbnd : ∀ e ∈ es ++ [(⟨i, q0, walk L tx i t⟩ : Entry)], e.way.1.length ≤ 10 := by
            intro e he
            rcases List.mem_append.mp he with h | h
            · exact hr e h
            · rw [List.mem_singleton.mp h]; exact wl.1
          have hnl' : (ns ++ ys).length ≤ 10 * (es ++ [(⟨i, q0, walk L tx i t⟩ : Entry)]).length := by
            rw [List.length_append, List.length_append, hys]
            have := wl.2
            simp only [List.length_singleton]
            omega
          have hok := walk_ok (L := L) (tx := tx) (nl := L.length) (w := wd) (n := ts.length) (i := i) rfl hiw htx 10 t hdep (G.ok t hmem)
          refine ⟨_, rfl, x, _, dx', _, _, rfl, hx10, T.clWindowTurn, T.nWindowTurn_slide, wf_ls, rfl, _, rfl, ?_⟩
          cases hout : (walk L tx i t).2.2 with
          | none =>
            rw [hout] at ho e
            obtain ⟨rfl, rfl⟩ := ho
            refine iteD rfl ⟨_, rfl, x, _, dx', _, _, rfl, hx10, T.clWindowTurn, T.nWindowTurn_state, wf_lt, ?_⟩
            exact ⟨0, by omega, .non, .non, _, _, es ++ [⟨i, q0, walk L tx i t⟩], _, _, rfl, x10, hlw10, hlt10, hws10, hns10, hbnd, hnl', .inl ⟨rfl, rfl, rfl, e, by rw [List.length_append]; show es.length + 1 ≤ _; omega⟩⟩
          | some sq =>
            obtain ⟨s, q1⟩ := sq
            rw [hout] at ho e
            obtain ⟨rfl, rfl⟩ := ho
            obtain ⟨o1, o2, o3, o4⟩ := hok s q1 hout
            refine iteN (fun z => nomatch z) ⟨_, rfl, _, rfl, x, _, dx', _, _, rfl, hx10, T.clWindowTurn, T.nWindowTurn_slide, wf_ls, _, _, rfl, rfl, _, rfl, x, _, dx', _, _, rfl, hx10, T.clWindowTurn, T.nWindowTurn_state, wf_lt, ?_⟩
            refine ⟨f1 + 1, by omega, _, _, _, _, es ++ [⟨i, q0, walk L tx i t⟩], _, _, rfl, x10, hlw10, hlt10, hws10, hns10, hbnd, hnl', .inr ⟨i + s.toNat, q1.toNat, f1, ?_, ?_, rfl, by omega, by omega, ?_, by omega, ?_⟩⟩
            · exact congrArg V.int (by omega)
            · exact congrArg V.int (by omega)
            · rw [List.length_append]; show es.length + 1 ≤ _; omega
            · rw [List.append_assoc]; exact e
      · exact fin _ _ _ hI (.inr ⟨i, q0, f0, rfl, rfl, by
          have : ¬ (i : Int) + wd ≤ ((tx.length : Nat) : Int) := hle
          omega⟩)
end
end K21

set_option Elab.async false
set_option linter.all false
set_option maxRecDepth 100000
set_option maxHeartbeats 4000000
/-! the law's own search -/
namespace K21
open PySem PySem.Spec PyProof.Rows L2
/-- after k turns of the outer loop -/
def SeI (H : Hp) (l tp wp : Addr) (L tx : List Nat) (wd : Nat) (ts : List Tree) (k : Nat) (σ : L2.St) (H' : Hp) : Prop := ∃ (i q f : Nat) (es : List Entry) (ns ws : List V) (s8 s9 s10 s11 s12 s13 : Option V),
  σ = [some (.str (S L)), some (.int wd), some (.ref l), some (.str (S tx)), some (.ref tp), some (.ref wp), some (.int i), some (.int q), s8, s9, s10, s11, s12, s13] ∧ Ext [] H H' ∧ H' tp = some (.lst ns) ∧ H' wp = some (.lst ws) ∧ DAts H' (told es) ns ∧ DAts H' (es.map encE) ws ∧
  ns.length ≤ 10 * k ∧ ws.length = k ∧ k + f = tx.length + 1 ∧ tx.length + 1 ≤ i + f ∧ q < ts.length ∧ i ≤ tx.length + 1 ∧ es ++ search L wd ts tx f i q = search L wd ts tx (tx.length + 1) 0 0
/-- behind the outer loop -/
def SeE (H : Hp) (tp wp : Addr) (L tx : List Nat) (wd : Nat) (ts : List Tree) (σ : L2.St) (H' : Hp) : Prop := ∃ (ns ws : List V) (s0 s1 s2 s3 s6 s7 s8 s9 s10 s11 s12 s13 : Option V), σ = [s0, s1, s2, s3, some (.ref tp), some (.ref wp), s6, s7, s8, s9, s10, s11, s12, s13] ∧ Ext [] H H' ∧ H' tp = some (.lst ns) ∧ H' wp = some (.lst ws) ∧
  DAts H' (told (search L wd ts tx (tx.length + 1) 0 0)) ns ∧ DAts H' ((search L wd ts tx (tx.length + 1) 0 0).map encE) ws
/-- in the walk of a tree: j turns of the inner loop -/
def SjI (Hb H : Hp) (l tp wp rp : Addr) (L tx : List Nat) (wd : Nat) (nst : Nat) (i q k : Nat) (t : Tree) (ns ws : List V) (j : Nat) (σ : L2.St) (H' : Hp) : Prop := ∃ (u : Tree) (v : V) (rd : List Rd1) (nn : List Int) (rs us : List V) (s12 s13 : Option V),
  σ = [some (.str (S L)), some (.int wd), some (.ref l), some (.str (S tx)), some (.ref tp), some (.ref wp), some (.int i), some (.int q), some (.int k), some v, some (.ref rp), some .non, s12, s13] ∧ Ext [] H H' ∧ H' tp = some (.lst (ns ++ us)) ∧ H' wp = some (.lst ws) ∧ H' rp = some (.lst rs) ∧
  DAts H' (nn.map fun n => .tuple [.int i, .int n]) us ∧ DAts H' (RdD rd) rs ∧ TAt H' u v ∧ u.ok L.length wd nst ∧ j + u.depth ≤ 10 ∧ us.length ≤ j ∧ rs.length ≤ j ∧ rd ++ (walk L tx i u).1 = (walk L tx i t).1 ∧ nn ++ (walk L tx i u).2.1 = (walk L tx i t).2.1 ∧ (walk L tx i u).2.2 = (walk L tx i t).2.2 ∧ Tups Hb H'
/-- behind it -/
def SjE (Hb H : Hp) (l tp wp rp : Addr) (L tx : List Nat) (wd : Nat) (i q k : Nat) (t : Tree) (ns ws : List V) (σ : L2.St) (H' : Hp) : Prop := ∃ (v sv : V) (rs us : List V) (s12 s13 : Option V),
  σ = [some (.str (S L)), some (.int wd), some (.ref l), some (.str (S tx)), some (.ref tp), some (.ref wp), some (.int i), some (.int q), some (.int k), some v, some (.ref rp), some sv, s12, s13] ∧ Ext [] H H' ∧ H' tp = some (.lst (ns ++ us)) ∧ H' wp = some (.lst ws) ∧ H' rp = some (.lst rs) ∧
  DAts H' ((walk L tx i t).2.1.map fun n => .tuple [.int i, .int n]) us ∧ DAts H' (RdD (walk L tx i t).1) rs ∧ us.length ≤ 10 ∧
  (match (walk L tx i t).2.2 with | none => sv = .non | some (s, q') => sv = .int s ∧ ∃ ta, v = .ref ta ∧ H' ta = some (.tup [.str "go", .int s, .int q'])) ∧ Tups Hb H'
section
variable {P : Program} {w : World} {K : PySem.W.Frag} {mg : Str → Option Value} {base : Heap} {A0 : Ad} {f : Addr} {fd : FuncData}

abbrev N_l_search : List Str := ["_law_letters", "_law_width", "_law_trees", "_law_text", "_law_told", "_law_windows", "_law_place", "_law_state", "_law_turn", "_law_tree", "_law_reads", "_law_slide", "_law_step", "_law_letter"]
theorem sc_l_search : FnScope N_l_search ["_law_letters", "_law_width", "_law_trees", "_law_text"] (defScope s_l_search) := ⟨rfl, rfl, rfl, by decide +kernel, rfl, by decide +kernel, by decide +kernel⟩
def spSearch : Sp := fun vs H Q _ => ∃ (l : Addr) (L tx : List Nat) (wd : Nat) (ts : List Tree) (xs : List V), vs = [.str (S L), .int wd, .ref l, .str (S tx)] ∧ H l = some (.lst xs) ∧ TsAt H ts xs ∧ Good L wd ts ∧ (∀ c ∈ tx, c ∈ L) ∧ tx.length ≤ 1000 ∧
  ∀ H' p tp wp ns ws, Ext [] H H' → H' p = some (.tup [.ref tp, .ref wp]) → H' tp = some (.lst ns) → H' wp = some (.lst ws) → DAts H' (told (search L wd ts tx (tx.length + 1) 0 0)) ns → DAts H' ((search L wd ts tx (tx.length + 1) 0 0).map encE) ws → Q (.ref p) H'
theorem ok_search (T : Tx K mg A0) (F : Fd K "_law_search" "_law_search" s_l_search f fd) : FnOk P w K mg base CX0 1 f fd ["_law_letters", "_law_width", "_law_trees", "_law_text"] spSearch := by
  refine fok F sc_l_search (fun vs H Q E h => ?_) (fun cdv A outer s0 H vs Q E hr h => ?_)
  · obtain ⟨_, _, _, _, _, _, rfl, _⟩ := h
    rfl
  · obtain ⟨l, L, tx, wd, ts, xs, rfl, hl, hxs, G, htx, hlen, q⟩ := h
    refine ⟨_, (pss_cons (ps_asg (pe_tup (pa_cons (pe_lst pa_nil) (pa_cons (pe_lst pa_nil) (pa_cons pe_int (pa_cons pe_int pa_nil))))) (pg_tup rfl (pgs_cons (pg_name (i := 4) sc_l_search.nd rfl (.inl rfl)) (pgs_cons (pg_name (i := 5) sc_l_search.nd rfl (.inl rfl)) (pgs_cons (pg_name (i := 6) sc_l_search.nd rfl (.inl rfl)) (pgs_cons (pg_name (i := 7) sc_l_search.nd rfl (.inl rfl)) pgs_nil))))))
      (C8.pss_cut (ps_for PassesOwn.never rfl (pi_range1 (by rfl) T.range (pa_cons (pe_op op_add (pe_callB call_len_str (by rfl) T.len PySem.boot_len (pa_cons (pv 3) pa_nil)) pe_int) pa_nil)) (pg_name (i := 8) sc_l_search.nd rfl (.inl rfl))
       (pss_cons (ps_if (pt_cmpR op_gt (pe_op op_add (pv 6) (pv 1)) (pe_callB call_len_str (by rfl) T.len PySem.boot_len (pa_cons (pv 3) pa_nil)) (nomark _))
         (pss_one ps_break)
         pss_nil)
        (pss_cons (ps_par3 (i := 9) (j := 10) (l := 11) rfl sc_l_search.nd rfl rfl rfl (by decide) (by decide) (by decide) rfl rfl rfl (pa_cons (pe_ix ix_list (pv 2) (pv 7) (fun _ _ => rfl)) (pa_cons (pe_lst pa_nil) (pa_cons pe_non pa_nil))) (by rfl))
        (C8.pss_cut (ps_for PassesOwn.never rfl (pi_range1 (by rfl) T.range (pa_cons pe_int pa_nil)) (pg_name (i := 12) sc_l_search.nd rfl (.inl rfl))
         (pss_cons (ps_if (pt_cmpR op_eq (pe_ix ix_tup (pv 9) pe_int (fun _ _ => rfl)) pe_str (nomark _))
           (pss_cons (ps_set (i := 11) sc_l_search.nd rfl (.inl rfl) (pe_ix ix_tup (pv 9) pe_int (fun _ _ => rfl)))
            (pss_one ps_break))
           pss_nil)
          (pss_one (ps_if (pt_cmpR op_eq (pe_ix ix_tup (pv 9) pe_int (fun _ _ => rfl)) pe_str (nomark _))
           (pss_cons (ps_expr (pe_bm PySem.F.plainAttrs_list PySem.F.slot_list_append PySem.F.type_list_append mt_append (pv 4) (pa_cons (pe_tup (pa_cons (pv 6) (pa_cons (pe_ix ix_tup (pv 9) pe_int (fun _ _ => rfl)) pa_nil))) pa_nil)))
            (pss_one (ps_set (i := 9) sc_l_search.nd rfl (.inl rfl) (pe_ix ix_tup (pv 9) pe_int (fun _ _ => rfl)))))
           (pss_one (ps_if (pt_cmpR op_eq (pe_op op_add (pv 6) (pe_ix ix_tup (pv 9) pe_int (fun _ _ => rfl))) (pe_callB call_len_str (by rfl) T.len PySem.boot_len (pa_cons (pv 3) pa_nil)) (nomark _))
             (pss_one ps_break)
             (pss_cons (ps_set (i := 13) sc_l_search.nd rfl (.inl rfl) (pe_ix ix_str (pv 3) (pe_op op_add (pv 6) (pe_ix ix_tup (pv 9) pe_int (fun _ _ => rfl))) (fun _ _ => rfl)))
              (pss_cons (ps_expr (pe_bm PySem.F.plainAttrs_list PySem.F.slot_list_append PySem.F.type_list_append mt_append (pv 10) (pa_cons (pe_tup (pa_cons (pe_ix ix_tup (pv 9) pe_int (fun _ _ => rfl)) (pa_cons (pv 13) pa_nil))) pa_nil)))
              (pss_one (ps_set (i := 9) sc_l_search.nd rfl (.inl rfl) (pe_ix ix_tup (pe_ix ix_tup (pv 9) pe_int (fun _ _ => rfl)) (pe_idxS (pv 0) (pv 13)) (fun _ _ => rfl))))))))))))
        (pss_cons (ps_expr (pe_bm PySem.F.plainAttrs_list PySem.F.slot_list_append PySem.F.type_list_append mt_append (pv 5) (pa_cons (pe_tup (pa_cons (pv 6) (pa_cons (pv 7) (pa_cons (pe_callTy call_tuple_of (by rfl) T.tuple (by decide +kernel) (pa_cons (pv 10) pa_nil)) pa_nil)))) pa_nil)))
        (pss_cons (ps_if (pt_cmpR op_isN (pv 11) pe_non (nomark _))
         (pss_one ps_break)
         pss_nil)
        (pss_one (ps_par (i := 6) (j := 7) rfl sc_l_search.nd rfl rfl (by decide) rfl rfl (pa_cons (pe_op op_add (pv 6) (pv 11)) (pa_cons (pe_ix ix_tup (pv 9) pe_int (fun _ _ => rfl)) pa_nil)) (by rfl)))))))))
      (pss_one (ps_ret (pe_tup (pa_cons (pv 4) (pa_cons (pv 5) pa_nil))))))), ?_⟩
    have hw1 := G.w1
    have hw8 := G.w8
    have hxl : xs.length = ts.length := by rw [hxs.length, encs_length]
    refine ⟨Nat.zero_le _, fun tp nt => ⟨Nat.zero_le _, fun wp nw => ?_⟩⟩
    have htw : tp ≠ wp := fun e => by
      rw [← e, upd_same] at nw
      cases nw
    refine ⟨small (by show 4 ≤ 100000; omega), fun p np => ⟨p, _, rfl, SqT.of upd_same, rfl, _, _, rfl, _, _, rfl, _, _, rfl, _, _, rfl, rfl, ?_⟩⟩
    have x2 : Ext [] H (upd (upd (upd H tp (.lst [])) wp (.lst [])) p (.tup [.ref tp, .ref wp, .int 0, .int 0])) := ((Ext.refl.fresh nt).fresh nw).fresh np
    have hptp : tp ≠ p := fun e => by
      rw [← e, upd_ne htw, upd_same] at np
      cases np
    have hpwp : wp ≠ p := fun e => by
      rw [← e, upd_same] at np
      cases np
    have nwH : H wp = none := upd_none nw
    generalize hH2 : upd (upd (upd H tp (.lst [])) wp (.lst [])) p (.tup [.ref tp, .ref wp, .int 0, .int 0]) = H2 at x2
    have htp2 : H2 tp = some (.lst []) := by rw [← hH2, upd_ne hptp, upd_ne htw, upd_same]
    have hwp2 : H2 wp = some (.lst []) := by rw [← hH2, upd_ne hpwp, upd_same]
    refine ⟨SeE H tp wp L tx wd ts, ?_, ?_⟩
    · have eS : (S tx).length = tx.length := rfl
      refine ⟨_, rfl, S tx, rfl, small (by show tx.length ≤ _; omega), _, _, rfl, rfl, _, rfl, by omega, by omega, ?_⟩
      refine for_range (SeI H l tp wp L tx wd ts) ⟨0, 0, tx.length + 1, [], [], [], none, none, none, none, none, none, rfl, x2, htp2, hwp2, rfl, rfl, Nat.le_refl _, rfl, by omega, by omega, by have := G.n1; omega, by omega, rfl⟩ ?_ ?_
      · rintro k σ H' hk ⟨i, q0, f0, es, ns, ws, s8, s9, s10, s11, s12, s13, rfl, x3, hn, hw, hns, hws, hnl, hwl, hkf, hif, hqn, hil, e⟩
        refine ⟨_, rfl, _, rfl, _, _, rfl, rfl, _, rfl, S tx, rfl, small (by show tx.length ≤ _; omega), _, _, rfl, rfl, _, rfl, iteD2 (fun hgt => ?_) (fun hgt => ?_)⟩
        · have hgt' : tx.length < i + wd := by
            have : (i : Int) + wd > ((tx.length : Nat) : Int) := hgt
            omega
          rw [search_stop hgt', List.append_nil] at e
          exact ⟨ns, ws, _, _, _, _, _, _, _, _, _, _, _, _, rfl, x3, hn, hw, e ▸ hns, e ▸ hws⟩
        · have hiw : i + wd ≤ tx.length := by
            have : ¬ (i : Int) + wd > ((tx.length : Nat) : Int) := hgt
            omega
          have htq := List.getElem?_eq_getElem hqn
          generalize ts[q0] = t at htq
          have hmem := List.mem_of_getElem? htq
          have hdep := G.dep t hmem
          obtain ⟨v, hv, htv⟩ := hxs.get (encs_get htq)
          have hl3 := x3.keep _ _ hl List.not_mem_nil
          refine ⟨_, rfl, _, rfl, l, _, _, _, rfl, rfl, SqL.of hl3, at_of rfl hv, Nat.zero_le _, fun rp nrp => ?_⟩
          have x4 : Ext [] H (upd H' rp (.lst [])) := x3.fresh nrp
          have x34 : Ext [] H' (upd H' rp (.lst [])) := Ext.refl.fresh nrp
          have nrH := x3.none List.not_mem_nil nrp
          refine ⟨_, _, _, rfl, SjE H' H l tp wp rp L tx wd i q0 k t ns ws, ?_, ?_⟩
          · refine ⟨60, rfl, by omega, by omega, ?_⟩
            refine for_range (SjI H' H l tp wp rp L tx wd ts.length i q0 k t ns ws) ⟨t, v, [], [], [], [], s12, s13, by rw [Int.zero_add]; rfl, x4, by rw [List.append_nil]; exact x34.keep _ _ hn List.not_mem_nil, x34.keep _ _ hw List.not_mem_nil, upd_same, rfl, rfl, x4.dat htv, G.ok t hmem, by omega, Nat.le_refl _, Nat.le_refl _, rfl, rfl, rfl, x34.tups⟩ ?_ ?_
            · rintro j σ H4 hj ⟨u, v, rd, nn, rs, us, s12, s13, rfl, x5, hn5, hw5, hr5, hus, hrd, hu, huok, hjd, hul, hrl, e1, e2, e3, t5⟩
              have hk60 := depth_pos u
              cases u with
              | go s q1 =>
                obtain ⟨ta, rfl, h⟩ := at_go hu
                refine ⟨_, rfl, _, _, _, _, rfl, rfl, SqT.of h, tup_at (j := 0) rfl, rfl, _, rfl, iteD rfl ?_⟩
                refine ⟨_, rfl, _, _, _, _, rfl, rfl, SqT.of h, tup_at (j := 1) rfl, ?_⟩
                have e1' : rd = (walk L tx i t).1 := by rw [← e1]; show rd = rd ++ []; rw [List.append_nil]
                have e2' : nn = (walk L tx i t).2.1 := by rw [← e2]; show nn = nn ++ []; rw [List.append_nil]
                have e3' : (walk L tx i t).2.2 = some (s, q1) := e3.symm
                refine ⟨_, _, rs, us, _, _, rfl, x5, hn5, hw5, hr5, e2' ▸ hus, e1' ▸ hrd, by omega, ?_⟩
                rw [e3']
                exact ⟨⟨rfl, ta, rfl, h⟩, t5⟩
              | tell m u =>
                obtain ⟨ta, tv, rfl, h, htv'⟩ := at_tell hu
                refine ⟨_, rfl, _, _, _, _, rfl, rfl, SqT.of h, tup_at (j := 0) rfl, rfl, _, rfl, iteN (by decide +kernel) ?_⟩
                refine ⟨_, rfl, _, _, _, _, rfl, rfl, SqT.of h, tup_at (j := 0) rfl, rfl, _, rfl, iteD rfl ?_⟩
                refine ⟨_, rfl, .inl ⟨rfl, _, SqL.of hn5⟩, _, rfl, _, rfl, _, _, _, _, rfl, rfl, SqT.of h, tup_at (j := 1) rfl, small (by show 2 ≤ 100000; omega), fun p2 np2 => ?_⟩
                have x6 : Ext [] H4 (upd H4 p2 (.tup [.int i, .int m])) := Ext.refl.fresh np2
                have hn6 := x6.keep _ _ hn5 List.not_mem_nil
                have hent : DAt (upd H4 p2 (.tup [.int i, .int m])) (.tuple [.int i, .int m]) (.ref p2) := ⟨p2, _, rfl, upd_same, _, _, rfl, rfl, _, _, rfl, rfl, rfl⟩
                refine ⟨tp, _, _, rfl, rfl, hn6, Nat.lt_of_le_of_lt (show (ns ++ us).length ≤ 20000 by rw [List.length_append]; omega) (by rw [sizeLine_eq]; omega), ?_⟩
                have t7 := Tups.lst (o := .lst (ns ++ us ++ [.ref p2])) hn6
                have x7 : Ext [] H (upd (upd H4 p2 (.tup [.int i, .int m])) tp (.lst (ns ++ us ++ [.ref p2]))) := (x5.trans x6).new nt
                have hwp7 : (upd (upd H4 p2 (.tup [.int i, .int m])) tp (.lst (ns ++ us ++ [.ref p2]))) wp = _ := (upd_ne htw.symm).trans (x6.keep _ _ hw5 List.not_mem_nil)
                have hrp : rp ≠ tp := fun z => by
                  have := x3.keep
                  rw [z, hn] at nrp
                  cases nrp
                have hrp7 : (upd (upd H4 p2 (.tup [.int i, .int m])) tp (.lst (ns ++ us ++ [.ref p2]))) rp = _ := (upd_ne hrp).trans (x6.keep _ _ hr5 List.not_mem_nil)
                have htp7 : (upd (upd H4 p2 (.tup [.int i, .int m])) tp (.lst (ns ++ us ++ [.ref p2]))) tp = _ := upd_same
                have x47 : Tups H4 (upd (upd H4 p2 (.tup [.int i, .int m])) tp (.lst (ns ++ us ++ [.ref p2]))) := fun b ys hb => t7 _ _ (x6.tups _ _ hb)
                have hent7 := DAt.ext t7 _ _ hent
                generalize upd (upd H4 p2 (.tup [.int i, .int m])) tp (.lst (ns ++ us ++ [.ref p2])) = H7 at x7 hwp7 hrp7 htp7 x47 hent7
                refine ⟨_, rfl, _, _, _, _, rfl, rfl, SqT.of (x47 _ _ h), tup_at (j := 2) rfl, ?_⟩
                refine ⟨u, tv, rd, nn ++ [m], rs, us ++ [.ref p2], _, _, rfl, x7, by rw [← List.append_assoc]; exact htp7, hwp7, hrp7, ?_, DAts.ext x47 _ _ hrd, DAt.ext x47 _ _ htv', huok.2.2, ?_, ?_, by omega, e1, ?_, e3, fun b ys hb => x47 _ _ (t5 _ _ hb)⟩
                · rw [List.map_append]
                  exact (DAts.ext x47 _ _ hus).append (DAts.one hent7)
                · simp only [Tree.depth] at hjd; omega
                · rw [List.length_append]; show us.length + 1 ≤ _; omega
                · rw [List.append_assoc]; exact e2
              | read p ts' =>
                obtain ⟨ta, tb, txs, rfl, h, htb, htxs⟩ := at_read hu
                obtain ⟨o1, o2, o3, o4⟩ := huok
                obtain ⟨p, rfl⟩ := Int.eq_ofNat_of_zero_le o1
                refine ⟨_, rfl, _, _, _, _, rfl, rfl, SqT.of h, tup_at (j := 0) rfl, rfl, _, rfl, iteN (by decide +kernel) ?_⟩
                refine ⟨_, rfl, _, _, _, _, rfl, rfl, SqT.of h, tup_at (j := 0) rfl, rfl, _, rfl, iteN (by decide +kernel) ?_⟩
                refine ⟨_, rfl, _, rfl, _, _, _, _, rfl, rfl, SqT.of h, tup_at (j := 1) rfl, _, _, rfl, rfl, _, rfl, S tx, rfl, small (by show tx.length ≤ _; omega), rfl, _, rfl, iteD2 (fun he => ?_) (fun he => ?_)⟩
                · have he' : i + p = tx.length := by
                    have := V.int.inj he
                    have : (i : Int) + (p : Int) = ((tx.length : Nat) : Int) := this
                    omega
                  have ew : walk L tx i (.read (p : Int) ts') = ([], [], none) := by rw [walk_read, if_pos (by rw [Int.toNat_natCast]; exact he')]
                  rw [ew] at e1 e2 e3
                  have e1' : rd = (walk L tx i t).1 := by rw [← e1, List.append_nil]
                  have e2' : nn = (walk L tx i t).2.1 := by rw [← e2, List.append_nil]
                  refine ⟨_, _, rs, us, _, _, rfl, x5, hn5, hw5, hr5, e2' ▸ hus, e1' ▸ hrd, by omega, ?_⟩
                  rw [← e3]
                  exact ⟨rfl, t5⟩
                · have hne : i + p ≠ tx.length := fun z => he (by
                    exact congrArg V.int (show (i : Int) + (p : Int) = ((tx.length : Nat) : Int) by omega))
                  have hlt : i + p < tx.length := by omega
                  have hc := getD_some hlt
                  have hcL : tx.getD (i + p) 0 ∈ L := htx _ (List.mem_of_getElem? hc)
                  have eix : ((i : Int) + (p : Int)) = ((i + p : Nat) : Int) := by omega
                  refine ⟨_, rfl, _, rfl, _, rfl, _, _, _, _, rfl, rfl, SqT.of h, tup_at (j := 1) rfl, _, _, rfl, rfl, S tx, _, tx.getD (i + p) 0, rfl, rfl, small (by show tx.length ≤ _; omega), (by rw [eix]; exact atI_nat hc), ?_⟩
                  refine ⟨_, rfl, .inl ⟨rfl, _, SqL.of hr5⟩, _, rfl, _, _, _, _, rfl, rfl, SqT.of h, tup_at (j := 1) rfl, _, rfl, small (by show 2 ≤ 100000; omega), fun y ny => ?_⟩
                  have x6 : Ext [] H4 (upd H4 y (.tup [.int p, .str ⟨#[tx.getD (i + p) 0]⟩])) := Ext.refl.fresh ny
                  have hr6 := x6.keep _ _ hr5 List.not_mem_nil
                  have hent : DAt (upd H4 y (.tup [.int p, .str ⟨#[tx.getD (i + p) 0]⟩])) (.tuple [.int p, .str (S [tx.getD (i + p) 0])]) (.ref y) := ⟨y, _, rfl, upd_same, _, _, rfl, rfl, _, _, rfl, rfl, rfl⟩
                  refine ⟨rp, _, _, rfl, rfl, hr6, Nat.lt_of_le_of_lt (show rs.length ≤ 20000 by omega) (by rw [sizeLine_eq]; omega), ?_⟩
                  have t7 := Tups.lst (o := .lst (rs ++ [.ref y])) hr6
                  have x7 : Ext [] H (upd (upd H4 y (.tup [.int p, .str ⟨#[tx.getD (i + p) 0]⟩])) rp (.lst (rs ++ [.ref y]))) := (x5.trans x6).new nrH
                  have hrpt : tp ≠ rp := ne_of_none hn nrp
                  have hrpw : wp ≠ rp := ne_of_none hw nrp
                  have htp7 : (upd (upd H4 y (.tup [.int p, .str ⟨#[tx.getD (i + p) 0]⟩])) rp (.lst (rs ++ [.ref y]))) tp = _ := (upd_ne hrpt).trans (x6.keep _ _ hn5 List.not_mem_nil)
                  have hwp7 : (upd (upd H4 y (.tup [.int p, .str ⟨#[tx.getD (i + p) 0]⟩])) rp (.lst (rs ++ [.ref y]))) wp = _ := (upd_ne hrpw).trans (x6.keep _ _ hw5 List.not_mem_nil)
                  have hrp7 : (upd (upd H4 y (.tup [.int p, .str ⟨#[tx.getD (i + p) 0]⟩])) rp (.lst (rs ++ [.ref y]))) rp = _ := upd_same
                  have x47 : Tups H4 (upd (upd H4 y (.tup [.int p, .str ⟨#[tx.getD (i + p) 0]⟩])) rp (.lst (rs ++ [.ref y]))) := fun b ys hb => t7 _ _ (x6.tups _ _ hb)
                  have hent7 := DAt.ext t7 _ _ hent
                  generalize upd (upd H4 y (.tup [.int p, .str ⟨#[tx.getD (i + p) 0]⟩])) rp (.lst (rs ++ [.ref y])) = H7 at x7 htp7 hwp7 hrp7 x47 hent7
                  have hidx' : L.idxOf (tx.getD (i + p) 0) < ts'.length := by
                    rw [o3]
                    exact List.idxOf_lt_length_of_mem hcL
                  have hu' : ts'[L.idxOf (tx.getD (i + p) 0)]? = some ts'[L.idxOf (tx.getD (i + p) 0)] := List.getElem?_eq_getElem hidx'
                  generalize ts'[L.idxOf (tx.getD (i + p) 0)] = u' at hu'
                  obtain ⟨v', hv', hvt⟩ := htxs.get (encs_get hu')
                  have hmem' := List.mem_of_getElem? hu'
                  have hdm := depths_mem hmem'
                  refine ⟨_, rfl, _, _, _, _, rfl, rfl, SqT.of (x47 _ _ h), tup_at (j := 2) rfl, _, rfl, ⟨_, rfl⟩, _, rfl, L, _, rfl, rfl, G.ltr.nd, hcL, _, _, _, _, rfl, rfl, SqT.of (x47 _ _ htb), at_of rfl hv', ?_⟩
                  have ew : walk L tx i (.read (p : Int) ts') = (((p : Int), tx.getD (i + p) 0) :: (walk L tx i u').1, (walk L tx i u').2) := by
                    rw [walk_read, Int.toNat_natCast, if_neg hne, walkNth_get hu']
                  rw [ew] at e1 e2 e3
                  refine ⟨u', v', rd ++ [((p : Int), tx.getD (i + p) 0)], nn, rs ++ [.ref y], us, _, _, rfl, x7, htp7, hwp7, hrp7, DAts.ext x47 _ _ hus, ?_, DAt.ext x47 _ _ hvt, oks_iff.mp o4 u' hmem', ?_, by omega, ?_, ?_, e2, e3, fun b ys hb => x47 _ _ (t5 _ _ hb)⟩
                  · rw [RdD_append]
                    exact (DAts.ext x47 _ _ hrd).append (DAts.one hent7)
                  · simp only [Tree.depth] at hjd; omega
                  · rw [List.length_append]; show rs.length + 1 ≤ _; omega
                  · rw [List.append_assoc]; exact e1
            · rintro σ H4 ⟨u, v, rd, nn, rs, us, s12, s13, rfl, x5, hn5, hw5, hr5, hus, hrd, hu, huok, hjd, hul, hrl, e1, e2, e3, t5⟩
              have := depth_pos u
              have : (60 : Int).toNat = 60 := rfl
              omega
          · rintro σ H4 ⟨v, sv, rs, us, s12, s13, rfl, x5, hn5, hw5, hr5, hus, hrd, hul, hout, t04⟩
            have hE : ∀ {ds vs}, DAts H' ds vs → DAts H4 ds vs := fun h => DAts.ext t04 _ _ h
            have wl := walk_len (L := L) (tx := tx) (i := i) 10 t hdep
            have hrl : rs.length ≤ 10 := by rw [hrd.length, encR_len]; exact wl.1
            refine ⟨_, rfl, .inl ⟨rfl, _, SqL.of hw5⟩, _, rfl, _, rfl, _, rfl, rp, rs, rfl, .inl ⟨SqL.of hr5, fun p1 np1 => ?_⟩⟩
            refine ⟨small (by show 3 ≤ 100000; omega), fun p2 np2 => ?_⟩
            have x7 : Ext [] H4 (upd (upd H4 p1 (.tup rs)) p2 (.tup [.int i, .int q0, .ref p1])) := (Ext.refl.fresh np1).fresh np2
            have h12 : p1 ≠ p2 := fun e => by
              rw [e, upd_same] at np2
              cases np2
            have hent : DAt (upd (upd H4 p1 (.tup rs)) p2 (.tup [.int i, .int q0, .ref p1])) (encE ⟨i, q0, walk L tx i t⟩) (.ref p2) := by
              refine ⟨p2, _, rfl, upd_same, _, _, rfl, rfl, _, _, rfl, rfl, _, _, rfl, ⟨p1, rs, rfl, ?_, ?_⟩, rfl⟩
              · rw [upd_ne h12, upd_same]
              · exact x7.dats hrd
            have hwp7 := x7.keep _ _ hw5 List.not_mem_nil
            have hn7 := x7.keep _ _ hn5 List.not_mem_nil
            refine ⟨wp, ws, _, rfl, rfl, hwp7, Nat.lt_of_le_of_lt (show ws.length ≤ 10000 by omega) (by rw [sizeLine_eq]; omega), ?_⟩
            generalize hH7 : upd (upd H4 p1 (.tup rs)) p2 (.tup [.int i, .int q0, .ref p1]) = H7 at x7 hent hwp7 hn7
            have x8 : Ext [] H (upd H7 wp (.lst (ws ++ [.ref p2]))) := (x5.trans x7).new nwH
            have t8 : Tups H7 (upd H7 wp (.lst (ws ++ [.ref p2]))) := Tups.lst hwp7
            have t48 : Tups H4 (upd H7 wp (.lst (ws ++ [.ref p2]))) := fun b ys hb => t8 _ _ (x7.tups _ _ hb)
            have hws8 : DAts (upd H7 wp (.lst (ws ++ [.ref p2]))) ((es ++ [(⟨i, q0, walk L tx i t⟩ : Entry)]).map encE) (ws ++ [.ref p2]) := by
              rw [List.map_append]
              exact DAts.ext t8 _ _ ((x7.dats (hE hws)).append (DAts.one hent))
            have hns8 : DAts (upd H7 wp (.lst (ws ++ [.ref p2]))) (told (es ++ [(⟨i, q0, walk L tx i t⟩ : Entry)])) (ns ++ us) := by
              rw [told_append, told_one]
              exact DAts.ext t48 _ _ ((hE hns).append hus)
            have hwp8 : (upd H7 wp (.lst (ws ++ [.ref p2]))) wp = _ := upd_same
            have htp8 : (upd H7 wp (.lst (ws ++ [.ref p2]))) tp = _ := (upd_ne htw).trans hn7
            generalize upd H7 wp (.lst (ws ++ [.ref p2])) = H8 at x8 t48 hws8 hns8 hwp8 htp8
            have hf0 : f0 ≠ 0 := by omega
            obtain ⟨f1, rfl⟩ := Nat.exists_eq_succ_of_ne_zero hf0
            rw [search_go hiw htq] at e
            have hok := walk_ok (L := L) (tx := tx) (nl := L.length) (w := wd) (n := ts.length) (i := i) rfl hiw htx 10 t hdep (G.ok t hmem)
            refine ⟨_, rfl, rfl, _, rfl, ?_⟩
            cases hw : (walk L tx i t).2.2 with
            | none =>
              rw [hw] at hout e
              obtain rfl : sv = V.non := hout
              refine iteD rfl ?_
              have e' : es ++ [(⟨i, q0, walk L tx i t⟩ : Entry)] = search L wd ts tx (tx.length + 1) 0 0 := e
              exact ⟨_, _, _, _, _, _, _, _, _, _, _, _, _, _, rfl, x8, htp8, hwp8, e' ▸ hns8, e' ▸ hws8⟩
            | some sq =>
              obtain ⟨s, q1⟩ := sq
              rw [hw] at hout e
              obtain ⟨rfl, ta, rfl, hta⟩ := hout
              obtain ⟨o1, o2, o3, o4⟩ := hok s q1 hw
              refine iteN (fun z => nomatch z) ?_
              refine ⟨_, rfl, _, rfl, _, _, rfl, rfl, _, rfl, _, _, _, _, rfl, rfl, SqT.of (t48 _ _ hta), tup_at (j := 2) rfl, _, _, rfl, ?_⟩
              have ei : (i : Int) + s = ((i + s.toNat : Nat) : Int) := by omega
              have eq : q1 = ((q1.toNat : Nat) : Int) := by omega
              refine ⟨i + s.toNat, q1.toNat, f1, es ++ [(⟨i, q0, walk L tx i t⟩ : Entry)], _, _, some (.int k), some (.ref ta), some (.ref rp), some (.int s), s12, s13, ?_, x8, htp8, hwp8, hns8, hws8, ?_, ?_, by omega, by omega, by omega, by omega, ?_⟩
              · rw [← ei, ← eq]; rfl
              · rw [List.length_append]; omega
              · rw [List.length_append]; show ws.length + 1 = _; omega
              · rw [List.append_assoc]; exact e
      · rintro σ H' ⟨i, q0, f0, es, ns, ws, s8, s9, s10, s11, s12, s13, rfl, x3, hn, hw, hns, hws, hnl, hwl, hkf, hif, hqn, hil, e⟩
        have hf0 : f0 = 0 := by omega
        subst hf0
        have e' : es = search L wd ts tx (tx.length + 1) 0 0 := by
          rw [← e]
          show es = es ++ []
          rw [List.append_nil]
        exact ⟨ns, ws, _, _, _, _, _, _, _, _, _, _, _, _, rfl, x3, hn, hw, e' ▸ hns, e' ▸ hws⟩
    · rintro σ H' ⟨ns, ws, s0, s1, s2, s3, s6, s7, s8, s9, s10, s11, s12, s13, rfl, x3, hn, hw, hns, hws⟩
      refine ⟨_, rfl, _, rfl, small (by show 2 ≤ 100000; omega), fun p np => ?_⟩
      have x4 : Ext [] H' (upd H' p (.tup [.ref tp, .ref wp])) := Ext.refl.fresh np
      exact q _ p tp wp ns ws (x3.trans x4) upd_same (x4.keep _ _ hn List.not_mem_nil) (x4.keep _ _ hw List.not_mem_nil) (x4.dats hns) (x4.dats hws)
end
end K21

set_option Elab.async false
set_option linter.all false
set_option maxRecDepth 100000
set_option maxHeartbeats 4000000
/-! data compared; a comprehension with tests -/
namespace K21
open PySem PySem.Spec PyProof.Rows L2
theorem shp {d : PyData} (h : d.canLay0 = true) (h2 : d.depth ≤ 64) : SeqAt.shaped d = true := by
  unfold SeqAt.shaped
  rw [h, decide_eq_true h2]; rfl
theorem lay_all {ds : List PyData} (h : ∀ d ∈ ds, d.canLay0 = true) : PyData.canLayAll0 ds = true := by
  induction ds with
  | nil => rfl
  | cons d ds ih =>
    rw [PyData.canLayAll0, h d List.mem_cons_self, ih fun e he => h e (List.mem_cons_of_mem _ he)]; rfl
theorem dep_all {n : Nat} {ds : List PyData} (h : ∀ d ∈ ds, d.depth ≤ n) : PyData.depthAll ds ≤ n := by
  induction ds with
  | nil => exact Nat.zero_le _
  | cons d ds ih =>
    rw [PyData.depthAll]
    exact Nat.max_le.mpr ⟨h d List.mem_cons_self, ih fun e he => h e (List.mem_cons_of_mem _ he)⟩
theorem lay_sgn {c : Nat} (h : c < 0x110000) : (PyData.str (S [c])).canLay0 = true := by
  show (S [c]).cps.all (· < 0x110000) = true
  simp [h]
def rdD1 (x : Rd1) : PyData := .tuple [.int x.1, .str (S [x.2])]
theorem RdD_map (r : List Rd1) : RdD r = r.map rdD1 := rfl
theorem lay_rd {x : Rd1} (h : x.2 ≤ 200) : (rdD1 x).canLay0 = true ∧ (rdD1 x).depth ≤ 1 := by
  constructor
  · unfold rdD1
    rw [PyData.canLay0]
    refine lay_all fun d hd => ?_
    rcases List.mem_cons.mp hd with rfl | hd
    · rfl
    · rw [List.mem_singleton.mp hd]
      exact lay_sgn (by omega)
  · unfold rdD1
    rw [PyData.depth]
    have : PyData.depthAll [.int x.1, .str (S [x.2])] ≤ 0 := dep_all fun d hd => by
      rcases List.mem_cons.mp hd with rfl | hd
      · exact Nat.le_refl _
      · rw [List.mem_singleton.mp hd]
        exact Nat.le_refl _
    omega
def lowR (r : List Rd1) : Prop := ∀ x ∈ r, x.2 ≤ 200
theorem lay_R {r : List Rd1} (h : lowR r) : (PyData.tuple (RdD r)).canLay0 = true ∧ (PyData.tuple (RdD r)).depth ≤ 2 := by
  constructor
  · rw [PyData.canLay0, RdD_map]
    exact lay_all fun d hd => by
      obtain ⟨x, hx, rfl⟩ := List.mem_map.mp hd
      exact (lay_rd (h x hx)).1
  · rw [PyData.depth, RdD_map]
    exact Nat.succ_le_succ (dep_all fun d hd => by
      obtain ⟨x, hx, rfl⟩ := List.mem_map.mp hd
      exact (lay_rd (h x hx)).2)
theorem eqv_rd (x y : Rd1) : PyData.eqv (rdD1 x) (rdD1 y) = decide (x = y) := by
  obtain ⟨i, c⟩ := x
  obtain ⟨j, d⟩ := y
  unfold rdD1
  rw [PyData.eqv, PyData.eqvAll, PyData.eqvAll, PyData.eqvAll, PyData.eqv, PyData.eqv]
  by_cases h1 : i = j
  · by_cases h2 : c = d
    · subst h1 h2
      simp
    · have e : ((S [c]) == (S [d])) = false := by
        rw [beq_eq_false_iff_ne]
        intro z
        have : V.str (S [c]) = V.str (S [d]) := congrArg V.str z
        exact h2 (sgn_iff.mp this)
      rw [e]
      simp [h2]
  · simp [h1]
theorem eqvAll_rd : ∀ a b : List Rd1, PyData.eqvAll (RdD a) (RdD b) = decide (a = b)
  | [], [] => rfl
  | [], _ :: _ => rfl
  | _ :: _, [] => rfl
  | x :: a, y :: b => by
    show (PyData.eqv (rdD1 x) (rdD1 y) && PyData.eqvAll (RdD a) (RdD b)) = _
    rw [eqv_rd, eqvAll_rd a b]
    by_cases h1 : x = y
    · by_cases h2 : a = b
      · simp [h1, h2]
      · simp [h1, h2]
    · simp [h1]
theorem eqv_R (a b : List Rd1) : PyData.eqv (.tuple (RdD a)) (.tuple (RdD b)) = decide (a = b) := by
  rw [PyData.eqv]
  exact eqvAll_rd a b
theorem lay_E {e : Entry} (h : lowR e.way.1) : (encE e).canLay0 = true ∧ (encE e).depth ≤ 3 := by
  have hr := lay_R h
  constructor
  · unfold encE
    rw [PyData.canLay0]
    refine lay_all fun d hd => ?_
    rcases List.mem_cons.mp hd with rfl | hd
    · rfl
    rcases List.mem_cons.mp hd with rfl | hd
    · rfl
    rw [List.mem_singleton.mp hd]
    exact hr.1
  · unfold encE
    rw [PyData.depth]
    refine Nat.succ_le_succ (dep_all fun d hd => ?_)
    rcases List.mem_cons.mp hd with rfl | hd
    · exact Nat.zero_le _
    rcases List.mem_cons.mp hd with rfl | hd
    · exact Nat.zero_le _
    rw [List.mem_singleton.mp hd]
    exact hr.2
theorem shp_Es {es : List Entry} (h : ∀ e ∈ es, lowR e.way.1) : SeqAt.shaped (.list (es.map encE)) = true := by
  refine shp ?_ ?_
  · rw [PyData.canLay0]
    exact lay_all fun d hd => by
      obtain ⟨x, hx, rfl⟩ := List.mem_map.mp hd
      exact (lay_E (h x hx)).1
  · rw [PyData.depth]
    have : PyData.depthAll (es.map encE) ≤ 3 := dep_all fun d hd => by
      obtain ⟨x, hx, rfl⟩ := List.mem_map.mp hd
      exact (lay_E (h x hx)).2
    omega
theorem shp_told (es : List Entry) : SeqAt.shaped (.list (told es)) = true := by
  have key : ∀ d ∈ told es, d.canLay0 = true ∧ d.depth ≤ 1 := fun d hd => by
    unfold told at hd
    obtain ⟨l, hl, hd⟩ := List.mem_flatten.mp hd
    obtain ⟨e, _, rfl⟩ := List.mem_map.mp hl
    unfold toldE at hd
    obtain ⟨n, _, rfl⟩ := List.mem_map.mp hd
    exact ⟨rfl, Nat.le_refl _⟩
  refine shp ?_ ?_
  · rw [PyData.canLay0]
    exact lay_all fun d hd => (key d hd).1
  · rw [PyData.depth]
    have := dep_all fun d hd => (key d hd).2
    omega
theorem eqv_same {d : PyData} (h : SeqAt.shaped d = true) : PyData.eqv d d = true := SeqAt.eqv_refl d (SeqAt.canLay_of_shaped h)

/-! ### signs of reads -/
theorem walk_low {L tx : List Nat} {nl w n i : Nat} (hL : L.length = nl) (hw : i + w ≤ tx.length) (hx : ∀ c ∈ tx, c ∈ L) (h200 : ∀ c ∈ L, c ≤ 200) : ∀ (d : Nat) (t : Tree), t.depth ≤ d → t.ok nl w n → lowR (walk L tx i t).1
  | 0, t, hd, _ => by cases t <;> simp only [Tree.depth] at hd <;> omega
  | d + 1, .go s q, _, h => fun x hx => (List.not_mem_nil hx).elim
  | d + 1, .tell k t, hd, h => walk_low hL hw hx h200 d t (by simp only [Tree.depth] at hd; omega) h.2.2
  | d + 1, .read p ts, hd, h => by
    obtain ⟨h1, h2, h3, h4⟩ := h
    rw [walk_read]
    split
    · exact fun x hx => (List.not_mem_nil hx).elim
    · rename_i hne
      have hlt : i + p.toNat < tx.length := by omega
      have hc : tx.getD (i + p.toNat) 0 ∈ L := by
        rw [getD_of (List.getElem?_eq_getElem hlt)]
        exact hx _ (List.getElem_mem hlt)
      have hi : L.idxOf (tx.getD (i + p.toNat) 0) < ts.length := by rw [h3, ← hL]; exact List.idxOf_lt_length_of_mem hc
      have g := List.getElem?_eq_getElem hi
      rw [walkNth_get g]
      have hm := List.getElem_mem hi
      have ih := walk_low hL hw hx h200 d ts[L.idxOf (tx.getD (i + p.toNat) 0)] (by have := depths_mem hm; simp only [Tree.depth] at hd; omega) (oks_iff.mp h4 _ hm)
      intro x hxm
      rcases List.mem_cons.mp hxm with rfl | hxm
      · exact h200 _ hc
      · exact ih x hxm
theorem lowR_snoc {r : List Rd1} {x : Rd1} (h : lowR r) (hx : x.2 ≤ 200) : lowR (r ++ [x]) := fun y hy => by
  rcases List.mem_append.mp hy with z | z
  · exact h y z
  · rw [List.mem_singleton.mp z]
    exact hx
mutual
theorem gt_low {L : List Nat} {w : Nat} (h200 : ∀ c ∈ L, c ≤ 200) : ∀ (t : Tree) (r : List Rd1) (n : List Int) (k : List Nat) (T : TurnR), lowR r → T ∈ gt L w t r n k → lowR T.reads
  | .go s q, r, n, k, T, hr, h => by
    have e : T ∈ [(⟨r, n, k, some (s, q)⟩ : TurnR)] := h
    rw [List.mem_singleton.mp e]; exact hr
  | .tell m t, r, n, k, T, hr, h => gt_low h200 t r (n ++ [m]) k T hr h
  | .read p ts, r, n, k, T, hr, h => by
    have h' : T ∈ (if p = (w : Int) ∧ k.getD p.toNat 0 = 46 then [(⟨r, n, k, none⟩ : TurnR)] else []) ++ gts L w L ts p r n k := h
    rcases List.mem_append.mp h' with h | h
    · split at h
      · rw [List.mem_singleton.mp h]; exact hr
      · exact (List.not_mem_nil h).elim
    · exact gts_low h200 L ts p r n k T (fun c hc => hc) hr h
theorem gts_low {L : List Nat} {w : Nat} (h200 : ∀ c ∈ L, c ≤ 200) : ∀ (cs : List Nat) (ts : List Tree) (p : Int) (r : List Rd1) (n : List Int) (k : List Nat) (T : TurnR), (∀ c ∈ cs, c ∈ L) → lowR r → T ∈ gts L w cs ts p r n k → lowR T.reads
  | c :: cs, t :: ts, p, r, n, k, T, hcs, hr, h => by
    have h' : T ∈ (if k.getD p.toNat 0 = 46 ∨ k.getD p.toNat 0 = c then gt L w t (r ++ [(p, c)]) n (k.set p.toNat c) else []) ++ gts L w cs ts p r n k := h
    rcases List.mem_append.mp h' with h | h
    · split at h
      · exact gt_low h200 t _ _ _ T (lowR_snoc hr (h200 _ (hcs c List.mem_cons_self))) h
      · exact (List.not_mem_nil h).elim
    · exact gts_low h200 cs ts p r n k T (fun c hc => hcs c (List.mem_cons_of_mem _ hc)) hr h
  | [], _, _, _, _, _, _, _, _, h => by unfold gts at h; exact (List.not_mem_nil h).elim
  | _ :: _, [], _, _, _, _, _, _, _, h => by unfold gts at h; exact (List.not_mem_nil h).elim
end

/-! ### a comprehension with tests -/
theorem lc_acc {J : It} {n : Nat} {G : Hp → Prop} {Y : Nat → Hp → V → Hp → Prop} (w : Walk J n G Y) {g : TG} {tt : TT} {te : TE} {vs : List Nat} {σ : L2.St} {H1 : Hp} {D : Addr} {Qd : Hp → Prop} (I : Nat → List V → Hp → Prop)
    (hn : n ≤ 100000) (h0 : I 0 [] (upd H1 D (.lst []))) (hG : ∀ i ys H, i ≤ n → I i ys H → G H)
    (hs : ∀ i ys x H H' (Nx : V → Hp → Prop) (Ns : Hp → Prop), i < n → I i ys H → H D = some (.lst ys) → ys.length ≤ i → Y i H x H' → (∀ y H4, H4 D = some (.lst ys) → I (i + 1) (ys ++ [y]) (upd H4 D (.lst (ys ++ [y]))) → Nx y H4) → (∀ H3, H3 D = some (.lst ys) → I (i + 1) ys H3 → Ns H3) →
      g x (wipe σ vs) H' fun σ2 H2 => wipe σ2 vs = wipe σ vs ∧ tt σ2 H2 fun b H3 => if b = true then te σ2 H3 Nx else Ns H3)
    (hd : ∀ H ys, I n ys H → H D = some (.lst ys) → ys.length ≤ n → Qd H) :
    ∃ W : Nat → Nat → Hp → Prop, (∃ m, W 0 m (upd H1 D (.lst []))) ∧ ∀ i m H, W i m H →
      (J.stop i H ∧ Qd H) ∨ (J.go i H ∧ ∃ Nx : Hp → Prop, (∀ H', Nx H' → ∃ m', m' < m ∧ W (i + 1) m' H') ∧ ∀ x H', J.yld i H x H' → g x (wipe σ vs) H' fun σ2 H2 => wipe σ2 vs = wipe σ vs ∧ tt σ2 H2 fun b H3 =>
        if b = true then te σ2 H3 fun y H4 => ∃ acc, H4 D = some (.lst acc) ∧ acc.length < sizeLine ∧ Nx (upd H4 D (.lst (acc ++ [y]))) else Nx H3) := by
  refine ⟨fun i m H => m = n - i ∧ i ≤ n ∧ ∃ ys, H D = some (.lst ys) ∧ ys.length ≤ i ∧ I i ys H, ⟨n, by simp, Nat.zero_le _, [], upd_same, Nat.le_refl _, h0⟩, ?_⟩
  rintro i m H ⟨rfl, hi, ys, hD, hl, p⟩
  have q := hG i ys H hi p
  by_cases hlt : i < n
  · refine .inr ⟨w.goes i H hlt q, fun H' => i + 1 ≤ n ∧ ∃ ys, H' D = some (.lst ys) ∧ ys.length ≤ i + 1 ∧ I (i + 1) ys H', fun H' p' => ⟨n - (i + 1), by omega, rfl, p'⟩, fun x H' hy => ?_⟩
    exact hs i ys x H H' (fun y H4 => ∃ acc, H4 D = some (.lst acc) ∧ acc.length < sizeLine ∧ i + 1 ≤ n ∧ ∃ ys, (upd H4 D (.lst (acc ++ [y]))) D = some (.lst ys) ∧ ys.length ≤ i + 1 ∧ I (i + 1) ys (upd H4 D (.lst (acc ++ [y])))) (fun H' => i + 1 ≤ n ∧ ∃ ys, H' D = some (.lst ys) ∧ ys.length ≤ i + 1 ∧ I (i + 1) ys H')
      hlt p hD hl (w.yields i H x H' hlt q hy) (fun y H4 d4 p4 => ⟨ys, d4, by rw [sizeLine_eq]; omega, hlt, ys ++ [y], upd_same, by rw [List.length_append]; show ys.length + 1 ≤ _; omega, p4⟩) (fun H3 d3 p3 => ⟨hlt, ys, d3, by omega, p3⟩)
  · have e : i = n := by omega
    subst e
    exact .inl ⟨w.stops H q, hd H ys p hD hl⟩
end K21

set_option Elab.async false
set_option linter.all false
set_option maxRecDepth 100000
set_option maxHeartbeats 4000000
/-! _law_follows -/
namespace K21
open PySem PySem.Spec PyProof.Rows L2
theorem TurnsAt.get' {A0 : Ad} {H : Hp} : ∀ {Ts : List TurnR} {vs : List V} {i : Nat} {v : V}, TurnsAt A0 H Ts vs → vs[i]? = some v → ∃ T, Ts[i]? = some T ∧ TurnAt A0 H v T
  | [], vs, _, _, h, e => by
    have q : vs = [] := h
    subst q
    simp at e
  | T :: Ts, vs, 0, v', h, e => by
    obtain ⟨v, r, rfl, h1, _⟩ := h
    have e' : v = v' := by simpa using e
    subst e'
    exact ⟨T, rfl, h1⟩
  | T :: Ts, vs, i + 1, v', h, e => by
    obtain ⟨v, r, rfl, _, h2⟩ := h
    obtain ⟨u, e1, e2⟩ := TurnsAt.get' (i := i) h2 (by simpa using e)
    exact ⟨u, by simpa using e1, e2⟩
theorem size_mem : ∀ {ts : List Tree} {t : Tree}, t ∈ ts → t.size ≤ sizes ts
  | a :: r, t, h => by
    show t.size ≤ a.size + sizes r
    rcases List.mem_cons.mp h with e | h
    · subst e; omega
    · have := size_mem h
      omega
theorem sel_take {x : List Rd1} {l : List TurnR} {i : Nat} {T : TurnR} (h : l[i]? = some T) : sel x (l.take (i + 1)) = sel x (l.take i) ++ (if T.reads = x then [T] else []) := by
  rw [List.take_add_one, h, sel_append]
  congr 1
  show List.filter _ [T] = _
  by_cases e : T.reads = x
  · rw [if_pos e, List.filter_cons_of_pos (by simpa using e)]; rfl
  · rw [if_neg e, List.filter_cons_of_neg (by simpa using e)]; rfl
theorem search_low {L : List Nat} {wd : Nat} {ts : List Tree} {tx : List Nat} (G : Good L wd ts) (htx : ∀ c ∈ tx, c ∈ L) (h200 : ∀ c ∈ L, c ≤ 200) : ∀ (f i q : Nat), q < ts.length → ∀ e ∈ search L wd ts tx f i q, lowR e.way.1
  | 0, i, q, _, e, he => (List.not_mem_nil he).elim
  | f + 1, i, q, hq, e, he => by
    by_cases h : tx.length < i + wd
    · rw [search_stop h] at he
      exact (List.not_mem_nil he).elim
    · have htq := List.getElem?_eq_getElem hq
      generalize ts[q] = t at htq
      have hmem := List.mem_of_getElem? htq
      rw [search_go (by omega) htq] at he
      rcases List.mem_cons.mp he with rfl | he
      · exact walk_low rfl (by omega) htx h200 10 t (G.dep t hmem) (G.ok t hmem)
      · cases hw : (walk L tx i t).2.2 with
        | none =>
          rw [hw] at he
          exact (List.not_mem_nil he).elim
        | some sq =>
          obtain ⟨s, q1⟩ := sq
          rw [hw] at he
          obtain ⟨o1, o2, o3, o4⟩ := walk_ok (L := L) (tx := tx) (nl := L.length) (w := wd) (n := ts.length) (i := i) rfl (by omega) htx 10 t (G.dep t hmem) (G.ok t hmem) s q1 hw
          exact search_low G htx h200 f _ _ (by omega) e he
theorem search_len {L : List Nat} {wd : Nat} {ts : List Tree} {tx : List Nat} : ∀ (f i q : Nat), (search L wd ts tx f i q).length ≤ f
  | 0, i, q => Nat.le_refl _
  | f + 1, i, q => by
    unfold search
    split
    · exact Nat.zero_le _
    · refine Nat.succ_le_succ ?_
      split
      · exact Nat.zero_le _
      · exact search_len f _ _
theorem drop_cons' {α : Type} {l : List α} {j : Nat} {e : α} (h : l[j]? = some e) : l.drop j = e :: l.drop (j + 1) := by
  obtain ⟨hj, rfl⟩ := List.getElem?_eq_some_iff.mp h
  exact List.drop_eq_getElem_cons hj
theorem told_take {es : List Entry} {j : Nat} {e : Entry} (h : es[j]? = some e) : told (es.take (j + 1)) = told (es.take j) ++ toldE e := by
  rw [List.take_add_one, h, told_append]
  congr 1
  exact told_one e
theorem iteNN2 {c A B : Prop} [Decidable c] (h1 : c → B) (h2 : ¬ c → A) : if (!decide c) = true then A else B := by
  by_cases h : c
  · rw [decide_eq_true h]; exact h1 h
  · rw [decide_eq_false h]; exact h2 h
theorem ints_of {H : Hp} : ∀ {ns : List Int} {vs : List V}, DAts H (ns.map .int) vs → vs = ns.map V.int
  | [], _, h => h
  | n :: ns, _, h => by
    obtain ⟨v, r, rfl, h1, h2⟩ := h
    rw [ints_of h2]
    have e : v = V.int n := h1
    rw [e]; rfl
/-- the law's loop: j windows gone -/
def FoI (A0 : Ad) (H3 : Hp) (a l tp wp x pp : Addr) (L tx : List Nat) (wd : Nat) (ts : List Tree) (es : List Entry) (j : Nat) (σ : L2.St) (H' : Hp) : Prop := ∃ (i q f : Nat) (k : List Nat) (ps : List V) (st : Addr) (s11 s12 s13 s14 s15 s16 s17 s18 : Option V),
  σ = [some (.ref a), some (.str (S L)), some (.int wd), some (.ref l), some (.str (S tx)), some (.ref tp), some (.ref wp), some (.ref x), some (.ref st), some (.int i), some (.ref pp), s11, s12, s13, s14, s15, s16, s17, s18] ∧ Ext [] H3 H' ∧
  H' st = some (.tup [.int q, .str (S k)]) ∧ H' pp = some (.lst ps) ∧ DAts H' (told (es.take j)) ps ∧ es.drop j = search L wd ts tx f i q ∧ Tru tx wd i k ∧ tx.length + 1 ≤ i + f ∧ q < ts.length ∧ ps.length ≤ 10 * j
section
variable {P : Program} {w : World} {K : PySem.W.Frag} {mg : Str → Option Value} {base : Heap} {A0 : Ad} {f : Addr} {fd : FuncData}

abbrev N_l_follows : List Str := ["_law_searcher", "_law_letters", "_law_width", "_law_trees", "_law_text", "_law_told", "_law_windows", "_law_run", "_law_standing", "_law_place", "_law_pairs", "_law_spot", "_law_state", "_law_reads", "_law_same", "_law_turn", "_law_at", "_law_one", "_law_number"]
theorem sc_l_follows : FnScope N_l_follows ["_law_searcher", "_law_letters", "_law_width", "_law_trees", "_law_text"] (defScope s_l_follows) := ⟨rfl, rfl, rfl, by decide +kernel, rfl, by decide +kernel, by decide +kernel⟩
def spFollows (A0 : Ad) : Sp := fun vs H Q _ => ∃ (a l : Addr) (L tx : List Nat) (wd : Nat) (ts : List Tree) (xs : List V), vs = [.ref a, .str (S L), .int wd, .ref l, .str (S tx)] ∧ SrAt A0 H a L wd ts ∧ H l = some (.lst xs) ∧ TsAt H ts xs ∧ Good L wd ts ∧ (∀ c ∈ tx, c ∈ L) ∧ tx.length ≤ 1000 ∧
  ∀ H', Ext [] H H' → Q (.bl true) H'
theorem ok_follows (T : Tx K mg A0) (D_l_search : Dfn P w K mg base 1 "_law_search" ["_law_letters", "_law_width", "_law_trees", "_law_text"] spSearch) (D_trace : Dfn P w K mg base 4 "trace" ["searcher", "text"] (spTrace A0)) (D_turns : Dfn P w K mg base 14 "turns" ["searcher", "standing"] (spTurns A0))
    (D_is_cut : Prp P w K mg base 1 A0.Turn "is_cut" ["self"] (spCut A0)) (F : Fd K "_law_follows" "_law_follows" s_l_follows f fd) : FnOk P w K mg base CX0 15 f fd ["_law_searcher", "_law_letters", "_law_width", "_law_trees", "_law_text"] (spFollows A0) := by
  refine fok F sc_l_follows (fun vs H Q E h => ?_) (fun cdv A outer s0 H vs Q E hr h => ?_)
  · obtain ⟨_, _, _, _, _, _, _, rfl, _⟩ := h
    rfl
  · obtain ⟨a, l, L, tx, wd, ts, xs, rfl, hS, hl, hxs, G, htx, hlen, q⟩ := h
    refine ⟨_, (pss_cons (ps_asg (pe_d D_l_search (hr.mono (by omega)) (pa_cons (pv 1) (pa_cons (pv 2) (pa_cons (pv 3) (pa_cons (pv 4) pa_nil))))) (pg_tup rfl (pgs_cons (pg_name (i := 5) sc_l_follows.nd rfl (.inl rfl)) (pgs_cons (pg_name (i := 6) sc_l_follows.nd rfl (.inl rfl)) pgs_nil))))
      (pss_cons (ps_set (i := 7) sc_l_follows.nd rfl (.inl rfl) (pe_d D_trace (hr.mono (by omega)) (pa_cons (pv 0) (pa_cons (pv 4) pa_nil))))
      (pss_cons (ps_if (PW.pt (pw_or (pt_cmpR (op_neD hr.units) (pe_callTy call_list_of (by rfl) T.list (by decide +kernel) (pa_cons (pe_fld (pv 7) rfl) pa_nil)) (pv 5) (nomark _)) (pw_or (pt_cmpR (op_neD hr.units) (pe_callTy call_list_of (by rfl) T.list (by decide +kernel) (pa_cons (pe_fld (pv 7) rfl) pa_nil)) (pv 6) (nomark _)) (pw_or1 (pt_cmpR op_ne (pe_fld (pv 7) rfl) (pe_callB (cr_sum rfl) (by rfl) T.sum (by decide +kernel) (pa_cons (pe_lc (own := [("_law_one", 17)]) (g := gName 17) (tt := tYes) rfl sc_l_follows.nd (pi_list (pv 6)) (blkOk_by (N := N_l_follows) (sc := defScope s_l_follows) (by decide +kernel)) (fun _ _ _ _ _ => (pg_name (i := 17) sc_l_follows.nd rfl (.inl rfl))) (fun _ _ _ _ _ => pts_nil) (fun _ _ _ _ _ => (pe_callB (call_len_seqK (K := K) rfl) (by rfl) T.len PySem.boot_len (pa_cons (pe_ix (ix_tupK (K := K) rfl) (pv 17) pe_int (fun _ _ => rfl)) pa_nil)))) pa_nil)) (nomark _))))))
       (pss_one (ps_ret pe_bl))
       pss_nil)
      (pss_cons (ps_par3 (i := 8) (j := 9) (l := 10) rfl sc_l_follows.nd rfl rfl rfl (by decide) (by decide) (by decide) rfl rfl rfl (pa_cons (pe_tup (pa_cons pe_int (pa_cons (pe_op op_mulS pe_str (pe_op op_add (pv 2) pe_int)) pa_nil))) (pa_cons pe_int (pa_cons (pe_lst pa_nil) pa_nil))) (by rfl))
      (pss_cons (ps_for PassesOwn.never rfl (pi_list (pv 6)) (pg_tup rfl (pgs_cons (pg_name (i := 11) sc_l_follows.nd rfl (.inr rfl)) (pgs_cons (pg_name (i := 12) sc_l_follows.nd rfl (.inl rfl)) (pgs_cons (pg_name (i := 13) sc_l_follows.nd rfl (.inr rfl)) pgs_nil))))
       (pss_cons (ps_setLc (i := 14) (own := [("_law_turn", 15)]) (g := gName 15) rfl sc_l_follows.nd rfl rfl (sw_true rfl rfl rfl (by decide +kernel)) (pi_list (pe_d D_turns (hr.mono (by omega)) (pa_cons (pv 0) (pa_cons (pv 8) pa_nil)))) (blkOk_by (N := N_l_follows) (sc := defScope s_l_follows) (by decide +kernel)) (fun _ _ _ _ _ => (pg_name (i := 15) sc_l_follows.nd rfl (.inl rfl))) (fun _ _ _ _ _ => (pts_one (pt_cmpR (op_eqDK (K := K) hr.units rfl) (pe_fldK (K := K) rfl (pv 15) rfl) (pv 13) (nomark _)))) (fun _ _ _ _ _ => (pv 15)))
        (pss_cons (ps_if (PW.pt (pw_or (pt_cmpR op_ne (pv 11) (pv 9) (nomark _)) (pw_or (pt_cmpR op_ne (pv 12) (pe_ix ix_tup (pv 8) pe_int (fun _ _ => rfl)) (nomark _)) (pw_or1 (pt_cmpR op_ne (pe_callB call_len_seq (by rfl) T.len PySem.boot_len (pa_cons (pv 14) pa_nil)) pe_int (nomark _))))))
         (pss_one (ps_ret pe_bl))
         pss_nil)
        (pss_cons (ps_set (i := 15) sc_l_follows.nd rfl (.inl rfl) (pe_ix ix_list (pv 14) pe_int (fun _ _ => rfl)))
        (C8.pss_cut (ps_if (PW.pt (pw_and (pt_val (pe_prD (pv 15) T.clTurn D_is_cut (hr.mono (by omega)))) (pw_and1 (pt_cmpR op_ne (pe_op op_add (pv 11) (pv 2)) (pe_callB call_len_str (by rfl) T.len PySem.boot_len (pa_cons (pv 4) pa_nil)) (nomark _)))))
         (pss_one (ps_ret pe_bl))
         pss_nil)
        (C8.pss_cut (ps_for PassesOwn.never rfl (pi_range1 (by rfl) T.range (pa_cons (pe_op op_add (pv 2) pe_int) pa_nil)) (pg_name (i := 16) sc_l_follows.nd rfl (.inl rfl))
         (pss_one (ps_if (PW.pt (pw_and (pt_cmpR op_ne (pe_ix ix_str (pe_fld (pv 15) rfl) (pv 16) (fun _ _ => rfl)) pe_str (nomark _)) (pw_and1 (pt_cmpR op_ne (pe_slice sl_str (pv 4) (po_some (pe_op op_add (pv 11) (pv 16))) (po_some (pe_op op_add (pe_op op_add (pv 11) (pv 16)) pe_int))) (pe_ix ix_str (pe_fld (pv 15) rfl) (pv 16) (fun _ _ => rfl)) (nomark _)))))
           (pss_one (ps_ret pe_bl))
           pss_nil)))
        (pss_cons (ps_expr (pe_bm PySem.F.plainAttrs_list PySem.F.slot_list_extend PySem.F.type_list_extend mt_extend (pv 10) (pa_cons (pe_lc (own := [("_law_number", 18)]) (g := gName 18) (tt := tYes) rfl sc_l_follows.nd (pi_tup (pe_fld (pv 15) rfl)) (blkOk_by (N := N_l_follows) (sc := defScope s_l_follows) (by decide +kernel)) (fun _ _ _ _ _ => (pg_name (i := 18) sc_l_follows.nd rfl (.inl rfl))) (fun _ _ _ _ _ => pts_nil) (fun _ _ _ _ _ => (pe_tup (pa_cons (pv 11) (pa_cons (pv 18) pa_nil))))) pa_nil)))
        (pss_cons (ps_if (pt_val (pe_prD (pv 15) T.clTurn D_is_cut (hr.mono (by omega))))
         (pss_one (ps_ret (pe_and (pe_cmpR (op_eqD hr.units) (pv 10) (pv 5) (nomark _)) (pe_one (pe_cmpR op_eq (pv 11) (pe_ix ix_tup (pe_ix ix_list (pv 6) (pe_un un_neg pe_int) (fun _ _ => rfl)) pe_int (fun _ _ => rfl)) (nomark _))))))
         pss_nil)
        (pss_one (ps_par (i := 9) (j := 8) rfl sc_l_follows.nd rfl rfl (by decide) rfl rfl (pa_cons (pe_op op_add (pv 11) (pe_fld (pv 15) rfl)) (pa_cons (pe_fld (pv 15) rfl) pa_nil)) (by rfl)))))))))))
      (pss_one (ps_ret (pe_and (pe_cmpR (op_eqD hr.units) (pv 10) (pv 5) (nomark _)) (pe_one (pe_cmpR op_gt (pe_op op_add (pv 9) (pv 2)) (pe_callB call_len_str (by rfl) T.len PySem.boot_len (pa_cons (pv 4) pa_nil)) (nomark _))))))))))), ?_⟩
    have hw1 := G.w1
    have hw8 := G.w8
    have h200 : ∀ c ∈ L, c ≤ 200 := fun c hc => by
      have := G.ltr.sm c hc
      omega
    have h46 : 46 ∉ L := fun h => by
      have := G.ltr.sm _ h
      omega
    refine ⟨_, rfl, _, rfl, _, rfl, _, rfl, l, L, tx, wd, ts, xs, rfl, hl, hxs, G, htx, hlen, fun H1 p tp wp ns ws x1 hp hn hw hns hws => ?_⟩
    generalize hes : search L wd ts tx (tx.length + 1) 0 0 = es at hns hws
    refine ⟨p, _, rfl, SqT.of hp, rfl, _, _, rfl, _, _, rfl, rfl, ?_⟩
    refine ⟨_, rfl, _, rfl, a, L, tx, wd, ts, rfl, hS.ext x1 List.not_mem_nil, G, htx, hlen, fun H2 x dx tw tt ws2 ns2 x2 hx htw htt hws2 hns2 => ?_⟩
    rw [hes] at hx hws2 hns2
    have hlow : ∀ e ∈ es, lowR e.way.1 := by
      rw [← hes]
      exact search_low G htx h200 _ _ _ (by have := G.n1; omega)
    have hn2 := x2.keep _ _ hn List.not_mem_nil
    have hw2 := x2.keep _ _ hw List.not_mem_nil
    -- list(run.told) != told
    refine ⟨_, rfl, x, _, dx, _, _, rfl, hx, T.clTrace, T.nTrace_told, trf_t, tt, ns2, rfl, .inr (SqT.of htt), fun q1 nq1 => ?_⟩
    have y1 : Ext [] H2 (upd H2 q1 (.lst ns2)) := Ext.refl.fresh nq1
    refine ⟨_, rfl, .list (told es), .list (told es), .lst (SqL.of upd_same) (DAts.dp _ _ (y1.dats hns2)), .lst (SqL.of (y1.keep _ _ hn2 List.not_mem_nil)) (DAts.dp _ _ (y1.dats (x2.dats hns))), shp_told es, shp_told es, _, rfl, iteF' (by rw [eqv_same (shp_told es)]; rfl) ?_⟩
    -- list(run.windows) != windows
    refine ⟨_, rfl, x, _, dx, _, _, rfl, y1.keep _ _ hx List.not_mem_nil, T.clTrace, T.nTrace_windows, trf_w, tw, ws2, rfl, .inr (SqT.of (y1.tups _ _ htw)), fun q2 nq2 => ?_⟩
    have y2 : Ext [] H2 (upd (upd H2 q1 (.lst ns2)) q2 (.lst ws2)) := y1.fresh nq2
    refine ⟨_, rfl, .list (es.map encE), .list (es.map encE), .lst (SqL.of upd_same) (DAts.dp _ _ (y2.dats hws2)), .lst (SqL.of (y2.keep _ _ hw2 List.not_mem_nil)) (DAts.dp _ _ (y2.dats (x2.dats hws))), shp_Es hlow, shp_Es hlow, _, rfl, iteF' (by rw [eqv_same (shp_Es hlow)]; rfl) ?_⟩
    generalize upd (upd H2 q1 (.lst ns2)) q2 (.lst ws2) = H3 at y2
    have hx3 := y2.keep _ _ hx List.not_mem_nil
    have hn3 := y2.keep _ _ hn2 List.not_mem_nil
    have hw3 := y2.keep _ _ hw2 List.not_mem_nil
    have hws3 := y2.dats (x2.dats hws)
    have hns3 := y2.dats (x2.dats hns)
    have x3 : Ext [] H H3 := x1.trans (x2.trans y2)
    have hwl : ws.length = es.length := by rw [hws.length, List.length_map]
    have hel : es.length ≤ 1001 := by
      rw [← hes]
      exact Nat.le_trans (search_len _ _ _) (by omega)
    -- run.cost != sum(..)
    refine ⟨_, rfl, x, _, dx, _, _, rfl, hx3, T.clTrace, T.nTrace_cost, trf_c, _, rfl, wp, rfl, ⟨ws, SqL.of hw3⟩, fun D nD => ?_⟩
    refine lc_rel walk_list (fun _ H' => Ext [] H3 H') (fun j H' y => ∃ e, es[j]? = some e ∧ y = .int (e.way.1.length : Int)) (by omega) (Ext.refl.new nD) (fun _ _ _ x => SqL.of (x.keep _ _ hw3 List.not_mem_nil)) (fun _ _ _ _ _ h => h) (fun _ _ _ x => x.new nD) ?_ ?_
    · rintro i y H5 _ Nx hi x5 ⟨zs, hz⟩ ⟨rfl, hy⟩ nx
      obtain ⟨d', hd', hy'⟩ := hws3.get' hy
      rw [List.getElem?_map] at hd'
      obtain ⟨e, he, rfl⟩ := Option.map_eq_some_iff.mp hd'
      obtain ⟨a, b, rs, rfl, ha, hb, hrs⟩ := at_encE (x5.dat hy')
      have hl : rs.length = e.way.1.length := by rw [hrs.length, encR_len]
      refine ⟨rfl, _, rfl, _, _, _, _, rfl, rfl, SqT.of ha, tup_at (j := 2) rfl, b, rs, rfl, .inr (SqT.of hb), ?_⟩
      exact nx (.int (rs.length : Nat)) _ x5 (Tups.refl _) rfl ⟨e, he, by rw [hl]⟩
    intro H4 ys y4 hD hys hR
    have eys : ys = (cost es).map V.int := by
      refine List.ext_getElem? fun j => ?_
      unfold cost
      rw [List.getElem?_map, List.getElem?_map]
      by_cases hj : j < ys.length
      · have g := List.getElem?_eq_getElem hj
        obtain ⟨e, he, e2⟩ := hR _ _ g
        rw [g, he, e2]; rfl
      · rw [List.getElem?_eq_none (by omega), List.getElem?_eq_none (by omega)]; rfl
    refine ⟨D, cost es, rfl, by rw [← eys]; exact SqL.of hD, rfl, _, rfl, iteF' (by rw [decide_eq_true rfl]; rfl) ?_⟩
    -- standing, place, pairs
    refine ⟨_, rfl, _, _, rfl, rfl, ".", ((wd : Int) + 1), rfl, rfl, by omega, by omega, by decide +kernel, small (by show 2 ≤ 100000; omega), fun st nst => ⟨Nat.zero_le _, fun pp npp => ⟨_, _, _, rfl, ?_⟩⟩⟩
    have e0 : mulS "." (((wd : Int) + 1).toNat) = S (List.replicate (wd + 1) 46) := by
      rw [show (((wd : Int) + 1).toNat) = wd + 1 by omega, mulS_dot]
    rw [e0]
    have hpp4 : H3 pp = none := y4.none List.not_mem_nil (upd_none npp)
    have hstp : st ≠ pp := fun e => by
      rw [← e, upd_same] at npp
      cases npp
    have z0 : Ext [] H3 (upd (upd H4 st (.tup [.int 0, .str (S (List.replicate (wd + 1) 46))])) pp (.lst [])) := (y4.fresh nst).new hpp4
    refine ⟨_, rfl, wp, rfl, ⟨ws, SqL.of (z0.keep _ _ hw3 List.not_mem_nil)⟩, for_list (xs := ws) (FoI A0 H3 a l tp wp x pp L tx wd ts es) ?_ ?_ ?_ ?_⟩
    · refine ⟨0, 0, tx.length + 1, List.replicate (wd + 1) 46, [], st, _, _, _, _, _, _, _, _, rfl, z0, (upd_ne hstp).trans upd_same, upd_same, rfl, hes.symm, Tru.first _ _ _, by omega, by have := G.n1; omega, Nat.le_refl _⟩
    · rintro j σ H5 hj ⟨_, _, _, _, _, _, _, _, _, _, _, _, _, _, _, z5, _⟩
      exact SqL.of (z5.keep _ _ hw3 List.not_mem_nil)
    · rintro j y σ H5 hy ⟨i, q0, f0, k, ps, st, s11, s12, s13, s14, s15, s16, s17, s18, rfl, z5, hst, hpp, hps, hdr, hT, hif, hqn, hpl⟩
      have hy0 := hy
      obtain ⟨d', hd', hy'⟩ := hws3.get' hy
      rw [List.getElem?_map] at hd'
      obtain ⟨e, he, rfl⟩ := Option.map_eq_some_iff.mp hd'
      obtain ⟨ea, eb, rs, rfl, hea, heb, hrs⟩ := at_encE hy'
      rw [drop_cons' he] at hdr
      have hiw : i + wd ≤ tx.length := by
        by_cases h : i + wd ≤ tx.length
        · exact h
        · rw [search_stop (by omega)] at hdr
          cases hdr
      have hf0 : f0 ≠ 0 := by omega
      obtain ⟨f1, rfl⟩ := Nat.exists_eq_succ_of_ne_zero hf0
      have htq := List.getElem?_eq_getElem hqn
      generalize ts[q0] = t at htq
      have hmem := List.mem_of_getElem? htq
      have hdep := G.dep t hmem
      rw [search_go hiw htq] at hdr
      obtain ⟨ee, hdr'⟩ := List.cons.inj hdr
      subst ee
      have hlr := hlow _ (List.mem_of_getElem? he)
      have htold := told_take he
      obtain ⟨U0, g1, g2, g3, g4, g5, g6⟩ := gt_walk (L := L) (tx := tx) (w := wd) (n := ts.length) (i := i) G.ltr.nd h46 hiw htx 10 t [] [] k hdep (G.ok t hmem) hT
      rw [List.nil_append] at g1 g2 g3
      refine ⟨ea, _, rfl, SqT.of (z5.tups _ _ hea), rfl, _, _, rfl, _, _, rfl, _, _, rfl, rfl, ?_⟩
      -- same = [..]
      refine ⟨_, rfl, _, rfl, a, st, L, wd, ts, t, k, q0, ts.length, rfl, (hS.ext x3 List.not_mem_nil).ext z5 List.not_mem_nil, G.ltr, hw8, htq, G.ok t hmem, hdep, Nat.le_trans (size_mem hmem) G.siz, hst, hT.len, fun H6 pT ys x6 hpT hTs => ⟨pT, rfl, ⟨ys, SqL.of hpT⟩, fun D6 nD6 => ?_⟩⟩
      have hyl : ys.length ≤ 3000 := by
        rw [hTs.length]
        exact Nat.le_trans (gt_len t _ _ _) (Nat.le_trans (size_mem hmem) G.siz)
      have heb6 : ∀ {H' : Hp}, Ext [] H6 H' → H' eb = some (.tup rs) := fun x => x.tups _ _ (x6.tups _ _ (z5.tups _ _ heb))
      have hrs6 : ∀ {H' : Hp}, Ext [] H6 H' → DAts H' (RdD (walk L tx i t).1) rs := fun x => x.dats (x6.dats (z5.dats hrs))
      refine lc_acc walk_list (fun m zs H' => Ext [] H6 H' ∧ TurnsAt A0 H6 (sel (walk L tx i t).1 ((gt L wd t [] [] k).take m)) zs) (by omega) ⟨Ext.refl.new nD6, ?_⟩ (fun _ _ _ _ x => SqL.of (x.1.keep _ _ hpT List.not_mem_nil)) ?_ ?_
      · rw [List.take_zero]
        exact rfl
      · rintro m zs y H7 _ Nx Ns hm ⟨x7, hz⟩ hD7 hl7 ⟨rfl, hy⟩ nx ns
        obtain ⟨U, hU, hUt⟩ := hTs.get' hy
        have hUlow : lowR U.reads := gt_low h200 t [] [] k U (fun x h => (List.not_mem_nil h).elim) (List.mem_of_getElem? hU)
        obtain ⟨ub, udx, urv, unv, usv, uav, rfl, hub, hurv, hunv, huo⟩ := id hUt
        refine ⟨rfl, _, rfl, ub, _, udx, _, _, rfl, x7.keep _ _ hub List.not_mem_nil, T.clTurn, T.nTurn_reads, tf_reads, _, rfl, .tuple (RdD U.reads), .tuple (RdD (walk L tx i t).1), DAt.dp _ _ (x7.dat hurv), .tup (SqT.of (heb6 x7)) (DAts.dp _ _ (hrs6 x7)), shp (lay_R hUlow).1 (Nat.le_trans (lay_R hUlow).2 (by omega)), shp (lay_R hlr).1 (Nat.le_trans (lay_R hlr).2 (by omega)), _, rfl, ?_⟩
        rw [eqv_R]
        refine iteD2 (fun hc => ⟨_, rfl, nx _ _ hD7 ⟨x7.new nD6, ?_⟩⟩) (fun hc => ns _ hD7 ⟨x7, ?_⟩)
        · rw [sel_take hU, if_pos hc]
          exact hz.append ⟨_, [], rfl, hUt, rfl⟩
        · rw [sel_take hU, if_neg hc, List.append_nil]
          exact hz
      · rintro H7 zs ⟨x7, hz⟩ hD7 hl7
        have hyg : ys.length = (gt L wd t [] [] k).length := hTs.length
        rw [List.take_of_length_le (by omega), g1] at hz
        obtain ⟨v, r, rfl, hv, hrn⟩ := hz
        have hr' : r = [] := hrn
        subst hr'
        obtain ⟨ub, udx, urv, unv, usv, uav, rfl, hub6, hurv, hunv, huo⟩ := id hv
        have hub := x7.keep _ _ hub6 List.not_mem_nil
        have hst7 := x7.tups _ _ (x6.tups _ _ hst)
        have z7 : Ext [] H3 H7 := z5.trans (x6.trans x7)
        have hpp7 := x7.keep _ _ (x6.keep _ _ hpp List.not_mem_nil) List.not_mem_nil
        have hps7 := x7.dats (x6.dats hps)
        have hunv7 := x7.dat hunv
        have huo7 := huo.ext x7.tups
        refine ⟨_, rfl, _, rfl, rfl, _, rfl, iteF' (by rw [decide_eq_true rfl]; rfl) ?_⟩
        refine ⟨_, rfl, _, rfl, _, _, _, _, rfl, rfl, SqT.of hst7, tup_at (j := 0) rfl, rfl, _, rfl, iteF' (by rw [decide_eq_true rfl]; rfl) ?_⟩
        refine ⟨_, rfl, D6, _, rfl, .inl (SqL.of hD7), rfl, _, rfl, iteNN2 (fun _ => ?_) (fun z => (z rfl).elim)⟩
        refine ⟨_, rfl, D6, _, _, _, rfl, rfl, SqL.of hD7, tup_at (j := 0) rfl, ?_⟩
        refine ⟨fun σ H' => σ = [some (.ref a), some (.str (S L)), some (.int wd), some (.ref l), some (.str (S tx)), some (.ref tp), some (.ref wp), some (.ref x), some (.ref st), some (.int i), some (.ref pp), some (.int i), some (.int q0), some (.ref eb), some (.ref D6), some (.ref ub), s16, s17, s18] ∧ H' = H7, ?_, ?_⟩
        · refine ⟨_, rfl, ub, udx, _, rfl, hub, ub, udx, _, _, _, _, _, rfl, hub, _, rfl, iteD2 (fun hc => ?_) (fun hc => ⟨rfl, rfl⟩)⟩
          have hout : U0.out = none := by
            cases hq : U0.out with
            | none => rfl
            | some sq =>
              obtain ⟨s, q1⟩ := sq
              rw [hq] at huo7
              rw [huo7.1] at hc
              cases hc
          have hcutl := g6 hout
          refine ⟨_, rfl, _, rfl, _, _, rfl, rfl, _, rfl, S tx, rfl, small (by show tx.length ≤ _; omega), rfl, _, rfl, iteNN2 (fun _ => ⟨rfl, rfl⟩) (fun z => (z (congrArg V.int (show (i : Int) + (wd : Int) = ((tx.length : Nat) : Int) by omega))).elim)⟩
        rintro σ H' ⟨rfl, rfl⟩
        refine ⟨fun σ H'' => ∃ s16, σ = [some (.ref a), some (.str (S L)), some (.int wd), some (.ref l), some (.str (S tx)), some (.ref tp), some (.ref wp), some (.ref x), some (.ref st), some (.int i), some (.ref pp), some (.int i), some (.int q0), some (.ref eb), some (.ref D6), some (.ref ub), s16, s17, s18] ∧ H'' = H', ?_, ?_⟩
        · refine ⟨_, rfl, _, _, rfl, rfl, _, rfl, by omega, by omega, ?_⟩
          refine for_range (fun _ σ H'' => ∃ s16, σ = [some (.ref a), some (.str (S L)), some (.int wd), some (.ref l), some (.str (S tx)), some (.ref tp), some (.ref wp), some (.ref x), some (.ref st), some (.int i), some (.ref pp), some (.int i), some (.int q0), some (.ref eb), some (.ref D6), some (.ref ub), s16, s17, s18] ∧ H'' = H') ⟨_, rfl, rfl⟩ ?_ (fun _ _ h => h)
          rintro m σ H'' hm ⟨s16, rfl, rfl⟩
          have hm' : m < U0.known.length := by
            rw [g4.len]
            omega
          have hkm := List.getElem?_eq_getElem hm'
          generalize hc0 : U0.known[m] = c at hkm
          have hkl : (S U0.known).length ≤ sizeLine := small (by show U0.known.length ≤ _; rw [g4.len]; omega)
          have e0m : (0 : Int) + (m : Int) = (m : Int) := Int.zero_add _
          refine ⟨_, rfl, ub, _, udx, _, _, rfl, hub, T.clTurn, T.nTurn_known, tf_known, _, rfl, S U0.known, _, c, rfl, rfl, hkl, (by rw [e0m]; exact atI_nat hkm), rfl, _, rfl, iteNN2 (fun hdot => ⟨_, rfl, rfl⟩) (fun hdot => ?_)⟩
          have htxc : tx[i + m]? = some c := by
            rcases g4.tru _ _ hkm with h | h
            · exact (hdot (dot_iff.mpr h)).elim
            · exact h
          refine ⟨_, rfl, _, rfl, _, rfl, _, _, rfl, rfl, _, rfl, _, rfl, _, rfl, _, _, rfl, rfl, _, _, rfl, rfl, _, rfl, S tx, rfl, small (by show tx.length ≤ _; omega), ?_⟩
          have ecut : cutS (S tx) (some ((i : Int) + (0 + (m : Int)))) (some ((i : Int) + (0 + (m : Int)) + 1)) = S [c] := by
            rw [e0m, show (i : Int) + (m : Int) = ((i + m : Nat) : Int) by omega, show ((i + m : Nat) : Int) + 1 = ((i + m + 1 : Nat) : Int) by omega]
            have hlt := (List.getElem?_eq_some_iff.mp htxc).1
            rw [S_cut, sIx_n (by omega), sIx_n (by omega), drop_cons' htxc]
            rw [show i + m + 1 - (i + m) = 1 by omega]; rfl
          rw [ecut]
          refine ⟨_, rfl, ub, _, udx, _, _, rfl, hub, T.clTurn, T.nTurn_known, tf_known, _, rfl, S U0.known, _, c, rfl, rfl, hkl, (by rw [e0m]; exact atI_nat hkm), rfl, _, rfl, iteF' (by rw [decide_eq_true rfl]; rfl) ⟨_, rfl, rfl⟩⟩
        rintro σ H'' ⟨s16', rfl, rfl⟩
        -- pairs.extend
        obtain ⟨na, nvs, rfl, hna, hnas⟩ := hunv7
        obtain rfl := ints_of hnas
        refine ⟨_, rfl, .inl ⟨rfl, _, SqL.of hpp7⟩, _, rfl, ub, _, udx, _, _, rfl, hub, T.clTurn, T.nTurn_tells, tf_tells, na, rfl, ⟨_, SqT.of hna⟩, fun D8 nD8 => ?_⟩
        have wl := walk_len (L := L) (tx := tx) (i := i) 10 t hdep
        have htl : U0.tells.length ≤ 10 := by rw [g3]; exact wl.2
        refine lc_rel walk_tup (fun _ H' => Ext [] H'' H') (fun j H' y => ∃ n, U0.tells[j]? = some n ∧ DAt H' (.tuple [.int i, .int n]) y) (by rw [List.length_map]; omega) (Ext.refl.new nD8) (fun _ _ _ x => SqT.of (x.tups _ _ hna)) (fun _ _ _ y tt ⟨n, e1, e2⟩ => ⟨n, e1, DAt.ext tt _ _ e2⟩) (fun _ _ _ x => x.new nD8) ?_ ?_
        · rintro j y H9 _ Nx hj x9 ⟨zs, hz⟩ ⟨rfl, hy⟩ nx
          rw [List.getElem?_map] at hy
          obtain ⟨n, hn, rfl⟩ := Option.map_eq_some_iff.mp hy
          refine ⟨rfl, _, rfl, _, rfl, small (by show 2 ≤ 100000; omega), fun p3 np3 => ?_⟩
          have x10 := Ext.refl.fresh (m := []) (o := .tup [.int i, .int n]) np3
          exact nx (.ref p3) _ (x9.fresh np3) x10.tups (upd_ne (ne_of_none hz np3)) ⟨n, hn, p3, _, rfl, upd_same, _, _, rfl, rfl, _, _, rfl, rfl, rfl⟩
        intro H9 ys x9 hD hys hR
        rw [List.length_map] at hys
        have hyd : DAts H9 (toldE ⟨i, q0, walk L tx i t⟩) ys := dats_of (by unfold toldE; rw [List.length_map, hys, g3]) fun j y e => by
          obtain ⟨n, h1, h2⟩ := hR j y e
          refine ⟨_, ?_, h2⟩
          unfold toldE
          rw [List.getElem?_map, ← g3, h1]; rfl
        have hpp9 := x9.keep _ _ hpp7 List.not_mem_nil
        refine ⟨pp, D8, ps, ys, rfl, rfl, hpp9, hD, small (by have : j < ws.length := (List.getElem?_eq_some_iff.mp hy0).1; omega), ?_⟩
        have hjw : j < ws.length := (List.getElem?_eq_some_iff.mp hy0).1
        have hpp3 : H3 pp = none := hpp4
        have z9 : Ext [] H3 H9 := z7.trans x9
        have z10 : Ext [] H3 (upd H9 pp (.lst (ps ++ ys))) := z9.new hpp4
        have t10 : Tups H9 (upd H9 pp (.lst (ps ++ ys))) := Tups.lst hpp9
        have hub9 := x9.keep _ _ hub List.not_mem_nil
        have hubp : ub ≠ pp := ne_of hub9 hpp9 (fun z => nomatch z)
        have hub10 : (upd H9 pp (.lst (ps ++ ys))) ub = _ := (upd_ne hubp).trans hub9
        have hpp10 : (upd H9 pp (.lst (ps ++ ys))) pp = some (.lst (ps ++ ys)) := upd_same
        have hps10 : DAts (upd H9 pp (.lst (ps ++ ys))) (told (es.take (j + 1))) (ps ++ ys) := by
          rw [htold]
          exact DAts.ext t10 _ _ ((x9.dats hps7).append hyd)
        have huo10 := (huo7.ext x9.tups).ext t10
        generalize upd H9 pp (.lst (ps ++ ys)) = H10 at z10 hub10 hpp10 hps10 huo10
        have hn10 := z10.keep _ _ hn3 List.not_mem_nil
        have hw10 := z10.keep _ _ hw3 List.not_mem_nil
        have hns10 := z10.dats hns3
        refine ⟨_, rfl, ub, udx, _, rfl, hub10, ub, udx, _, _, _, _, _, rfl, hub10, _, rfl, ?_⟩
        cases hq : U0.out with
        | none =>
          rw [hq] at huo10 g5
          rw [← g5] at hdr'
          obtain ⟨rfl, rfl⟩ := huo10
          have hall : es.take (j + 1) = es := List.take_of_length_le (by
            have := congrArg List.length hdr'
            rw [List.length_drop] at this
            have : es.length - (j + 1) = 0 := this
            omega)
          rw [hall] at hps10
          have hjl : j + 1 = ws.length := by
            have := congrArg List.length hall
            rw [List.length_take] at this
            omega
          refine iteD rfl ?_
          refine ⟨_, rfl, _, rfl, .list (told es), .list (told es), .lst (SqL.of hpp10) (DAts.dp _ _ hps10), .lst (SqL.of hn10) (DAts.dp _ _ hns10), shp_told es, shp_told es, _, rfl, iteT' (eqv_same (shp_told es)) ?_⟩
          have hlast : atI ws (-1) = some (V.ref ea) := by
            have e1 : ws.take (j + 1) = ws := List.take_of_length_le (by omega)
            rw [List.take_add_one, hy0] at e1
            rw [← e1]
            exact atI_last _ _
          exact ⟨_, rfl, _, rfl, _, rfl, wp, ws, _, V.ref ea, rfl, rfl, SqL.of hw10, hlast, _, _, _, _, rfl, rfl, SqT.of (z10.tups _ _ hea), tup_at (j := 0) rfl, rfl, dec_t rfl (q _ (x3.trans z10))⟩
        | some sq =>
          obtain ⟨s, q1⟩ := sq
          rw [hq] at huo10 g5
          rw [← g5] at hdr'
          obtain ⟨rfl, hav⟩ := huo10
          obtain ⟨o1, o2, o3, o4⟩ := walk_ok (L := L) (tx := tx) (nl := L.length) (w := wd) (n := ts.length) (i := i) rfl hiw htx 10 t hdep (G.ok t hmem) s q1 g5.symm
          obtain ⟨st2, _, rfl, hst2, _, _, rfl, rfl, _, _, rfl, rfl, rfl⟩ := hav
          refine iteN (fun z => nomatch z) ?_
          refine ⟨_, rfl, _, rfl, ub, _, udx, _, _, rfl, hub10, T.clTurn, T.nTurn_slide, tf_slide, _, _, rfl, rfl, _, rfl, ub, _, udx, _, _, rfl, hub10, T.clTurn, T.nTurn_after, tf_after, _, _, rfl, ?_⟩
          have ei : (i : Int) + s = ((i + s.toNat : Nat) : Int) := by omega
          have eq : q1 = ((q1.toNat : Nat) : Int) := by omega
          refine ⟨i + s.toNat, q1.toNat, f1, slidN U0.known s.toNat, ps ++ ys, st2, some (.int i), some (.int q0), some (.ref eb), some (.ref D6), some (.ref ub), s16', s17, s18, ?_, z10, ?_, hpp10, hps10, hdr', g4.slid _, by omega, by omega, ?_⟩
          · rw [← ei]; rfl
          · rw [← eq]; exact hst2
          · rw [List.length_append]; omega
    · rintro σ H5 ⟨i, q0, f0, k, ps, st, s11, s12, s13, s14, s15, s16, s17, s18, rfl, z5, hst, hpp, hps, hdr, hT, hif, hqn, hpl⟩
      have hend : es.drop ws.length = [] := List.drop_eq_nil_of_le (by omega)
      have htk : es.take ws.length = es := List.take_of_length_le (by omega)
      rw [hend] at hdr
      rw [htk] at hps
      have hgt : tx.length < i + wd := by
        by_cases h : i + wd ≤ tx.length
        · have hf0 : f0 ≠ 0 := by omega
          obtain ⟨f1, rfl⟩ := Nat.exists_eq_succ_of_ne_zero hf0
          rw [search_go h (List.getElem?_eq_getElem hqn)] at hdr
          cases hdr
        · omega
      refine ⟨_, rfl, _, rfl, .list (told es), .list (told es), .lst (SqL.of hpp) (DAts.dp _ _ hps), .lst (SqL.of (z5.keep _ _ hn3 List.not_mem_nil)) (DAts.dp _ _ (z5.dats hns3)), shp_told es, shp_told es, _, rfl, iteT' (eqv_same (shp_told es)) ?_⟩
      refine ⟨_, rfl, _, rfl, _, _, rfl, rfl, _, rfl, S tx, rfl, small (by show tx.length ≤ _; omega), _, _, rfl, rfl, ?_⟩
      exact dec_t (show (i : Int) + (wd : Int) > ((tx.length : Nat) : Int) by omega) (q _ (x3.trans z5))
end
end K21

set_option Elab.async false
set_option linter.all false
set_option maxRecDepth 100000
set_option maxHeartbeats 4000000
/-! the law's pen -/
namespace K21
open PySem PySem.Spec PyProof.Rows L2
def kC : Key := .inr ("cells" : Str)
def kB : Key := .inr ("begun" : Str)
def kL : Key := .inr ("left" : Str)
theorem k_cb : ¬ kC = kB := by decide +kernel
theorem k_cl : ¬ kC = kL := by decide +kernel
theorem k_bc : ¬ kB = kC := by decide +kernel
theorem k_bl : ¬ kB = kL := by decide +kernel
theorem k_lc : ¬ kL = kC := by decide +kernel
theorem k_lb : ¬ kL = kB := by decide +kernel
def pk (c b l : V) : List (Key × V) := [(kC, c), (kB, b), (kL, l)]
theorem pk_c {c b l : V} : valV (pk c b l) kC = some c := valV_pos rfl
theorem pk_b {c b l : V} : valV (pk c b l) kB = some b := (valV_neg k_cb).trans (valV_pos rfl)
theorem pk_l {c b l : V} : valV (pk c b l) kL = some l := (valV_neg k_cl).trans ((valV_neg k_bl).trans (valV_pos rfl))
theorem pk_setB {c b l v : V} : putK (pk c b l) kB v = pk c v l := by
  unfold putK pk
  simp [k_cb, k_lb]
theorem pk_setL {c b l v : V} : putK (pk c b l) kL v = pk c b v := by
  unfold putK pk
  simp [k_cl, k_bl]
theorem pk_new {c b l : V} : mergeK [] [(kC, c), (kB, b), (kL, l)] = pk c b l := by
  unfold mergeK pk
  simp only [List.foldl]
  rw [putK_new _ (valV_nil), List.nil_append, putK_new _ ((valV_neg k_cb).trans valV_nil)]
  show putK [(kC, c), (kB, b)] kL l = _
  rw [putK_new _ ((valV_neg k_cl).trans ((valV_neg k_bl).trans valV_nil))]
  rfl
/-- a pen stands at p, its cells at c; n draws are left -/
def Pen (H : Hp) (p c : Addr) (n : Nat) : Prop := ∃ (b l : Int) (ns : List Int), H p = some (.dK (pk (.ref c) (.int b) (.int l))) ∧ H c = some (.lst (ns.map V.int)) ∧ ns.length ≤ 63 ∧ 0 ≤ b ∧ b + n ≤ 2 ^ 60
theorem Pen.ext {m : List Addr} {H H' : Hp} {p c : Addr} {n : Nat} (h : Pen H p c n) (x : Ext m H H') (hp : p ∉ m) (hc : c ∉ m) : Pen H' p c n := by
  obtain ⟨b, l, ns, h1, h2, r⟩ := h
  exact ⟨b, l, ns, x.keep _ _ h1 hp, x.keep _ _ h2 hc, r⟩
theorem Pen.ext0 {H H' : Hp} {p c : Addr} {n : Nat} (h : Pen H p c n) (x : Ext [] H H') : Pen H' p c n := h.ext x List.not_mem_nil List.not_mem_nil
theorem Pen.le {H : Hp} {p c : Addr} {n m : Nat} (h : Pen H p c n) (hm : m ≤ n) : Pen H p c m := by
  obtain ⟨b, l, ns, h1, h2, h3, h4, h5⟩ := h
  exact ⟨b, l, ns, h1, h2, h3, h4, by omega⟩
theorem Pen.some1 {H : Hp} {p c : Addr} {n : Nat} (h : Pen H p c n) : ∃ o, H p = some o := by
  obtain ⟨b, l, ns, h1, _⟩ := h
  exact ⟨_, h1⟩
theorem Pen.new {H H0 : Hp} {p c D : Addr} {n : Nat} {o : HO} (h : Pen H p c n) (hp : p ≠ D) (hc : c ≠ D) : Pen (upd H D o) p c n := by
  obtain ⟨b, l, ns, h1, h2, r⟩ := h
  exact ⟨b, l, ns, by rw [upd_ne hp]; exact h1, by rw [upd_ne hc]; exact h2, r⟩
theorem Pen.neP {H : Hp} {p c D : Addr} {n : Nat} (h : Pen H p c n) (hD : H D = none) : p ≠ D := by
  obtain ⟨b, l, ns, h1, h2, r⟩ := h
  exact ne_of_none h1 hD
theorem Pen.neC {H : Hp} {p c D : Addr} {n : Nat} (h : Pen H p c n) (hD : H D = none) : c ≠ D := by
  obtain ⟨b, l, ns, h1, h2, r⟩ := h
  exact ne_of_none h2 hD
section
variable {P : Program} {w : World} {K : PySem.W.Frag} {mg : Str → Option Value} {base : Heap} {A0 : Ad} {f : Addr} {fd : FuncData}

abbrev N_l_pen_of : List Str := ["_law_script"]
theorem sc_l_pen_of : FnScope N_l_pen_of ["_law_script"] (defScope s_l_pen_of) := ⟨rfl, rfl, rfl, by decide +kernel, rfl, by decide +kernel, by decide +kernel⟩
def spPenOf (K : PySem.W.Frag) : Sp := fun vs H Q _ => ∃ (a : Addr) (ns : List Int), vs = [.ref a] ∧ SqL K H a (ns.map V.int) ∧ ns.length ≤ 100000 ∧ ∀ H' p c, Ext [] H H' → Pen H' p c (2 ^ 59) → Q (.ref p) H'
theorem ok_pen_of (T : Tx K mg A0) (F : Fd K "_law_pen_of" "_law_pen_of" s_l_pen_of f fd) : FnOk P w K mg base CX0 1 f fd ["_law_script"] (spPenOf K) := by
  refine fok F sc_l_pen_of (fun vs H Q E h => ?_) (fun cdv A outer s0 H vs Q E hr h => ?_)
  · obtain ⟨_, _, rfl, _⟩ := h
    rfl
  · obtain ⟨a, ns, rfl, ha, hl, q⟩ := h
    refine ⟨_, (pss_one (ps_ret (pe_disp (pps_cons pe_str (pe_callTy call_list_of (by rfl) T.list (by decide +kernel) (pa_cons (pe_slice sl_list (pv 0) po_none (po_some pe_int)) pa_nil)) (pps_cons pe_str pe_int (pps_cons pe_str pe_int pps_nil))) (by rfl) (by rfl) (fun z => by cases z) (by decide)))), ?_⟩
    intro p np
    have x1 : Ext [] H (upd H p (.dK [])) := Ext.refl.fresh np
    have e63 : HT.sIx (ns.map V.int).length (ns.map V.int).length (some 63) = min 63 ns.length := by
      show HT.sIx _ _ (some ((63 : Nat) : Int)) = _
      rw [HT.sIx_nat, List.length_map]
    refine ⟨_, rfl, _, rfl, a, _, rfl, x1.seqL ha List.not_mem_nil, fun p1 np1 => ⟨p1, _, rfl, .inl (SqL.of upd_same), fun p2 np2 => ?_⟩⟩
    have hp1 : p ≠ p1 := fun e => by
      rw [← e, upd_same] at np1
      cases np1
    have hp2 : p ≠ p2 := fun e => by
      rw [← e, upd_ne hp1, upd_same] at np2
      cases np2
    refine ⟨by rw [upd_ne hp2, upd_ne hp1, upd_same], [(kC, .ref p2), (kB, .int 0), (kL, .int 0)], rfl, by show 3 ≤ 15; omega, ?_⟩
    rw [pk_new]
    have hcut : cutV (ns.map V.int) none (some 63) = (ns.take 63).map V.int := by
      unfold cutV
      rw [HT.sIx_none, e63, List.drop_zero, Nat.sub_zero, ← List.map_take]
      congr 1
      by_cases h : 63 ≤ ns.length
      · rw [Nat.min_eq_left h]
      · rw [Nat.min_eq_right (by omega), List.take_of_length_le (Nat.le_refl _), List.take_of_length_le (by omega)]
    refine q _ p p2 (((x1.fresh np1).fresh np2).new np) ⟨0, 0, ns.take 63, upd_same, ?_, by rw [List.length_take]; omega, by omega, by decide⟩
    rw [upd_ne hp2.symm, upd_same, ← hcut]

abbrev N_l_draw : List Str := ["_law_pen", "_law_many", "_law_digit", "_law_place", "_law_size", "_law_told", "_law_blend"]
theorem sc_l_draw : FnScope N_l_draw ["_law_pen", "_law_many"] (defScope s_l_draw) := ⟨rfl, rfl, rfl, by decide +kernel, rfl, by decide +kernel, by decide +kernel⟩
def spDraw : Sp := fun vs H Q _ => ∃ (p c : Addr) (n : Nat) (m : Int), vs = [.ref p, .int m] ∧ Pen H p c (n + 1) ∧ 0 < m ∧ m < 1073741824 ∧ ∀ H' (r : Nat), Ext [p] H H' → Pen H' p c n → (r : Int) < m → Q (.int r) H'
theorem ok_draw (T : Tx K mg A0) (F : Fd K "_law_draw" "_law_draw" s_l_draw f fd) : FnOk P w K mg base CX0 1 f fd ["_law_pen", "_law_many"] spDraw := by
  refine fok F sc_l_draw (fun vs H Q E h => ?_) (fun cdv A outer s0 H vs Q E hr h => ?_)
  · obtain ⟨_, _, _, _, rfl, _⟩ := h
    rfl
  · obtain ⟨p, c, n, m, rfl, ⟨b, l, ns, hp, hc, hnl, hb0, hbn⟩, hm0, hm1, q⟩ := h
    refine ⟨_, (pss_cons (ps_if (pt_cmpR op_gt (pe_dget (hu_of hr) (pv 0) pe_str (fun _ _ => rfl)) pe_int (nomark _))
       (pss_cons (ps_set (i := 2) sc_l_draw.nd rfl (.inl rfl) (pe_op op_mod (pe_callTy call_int1 (by rfl) T.int (by decide +kernel) (pa_cons (pe_dget (hu_of hr) (pv 0) pe_str (fun _ _ => rfl)) pa_nil)) (pv 1)))
        (pss_cons (ps_dput (hu_of hr) (pv 0) pe_str (pe_op op_fdiv (pe_dget (hu_of hr) (pv 0) pe_str (fun _ _ => rfl)) (pv 1)) rfl)
        (pss_one (ps_ret (pv 2)))))
       pss_nil)
      (pss_cons (ps_par (i := 3) (j := 4) rfl sc_l_draw.nd rfl rfl (by decide) rfl rfl (pa_cons (pe_dget (hu_of hr) (pv 0) pe_str (fun _ _ => rfl)) (pa_cons (pe_callB call_len_seq (by rfl) T.len PySem.boot_len (pa_cons (pe_dget (hu_of hr) (pv 0) pe_str (fun _ _ => rfl)) pa_nil)) pa_nil)) (by rfl))
      (pss_cons (ps_dput (hu_of hr) (pv 0) pe_str (pe_op op_add (pv 3) pe_int) rfl)
      (C8.pss_cut (ps_set (i := 5) sc_l_draw.nd rfl (.inl rfl) (pe_ifExp (pt_cmpR op_gt (pv 4) pe_int (nomark _)) (pe_ix ix_list (pe_dget (hu_of hr) (pv 0) pe_str (fun _ _ => rfl)) (pe_op op_mod (pe_callTy call_int1 (by rfl) T.int (by decide +kernel) (pa_cons (pv 3) pa_nil)) (pv 4)) (fun _ _ => rfl)) (pe_op op_add (pe_op op_mul pe_int (pv 3)) pe_int)))
      (C8.pss_cut (ps_if (PW.pt (pw_and (pt_cmpR op_lt (pv 3) (pv 4) (nomark _)) (pw_and1 (pt_cmpR op_ge (pe_callB call_abs (by rfl) T.abs (by decide +kernel) (pa_cons (pv 5) pa_nil)) (pe_op op_pow pe_int pe_int) (nomark _)))))
       (pss_cons (ps_dput (hu_of hr) (pv 0) pe_str (pe_op op_fdiv (pe_op op_sub (pe_callB call_abs (by rfl) T.abs (by decide +kernel) (pa_cons (pv 5) pa_nil)) (pe_op op_pow pe_int pe_int)) (pv 1)) rfl)
        (pss_one (ps_ret (pe_op op_mod (pe_callTy call_int1 (by rfl) T.int (by decide +kernel) (pa_cons (pe_op op_sub (pe_callB call_abs (by rfl) T.abs (by decide +kernel) (pa_cons (pv 5) pa_nil)) (pe_op op_pow pe_int pe_int)) pa_nil)) (pv 1)))))
       pss_nil)
      (C8.pss_cut (ps_set (i := 6) sc_l_draw.nd rfl (.inl rfl) (pe_op op_mod (pe_callTy call_int1 (by rfl) T.int (by decide +kernel) (pa_cons (pe_op op_add (pe_op op_add (pe_op op_mul (pe_op op_mod (pe_callTy call_int1 (by rfl) T.int (by decide +kernel) (pa_cons (pv 5) pa_nil)) pe_int) pe_int) (pe_op op_mul (pe_op op_mul pe_int (pv 3)) (pv 3))) pe_int) pa_nil)) pe_int))
      (C8.pss_cut (ps_set (i := 6) sc_l_draw.nd rfl (.inl rfl) (pe_op op_mod (pe_callTy call_int1 (by rfl) T.int (by decide +kernel) (pa_cons (pe_op op_add (pe_op op_add (pe_op op_add (pe_op op_mul (pv 6) (pv 6)) (pe_op op_mul pe_int (pv 6))) (pe_op op_mul pe_int (pv 3))) pe_int) pa_nil)) pe_int))
      (pss_one (ps_ret (pe_op op_mod (pe_callTy call_int1 (by rfl) T.int (by decide +kernel) (pa_cons (pe_op op_fdiv (pe_op op_mod (pe_callTy call_int1 (by rfl) T.int (by decide +kernel) (pa_cons (pe_op op_mul (pv 6) (pe_op op_add (pv 6) pe_int)) pa_nil)) pe_int) pe_int) pa_nil)) (pv 1))))))))))), ?_⟩
    have hpc : c ≠ p := ne_of hc hp (fun z => nomatch z)
    have fin : ∀ H' b' l' (z : Int), Ext [p] H H' → H' p = some (.dK (pk (.ref c) (.int b') (.int l'))) → 0 ≤ b' → b' ≤ b + 1 → Q (.int (z % m)) H' := fun H' b' l' z x hp' h1 h2 => by
      have e1 := Int.emod_nonneg z (Int.ne_of_gt hm0)
      have e2 := Int.emod_lt_of_pos z hm0
      obtain ⟨r, hr⟩ := Int.eq_ofNat_of_zero_le e1
      rw [hr]
      exact q H' r x ⟨b', l', ns, hp', x.keep _ _ hc (by simpa using hpc), hnl, h1, by omega⟩ (by omega)
    have gL : ∀ {H' : Hp} {b l : V}, H' p = some (.dK (pk (.ref c) b l)) → DGet H' p (.str "left") (some l) := fun h => pk_l (c := .ref c) ▸ DGet.k (k := kL) h
    have gB : ∀ {H' : Hp} {b l : V}, H' p = some (.dK (pk (.ref c) b l)) → DGet H' p (.str "begun") (some b) := fun h => pk_b (c := .ref c) ▸ DGet.k (k := kB) h
    have gC : ∀ {H' : Hp} {b l : V}, H' p = some (.dK (pk (.ref c) b l)) → DGet H' p (.str "cells") (some (.ref c)) := fun h => pk_c (c := .ref c) ▸ DGet.k (k := kC) h
    have hpl : ∀ {b l : V}, (pk (.ref c) b l).length < sizeLine := fun {b l} => by
      show 3 < sizeLine
      rw [sizeLine_eq]; omega
    refine ⟨_, rfl, p, _, rfl, gL hp, _, _, rfl, rfl, _, rfl, iteD2 (fun hl => ?_) (fun hl => ?_)⟩
    · refine ⟨_, rfl, p, _, rfl, gL hp, .inl ⟨_, rfl, _, rfl, _, _, rfl, rfl, hm0, ?_⟩⟩
      refine ⟨_, rfl, p, _, rfl, gL hp, _, rfl, _, _, rfl, rfl, ⟨hm0, hm1⟩, _, rfl, p, _, rfl, DPut.k (k := kL) hp hpl, ?_⟩
      rw [pk_setL]
      refine ⟨_, rfl, ?_⟩
      exact fin _ b _ l (Ext.refl.put List.mem_cons_self hp (fun ys z => nomatch z)) upd_same hb0 (by omega)
    · refine ⟨_, rfl, p, _, rfl, gB hp, _, rfl, p, _, rfl, gC hp, c, _, rfl, .inl (SqL.of hc), _, _, rfl, ?_⟩
      refine ⟨_, rfl, _, _, rfl, rfl, _, rfl, p, _, rfl, DPut.k (k := kB) hp hpl, ?_⟩
      rw [pk_setB]
      have x1 : Ext [p] H (upd H p (.dK (pk (.ref c) (.int (b + 1)) (.int l)))) := Ext.refl.put List.mem_cons_self hp (fun ys z => nomatch z)
      have hp1 : (upd H p (.dK (pk (.ref c) (.int (b + 1)) (.int l)))) p = _ := upd_same
      generalize upd H p (.dK (pk (.ref c) (.int (b + 1)) (.int l))) = H1 at x1 hp1
      have hc1 := x1.keep _ _ hc (by simpa using hpc)
      refine ⟨fun σ H' => ∃ t : Int, σ = [some (.ref p), some (.int m), none, some (.int b), some (.int ns.length), some (.int t), none] ∧ H' = H1, ?_, ?_⟩
      · refine ⟨_, rfl, _, _, rfl, rfl, _, rfl, iteD2 (fun hs => ?_) (fun hs => ?_)⟩
        · have hs' : 0 < ns.length := by
            have : ((ns.map V.int).length : Int) > 0 := hs
            rw [List.length_map] at this
            omega
          have e1 := Int.emod_nonneg b (show ((ns.length : Nat) : Int) ≠ 0 by omega)
          have e2 := Int.emod_lt_of_pos b (show (0 : Int) < ((ns.length : Nat) : Int) by omega)
          obtain ⟨j, hj⟩ := Int.eq_ofNat_of_zero_le e1
          have hjl : j < ns.length := by omega
          have hat : (ns.map V.int)[j]? = some (.int ns[j]) := by rw [List.getElem?_map, List.getElem?_eq_getElem hjl]; rfl
          refine ⟨_, rfl, p, _, rfl, gC hp1, _, rfl, .inl ⟨_, rfl, _, rfl, _, _, rfl, rfl, ?_, c, _, _, _, rfl, rfl, SqL.of hc1, at_of ?_ hat, ?_⟩⟩
          · show (0 : Int) < ((ns.map V.int).length : Nat)
            rw [List.length_map]; omega
          · rw [List.length_map]; exact hj
          · refine ⟨ns[j], ?_, rfl⟩
            rw [← List.length_map (f := V.int)]; rfl
        · refine ⟨_, rfl, _, _, rfl, rfl, .inl ⟨by decide, by decide⟩, _, _, rfl, rfl, ?_⟩
          refine ⟨53 * b + 29, ?_, rfl⟩
          rw [← List.length_map (f := V.int)]; rfl
      rintro σ H' ⟨t, rfl, rfl⟩
      refine ⟨fun σ H4 => σ = [some (.ref p), some (.int m), none, some (.int b), some (.int ns.length), some (.int t), none] ∧ H4 = H', ?_, ?_⟩
      · refine ⟨_, rfl, _, rfl, _, _, rfl, rfl, _, rfl, iteD2 (fun _ => ?_) (fun _ => ⟨rfl, rfl⟩)⟩
        refine ⟨_, rfl, _, rfl, _, _, rfl, rfl, ⟨by decide, by decide, by decide⟩, _, _, rfl, rfl, _, rfl, iteD2 (fun _ => ?_) (fun _ => ⟨rfl, rfl⟩)⟩
        have eP : ∀ x : Int, (fun i j => V.int (i ^ j.toNat)) (10 : Int) (18 : Int) = V.int 1000000000000000000 := fun _ => rfl
        refine ⟨_, rfl, _, rfl, _, _, rfl, rfl, ⟨by decide, by decide, by decide⟩, _, _, rfl, rfl, _, rfl, _, _, rfl, rfl, ⟨hm0, hm1⟩, _, rfl, p, _, rfl, DPut.k (k := kL) hp1 hpl, ?_⟩
        rw [pk_setL]
        refine ⟨_, rfl, _, rfl, _, _, rfl, rfl, ⟨by decide, by decide, by decide⟩, _, _, rfl, rfl, .inl ⟨_, rfl, _, rfl, _, _, rfl, rfl, hm0, ?_⟩⟩
        exact fin _ (b + 1) _ _ (x1.put List.mem_cons_self hp (fun ys z => nomatch z)) upd_same (by omega) (by omega)
      rintro σ H4 ⟨rfl, rfl⟩
      refine ⟨fun σ H5 => ∃ z : Int, 0 ≤ z ∧ z < 2 ^ 33 ∧ σ = [some (.ref p), some (.int m), none, some (.int b), some (.int ns.length), some (.int t), some (.int z)] ∧ H5 = H4, ?_, ?_⟩
      · refine ⟨_, rfl, .inl ⟨_, rfl, _, _, rfl, rfl, (show (0 : Int) < 4294967279 by decide), _, _, rfl, rfl, .inr ⟨by decide, by decide⟩, _, rfl, _, _, rfl, rfl, .inl ⟨by decide, by decide⟩, _, rfl, _, _, rfl, rfl, .inr ⟨by omega, by omega⟩, _, _, rfl, rfl, _, _, rfl, rfl, .inl ⟨_, rfl, _, _, rfl, rfl, (show (0 : Int) < 4294967291 by decide), ?_⟩⟩⟩
        exact ⟨_, Int.emod_nonneg _ (by decide), Int.lt_of_lt_of_le (Int.emod_lt_of_pos _ (by decide)) (by decide), rfl, rfl⟩
      rintro σ H1 ⟨z, hz0, hz1, rfl, rfl⟩
      refine ⟨fun σ H5 => ∃ z : Int, 0 ≤ z ∧ z < 2 ^ 33 ∧ σ = [some (.ref p), some (.int m), none, some (.int b), some (.int ns.length), some (.int t), some (.int z)] ∧ H5 = H1, ?_, ?_⟩
      · refine ⟨_, rfl, _, rfl, _, _, rfl, rfl, .inl ⟨by omega, by omega⟩, _, rfl, _, _, rfl, rfl, .inl ⟨by decide, by decide⟩, _, _, rfl, rfl, _, rfl, _, _, rfl, rfl, .inl ⟨by decide, by decide⟩, _, _, rfl, rfl, _, _, rfl, rfl, .inl ⟨_, rfl, _, _, rfl, rfl, (show (0 : Int) < 4294967231 by decide), ?_⟩⟩
        exact ⟨_, Int.emod_nonneg _ (by decide), Int.lt_of_lt_of_le (Int.emod_lt_of_pos _ (by decide)) (by decide), rfl, rfl⟩
      rintro σ H5 ⟨z, hz0, hz1, rfl, rfl⟩
      refine ⟨_, rfl, _, rfl, _, _, rfl, rfl, _, _, rfl, rfl, .inl ⟨by omega, by omega⟩, .inl ⟨_, rfl, _, _, rfl, rfl, (show (0 : Int) < 4294967189 by decide), _, _, rfl, rfl, ⟨by decide, by decide⟩, .inl ⟨_, rfl, _, rfl, _, _, rfl, rfl, hm0, ?_⟩⟩⟩
      exact fin _ (b + 1) _ _ x1 hp1 (by omega) (by omega)
end
end K21

set_option Elab.async false
set_option linter.all false
set_option maxRecDepth 100000
set_option maxHeartbeats 4000000
/-! pick, letters, words -/
namespace K21
open PySem PySem.Spec PyProof.Rows L2
theorem erase_perm : ∀ {l : List Nat} {i c : Nat}, l[i]? = some c → List.Perm l (c :: l.eraseIdx i)
  | [], _, _, h => by simp at h
  | a :: r, 0, c, h => by
    have e : a = c := by simpa using h
    subst e
    exact List.Perm.refl _
  | a :: r, i + 1, c, h => by
    have ih := erase_perm (l := r) (i := i) (c := c) (by simpa using h)
    exact (ih.cons a).trans (List.Perm.swap c a _)
theorem erase_map {α β : Type} (f : α → β) : ∀ (l : List α) (i : Nat), (l.map f).eraseIdx i = (l.eraseIdx i).map f
  | [], _ => rfl
  | _ :: _, 0 => rfl
  | a :: r, i + 1 => by
    show f a :: (r.map f).eraseIdx i = f a :: (r.eraseIdx i).map f
    rw [erase_map f r i]
theorem join_S (l : List Nat) : PySem.Txt.join "" (l.map fun c => S [c]) = S l := by
  have key : ∀ l : List Nat, Str.join "" (l.map fun c => S [c]) = S l := by
    intro l
    induction l with
    | nil => decide +kernel
    | cons a r ih =>
      cases r with
      | nil => rfl
      | cons b r =>
        show S [a] ++ "" ++ Str.join "" ((b :: r).map fun c => S [c]) = _
        rw [ih]
        have e : S [a] ++ ("" : Str) = S [a] := by
          show S [a] ++ S [] = S [a]
          rw [S_append]; rfl
        rw [e, S_append]; rfl
  rw [TL.join_eq]
  exact key l
section
variable {P : Program} {w : World} {K : PySem.W.Frag} {mg : Str → Option Value} {base : Heap} {A0 : Ad} {f : Addr} {fd : FuncData}

abbrev N_l_pick : List Str := ["_law_pen", "_law_menu"]
theorem sc_l_pick : FnScope N_l_pick ["_law_pen", "_law_menu"] (defScope s_l_pick) := ⟨rfl, rfl, rfl, by decide +kernel, rfl, by decide +kernel, by decide +kernel⟩
def spPick : Sp := fun vs H Q _ => ∃ (p c : Addr) (n : Nat) (u : V), vs = [.ref p, u] ∧ Pen H p c (n + 1) ∧
  ((∃ L : List Nat, u = .str (S L) ∧ 1 ≤ L.length ∧ L.length ≤ 1000 ∧ ∀ H' ch, Ext [p] H H' → Pen H' p c n → ch ∈ L → Q (.str (S [ch])) H') ∨
    ∃ (a : Addr) (xs : List V), u = .ref a ∧ H a = some (.lst xs) ∧ 1 ≤ xs.length ∧ xs.length ≤ 1000 ∧ ∀ (H' : Hp) (r : Nat) (v : V), Ext [p] H H' → Pen H' p c n → xs[r]? = some v → Q v H')
theorem ok_pick (T : Tx K mg A0) (D_l_draw : Dfn P w K mg base 1 "_law_draw" ["_law_pen", "_law_many"] spDraw) (F : Fd K "_law_pick" "_law_pick" s_l_pick f fd) : FnOk P w K mg base CX0 2 f fd ["_law_pen", "_law_menu"] spPick := by
  refine fok F sc_l_pick (fun vs H Q E h => ?_) (fun cdv A outer s0 H vs Q E hr h => ?_)
  · obtain ⟨_, _, _, _, rfl, _⟩ := h
    rfl
  · obtain ⟨p, c, n, u, rfl, hP, hu⟩ := h
    refine ⟨_, (pss_one (ps_ret (pe_ix ix_any (pv 1) (pe_d D_l_draw (hr.mono (by omega)) (pa_cons (pv 0) (pa_cons (pe_callB call_len_any (by rfl) T.len PySem.boot_len (pa_cons (pv 1) pa_nil)) pa_nil))) (fun _ _ => rfl)))), ?_⟩
    rcases hu with ⟨L, rfl, h1, h2, q⟩ | ⟨a, xs, rfl, ha, h1, h2, q⟩
    · refine ⟨_, rfl, _, rfl, _, rfl, .inl ⟨_, rfl, small (by show L.length ≤ _; omega), p, c, n, _, rfl, hP, by show (0 : Int) < (L.length : Nat); omega, by show ((L.length : Nat) : Int) < _; omega, fun H' r x hP' hr => .inl ?_⟩⟩
      have hr' : r < L.length := by
        have : (r : Int) < ((L.length : Nat) : Int) := hr
        omega
      exact ⟨S L, _, L[r], rfl, rfl, small (by show L.length ≤ _; omega), atI_nat (List.getElem?_eq_getElem hr'), q _ _ x hP' (List.getElem_mem hr')⟩
    · have hap : a ≠ p := by
        obtain ⟨b, l, ns, hp, _⟩ := hP
        exact ne_of ha hp (fun z => nomatch z)
      refine ⟨_, rfl, _, rfl, _, rfl, .inr ⟨a, xs, rfl, .inl (SqL.of ha), p, c, n, _, rfl, hP, by omega, by omega, fun H' r x hP' hr => .inr ?_⟩⟩
      have hr' : r < xs.length := by omega
      exact ⟨a, xs, _, xs[r], rfl, rfl, SqL.of (x.keep _ _ ha (by simpa using hap)), tup_at (j := r) (List.getElem?_eq_getElem hr'), q _ r _ x hP' (List.getElem?_eq_getElem hr')⟩

abbrev N_l_letters_of : List Str := ["_law_pen", "_law_many", "_law_left", "_law_found", "_law_k"]
theorem sc_l_letters_of : FnScope N_l_letters_of ["_law_pen", "_law_many"] (defScope s_l_letters_of) := ⟨rfl, rfl, rfl, by decide +kernel, rfl, by decide +kernel, by decide +kernel⟩
def spLettersOf : Sp := fun vs H Q _ => ∃ (p c : Addr) (n m : Nat), vs = [.ref p, .int m] ∧ Pen H p c (n + m) ∧ m ≤ 4 ∧ ∀ H' L, Ext [p] H H' → Pen H' p c n → L.length = m → L.Nodup → (∀ x ∈ L, 97 ≤ x ∧ x ≤ 122) → Q (.str (S L)) H'
theorem ok_letters_of (T : Tx K mg A0) (D_l_draw : Dfn P w K mg base 1 "_law_draw" ["_law_pen", "_law_many"] spDraw) (F : Fd K "_law_letters_of" "_law_letters_of" s_l_letters_of f fd) : FnOk P w K mg base CX0 2 f fd ["_law_pen", "_law_many"] spLettersOf := by
  refine fok F sc_l_letters_of (fun vs H Q E h => ?_) (fun cdv A outer s0 H vs Q E hr h => ?_)
  · obtain ⟨_, _, _, _, rfl, _⟩ := h
    rfl
  · obtain ⟨p, c, n, m, rfl, hP, hm, q⟩ := h
    refine ⟨_, (pss_cons (ps_par (i := 2) (j := 3) rfl sc_l_letters_of.nd rfl rfl (by decide) rfl rfl (pa_cons (pe_callTy call_list_strR (by rfl) T.list (by decide +kernel) (pa_cons pe_str pa_nil)) (pa_cons pe_str pa_nil)) (by rfl))
      (pss_cons (ps_for PassesOwn.never rfl (pi_range1 (by rfl) T.range (pa_cons (pv 1) pa_nil)) (pg_name (i := 4) sc_l_letters_of.nd rfl (.inl rfl))
       (pss_one (ps_set (i := 3) sc_l_letters_of.nd rfl (.inl rfl) (pe_op op_add_str (pv 3) (pe_bm PySem.F.plainAttrs_list PySem.F.slot_list_pop PySem.F.type_list_pop mt_popAt (pv 2) (pa_cons (pe_d D_l_draw (hr.mono (by omega)) (pa_cons (pv 0) (pa_cons (pe_callB call_len_seq (by rfl) T.len PySem.boot_len (pa_cons (pv 2) pa_nil)) pa_nil))) pa_nil))))))
      (pss_one (ps_ret (pv 3))))), ?_⟩
    refine ⟨_, rfl, by decide, fun lp nlp => ⟨_, _, rfl, ?_⟩⟩
    have hPp := hP.neP nlp
    have hPc := hP.neC nlp
    have e0 : sgnV ("abcdefghijklmnopqrstuvwxyz" : Str) = (List.range' 97 26).map fun x => V.str ⟨#[x]⟩ := by
      unfold sgnV
      rw [abc]
    have x1 : Ext [p] H (upd H lp (.lst (sgnV ("abcdefghijklmnopqrstuvwxyz" : Str)))) := Ext.refl.fresh nlp
    refine ⟨_, rfl, _, rfl, by omega, by omega, ?_⟩
    refine for_range (fun i σ H' => ∃ (L rest : List Nat) (s4 : Option V), σ = [some (.ref p), some (.int m), some (.ref lp), some (.str (S L)), s4] ∧ Ext [p] H H' ∧ Pen H' p c (n + (m - i)) ∧ H' lp = some (.lst (rest.map fun x => V.str ⟨#[x]⟩)) ∧ L.length = i ∧ rest.length = 26 - i ∧ List.Perm (L ++ rest) (List.range' 97 26))
      ⟨[], List.range' 97 26, _, rfl, x1, hP.new (H0 := H) hPp hPc, by rw [← e0]; exact upd_same, rfl, rfl, List.Perm.refl _⟩ ?_ ?_
    · rintro i σ H2 hi ⟨L, rest, s4, rfl, x2, hP2, hlp, hL, hrest, hperm⟩
      have hi' : i < m := by omega
      have hPn : Pen H2 p c (n + (m - (i + 1)) + 1) := hP2.le (by omega)
      have hlpp : lp ≠ p := hPp.symm
      have hrl : (rest.map fun x => V.str ⟨#[x]⟩).length = rest.length := List.length_map ..
      refine ⟨_, rfl, _, rfl, .inl ⟨rfl, _, SqL.of hlp⟩, _, rfl, _, rfl, lp, _, rfl, .inl (SqL.of hlp), p, c, _, _, rfl, hPn, by rw [hrl]; omega, by rw [hrl]; omega, fun H3 r x3 hP3 hr3 => ?_⟩
      rw [hrl] at hr3
      have hr' : r < rest.length := by omega
      have hg := List.getElem?_eq_getElem hr'
      generalize rest[r] = ch at hg
      have hlp3 := x3.keep _ _ hlp (by simpa using hlpp)
      refine ⟨lp, _, (r : Int), r, .str ⟨#[ch]⟩, rfl, rfl, hlp3, by omega, by omega, ?_, by rw [List.getElem?_map, hg]; rfl, ?_⟩
      · unfold seqIndex?
        rw [hrl]
        simp
        omega
      have hLl : L.length ≤ 100 := by omega
      refine ⟨_, _, rfl, rfl, small (by show L.length + 1 ≤ _; omega), ?_⟩
      have eS : S L ++ (⟨#[ch]⟩ : Str) = S (L ++ [ch]) := S_append L [ch]
      rw [eS]
      refine ⟨L ++ [ch], rest.eraseIdx r, _, rfl, ?_, ?_, ?_, ?_, ?_, ?_⟩
      · exact (x2.trans x3).new nlp
      · exact (hP3.new (H0 := H) hPp hPc)
      · rw [upd_same, erase_map]
      · rw [List.length_append, hL]; rfl
      · rw [List.length_eraseIdx_of_lt hr', hrest]; omega
      · refine List.Perm.trans ?_ hperm
        rw [List.append_assoc]
        exact List.Perm.append_left L (erase_perm hg).symm
    · rintro σ H2 ⟨L, rest, s4, rfl, x2, hP2, hlp, hL, hrest, hperm⟩
      have em : ((m : Int)).toNat = m := Int.toNat_natCast m
      rw [em] at hL hP2
      have nd : (L ++ rest).Nodup := (hperm.nodup_iff).mpr List.nodup_range'
      refine ⟨_, rfl, q _ L x2 (hP2.le (by omega)) hL (List.nodup_append.mp nd).1 fun y hy => ?_⟩
      have := (hperm.mem_iff (a := y)).mp (List.mem_append_left _ hy)
      rw [List.mem_range'_1] at this
      omega

abbrev N_l_word_of : List Str := ["_law_pen", "_law_letters", "_law_size", "_law_k"]
theorem sc_l_word_of : FnScope N_l_word_of ["_law_pen", "_law_letters", "_law_size"] (defScope s_l_word_of) := ⟨rfl, rfl, rfl, by decide +kernel, rfl, by decide +kernel, by decide +kernel⟩
def spWordOf : Sp := fun vs H Q _ => ∃ (p c : Addr) (n k : Nat) (L : List Nat), vs = [.ref p, .str (S L), .int k] ∧ Pen H p c (n + k) ∧ k ≤ 100 ∧ 1 ≤ L.length ∧ L.length ≤ 1000 ∧ ∀ H' l, Ext [p] H H' → Pen H' p c n → l.length = k → (∀ x ∈ l, x ∈ L) → Q (.str (S l)) H'
theorem strs_S {ys : List V} {L : List Nat} (h : ∀ (j : Nat) y, ys[j]? = some y → ∃ ch ∈ L, y = V.str (S [ch])) : ∃ l : List Nat, l.length = ys.length ∧ (∀ x ∈ l, x ∈ L) ∧ ys = (l.map fun x => S [x]).map V.str := by
  induction ys with
  | nil => exact ⟨[], rfl, fun x hx => (List.not_mem_nil hx).elim, rfl⟩
  | cons y r ih =>
    obtain ⟨ch, hc, rfl⟩ := h 0 y rfl
    obtain ⟨l, h1, h2, h3⟩ := ih fun j z hz => h (j + 1) z (by simpa using hz)
    refine ⟨ch :: l, by rw [List.length_cons, h1, List.length_cons], fun x hx => ?_, by rw [h3]; rfl⟩
    rcases List.mem_cons.mp hx with rfl | hx
    · exact hc
    · exact h2 x hx
theorem sum_ones (l : List Nat) : ((l.map fun x => S [x]).map (·.length)).sum = l.length := by
  induction l with
  | nil => rfl
  | cons a r ih =>
    rw [List.map_cons, List.map_cons, List.sum_cons, ih, List.length_cons]
    show 1 + r.length = _
    omega
theorem ok_word_of (T : Tx K mg A0) (D_l_pick : Dfn P w K mg base 2 "_law_pick" ["_law_pen", "_law_menu"] spPick) (F : Fd K "_law_word_of" "_law_word_of" s_l_word_of f fd) : FnOk P w K mg base CX0 3 f fd ["_law_pen", "_law_letters", "_law_size"] spWordOf := by
  refine fok F sc_l_word_of (fun vs H Q E h => ?_) (fun cdv A outer s0 H vs Q E hr h => ?_)
  · obtain ⟨_, _, _, _, _, rfl, _⟩ := h
    rfl
  · obtain ⟨p, c, n, k, L, rfl, hP, hk, hL1, hL2, q⟩ := h
    refine ⟨_, (pss_one (ps_ret (pe_join pe_str (pe_lc (own := [("_law_k", 3)]) (g := gName 3) (tt := tYes) rfl sc_l_word_of.nd (pi_range1 (by rfl) T.range (pa_cons (pv 2) pa_nil)) (blkOk_by (N := N_l_word_of) (sc := defScope s_l_word_of) (by decide +kernel)) (fun _ _ _ _ _ => (pg_name (i := 3) sc_l_word_of.nd rfl (.inl rfl))) (fun _ _ _ _ _ => pts_nil) (fun _ _ _ _ _ => (pe_d D_l_pick (hr.mono (by omega)) (pa_cons (pv 0) (pa_cons (pv 1) pa_nil)))))))), ?_⟩
    have ek : ((k : Int)).toNat = k := Int.toNat_natCast k
    refine ⟨⟨_, rfl⟩, _, rfl, _, rfl, by omega, by omega, fun D nD => ?_⟩
    rw [ek]
    have hDp := hP.neP nD
    have hDc := hP.neC nD
    refine lc_rel walk_range (fun i H' => Ext [p] H H' ∧ Pen H' p c (n + (k - i))) (fun _ _ y => ∃ ch ∈ L, y = V.str (S [ch])) (by omega) ⟨Ext.refl.new nD, hP.new (H0 := H) hDp hDc⟩ (fun _ _ _ _ => trivial) (fun _ _ _ _ _ h => h) (fun i H' o h => ⟨h.1.new nD, h.2.new (H0 := H) hDp hDc⟩) ?_ ?_
    · rintro i x H2 _ Nx hi ⟨x2, hP2⟩ ⟨zs, hz⟩ ⟨rfl, rfl⟩ nx
      have hPn := hP2.le (m := n + (k - (i + 1)) + 1) (by omega)
      refine ⟨rfl, _, rfl, _, rfl, p, c, _, _, rfl, hPn, .inl ⟨L, rfl, hL1, hL2, fun H3 ch x3 hP3 hc => ?_⟩⟩
      exact nx _ _ ⟨x2.trans x3, hP3⟩ x3.tups ((x3.keep _ _ hz (by simpa using hDp.symm)).trans hz.symm) ⟨ch, hc, rfl⟩
    · rintro H2 ys ⟨x2, hP2⟩ hD hys hR
      obtain ⟨l, h1, h2, h3⟩ := strs_S hR
      refine ⟨_, D, l.map fun x => S [x], rfl, rfl, .inl (h3 ▸ SqL.of hD), ?_, ?_⟩
      · rw [sum_ones, List.length_map]
        show l.length + l.length * 0 ≤ _
        omega
      · rw [join_S]
        exact q _ l x2 (hP2.le (by omega)) (by omega) h2
end
end K21

set_option Elab.async false
set_option linter.all false
set_option maxRecDepth 100000
set_option maxHeartbeats 4000000
/-! trees made and bent -/
namespace K21
open PySem PySem.Spec PyProof.Rows L2
def szB : Nat → Nat
  | 0 => 1
  | e + 1 => 3 * szB e + 1
def bd : Nat → Nat
  | 0 => 4
  | e + 1 => 3 * bd e + 6
theorem szB_pos : ∀ e, 1 ≤ szB e
  | 0 => Nat.le_refl _
  | e + 1 => by show 1 ≤ 3 * szB e + 1; omega
theorem bd_ge : ∀ e, 4 ≤ bd e
  | 0 => Nat.le_refl _
  | e + 1 => by show 4 ≤ 3 * bd e + 6; omega
theorem tsAt_ex {H : Hp} {Pr : Tree → Prop} {ys : List V} (h : ∀ (j : Nat) y, ys[j]? = some y → ∃ t, TAt H t y ∧ Pr t) : ∃ ts : List Tree, TsAt H ts ys ∧ ts.length = ys.length ∧ ∀ t ∈ ts, Pr t := by
  induction ys with
  | nil => exact ⟨[], rfl, rfl, fun t ht => (List.not_mem_nil ht).elim⟩
  | cons y r ih =>
    obtain ⟨t, h1, h2⟩ := h 0 y rfl
    obtain ⟨ts, g1, g2, g3⟩ := ih fun j z hz => h (j + 1) z (by simpa using hz)
    refine ⟨t :: ts, DAts.cons h1 g1, by rw [List.length_cons, g2, List.length_cons], fun u hu => ?_⟩
    rcases List.mem_cons.mp hu with rfl | hu
    · exact h2
    · exact g3 u hu
def menu (wd : Nat) : List V := (List.replicate 3 (rgV 0 wd)).flatten ++ [V.int wd]
theorem menu3 (wd : Nat) : (List.replicate 3 (rgV 0 wd)).flatten = rgV 0 wd ++ (rgV 0 wd ++ (rgV 0 wd ++ [])) := rfl
theorem rg_len (wd : Nat) : (rgV 0 (wd : Int)).length = wd := by rw [rgV_length]; omega
theorem menu_len (wd : Nat) : (menu wd).length = 3 * wd + 1 := by
  unfold menu
  rw [menu3, List.length_append, List.length_append, List.length_append, List.length_append, rg_len]
  simp
  omega
theorem rg_mem {wd : Nat} {v : V} (h : v ∈ rgV 0 (wd : Int)) : ∃ i : Nat, i < wd ∧ v = .int i := by
  unfold rgV at h
  obtain ⟨i, hi, rfl⟩ := List.mem_map.mp h
  rw [List.mem_range] at hi
  exact ⟨i, by omega, by rw [Int.zero_add]⟩
theorem menu_mem {wd : Nat} {v : V} (h : v ∈ menu wd) : ∃ i : Nat, i ≤ wd ∧ v = .int i := by
  unfold menu at h
  rcases List.mem_append.mp h with h | h
  · obtain ⟨l, hl, hv⟩ := List.mem_flatten.mp h
    rw [List.eq_of_mem_replicate hl] at hv
    obtain ⟨i, h1, h2⟩ := rg_mem hv
    exact ⟨i, by omega, h2⟩
  · exact ⟨wd, Nat.le_refl _, List.mem_singleton.mp h⟩
section
variable {P : Program} {w : World} {K : PySem.W.Frag} {mg : Str → Option Value} {base : Heap} {A0 : Ad} {f : Addr} {fd : FuncData}

abbrev N_l_tree_of : List Str := ["_law_pen", "_law_letters", "_law_width", "_law_many", "_law_depth", "_law_way", "_law_place", "_law_letter"]
theorem sc_l_tree_of : FnScope N_l_tree_of ["_law_pen", "_law_letters", "_law_width", "_law_many", "_law_depth"] (defScope s_l_tree_of) := ⟨rfl, rfl, rfl, by decide +kernel, rfl, by decide +kernel, by decide +kernel⟩
def spTreeOf (d : Nat) : Sp := fun vs H Q _ => ∃ (p c : Addr) (n wd many e : Nat) (L : List Nat), vs = [.ref p, .str (S L), .int wd, .int many, .int e] ∧ Pen H p c (n + bd e) ∧ e < d ∧ L.length ≤ 3 ∧ 1 ≤ wd ∧ wd ≤ 8 ∧ 1 ≤ many ∧ many ≤ 100 ∧
  ∀ H' t v, Ext [p] H H' → Pen H' p c n → TAt H' t v → t.ok L.length wd many → t.depth ≤ e + 1 → t.size ≤ szB e → Q v H'
theorem ok_tree_of (T : Tx K mg A0) (D_l_draw : Dfn P w K mg base 1 "_law_draw" ["_law_pen", "_law_many"] spDraw) (D_l_pick : Dfn P w K mg base 2 "_law_pick" ["_law_pen", "_law_menu"] spPick) (F : Fd K "_law_tree_of" "_law_tree_of" s_l_tree_of f fd)
    (hm : mg "_law_tree_of" = some (.ref f)) (hk : PySem.W.keepIn K (.ref f) = true) (hb : Binds K fd ["_law_pen", "_law_letters", "_law_width", "_law_many", "_law_depth"] []) : ∀ d, FnOk P w K mg base CX0 (d + 2) f fd ["_law_pen", "_law_letters", "_law_width", "_law_many", "_law_depth"] (spTreeOf d)
  | 0 => by
    refine fok F sc_l_tree_of (fun vs H Q E h => ?_) (fun cdv A outer s0 H vs Q E hr h => ?_)
    · obtain ⟨_, _, _, _, _, _, _, rfl, _⟩ := h
      rfl
    · obtain ⟨_, _, _, _, _, _, _, _, _, he, _⟩ := h
      omega
  | d + 1 => by
    have D_l_tree_of : Dfn P w K mg base (d + 2) "_law_tree_of" ["_law_pen", "_law_letters", "_law_width", "_law_many", "_law_depth"] (spTreeOf d) := ⟨f, fd, ok_tree_of T D_l_draw D_l_pick F hm hk hb d, hm, hk, hb⟩
    refine fok F sc_l_tree_of (fun vs H Q E h => ?_) (fun cdv A outer s0 H vs Q E hr h => ?_)
    · obtain ⟨_, _, _, _, _, _, _, rfl, _⟩ := h
      rfl
    · obtain ⟨p, c, n, wd, many, e, L, rfl, hP, he, hL, hw1, hw8, hm1, hm2, q⟩ := h
      refine ⟨_, (C8.pss_cut (ps_set (i := 5) sc_l_tree_of.nd rfl (.inl rfl) (pe_ifExp (pt_cmpR op_gt (pv 4) pe_int (nomark _)) (pe_d D_l_draw (hr.mono (by omega)) (pa_cons (pv 0) (pa_cons pe_int pa_nil))) pe_int))
      (pss_cons (ps_if (pt_cmpR op_eq (pv 5) pe_int (nomark _))
       (pss_one (ps_ret (pe_tup (pa_cons pe_str (pa_cons (pe_d D_l_draw (hr.mono (by omega)) (pa_cons (pv 0) (pa_cons pe_int pa_nil))) (pa_cons (pe_d D_l_tree_of (hr.mono (by omega)) (pa_cons (pv 0) (pa_cons (pv 1) (pa_cons (pv 2) (pa_cons (pv 3) (pa_cons pe_int pa_nil)))))) pa_nil))))))
       pss_nil)
      (pss_cons (ps_if (pt_cmpR op_lt (pv 5) pe_int (nomark _))
       (pss_one (ps_ret (pe_tup (pa_cons pe_str (pa_cons (pe_op op_add pe_int (pe_d D_l_draw (hr.mono (by omega)) (pa_cons (pv 0) (pa_cons (pe_op op_add (pv 2) pe_int) pa_nil)))) (pa_cons (pe_d D_l_draw (hr.mono (by omega)) (pa_cons (pv 0) (pa_cons (pv 3) pa_nil))) pa_nil))))))
       pss_nil)
      (pss_cons (ps_set (i := 6) sc_l_tree_of.nd rfl (.inl rfl) (pe_d D_l_pick (hr.mono (by omega)) (pa_cons (pv 0) (pa_cons (pe_op op_cat (pe_op op_rep (pe_listRg rfl (by rfl) T.list (prg_1 (by rfl) T.range (pv 2))) pe_int) (pe_lst (pa_cons (pv 2) pa_nil))) pa_nil))))
      (pss_one (ps_ret (pe_tup (pa_cons pe_str (pa_cons (pv 6) (pa_cons (pe_callTy call_tuple_of (by rfl) T.tuple (by decide +kernel) (pa_cons (pe_lc (own := [("_law_letter", 7)]) (g := gName 7) (tt := tYes) rfl sc_l_tree_of.nd (pi_str (pv 1)) (blkOk_by (N := N_l_tree_of) (sc := defScope s_l_tree_of) (by decide +kernel)) (fun _ _ _ _ _ => (pg_name (i := 7) sc_l_tree_of.nd rfl (.inl rfl))) (fun _ _ _ _ _ => pts_nil) (fun _ _ _ _ _ => (pe_d D_l_tree_of (hr.mono (by omega)) (pa_cons (pv 0) (pa_cons (pv 1) (pa_cons (pv 2) (pa_cons (pv 3) (pa_cons (pe_op op_sub (pv 4) pe_int) pa_nil)))))))) pa_nil)) pa_nil)))))))))), ?_⟩
      have hb4 := bd_ge e
      -- the way
      refine ⟨fun σ H' => ∃ r : Nat, σ = [some (.ref p), some (.str (S L)), some (.int wd), some (.int many), some (.int e), some (.int r), none, none] ∧ Ext [p] H H' ∧ Pen H' p c (n + (bd e - 1)) ∧ (e = 0 → r < 2), ?_, ?_⟩
      · refine ⟨_, rfl, _, _, rfl, rfl, _, rfl, iteD2 (fun h0 => ?_) (fun h0 => ?_)⟩
        · refine ⟨_, rfl, p, c, n + (bd e - 1), _, rfl, hP.le (by omega), by decide, by decide, fun H1 r x1 hP1 hr1 => ⟨r, rfl, x1, hP1, fun z => ?_⟩⟩
          have : (e : Int) > 0 := h0
          omega
        · exact ⟨0, rfl, Ext.refl, hP.le (by omega), fun _ => by omega⟩
      rintro σ H1 ⟨r, rfl, x1, hP1, hr0⟩
      refine ⟨_, rfl, rfl, _, rfl, iteD2 (fun h5 => ?_) (fun h5 => ?_)⟩
      · -- tell
        have hr5 : r = 5 := by
          have := V.int.inj h5
          omega
        obtain ⟨e', rfl⟩ := Nat.exists_eq_succ_of_ne_zero (show e ≠ 0 from fun z => by have := hr0 z; omega)
        have hbe : bd (e' + 1) = 3 * bd e' + 6 := rfl
        have hbe' := bd_ge e'
        refine ⟨_, rfl, p, c, n + 4, _, rfl, hP1.le (by rw [hbe]; omega), by decide, by decide, fun H2 m x2 hP2 hm => ?_⟩
        refine ⟨_, rfl, _, rfl, _, rfl, _, rfl, p, c, n, wd, many, 0, L, rfl, hP2, by omega, hL, hw1, hw8, hm1, hm2, fun H3 t v x3 hP3 ht hok hd hs => ?_⟩
        refine ⟨small (by show 3 ≤ 100000; omega), fun p1 np1 => ?_⟩
        have x4 : Ext [] H3 (upd H3 p1 (.tup [.str "tell", .int m, v])) := Ext.refl.fresh np1
        have hsz := szB_pos e'
        exact q _ (.tell m t) _ ((x1.trans x2).trans (x3.trans x4.any)) (hP3.ext0 x4) (mk_tell np1 ht) ⟨by omega, by omega, hok⟩ (by show t.depth + 1 ≤ _; omega) (by show t.size + 1 ≤ 3 * szB e' + 1; have : szB 0 = 1 := rfl; omega)
      refine ⟨_, rfl, _, _, rfl, rfl, _, rfl, iteD2 (fun h2 => ?_) (fun h2 => ?_)⟩
      · -- go
        refine ⟨_, rfl, _, rfl, _, _, rfl, rfl, p, c, n + 1, _, rfl, hP1.le (by omega), by omega, by omega, fun H2 s x2 hP2 hs => ?_⟩
        refine ⟨_, _, rfl, rfl, _, rfl, _, rfl, p, c, n, _, rfl, hP2, by omega, by omega, fun H3 q1 x3 hP3 hq1 => ?_⟩
        refine ⟨small (by show 3 ≤ 100000; omega), fun p1 np1 => ?_⟩
        have x4 : Ext [] H3 (upd H3 p1 (.tup [.str "go", .int (1 + (s : Int)), .int q1])) := Ext.refl.fresh np1
        exact q _ (.go (1 + (s : Int)) q1) _ ((x1.trans x2).trans (x3.trans x4.any)) (hP3.ext0 x4) (mk_go np1) ⟨by omega, by omega, by omega, by omega⟩ (by show 1 ≤ _; omega) (szB_pos e)
      · -- read
        have hr2 : ¬ (r : Int) < 2 := h2
        obtain ⟨e', rfl⟩ := Nat.exists_eq_succ_of_ne_zero (show e ≠ 0 from fun z => by have := hr0 z; omega)
        have hbe : bd (e' + 1) = 3 * bd e' + 6 := rfl
        have hbe' := bd_ge e'
        have hLb : L.length * bd e' ≤ 3 * bd e' := Nat.mul_le_mul_right _ hL
        refine ⟨_, rfl, _, rfl, _, rfl, RgOk.of_le (by omega) (by omega) (by omega) (by omega), fun l1 nl1 => ?_⟩
        refine ⟨l1, _, _, rfl, rfl, upd_same, by decide, by decide, small (by rw [rg_len]; show wd * 3 ≤ _; omega), fun l2 nl2 => ?_⟩
        refine ⟨_, rfl, small (by show 1 ≤ 100000; omega), fun l3 nl3 => ?_⟩
        have h23 : l2 ≠ l3 := fun z => by
          rw [z, upd_same] at nl3
          cases nl3
        refine ⟨l2, l3, _, _, rfl, rfl, (upd_ne h23).trans upd_same, upd_same, small ?_, fun l4 nl4 => ?_⟩
        · have := menu_len wd
          unfold menu at this
          rw [List.length_append] at this
          show ((List.replicate 3 (rgV 0 (wd : Int))).flatten).length + [V.int wd].length ≤ _
          omega
        have x2 : Ext [] H1 (upd (upd (upd (upd H1 l1 (.lst (rgV 0 (wd : Int)))) l2 (.lst (List.replicate 3 (rgV 0 (wd : Int))).flatten)) l3 (.lst [.int wd])) l4 (.lst (menu wd))) := (((Ext.refl.fresh nl1).fresh nl2).fresh nl3).fresh nl4
        refine ⟨p, c, n + L.length * bd e', _, rfl, (hP1.ext0 x2).le (by rw [hbe]; omega), .inr ⟨l4, menu wd, rfl, upd_same, by rw [menu_len]; omega, by rw [menu_len]; omega, fun H3 r3 v3 x3 hP3 hv3 => ?_⟩⟩
        obtain ⟨pl, hpl, rfl⟩ := menu_mem (List.mem_of_getElem? hv3)
        have x13 : Ext [p] H H3 := (x1.trans x2.any).trans x3
        refine ⟨_, rfl, _, rfl, S L, rfl, fun D nD => ?_⟩
        have hDp := hP3.neP nD
        have hDc := hP3.neC nD
        refine lc_rel walk_str (fun i H' => Ext [p] H H' ∧ Pen H' p c (n + (L.length - i) * bd e')) (fun j H' y => ∃ t, TAt H' t y ∧ (t.ok L.length wd many ∧ t.depth ≤ e' + 1 ∧ t.size ≤ szB e')) (by show L.length ≤ _; omega) ⟨x13.fresh nD, hP3.new (H0 := H) hDp hDc⟩ (fun _ _ _ _ => trivial) (fun _ _ _ _ tt ⟨t, e1, e2⟩ => ⟨t, DAt.ext tt _ _ e1, e2⟩) (fun i H' o h => ⟨?_, h.2.new (H0 := H) hDp hDc⟩) ?_ ?_
        · exact h.1.new (x13.none (by simpa using hDp.symm) nD)
        · rintro i x H4 _ Nx hi ⟨x4, hP4⟩ ⟨zs, hz⟩ ⟨rfl, ch, hch, rfl⟩ nx
          have hi' : i < L.length := hi
          have hsplit : (L.length - i) * bd e' = (L.length - (i + 1)) * bd e' + bd e' := by
            rw [show L.length - i = L.length - (i + 1) + 1 by omega, Nat.succ_mul]
          have hPn := hP4.le (m := n + (L.length - (i + 1)) * bd e' + bd e') (by omega)
          refine ⟨rfl, _, rfl, _, rfl, _, rfl, _, rfl, _, rfl, _, _, rfl, rfl, p, c, _, wd, many, e', L, ?_, hPn, by omega, hL, hw1, hw8, hm1, hm2, fun H5 t v x5 hP5 ht hok hd hs => ?_⟩
          · show [_, _, _, _, V.int (((e' + 1 : Nat) : Int) - 1)] = _
            rw [show (((e' + 1 : Nat) : Int) - 1) = (e' : Int) by omega]
          · exact nx v H5 ⟨x4.trans x5, hP5⟩ x5.tups ((x5.keep _ _ hz (by simpa using hDp.symm)).trans hz.symm) ⟨t, ht, hok, hd, hs⟩
        · rintro H4 ys ⟨x4, hP4⟩ hD hys hR
          obtain ⟨ts, g1, g2, g3⟩ := tsAt_ex hR
          have hys' : ys.length = L.length := hys
          refine ⟨D, ys, rfl, .inl ⟨SqL.of hD, fun p1 np1 => ?_⟩⟩
          refine ⟨small (by show 3 ≤ 100000; omega), fun p2 np2 => ?_⟩
          have x5 : Ext [] H4 (upd (upd H4 p1 (.tup ys)) p2 (.tup [.str "read", .int pl, .ref p1])) := (Ext.refl.fresh np1).fresh np2
          have g1' := (Ext.refl (m := [])|>.fresh (o := .tup ys) np1).dats g1
          refine q _ (.read pl ts) _ (x4.trans x5.any) ((hP4.ext0 x5).le (by omega)) (mk_read np2 upd_same g1') ⟨by omega, by omega, by omega, oks_iff.mpr fun t ht => (g3 t ht).1⟩ ?_ ?_
          · show depths ts + 1 ≤ _
            have := depths_le (ts := ts) (d := e' + 1) fun t ht => (g3 t ht).2.1
            omega
          · show sizes ts + 1 ≤ 3 * szB e' + 1
            have h1 := sizes_le (ts := ts) (m := szB e') fun t ht => (g3 t ht).2.2
            have h2 : ts.length * szB e' ≤ 3 * szB e' := Nat.mul_le_mul_right _ (by omega)
            omega
end
end K21

set_option Elab.async false
set_option linter.all false
set_option maxRecDepth 100000
set_option maxHeartbeats 4000000
/-! trees bent -/
namespace K21
open PySem PySem.Spec PyProof.Rows L2
theorem drop_at {α : Type} {l : List α} {j : Nat} {e : α} (h : l[j]? = some e) : l.drop j = e :: l.drop (j + 1) := by
  obtain ⟨hj, rfl⟩ := List.getElem?_eq_some_iff.mp h
  exact List.drop_eq_getElem_cons hj
theorem sizes_ptw : ∀ {us ts : List Tree}, us.length = ts.length → (∀ (i : Nat) (u t : Tree), us[i]? = some u → ts[i]? = some t → u.size ≤ t.size ∧ u.depth ≤ t.depth) → sizes us ≤ sizes ts ∧ depths us ≤ depths ts
  | [], [], _, _ => ⟨Nat.le_refl _, Nat.le_refl _⟩
  | [], _ :: _, h, _ => by simp at h
  | _ :: _, [], h, _ => by simp at h
  | u :: us, t :: ts, h, hp => by
    obtain ⟨h1, h2⟩ := hp 0 u t rfl rfl
    obtain ⟨h3, h4⟩ := sizes_ptw (us := us) (ts := ts) (by simpa using h) fun i u t hu ht => hp (i + 1) u t (by simpa using hu) (by simpa using ht)
    refine ⟨?_, ?_⟩
    · show u.size + sizes us ≤ t.size + sizes ts
      omega
    · show max u.depth (depths us) ≤ max t.depth (depths ts)
      omega
theorem tsAt_ex2 {H : Hp} {Pr : Nat → Tree → Prop} {ys : List V} (h : ∀ (j : Nat) y, ys[j]? = some y → ∃ t, TAt H t y ∧ Pr j t) : ∃ ts : List Tree, TsAt H ts ys ∧ ts.length = ys.length ∧ ∀ (j : Nat) t, ts[j]? = some t → Pr j t := by
  induction ys generalizing Pr with
  | nil => exact ⟨[], rfl, rfl, fun j t ht => by simp at ht⟩
  | cons y r ih =>
    obtain ⟨t, h1, h2⟩ := h 0 y rfl
    obtain ⟨ts, g1, g2, g3⟩ := ih (Pr := fun j t => Pr (j + 1) t) fun j z hz => h (j + 1) z (by simpa using hz)
    refine ⟨t :: ts, DAts.cons h1 g1, by rw [List.length_cons, g2, List.length_cons], fun j u hu => ?_⟩
    cases j with
    | zero =>
      have e : t = u := by simpa using hu
      subst e
      exact h2
    | succ j => exact g3 j u (by simpa using hu)
section
variable {P : Program} {w : World} {K : PySem.W.Frag} {mg : Str → Option Value} {base : Heap} {A0 : Ad} {f : Addr} {fd : FuncData}

abbrev N_l_bent_tree : List Str := ["_law_pen", "_law_tree", "_law_width", "_law_many", "_law_chance", "_law_changed", "_law_below", "_law_place", "_law_one"]
theorem sc_l_bent_tree : FnScope N_l_bent_tree ["_law_pen", "_law_tree", "_law_width", "_law_many", "_law_chance"] (defScope s_l_bent_tree) := ⟨rfl, rfl, rfl, by decide +kernel, rfl, by decide +kernel, by decide +kernel⟩
def spBent (d : Nat) : Sp := fun vs H Q _ => ∃ (p c : Addr) (n wd many ch nl : Nat) (t : Tree) (v : V), vs = [.ref p, v, .int wd, .int many, .int ch] ∧ Pen H p c (n + 4 * t.size) ∧ TAt H t v ∧ t.ok nl wd many ∧ nl ≤ 100 ∧ t.depth ≤ d ∧ wd ≤ 8 ∧ 1 ≤ many ∧ many ≤ 100 ∧ 1 ≤ ch ∧ ch ≤ 1000 ∧
  ∀ H' t' v', Ext [p] H H' → Pen H' p c n → TAt H' t' v' → t'.ok nl wd many → t'.depth ≤ t.depth → t'.size ≤ t.size → Q v' H'
theorem ok_bent (T : Tx K mg A0) (D_l_draw : Dfn P w K mg base 1 "_law_draw" ["_law_pen", "_law_many"] spDraw) (F : Fd K "_law_bent_tree" "_law_bent_tree" s_l_bent_tree f fd)
    (hm : mg "_law_bent_tree" = some (.ref f)) (hk : PySem.W.keepIn K (.ref f) = true) (hb : Binds K fd ["_law_pen", "_law_tree", "_law_width", "_law_many", "_law_chance"] []) : ∀ d, FnOk P w K mg base CX0 (d + 2) f fd ["_law_pen", "_law_tree", "_law_width", "_law_many", "_law_chance"] (spBent d)
  | 0 => by
    refine fok F sc_l_bent_tree (fun vs H Q E h => ?_) (fun cdv A outer s0 H vs Q E hr h => ?_)
    · obtain ⟨_, _, _, _, _, _, _, _, _, rfl, _⟩ := h
      rfl
    · obtain ⟨_, _, _, _, _, _, _, t, _, _, _, _, _, _, hd, _⟩ := h
      have := depth_pos t
      omega
  | d + 1 => by
    have D_l_bent_tree : Dfn P w K mg base (d + 2) "_law_bent_tree" ["_law_pen", "_law_tree", "_law_width", "_law_many", "_law_chance"] (spBent d) := ⟨f, fd, ok_bent T D_l_draw F hm hk hb d, hm, hk, hb⟩
    refine fok F sc_l_bent_tree (fun vs H Q E h => ?_) (fun cdv A outer s0 H vs Q E hr h => ?_)
    · obtain ⟨_, _, _, _, _, _, _, _, _, rfl, _⟩ := h
      rfl
    · obtain ⟨p, c, n, wd, many, ch, nl, t, v, rfl, hP, ht, hok, hnl, hd, hw8, hm1, hm2, hc1, hc2, q⟩ := h
      refine ⟨_, (pss_cons (ps_set (i := 5) sc_l_bent_tree.nd rfl (.inl rfl) (pe_cmpR op_eq (pe_d D_l_draw (hr.mono (by omega)) (pa_cons (pv 0) (pa_cons (pv 4) pa_nil))) pe_int (nomark _)))
      (pss_cons (ps_if (pt_cmpR op_eq (pe_ix ix_tup (pv 1) pe_int (fun _ _ => rfl)) pe_str (nomark _))
       (pss_cons (ps_if (pt_not (pt_val (pv 5)))
         (pss_one (ps_ret (pv 1)))
         pss_nil)
        (pss_one (ps_ret (pe_tup (pa_cons pe_str (pa_cons (pe_op op_add pe_int (pe_d D_l_draw (hr.mono (by omega)) (pa_cons (pv 0) (pa_cons (pe_op op_add (pv 2) pe_int) pa_nil)))) (pa_cons (pe_d D_l_draw (hr.mono (by omega)) (pa_cons (pv 0) (pa_cons (pv 3) pa_nil))) pa_nil)))))))
       pss_nil)
      (pss_cons (ps_if (pt_cmpR op_eq (pe_ix ix_tup (pv 1) pe_int (fun _ _ => rfl)) pe_str (nomark _))
       (pss_cons (ps_set (i := 6) sc_l_bent_tree.nd rfl (.inl rfl) (pe_d D_l_bent_tree (hr.mono (by omega)) (pa_cons (pv 0) (pa_cons (pe_ix ix_tup (pv 1) pe_int (fun _ _ => rfl)) (pa_cons (pv 2) (pa_cons (pv 3) (pa_cons (pv 4) pa_nil)))))))
        (pss_one (ps_ret (pe_ifExp (pt_val (pv 5)) (pv 6) (pe_tup (pa_cons pe_str (pa_cons (pe_ix ix_tup (pv 1) pe_int (fun _ _ => rfl)) (pa_cons (pv 6) pa_nil))))))))
       pss_nil)
      (pss_cons (ps_setLc (i := 6) (own := [("_law_one", 8)]) (g := gName 8) (tt := tYes) rfl sc_l_bent_tree.nd rfl rfl (sw_true rfl rfl rfl (by decide +kernel)) (pi_tup (pe_ix ix_tup (pv 1) pe_int (fun _ _ => rfl))) (blkOk_by (N := N_l_bent_tree) (sc := defScope s_l_bent_tree) (by decide +kernel)) (fun _ _ _ _ _ => (pg_name (i := 8) sc_l_bent_tree.nd rfl (.inl rfl))) (fun _ _ _ _ _ => pts_nil) (fun _ _ _ _ _ => (pe_d D_l_bent_tree (hr.mono (by omega)) (pa_cons (pv 0) (pa_cons (pv 8) (pa_cons (pv 2) (pa_cons (pv 3) (pa_cons (pv 4) pa_nil))))))))
      (C8.pss_cut (ps_set (i := 7) sc_l_bent_tree.nd rfl (.inl rfl) (pe_ifExp (PW.pt (pw_and (pt_val (pv 5)) (pw_and1 (pt_cmpR op_eq (pe_d D_l_draw (hr.mono (by omega)) (pa_cons (pv 0) (pa_cons pe_int pa_nil))) pe_int (nomark _))))) (pe_d D_l_draw (hr.mono (by omega)) (pa_cons (pv 0) (pa_cons (pe_op op_add (pv 2) pe_int) pa_nil))) (pe_ix ix_tup (pv 1) pe_int (fun _ _ => rfl))))
      (pss_one (ps_ret (pe_tup (pa_cons pe_str (pa_cons (pv 7) (pa_cons (pe_callTy call_tuple_of (by rfl) T.tuple (by decide +kernel) (pa_cons (pv 6) pa_nil)) pa_nil))))))))))), ?_⟩
      have hsp := size_pos t
      refine ⟨_, rfl, _, rfl, p, c, n + 4 * t.size - 1, _, rfl, hP.le (by omega), by omega, by omega, fun H1 r x1 hP1 hr1 => ?_⟩
      refine ⟨rfl, ?_⟩
      generalize hb0 : decide (V.int (r : Int) = V.int 0) = b
      have ht1 := x1.dat ht
      cases t with
      | go s q0 =>
        obtain ⟨ta, rfl, h⟩ := at_go ht1
        have hsz : (Tree.go s q0).size = 1 := rfl
        refine ⟨_, rfl, _, _, _, _, rfl, rfl, SqT.of h, tup_at (j := 0) rfl, rfl, _, rfl, iteD rfl ?_⟩
        refine ⟨_, rfl, b, rfl, ?_⟩
        cases b with
        | false =>
          exact ⟨_, rfl, q _ _ _ x1 (hP1.le (by omega)) ht1 hok (Nat.le_refl _) (Nat.le_refl _)⟩
        | true =>
          refine ⟨_, rfl, _, rfl, _, _, rfl, rfl, p, c, n + 1, _, rfl, hP1.le (by omega), by omega, by omega, fun H2 s x2 hP2 hs => ?_⟩
          refine ⟨_, _, rfl, rfl, _, rfl, _, rfl, p, c, n, _, rfl, hP2, by omega, by omega, fun H3 q1 x3 hP3 hq1 => ?_⟩
          refine ⟨small (by show 3 ≤ 100000; omega), fun p1 np1 => ?_⟩
          have x4 : Ext [] H3 (upd H3 p1 (.tup [.str "go", .int (1 + (s : Int)), .int q1])) := Ext.refl.fresh np1
          exact q _ (.go (1 + (s : Int)) q1) _ (x1.trans (x2.trans (x3.trans x4.any))) (hP3.ext0 x4) (mk_go np1) ⟨by omega, by omega, by omega, by omega⟩ (Nat.le_refl 1) (Nat.le_refl 1)
      | tell m t =>
        obtain ⟨ta, tv, rfl, h, htv⟩ := at_tell ht1
        have hsz : (Tree.tell m t).size = t.size + 1 := rfl
        refine ⟨_, rfl, _, _, _, _, rfl, rfl, SqT.of h, tup_at (j := 0) rfl, rfl, _, rfl, iteN (by decide +kernel) ?_⟩
        refine ⟨_, rfl, _, _, _, _, rfl, rfl, SqT.of h, tup_at (j := 0) rfl, rfl, _, rfl, iteD rfl ?_⟩
        refine ⟨_, rfl, _, rfl, _, _, _, _, rfl, rfl, SqT.of h, tup_at (j := 2) rfl, _, rfl, _, rfl, _, rfl, p, c, n, wd, many, ch, nl, t, tv, rfl, hP1.le (by omega), htv, hok.2.2, hnl, by simp only [Tree.depth] at hd; omega, hw8, hm1, hm2, hc1, hc2, fun H2 t2 v2 x2 hP2 ht2 hok2 hd2 hs2 => ?_⟩
        refine ⟨_, rfl, b, rfl, ?_⟩
        cases b with
        | true => exact ⟨_, rfl, q _ _ _ (x1.trans x2) hP2 ht2 hok2 (Nat.le_succ_of_le hd2) (Nat.le_succ_of_le hs2)⟩
        | false =>
          refine ⟨_, rfl, _, _, _, _, rfl, rfl, SqT.of (x2.tups _ _ h), tup_at (j := 1) rfl, _, rfl, small (by show 3 ≤ 100000; omega), fun p1 np1 => ?_⟩
          have x4 : Ext [] H2 (upd H2 p1 (.tup [.str "tell", .int m, v2])) := Ext.refl.fresh np1
          exact q _ (.tell m t2) _ (x1.trans (x2.trans x4.any)) (hP2.ext0 x4) (mk_tell np1 ht2) ⟨hok.1, hok.2.1, hok2⟩ (Nat.succ_le_succ hd2) (Nat.succ_le_succ hs2)
      | read pl ts =>
        obtain ⟨ta, tb, txs, rfl, h, htb, htxs⟩ := at_read ht1
        have hsz : (Tree.read pl ts).size = sizes ts + 1 := rfl
        obtain ⟨o1, o2, o3, o4⟩ := hok
        obtain ⟨pl, rfl⟩ := Int.eq_ofNat_of_zero_le o1
        refine ⟨_, rfl, _, _, _, _, rfl, rfl, SqT.of h, tup_at (j := 0) rfl, rfl, _, rfl, iteN (by decide +kernel) ?_⟩
        refine ⟨_, rfl, _, _, _, _, rfl, rfl, SqT.of h, tup_at (j := 0) rfl, rfl, _, rfl, iteN (by decide +kernel) ?_⟩
        refine ⟨_, rfl, _, _, _, _, rfl, rfl, SqT.of h, tup_at (j := 2) rfl, tb, rfl, ⟨_, SqT.of htb⟩, fun D nD => ?_⟩
        have hDp := hP1.neP nD
        have hDc := hP1.neC nD
        have hlen : txs.length = ts.length := by rw [htxs.length, encs_length]
        refine lc_rel walk_tup (fun i H' => Ext [p] H1 H' ∧ Pen H' p c (n + 3 + 4 * sizes (ts.drop i))) (fun j H' y => ∃ u, TAt H' u y ∧ (u.ok nl wd many ∧ ∀ t, ts[j]? = some t → u.size ≤ t.size ∧ u.depth ≤ t.depth)) (by omega) ⟨Ext.refl.new nD, (hP1.le (by rw [List.drop_zero]; omega)).new (H0 := H) hDp hDc⟩ (fun _ _ _ x => SqT.of (x.1.tups _ _ htb)) (fun _ _ _ _ tt ⟨t, e1, e2⟩ => ⟨t, DAt.ext tt _ _ e1, e2⟩) (fun i H' o h => ⟨h.1.new nD, h.2.new (H0 := H) hDp hDc⟩) ?_ ?_
        · rintro i y H4 _ Nx hi ⟨x4, hP4⟩ ⟨zs, hz⟩ ⟨rfl, hy⟩ nx
          obtain ⟨d', hd', hy'⟩ := htxs.get' hy
          obtain ⟨u, hu, rfl⟩ := encs_get' hd'
          have hmem := List.mem_of_getElem? hu
          rw [drop_at hu] at hP4
          have hPn := hP4.le (m := n + 3 + 4 * sizes (ts.drop (i + 1)) + 4 * u.size) (by show _ ≤ n + 3 + 4 * (u.size + sizes _); omega)
          refine ⟨rfl, _, rfl, _, rfl, _, rfl, _, rfl, _, rfl, p, c, _, wd, many, ch, nl, u, y, rfl, hPn, x4.dat hy', oks_iff.mp o4 u hmem, hnl, by have := depths_mem hmem; simp only [Tree.depth] at hd; omega, hw8, hm1, hm2, hc1, hc2, fun H5 t2 v2 x5 hP5 ht2 hok2 hd2 hs2 => ?_⟩
          exact nx v2 H5 ⟨x4.trans x5, hP5⟩ x5.tups ((x5.keep _ _ hz (by simpa using hDp.symm)).trans hz.symm) ⟨t2, ht2, hok2, fun t ht => by
            rw [hu] at ht
            cases ht
            exact ⟨hs2, hd2⟩⟩
        · rintro H4 ys ⟨x4, hP4⟩ hD hys hR
          obtain ⟨us, g1, g2, g3⟩ := tsAt_ex2 hR
          have hpt := sizes_ptw (us := us) (ts := ts) (by omega) fun i u t hu ht => (g3 i u hu).2 t ht
          have hPz := hP4.le (m := n + 3) (by omega)
          refine ⟨fun σ H' => ∃ pl2 : Nat, pl2 ≤ wd ∧ σ = [some (.ref p), some (.ref ta), some (.int wd), some (.int many), some (.int ch), some (.bl b), some (.ref D), some (.int pl2), none] ∧ Ext [p] H4 H' ∧ Pen H' p c n, ?_, ?_⟩
          · have hold : ∀ H' k, Ext [p] H4 H' → Pen H' p c (n + k) → ∃ pl2 : Nat, pl2 ≤ wd ∧ [some (V.ref p), some (.ref ta), some (.int wd), some (.int many), some (.int ch), some (.bl b), some (.ref D), some (.int (pl : Int)), none] = [some (.ref p), some (.ref ta), some (.int wd), some (.int many), some (.int ch), some (.bl b), some (.ref D), some (.int pl2), none] ∧ Ext [p] H4 H' ∧ Pen H' p c n :=
              fun H' k x hP => ⟨pl, by omega, rfl, x, hP.le (by omega)⟩
            refine ⟨_, rfl, b, rfl, ?_⟩
            cases b with
            | false => exact ⟨_, rfl, _, _, _, _, rfl, rfl, SqT.of (x4.tups _ _ h), tup_at (j := 1) rfl, hold _ 3 Ext.refl hPz⟩
            | true =>
              refine ⟨_, rfl, p, c, n + 2, _, rfl, hPz, by decide, by decide, fun H5 r5 x5 hP5 hr5 => ⟨rfl, _, rfl, iteD2 (fun _ => ?_) (fun _ => ?_)⟩⟩
              · refine ⟨_, rfl, _, rfl, _, _, rfl, rfl, p, c, n + 1, _, rfl, hP5, by omega, by omega, fun H6 r6 x6 hP6 hr6 => ⟨r6, by omega, rfl, x5.trans x6, hP6.le (by omega)⟩⟩
              · exact ⟨_, rfl, _, _, _, _, rfl, rfl, SqT.of (x5.tups _ _ (x4.tups _ _ h)), tup_at (j := 1) rfl, hold _ 2 x5 hP5⟩
          · rintro σ H5 ⟨pl2, hpl2, rfl, x5, hP5⟩
            have hD5 := x5.keep _ _ hD (by simpa using hDp.symm)
            refine ⟨_, rfl, _, rfl, D, ys, rfl, .inl ⟨SqL.of hD5, fun p1 np1 => ?_⟩⟩
            refine ⟨small (by show 3 ≤ 100000; omega), fun p2 np2 => ?_⟩
            have x6 : Ext [] H5 (upd (upd H5 p1 (.tup ys)) p2 (.tup [.str "read", .int pl2, .ref p1])) := (Ext.refl.fresh np1).fresh np2
            have g1' := (Ext.refl (m := [])|>.fresh (o := .tup ys) np1).dats (x5.dats g1)
            refine q _ (.read pl2 us) _ (x1.trans (x4.trans (x5.trans x6.any))) (hP5.ext0 x6) (mk_read np2 upd_same g1') ⟨by omega, by omega, by omega, oks_iff.mpr fun t ht => ?_⟩ (Nat.succ_le_succ hpt.2) (Nat.succ_le_succ hpt.1)
            obtain ⟨j, hj⟩ := List.mem_iff_getElem?.mp ht
            exact (g3 j t hj).1
end
end K21

set_option Elab.async false
set_option linter.all false
set_option maxRecDepth 100000
set_option maxHeartbeats 4000000
/-! makers.py: borders, steps, last places -/
namespace K21
open PySem PySem.Spec PyProof.Rows L2
structure Bord (ns : List Int) (wd : Nat) : Prop where
  len : ns.length = wd + 1
  z : ns[0]? = some (-1)
  lt : ∀ (i : Nat) x, 1 ≤ i → ns[i]? = some x → 0 ≤ x ∧ x < (i : Int)
section
variable {P : Program} {w : World} {K : PySem.W.Frag} {mg : Str → Option Value} {base : Heap} {A0 : Ad} {f : Addr} {fd : FuncData}

abbrev N_borders_of : List Str := ["word", "found", "size", "some", "part"]
theorem sc_borders_of : FnScope N_borders_of ["word"] (defScope s_borders_of) := ⟨rfl, rfl, rfl, by decide +kernel, rfl, by decide +kernel, by decide +kernel⟩
def spBorders : Sp := fun vs H Q _ => ∃ l : List Nat, vs = [.str (S l)] ∧ l.length ≤ 8 ∧ ∀ H' a ns, Ext [] H H' → H' a = some (.lst (ns.map V.int)) → Bord ns l.length → Q (.ref a) H'
theorem ok_borders (T : Tx K mg A0) (F : Fd K "borders_of" "borders_of" s_borders_of f fd) : FnOk P w K mg base CX0 1 f fd ["word"] spBorders := by
  refine fok F sc_borders_of (fun vs H Q E h => ?_) (fun cdv A outer s0 H vs Q E hr h => ?_)
  · obtain ⟨_, rfl, _⟩ := h
    rfl
  · obtain ⟨l, rfl, hl, q⟩ := h
    refine ⟨_, (pss_cons (ps_set (i := 1) sc_borders_of.nd rfl (.inl rfl) (pe_lst (pa_cons (pe_un un_neg pe_int) pa_nil)))
      (pss_cons (ps_for PassesOwn.never rfl (pi_range2 (by rfl) T.range (pa_cons pe_int (pa_cons (pe_op op_add (pe_callB call_len_str (by rfl) T.len PySem.boot_len (pa_cons (pv 0) pa_nil)) pe_int) pa_nil))) (pg_name (i := 2) sc_borders_of.nd rfl (.inr rfl))
       (pss_cons (ps_setLc (i := 3) (own := [("part", 4)]) (g := gName 4) rfl sc_borders_of.nd rfl rfl (sw_true rfl rfl rfl (by decide +kernel)) (pi_range1 (by rfl) T.range (pa_cons (pv 2) pa_nil)) (blkOk_by (N := N_borders_of) (sc := defScope s_borders_of) (by decide +kernel)) (fun _ _ _ _ _ => (pg_name (i := 4) sc_borders_of.nd rfl (.inl rfl))) (fun _ _ _ _ _ => (pts_one (pt_cmpR op_eq (pe_slice sl_str (pv 0) po_none (po_some (pv 4))) (pe_slice sl_str (pv 0) (po_some (pe_op op_sub (pv 2) (pv 4))) (po_some (pv 2))) (nomark _)))) (fun _ _ _ _ _ => (pv 4)))
        (pss_one (ps_expr (pe_bm PySem.F.plainAttrs_list PySem.F.slot_list_append PySem.F.type_list_append mt_append (pv 1) (pa_cons (pe_callB (cr_max rfl) (by rfl) T.max (by decide +kernel) (pa_cons (pv 3) pa_nil)) pa_nil))))))
      (pss_one (ps_ret (pv 1))))), ?_⟩
    have eS : (S l).length = l.length := rfl
    refine ⟨_, rfl, small (by show 1 ≤ 100000; omega), fun a na => ?_⟩
    refine ⟨_, rfl, S l, rfl, small (by show l.length ≤ _; omega), _, _, rfl, rfl, _, _, rfl, ⟨by omega, by omega, by omega, by omega⟩, ?_⟩
    have en : (((((S l).length : Nat) : Int) + 1) - 1).toNat = l.length := by rw [eS]; omega
    rw [en]
    refine for_range (fun i σ H' => ∃ (ns : List Int) (s2 s3 s4 : Option V), σ = [some (.str (S l)), some (.ref a), s2, s3, s4] ∧ Ext [] H H' ∧ H' a = some (.lst (ns.map V.int)) ∧ Bord ns i) ⟨[-1], none, none, none, rfl, Ext.refl.fresh na, upd_same, rfl, rfl, fun i x hi hx => ?_⟩ ?_ ?_
    · have := (List.getElem?_eq_some_iff.mp hx).1
      simp at this
      omega
    · rintro i σ H2 hi ⟨ns, s2, s3, s4, rfl, x2, ha, hB⟩
      have hsz : ((1 : Int) + (i : Int)) = ((i + 1 : Nat) : Int) := by omega
      refine ⟨_, rfl, _, rfl, by omega, by omega, fun D nD => ?_⟩
      rw [hsz, Int.toNat_natCast]
      refine lc_acc walk_range (fun m ys H' => Ext [] H2 H' ∧ (∃ ms : List Int, ys = ms.map V.int ∧ ∀ x ∈ ms, 0 ≤ x ∧ x < ((i + 1 : Nat) : Int)) ∧ (1 ≤ m → ys ≠ [])) (by omega) ⟨Ext.refl.new nD, ⟨[], rfl, fun x hx => (List.not_mem_nil hx).elim⟩, fun h => by omega⟩ (fun _ _ _ _ _ => trivial) ?_ ?_
      · rintro m zs x H7 _ Nx Ns hm ⟨x7, ⟨ms, rfl, hms⟩, hne⟩ hD7 hl7 ⟨rfl, rfl⟩ nx ns'
        refine ⟨rfl, _, rfl, _, rfl, _, rfl, S l, rfl, small (by show l.length ≤ _; omega), _, rfl, _, rfl, _, rfl, _, _, rfl, rfl, _, rfl, _, rfl, _, rfl, S l, rfl, small (by show l.length ≤ _; omega), rfl, _, rfl, ?_⟩
        have yes : ∀ {H4 : Hp} {ys : List V}, H4 D = some (.lst (ms.map V.int)) → Ext [] H2 H4 → Nx (.int (0 + (m : Int))) H4 := fun {H4 ys} d x => nx _ _ d ⟨x.new nD, ⟨ms ++ [0 + (m : Int)], by rw [List.map_append]; rfl, fun y hy => by
          rcases List.mem_append.mp hy with h | h
          · exact hms y h
          · rw [List.mem_singleton.mp h]; omega⟩, fun _ => by simp⟩
        refine iteD2 (fun hc => ⟨_, rfl, yes (ys := []) hD7 x7⟩) (fun hc => ns' _ hD7 ⟨x7, ⟨ms, rfl, hms⟩, fun _ => ?_⟩)
        by_cases h0 : m = 0
        · subst h0
          exfalso
          apply hc
          have e1 : cutS (S l) none (some ((0 : Int) + ((0 : Nat) : Int))) = S [] := by
            show cutS (S l) none (some ((0 : Nat) : Int)) = _
            rw [S_cut, HT.sIx_none, sIx_n (Nat.zero_le _)]; rfl
          have e2 : cutS (S l) (some (((i + 1 : Nat) : Int) - (0 + ((0 : Nat) : Int)))) (some ((i + 1 : Nat) : Int)) = S [] := by
            rw [show (((i + 1 : Nat) : Int) - (0 + ((0 : Nat) : Int))) = ((i + 1 : Nat) : Int) by omega, S_cut, HT.sIx_nat, HT.sIx_nat, Nat.sub_self, List.take_zero]
          exact congrArg V.str (e1.trans e2.symm)
        · exact hne (by omega)
      · rintro H3 ys ⟨x3, ⟨ms, rfl, hms⟩, hne⟩ hD3 hl3
        have hne' : ms ≠ [] := fun z => hne (by omega) (by rw [z]; rfl)
        have ha3 := x3.keep _ _ ha List.not_mem_nil
        refine ⟨_, rfl, .inl ⟨rfl, _, SqL.of ha3⟩, _, rfl, D, ms, rfl, SqL.of hD3, List.length_pos_iff.mpr hne', fun x hx hmax => ?_⟩
        have hxl := hms x hx
        have hnl : ns.length = i + 1 := hB.len
        refine ⟨a, _, _, rfl, rfl, ha3, Nat.lt_of_le_of_lt (show (ns.map V.int).length ≤ 100000 by rw [List.length_map]; omega) (by rw [sizeLine_eq]; omega), ?_⟩
        have x4 : Ext [] H (upd H3 a (.lst (ns.map V.int ++ [.int x]))) := (x2.trans x3).new na
        refine ⟨ns ++ [x], _, _, _, rfl, x4, by rw [List.map_append]; exact upd_same, by rw [List.length_append, hnl]; rfl, ?_, fun j y hj hy => ?_⟩
        · rw [List.getElem?_append_left (by omega)]
          exact hB.z
        · by_cases hjn : j < ns.length
          · rw [List.getElem?_append_left hjn] at hy
            exact hB.lt j y hj hy
          · rw [List.getElem?_append_right (by omega)] at hy
            have hj2 := (List.getElem?_eq_some_iff.mp hy).1
            simp at hj2
            have ej : j = i + 1 := by omega
            rw [ej, hnl, Nat.sub_self] at hy
            have e : x = y := by simpa using hy
            subst e
            rw [ej]
            exact hxl
    · rintro σ H2 ⟨ns, s2, s3, s4, rfl, x2, ha, hB⟩
      exact ⟨_, rfl, q _ a ns x2 ha hB⟩

abbrev N_steps_down : List Str := ["borders", "size", "found", "part"]
theorem sc_steps_down : FnScope N_steps_down ["borders", "size"] (defScope s_steps_down) := ⟨rfl, rfl, rfl, by decide +kernel, rfl, by decide +kernel, by decide +kernel⟩
def spSteps : Sp := fun vs H Q _ => ∃ (b : Addr) (ns : List Int) (wd place : Nat), vs = [.ref b, .int place] ∧ H b = some (.lst (ns.map V.int)) ∧ Bord ns wd ∧ place ≤ wd ∧ wd ≤ 8 ∧
  ∀ H' a (ms : List Int), Ext [] H H' → H' a = some (.lst (ms.map V.int)) → (∀ x ∈ ms, -1 ≤ x ∧ x < (place : Int)) → (-1) ∈ ms → ms.length ≤ 100 → Q (.ref a) H'
theorem ok_steps (T : Tx K mg A0) (F : Fd K "steps_down" "steps_down" s_steps_down f fd) : FnOk P w K mg base CX0 1 f fd ["borders", "size"] spSteps := by
  refine fok F sc_steps_down (fun vs H Q E h => ?_) (fun cdv A outer s0 H vs Q E hr h => ?_)
  · obtain ⟨_, _, _, _, rfl, _⟩ := h
    rfl
  · obtain ⟨b, ns, wd, place, rfl, hb, hB, hp, hw, q⟩ := h
    refine ⟨_, (pss_cons (ps_par (i := 2) (j := 3) rfl sc_steps_down.nd rfl rfl (by decide) rfl rfl (pa_cons (pe_lst pa_nil) (pa_cons (pv 1) pa_nil)) (by rfl))
      (pss_cons (ps_while PassesOwn.never (pt_cmpR op_ge (pv 3) pe_int (nomark _))
       (pss_cons (ps_set (i := 3) sc_steps_down.nd rfl (.inl rfl) (pe_ix ix_list (pv 0) (pv 3) (fun _ _ => rfl)))
        (pss_one (ps_expr (pe_bm PySem.F.plainAttrs_list PySem.F.slot_list_append PySem.F.type_list_append mt_append (pv 2) (pa_cons (pv 3) pa_nil))))))
      (pss_one (ps_ret (pv 2))))), ?_⟩
    refine ⟨Nat.zero_le _, fun a na => ⟨_, rfl, _, _, rfl, ?_⟩⟩
    have hab : b ≠ a := ne_of_none hb na
    have hbl := hB.len
    refine ⟨fun m σ H' => ∃ (part : Int) (ms : List Int), σ = [some (.ref b), some (.int place), some (.ref a), some (.int part)] ∧ Ext [] H H' ∧ H' a = some (.lst (ms.map V.int)) ∧ (∀ x ∈ ms, -1 ≤ x ∧ x < (place : Int)) ∧ -1 ≤ part ∧ part ≤ place ∧ (m : Int) = part + 1 ∧ (part = -1 → (-1) ∈ ms) ∧ (ms.length : Int) + part ≤ place,
      ⟨place + 1, place, [], rfl, Ext.refl.fresh na, upd_same, fun x hx => (List.not_mem_nil hx).elim, by omega, by omega, by omega, fun z => by omega, by show (0 : Int) + place ≤ place; omega⟩, ?_⟩
    rintro m σ H2 ⟨part, ms, rfl, x2, ha, hms, h1, h2, hm, hlast, hml⟩
    refine ⟨_, rfl, _, _, rfl, rfl, _, rfl, iteD2 (fun h0 => ?_) (fun h0 => ?_)⟩
    · have h0' : 0 ≤ part := h0
      obtain ⟨j, rfl⟩ := Int.eq_ofNat_of_zero_le h0'
      have hj : j < ns.length := by omega
      have hg := List.getElem?_eq_getElem hj
      generalize ns[j] = x at hg
      have hxj : -1 ≤ x ∧ x < (j : Int) := by
        by_cases h : j = 0
        · subst h
          rw [hB.z] at hg
          cases hg
          omega
        · have := hB.lt j x (by omega) hg
          omega
      have hb2 := x2.keep _ _ hb List.not_mem_nil
      refine ⟨fun σ' H' => ∃ m' < m, ∃ (part : Int) (ms : List Int), σ' = [some (.ref b), some (.int place), some (.ref a), some (.int part)] ∧ Ext [] H H' ∧ H' a = some (.lst (ms.map V.int)) ∧ (∀ x ∈ ms, -1 ≤ x ∧ x < (place : Int)) ∧ -1 ≤ part ∧ part ≤ place ∧ (m' : Int) = part + 1 ∧ (part = -1 → (-1) ∈ ms) ∧ (ms.length : Int) + part ≤ place, fun σ' H' h => by
        obtain ⟨m', h1, h2⟩ := h
        exact ⟨m', h1, h2⟩, ?_⟩
      have hgv : (ns.map V.int)[j]? = some (V.int x) := by rw [List.getElem?_map, hg]; rfl
      refine ⟨_, rfl, _, rfl, b, _, _, _, rfl, rfl, SqL.of hb2, tup_at hgv rfl, ?_⟩
      refine ⟨_, rfl, .inl ⟨rfl, _, SqL.of ha⟩, _, rfl, a, _, _, rfl, rfl, ha, Nat.lt_of_le_of_lt (show (ms.map V.int).length ≤ 100000 by rw [List.length_map]; omega) (by rw [sizeLine_eq]; omega), ?_⟩
      refine ⟨(x + 1).toNat, by omega, x, ms ++ [x], rfl, x2.new na, by rw [List.map_append]; exact upd_same, fun y hy => ?_, by omega, by omega, by omega, fun z => by rw [z]; simp, ?_⟩
      · rcases List.mem_append.mp hy with h | h
        · exact hms y h
        · rw [List.mem_singleton.mp h]; omega
      · rw [List.length_append]
        show ((ms.length + 1 : Nat) : Int) + x ≤ place
        omega
    · have h0' : ¬ part ≥ 0 := h0
      exact ⟨_, rfl, q _ a ms x2 ha hms (hlast (by omega)) (by omega)⟩

abbrev N_last_of : List Str := ["word", "letter", "end", "place"]
theorem sc_last_of : FnScope N_last_of ["word", "letter", "end"] (defScope s_last_of) := ⟨rfl, rfl, rfl, by decide +kernel, rfl, by decide +kernel, by decide +kernel⟩
def spLast : Sp := fun vs H Q _ => ∃ (l : List Nat) (c e : Nat), vs = [.str (S l), .str (S [c]), .int e] ∧ e ≤ l.length ∧ l.length ≤ 8 ∧ ∀ H' (x : Int), Ext [] H H' → -1 ≤ x → x < (e : Int) → Q (.int x) H'
theorem ok_last (T : Tx K mg A0) (F : Fd K "last_of" "last_of" s_last_of f fd) : FnOk P w K mg base CX0 1 f fd ["word", "letter", "end"] spLast := by
  refine fok F sc_last_of (fun vs H Q E h => ?_) (fun cdv A outer s0 H vs Q E hr h => ?_)
  · obtain ⟨_, _, _, rfl, _⟩ := h
    rfl
  · obtain ⟨l, c, e, rfl, he, hl, q⟩ := h
    refine ⟨_, (pss_one (ps_ret (pe_callB (cr_max rfl) (by rfl) T.max (by decide +kernel) (pa_cons (pe_op op_cat (pe_lst (pa_cons (pe_un un_neg pe_int) pa_nil)) (pe_lc (own := [("place", 3)]) (g := gName 3) rfl sc_last_of.nd (pi_range1 (by rfl) T.range (pa_cons (pv 2) pa_nil)) (blkOk_by (N := N_last_of) (sc := defScope s_last_of) (by decide +kernel)) (fun _ _ _ _ _ => (pg_name (i := 3) sc_last_of.nd rfl (.inl rfl))) (fun _ _ _ _ _ => (pts_one (pt_cmpR op_eq (pe_ix ix_str (pv 0) (pv 3) (fun _ _ => rfl)) (pv 1) (nomark _)))) (fun _ _ _ _ _ => (pv 3)))) pa_nil)))), ?_⟩
    refine ⟨_, rfl, small (by show 1 ≤ 100000; omega), fun a na => ?_⟩
    have x1 : Ext [] H (upd H a (.lst [.int (-1)])) := Ext.refl.fresh na
    have ha1 : (upd H a (.lst [.int (-1)])) a = some (.lst [.int (-1)]) := upd_same
    generalize upd H a (.lst [.int (-1)]) = H1 at x1 ha1
    refine ⟨_, rfl, _, rfl, by omega, by omega, fun D nD => ?_⟩
    rw [Int.toNat_natCast]
    refine lc_acc walk_range (fun m ys H' => Ext [] H1 H' ∧ (∃ ms : List Int, ys = ms.map V.int ∧ ∀ x ∈ ms, 0 ≤ x ∧ x < (e : Int))) (by omega) ⟨Ext.refl.new nD, ⟨[], rfl, fun x hx => (List.not_mem_nil hx).elim⟩⟩ (fun _ _ _ _ _ => trivial) ?_ ?_
    · rintro m zs x H7 _ Nx Ns hm ⟨x7, ⟨ms, rfl, hms⟩⟩ hD7 hl7 ⟨rfl, rfl⟩ nx ns'
      have hml : m < l.length := by omega
      have hg := List.getElem?_eq_getElem hml
      have e0m : (0 : Int) + (m : Int) = (m : Int) := Int.zero_add _
      refine ⟨rfl, _, rfl, _, rfl, S l, _, _, rfl, rfl, small (by show l.length ≤ _; omega), (by rw [e0m]; exact atI_nat hg), _, rfl, rfl, _, rfl, iteD2 (fun hc => ⟨_, rfl, nx _ _ hD7 ⟨x7.new nD, ms ++ [0 + (m : Int)], by rw [List.map_append]; rfl, fun y hy => ?_⟩⟩) (fun hc => ns' _ hD7 ⟨x7, ms, rfl, hms⟩)⟩
      rcases List.mem_append.mp hy with h | h
      · exact hms y h
      · rw [List.mem_singleton.mp h]; omega
    · rintro H3 ys ⟨x3, ⟨ms, rfl, hms⟩⟩ hD3 hl3
      have ha3 := x3.keep _ _ ha1 List.not_mem_nil
      have hml : ms.length ≤ e := by rw [List.length_map] at hl3; exact hl3
      refine ⟨a, D, _, _, rfl, rfl, ha3, hD3, small (by rw [List.length_map]; show 1 + ms.length ≤ _; omega), fun b nb => ?_⟩
      refine ⟨b, -1 :: ms, rfl, SqL.of upd_same, by simp, fun x hx hmax => q _ x ((x1.trans x3).fresh nb) ?_ ?_⟩
      · rcases List.mem_cons.mp hx with h | h
        · omega
        · have := hms x h
          omega
      · rcases List.mem_cons.mp hx with h | h
        · omega
        · exact (hms x h).2
end
end K21

set_option Elab.async false
set_option linter.all false
set_option maxRecDepth 100000
set_option maxHeartbeats 4000000
/-! makers.py: compared, left_step, from_left -/
namespace K21
open PySem PySem.Spec PyProof.Rows L2
def chS (nl b : Nat) : Nat → Nat
  | 0 => b
  | k + 1 => nl * chS nl b k + 1
theorem chS_ge {nl b : Nat} (h : 1 ≤ nl) : ∀ k, b ≤ chS nl b k
  | 0 => Nat.le_refl _
  | k + 1 => by
    have := chS_ge (b := b) h k
    show b ≤ nl * chS nl b k + 1
    have h2 : chS nl b k ≤ nl * chS nl b k := Nat.le_mul_of_pos_left _ h
    omega
def uK (pl c : Nat) : List Key := [.inl (pl : Int), .inr ⟨#[c]⟩]
/-- a dict of trees by place and sign -/
def UnAt (H : Hp) (u : Addr) (C : Nat → Nat → Prop) (Pr : Tree → Prop) : Prop := ∃ kvs : List (List Key × V), H u = some (.dT kvs) ∧ ∀ pl c, C pl c → ∃ v t, valV kvs (uK pl c) = some v ∧ TAt H t v ∧ Pr t
theorem UnAt.ext {m : List Addr} {H H' : Hp} {u : Addr} {C : Nat → Nat → Prop} {Pr : Tree → Prop} (h : UnAt H u C Pr) (x : Ext m H H') (hu : u ∉ m) : UnAt H' u C Pr := by
  obtain ⟨kvs, h1, h2⟩ := h
  exact ⟨kvs, x.keep _ _ h1 hu, fun pl c hc => by
    obtain ⟨v, t, e1, e2, e3⟩ := h2 pl c hc
    exact ⟨v, t, e1, x.dat e2, e3⟩⟩
theorem UnAt.ext0 {H H' : Hp} {u : Addr} {C : Nat → Nat → Prop} {Pr : Tree → Prop} (h : UnAt H u C Pr) (x : Ext [] H H') : UnAt H' u C Pr := h.ext x List.not_mem_nil
/-- what the trees below a chain keep -/
def Prt (nl wd n dB sB : Nat) (t : Tree) : Prop := t.ok nl wd n ∧ t.depth ≤ dB ∧ t.size ≤ sB
section
variable {P : Program} {w : World} {K : PySem.W.Frag} {mg : Str → Option Value} {base : Heap} {A0 : Ad} {f : Addr} {fd : FuncData}

abbrev N_compared : List Str := ["letters", "word", "places", "unlike", "like", "tree", "place", "parts", "letter"]
theorem sc_compared : FnScope N_compared ["letters", "word", "places", "unlike", "like"] (defScope s_compared) := ⟨rfl, rfl, rfl, by decide +kernel, rfl, by decide +kernel, by decide +kernel⟩
def spCompared : Sp := fun vs H Q _ => ∃ (L l ps : List Nat) (pl u : Addr) (v : V) (like : Tree) (n dB sB : Nat), vs = [.str (S L), .str (S l), .ref pl, .ref u, v] ∧ H pl = some (.lst (ps.map fun i : Nat => V.int i)) ∧ (∀ i ∈ ps, i < l.length) ∧ UnAt H u (fun i c => i < l.length ∧ c ∈ L) (Prt L.length l.length n dB sB) ∧ TAt H like v ∧ Prt L.length l.length n dB sB like ∧
  1 ≤ L.length ∧ L.length ≤ 4 ∧ l.length ≤ 8 ∧ ps.length ≤ 8 ∧ ∀ H' t v', Ext [] H H' → TAt H' t v' → Prt L.length l.length n (dB + ps.length) (chS L.length sB ps.length) t → Q v' H'
theorem ok_compared (T : Tx K mg A0) (F : Fd K "compared" "compared" s_compared f fd) : FnOk P w K mg base CX0 1 f fd ["letters", "word", "places", "unlike", "like"] spCompared := by
  refine fok F sc_compared (fun vs H Q E h => ?_) (fun cdv A outer s0 H vs Q E hr h => ?_)
  · obtain ⟨_, _, _, _, _, _, _, _, _, _, rfl, _⟩ := h
    rfl
  · obtain ⟨L, l, ps, pl, u, v, like, n, dB, sB, rfl, hpl, hps, hu, hlike, hPr, hL1, hL4, hl8, hp8, q⟩ := h
    refine ⟨_, (pss_cons (ps_set (i := 5) sc_compared.nd rfl (.inr rfl) (pv 4))
      (pss_cons (ps_for PassesOwn.never rfl (pi_list (pe_revL (pv 2))) (pg_name (i := 6) sc_compared.nd rfl (.inr rfl))
       (pss_cons (ps_setLc (i := 7) (own := [("letter", 8)]) (g := gName 8) (tt := tYes) rfl sc_compared.nd rfl rfl (sw_true rfl rfl rfl (by decide +kernel)) (pi_str (pv 0)) (blkOk_by (N := N_compared) (sc := defScope s_compared) (by decide +kernel)) (fun _ _ _ _ _ => (pg_name (i := 8) sc_compared.nd rfl (.inl rfl))) (fun _ _ _ _ _ => pts_nil) (fun _ _ _ _ _ => (pe_ifExp (pt_cmpR op_eq (pv 8) (pe_ix ix_str (pv 1) (pv 6) (fun _ _ => rfl)) (nomark _)) (pv 5) (pe_dget (hu_of hr) (pv 3) (pe_tup (pa_cons (pv 6) (pa_cons (pv 8) pa_nil))) (fun _ _ => rfl)))))
        (pss_one (ps_set (i := 5) sc_compared.nd rfl (.inr rfl) (pe_tup (pa_cons pe_str (pa_cons (pv 6) (pa_cons (pe_callTy call_tuple_of (by rfl) T.tuple (by decide +kernel) (pa_cons (pv 7) pa_nil)) pa_nil))))))))
      (pss_one (ps_ret (pv 5))))), ?_⟩
    refine ⟨_, rfl, _, rfl, pl, _, rfl, SqL.of hpl, fun rl nrl => ?_⟩
    have x1 : Ext [] H (upd H rl (.lst (ps.map fun i : Nat => V.int i).reverse)) := Ext.refl.fresh nrl
    have hrl : (upd H rl (.lst (ps.map fun i : Nat => V.int i).reverse)) rl = _ := upd_same
    generalize upd H rl (.lst (ps.map fun i : Nat => V.int i).reverse) = H1 at x1 hrl
    have ern : ((ps.map fun i : Nat => V.int i).reverse).length = ps.length := by rw [List.length_reverse, List.length_map]
    refine ⟨rl, rfl, ⟨_, SqL.of hrl⟩, for_list (xs := (ps.map fun i : Nat => V.int i).reverse) (fun i σ H' => ∃ (v : V) (t : Tree) (s6 s7 s8 : Option V), σ = [some (.str (S L)), some (.str (S l)), some (.ref pl), some (.ref u), s8, some v, s6, s7, none] ∧ Ext [] H H' ∧ H' rl = some (.lst (ps.map fun i : Nat => V.int i).reverse) ∧ TAt H' t v ∧ Prt L.length l.length n (dB + i) (chS L.length sB i) t)
      ⟨v, like, _, _, _, rfl, x1, hrl, x1.dat hlike, hPr⟩ (fun _ _ _ _ ⟨_, _, _, _, _, _, _, h, _⟩ => SqL.of h) ?_ ?_⟩
    · rintro i x σ H2 hx ⟨v, t, s6, s7, s8, rfl, x2, hrl2, ht, hok, hd, hs⟩
      have hil : i < ps.length := by
        have := (List.getElem?_eq_some_iff.mp hx).1
        rwa [ern] at this
      have hxm : x ∈ (ps.map fun i : Nat => V.int i).reverse := List.mem_of_getElem? hx
      rw [List.mem_reverse] at hxm
      obtain ⟨place, hpm, rfl⟩ := List.mem_map.mp hxm
      have hpl' := hps place hpm
      have hg := List.getElem?_eq_getElem hpl'
      have hcs := chS_ge (b := sB) hL1 i
      refine ⟨_, rfl, S L, rfl, fun D nD => ?_⟩
      refine lc_rel walk_str (fun _ H' => Ext [] H2 H') (fun j H' y => ∃ t, TAt H' t y ∧ Prt L.length l.length n (dB + i) (chS L.length sB i) t) (by show L.length ≤ _; omega) (Ext.refl.new nD) (fun _ _ _ _ => trivial) (fun _ _ _ _ tt ⟨t, e1, e2⟩ => ⟨t, DAt.ext tt _ _ e1, e2⟩) (fun _ _ _ h => h.new nD) ?_ ?_
      · rintro m x H4 _ Nx hm x4 ⟨zs, hz⟩ ⟨rfl, ch, hch, rfl⟩ nx
        have hcL : ch ∈ L := List.mem_of_getElem? (by simpa using hch)
        refine ⟨rfl, _, rfl, _, rfl, _, rfl, S l, _, _, rfl, rfl, small (by show l.length ≤ _; omega), atI_nat hg, rfl, _, rfl, iteD2 (fun _ => ?_) (fun _ => ?_)⟩
        · exact ⟨_, rfl, nx v _ x4 (Tups.refl _) rfl ⟨t, x4.dat ht, hok, hd, hs⟩⟩
        · obtain ⟨kvs, hu4, huv⟩ := hu.ext0 (x2.trans x4)
          obtain ⟨w1, t1, e1, e2, e3, e4, e5⟩ := huv place ch ⟨hpl', hcL⟩
          refine ⟨_, rfl, _, rfl, _, rfl, small (by show 2 ≤ 100000; omega), fun k nk => ?_⟩
          have x5 := Ext.refl.fresh (m := []) (o := .tup ((uK place ch).map kV)) nk
          have hu5 := x5.keep _ _ hu4 List.not_mem_nil
          refine ⟨u, w1, rfl, e1 ▸ DGet.t hu5 upd_same, nx w1 _ (x4.trans x5) x5.tups (x5.keep _ _ hz List.not_mem_nil |>.trans hz.symm) ⟨t1, x5.dat e2, e3, by omega, by omega⟩⟩
      · rintro H4 ys x4 hD hys hR
        obtain ⟨ts, g1, g2, g3⟩ := tsAt_ex hR
        have hys' : ys.length = L.length := hys
        refine ⟨_, rfl, _, rfl, D, ys, rfl, .inl ⟨SqL.of hD, fun p1 np1 => ?_⟩⟩
        refine ⟨small (by show 3 ≤ 100000; omega), fun p2 np2 => ?_⟩
        have x5 : Ext [] H4 (upd (upd H4 p1 (.tup ys)) p2 (.tup [.str "read", .int place, .ref p1])) := (Ext.refl.fresh np1).fresh np2
        have g1' := (Ext.refl (m := [])|>.fresh (o := .tup ys) np1).dats g1
        refine ⟨.ref p2, .read place ts, _, _, _, rfl, x2.trans (x4.trans x5), (x4.trans x5).keep _ _ hrl2 List.not_mem_nil, mk_read np2 upd_same g1', ⟨by omega, by omega, by omega, oks_iff.mpr fun t ht => (g3 t ht).1⟩, ?_, ?_⟩
        · have := depths_le (ts := ts) (d := dB + i) fun t ht => (g3 t ht).2.1
          show depths ts + 1 ≤ _
          omega
        · have h1 := sizes_le (ts := ts) (m := chS L.length sB i) fun t ht => (g3 t ht).2.2
          show sizes ts + 1 ≤ L.length * chS L.length sB i + 1
          rw [g2, hys'] at h1
          omega
    · rintro σ H2 ⟨v, t, s6, s7, s8, rfl, x2, hrl2, ht, hPt⟩
      rw [ern] at hPt
      exact ⟨_, rfl, q _ t v x2 ht hPt⟩

abbrev N_left_step : List Str := ["word", "borders", "way", "place", "letter", "steps", "part", "one"]
theorem sc_left_step : FnScope N_left_step ["word", "borders", "way", "place", "letter"] (defScope s_left_step) := ⟨rfl, rfl, rfl, by decide +kernel, rfl, by decide +kernel, by decide +kernel⟩
def spLeftStep : Sp := fun vs H Q _ => ∃ (l : List Nat) (b : Addr) (way : Str) (place c : Nat) (ns : List Int), vs = [.str (S l), .ref b, .str way, .int place, .str (S [c])] ∧ H b = some (.lst (ns.map V.int)) ∧ Bord ns l.length ∧ place < l.length ∧ l.length ≤ 8 ∧
  ∀ H' v (s q : Int), Ext [] H H' → DAt H' (.tuple [.int s, .int q]) v → 1 ≤ s → s ≤ (l.length : Int) + 1 → 0 ≤ q → q < (l.length : Int) → Q v H'
theorem ok_left_step (T : Tx K mg A0) (D_steps_down : Dfn P w K mg base 1 "steps_down" ["borders", "size"] spSteps) (F : Fd K "left_step" "left_step" s_left_step f fd) : FnOk P w K mg base CX0 2 f fd ["word", "borders", "way", "place", "letter"] spLeftStep := by
  refine fok F sc_left_step (fun vs H Q E h => ?_) (fun cdv A outer s0 H vs Q E hr h => ?_)
  · obtain ⟨_, _, _, _, _, _, rfl, _⟩ := h
    rfl
  · obtain ⟨l, b, way, place, c, ns, rfl, hb, hB, hp, hl, q⟩ := h
    refine ⟨_, (pss_cons (ps_set (i := 5) sc_left_step.nd rfl (.inl rfl) (pe_d D_steps_down (hr.mono (by omega)) (pa_cons (pv 1) (pa_cons (pv 3) pa_nil))))
      (C8.pss_cut (ps_if (pt_cmpR op_eq (pv 2) pe_str (nomark _))
       (pss_one (ps_set (i := 6) sc_left_step.nd rfl (.inl rfl) (pe_ix ix_list (pv 5) pe_int (fun _ _ => rfl))))
       (pss_one (ps_if (pt_cmpR op_eq (pv 2) pe_str (nomark _))
         (pss_one (ps_set (i := 6) sc_left_step.nd rfl (.inl rfl) (pe_ix ix_list (pe_lc (own := [("one", 7)]) (g := gName 7) rfl sc_left_step.nd (pi_list (pv 5)) (blkOk_by (N := N_left_step) (sc := defScope s_left_step) (by decide +kernel)) (fun _ _ _ _ _ => (pg_name (i := 7) sc_left_step.nd rfl (.inl rfl))) (fun _ _ _ _ _ => (pts_one (PW.pt (pw_or (pt_cmpR op_eq (pv 7) (pe_un un_neg pe_int) (nomark _)) (pw_or1 (pt_cmpR op_ne (pe_ix ix_str (pv 0) (pv 7) (fun _ _ => rfl)) (pe_ix ix_str (pv 0) (pv 3) (fun _ _ => rfl)) (nomark _))))))) (fun _ _ _ _ _ => (pv 7))) pe_int (fun _ _ => rfl))))
         (pss_cons (ps_set (i := 6) sc_left_step.nd rfl (.inl rfl) (pe_ix ix_list (pe_lc (own := [("one", 7)]) (g := gName 7) rfl sc_left_step.nd (pi_list (pv 5)) (blkOk_by (N := N_left_step) (sc := defScope s_left_step) (by decide +kernel)) (fun _ _ _ _ _ => (pg_name (i := 7) sc_left_step.nd rfl (.inl rfl))) (fun _ _ _ _ _ => (pts_one (PW.pt (pw_or (pt_cmpR op_eq (pv 7) (pe_un un_neg pe_int) (nomark _)) (pw_or1 (pt_cmpR op_eq (pe_ix ix_str (pv 0) (pv 7) (fun _ _ => rfl)) (pv 4) (nomark _))))))) (fun _ _ _ _ _ => (pv 7))) pe_int (fun _ _ => rfl)))
          (pss_one (ps_ret (pe_tup (pa_cons (pe_op op_sub (pv 3) (pv 6)) (pa_cons (pe_op op_add (pv 6) pe_int) pa_nil)))))))))
      (pss_one (ps_ret (pe_tup (pa_cons (pe_op op_sub (pv 3) (pv 6)) (pa_cons (pe_callB (call_max2 rfl) (by rfl) T.max (by decide +kernel) (pa_cons pe_int (pa_cons (pv 6) pa_nil))) pa_nil))))))), ?_⟩
    refine ⟨_, rfl, _, rfl, b, ns, l.length, place, rfl, hb, hB, by omega, hl, fun H1 a ms x1 ha hms hlast hml => ?_⟩
    have hgp := List.getElem?_eq_getElem hp
    have hm0 : 0 < ms.length := List.length_pos_iff.mpr fun z => by rw [z] at hlast; exact List.not_mem_nil hlast
    have pos : ∀ {x : Int}, x ∈ ms → ¬ V.int x = V.int (-1) → ∃ j : Nat, x = (j : Int) ∧ j < place := fun {x} hx hne => by
      have h1 := hms x hx
      have h2 : x ≠ -1 := fun z => hne (by rw [z])
      obtain ⟨j, rfl⟩ := Int.eq_ofNat_of_zero_le (show 0 ≤ x by omega)
      exact ⟨j, rfl, by omega⟩
    -- the items of a comprehension over the steps
    have step : ∀ {m : Nat} {x : V}, (ms.map V.int)[m]? = some x → ∃ y, ms[m]? = some y ∧ x = .int y ∧ y ∈ ms := fun {m x} h => by
      rw [List.getElem?_map] at h
      obtain ⟨y, hy, rfl⟩ := Option.map_eq_some_iff.mp h
      exact ⟨y, hy, rfl, List.mem_of_getElem? hy⟩
    have first : ∀ {zs : List V}, (∃ ks : List Int, zs = ks.map V.int ∧ ∀ y ∈ ks, -1 ≤ y ∧ y < (place : Int)) → zs ≠ [] → ∃ y : Int, zs[0]? = some (.int y) ∧ -1 ≤ y ∧ y < (place : Int) := fun {zs} ⟨ks, e, h⟩ hne => by
      subst e
      cases ks with
      | nil => exact (hne rfl).elim
      | cons y r => exact ⟨y, rfl, h y List.mem_cons_self⟩
    refine ⟨fun σ H' => ∃ part : Int, -1 ≤ part ∧ part < (place : Int) ∧ σ = [some (.str (S l)), some (.ref b), some (.str way), some (.int place), some (.str (S [c])), some (.ref a), some (.int part), none] ∧ Ext [] H1 H', ?_, ?_⟩
    · refine ⟨_, rfl, rfl, _, rfl, iteD2 (fun _ => ?_) (fun _ => ?_)⟩
      · have hg := List.getElem?_eq_getElem hm0
        have hx := hms _ (List.getElem_mem hm0)
        exact ⟨_, rfl, a, _, _, .int ms[0], rfl, rfl, SqL.of ha, tup_at (j := 0) (by rw [List.getElem?_map, hg]; rfl), ms[0], hx.1, hx.2, rfl, Ext.refl⟩
      · refine ⟨_, rfl, rfl, _, rfl, iteD2 (fun _ => ?_) (fun _ => ?_)⟩
        · refine ⟨_, rfl, a, rfl, ⟨_, SqL.of ha⟩, fun D nD => ?_⟩
          refine lc_acc walk_list (fun m zs H' => Ext [] H1 H' ∧ (∃ ks : List Int, zs = ks.map V.int ∧ ∀ y ∈ ks, -1 ≤ y ∧ y < (place : Int)) ∧ ((-1) ∈ ms.take m → zs ≠ [])) (by rw [List.length_map]; omega) ⟨Ext.refl.new nD, ⟨[], rfl, fun y hy => (List.not_mem_nil hy).elim⟩, fun h => by simp at h⟩ (fun _ _ _ _ x => SqL.of (x.1.keep _ _ ha List.not_mem_nil)) ?_ ?_
          · rintro m zs x H7 _ Nx Ns hm ⟨x7, ⟨ks, rfl, hks⟩, hne⟩ hD7 hl7 ⟨rfl, hx⟩ nx ns'
            obtain ⟨y, hy, rfl, hym⟩ := step hx
            have yes : Nx (.int y) _ := nx _ _ hD7 ⟨x7.new nD, ⟨ks ++ [y], by rw [List.map_append]; rfl, fun z hz => by
              rcases List.mem_append.mp hz with h | h
              · exact hks z h
              · rw [List.mem_singleton.mp h]; exact hms y hym⟩, fun _ => by simp⟩
            refine ⟨rfl, _, rfl, _, rfl, rfl, _, rfl, iteD2 (fun _ => ⟨_, rfl, yes⟩) (fun hne1 => ?_)⟩
            obtain ⟨j, rfl, hj⟩ := pos hym hne1
            have hjl : j < l.length := by omega
            have no : Ns _ := ns' _ hD7 ⟨x7, ⟨ks, rfl, hks⟩, fun h => hne (by
              rw [List.take_add_one, hy] at h
              rcases List.mem_append.mp h with h | h
              · exact h
              · have e : (-1 : Int) = (j : Int) := by simpa using h
                omega)⟩
            refine ⟨_, rfl, _, rfl, S l, _, _, rfl, rfl, small (by show l.length ≤ _; omega), atI_nat (List.getElem?_eq_getElem hjl), _, rfl, _, rfl, S l, _, _, rfl, rfl, small (by show l.length ≤ _; omega), atI_nat hgp, rfl, _, rfl, iteNN2 (fun _ => no) (fun _ => ⟨_, rfl, yes⟩)⟩
          · rintro H3 zs ⟨x3, hks, hne⟩ hD3 hl3
            obtain ⟨y, hy, h1, h2⟩ := first hks (hne (by rw [List.length_map, List.take_of_length_le (Nat.le_refl _)]; exact hlast))
            exact ⟨D, _, _, _, rfl, rfl, SqL.of hD3, tup_at (j := 0) hy, y, h1, h2, rfl, x3⟩
        · refine ⟨_, rfl, a, rfl, ⟨_, SqL.of ha⟩, fun D nD => ?_⟩
          refine lc_acc walk_list (fun m zs H' => Ext [] H1 H' ∧ (∃ ks : List Int, zs = ks.map V.int ∧ ∀ y ∈ ks, -1 ≤ y ∧ y < (place : Int)) ∧ ((-1) ∈ ms.take m → zs ≠ [])) (by rw [List.length_map]; omega) ⟨Ext.refl.new nD, ⟨[], rfl, fun y hy => (List.not_mem_nil hy).elim⟩, fun h => by simp at h⟩ (fun _ _ _ _ x => SqL.of (x.1.keep _ _ ha List.not_mem_nil)) ?_ ?_
          · rintro m zs x H7 _ Nx Ns hm ⟨x7, ⟨ks, rfl, hks⟩, hne⟩ hD7 hl7 ⟨rfl, hx⟩ nx ns'
            obtain ⟨y, hy, rfl, hym⟩ := step hx
            have yes : Nx (.int y) _ := nx _ _ hD7 ⟨x7.new nD, ⟨ks ++ [y], by rw [List.map_append]; rfl, fun z hz => by
              rcases List.mem_append.mp hz with h | h
              · exact hks z h
              · rw [List.mem_singleton.mp h]; exact hms y hym⟩, fun _ => by simp⟩
            refine ⟨rfl, _, rfl, _, rfl, rfl, _, rfl, iteD2 (fun _ => ⟨_, rfl, yes⟩) (fun hne1 => ?_)⟩
            obtain ⟨j, rfl, hj⟩ := pos hym hne1
            have hjl : j < l.length := by omega
            have no : Ns _ := ns' _ hD7 ⟨x7, ⟨ks, rfl, hks⟩, fun h => hne (by
              rw [List.take_add_one, hy] at h
              rcases List.mem_append.mp h with h | h
              · exact h
              · have e : (-1 : Int) = (j : Int) := by simpa using h
                omega)⟩
            refine ⟨_, rfl, _, rfl, S l, _, _, rfl, rfl, small (by show l.length ≤ _; omega), atI_nat (List.getElem?_eq_getElem hjl), _, rfl, rfl, _, rfl, iteD2 (fun _ => ⟨_, rfl, yes⟩) (fun _ => no)⟩
          · rintro H3 zs ⟨x3, hks, hne⟩ hD3 hl3
            obtain ⟨y, hy, h1, h2⟩ := first hks (hne (by rw [List.length_map, List.take_of_length_le (Nat.le_refl _)]; exact hlast))
            refine ⟨D, _, _, _, rfl, rfl, SqL.of hD3, tup_at (j := 0) hy, ?_⟩
            refine ⟨_, rfl, _, rfl, _, _, rfl, rfl, _, rfl, _, _, rfl, rfl, small (by show 2 ≤ 100000; omega), fun p np => ?_⟩
            exact q _ _ _ _ ((x1.trans x3).fresh np) ⟨p, _, rfl, upd_same, _, _, rfl, rfl, _, _, rfl, rfl, rfl⟩ (by omega) (by omega) (by omega) (by omega)
    · rintro σ H2 ⟨part, h1, h2, rfl, x2⟩
      refine ⟨_, rfl, _, rfl, _, _, rfl, rfl, _, rfl, _, _, rfl, small (by show 2 ≤ 100000; omega), fun p np => ?_⟩
      refine q _ _ _ _ ((x1.trans x2).fresh np) ⟨p, _, rfl, upd_same, _, _, rfl, rfl, _, _, rfl, rfl, rfl⟩ (by omega) (by omega) ?_ ?_
      · split <;> omega
      · split <;> omega
end
end K21

set_option Elab.async false
set_option linter.all false
set_option maxRecDepth 100000
set_option maxHeartbeats 4000000
/-! makers.py: from_left -/
namespace K21
open PySem PySem.Spec PyProof.Rows L2
/-- sizes that the law makes -/
def Few (L l : List Nat) : Prop := 1 ≤ l.length ∧ ((L.length = 2 ∧ l.length ≤ 4) ∨ (L.length = 3 ∧ l.length ≤ 3))
theorem chS_few {L l : List Nat} {b k : Nat} (h : Few L l) (hk : k ≤ l.length) : chS L.length b k ≤ 27 * b + 15 := by
  rcases h.2 with ⟨h1, h2⟩ | ⟨h1, h2⟩
  · rw [h1]
    have : k = 0 ∨ k = 1 ∨ k = 2 ∨ k = 3 ∨ k = 4 := by omega
    rcases this with rfl | rfl | rfl | rfl | rfl <;> simp only [chS] <;> omega
  · rw [h1]
    have : k = 0 ∨ k = 1 ∨ k = 2 ∨ k = 3 := by omega
    rcases this with rfl | rfl | rfl | rfl <;> simp only [chS] <;> omega
theorem good_of {L l : List Nat} {ts : List Tree} {sB : Nat} (hL : Ltr L) (hf : Few L l) (n1 : 1 ≤ ts.length) (n64 : ts.length ≤ 64) (h : ∀ t ∈ ts, Prt L.length l.length ts.length 10 sB t) (hs : ts.length * sB ≤ 3000) : Good L l.length ts := by
  have h8 : l.length ≤ 8 := by rcases hf.2 with h | h <;> omega
  exact ⟨hL, hf.1, h8, n1, n64, fun t ht => (h t ht).1, fun t ht => (h t ht).2.1, Nat.le_trans (sizes_le (m := sB) fun t ht => (h t ht).2.2) hs⟩
def UnN (H : Hp) (u : Addr) (C : Nat → Nat → Prop) (Pr : Tree → Prop) (N : Nat) : Prop := ∃ kvs : List (List Key × V), H u = some (.dT kvs) ∧ kvs.length ≤ N ∧ ∀ pl c, C pl c → ∃ v t, valV kvs (uK pl c) = some v ∧ TAt H t v ∧ Pr t
theorem UnN.un {H : Hp} {u : Addr} {C C' : Nat → Nat → Prop} {Pr : Tree → Prop} {N : Nat} (h : UnN H u C Pr N) (hc : ∀ p c, C' p c → C p c) : UnAt H u C' Pr := by
  obtain ⟨kvs, h1, _, h2⟩ := h
  exact ⟨kvs, h1, fun pl c z => h2 pl c (hc pl c z)⟩
theorem UnN.imp {H : Hp} {u : Addr} {C C' : Nat → Nat → Prop} {Pr : Tree → Prop} {N N' : Nat} (h : UnN H u C Pr N) (hc : ∀ p c, C' p c → C p c) (hN : N ≤ N') : UnN H u C' Pr N' := by
  obtain ⟨kvs, h1, h3, h2⟩ := h
  exact ⟨kvs, h1, Nat.le_trans h3 hN, fun pl c z => h2 pl c (hc pl c z)⟩
theorem UnN.ext {m : List Addr} {H H' : Hp} {u : Addr} {C : Nat → Nat → Prop} {Pr : Tree → Prop} {N : Nat} (h : UnN H u C Pr N) (x : Ext m H H') (hu : u ∉ m) : UnN H' u C Pr N := by
  obtain ⟨kvs, h1, h3, h2⟩ := h
  exact ⟨kvs, x.keep _ _ h1 hu, h3, fun pl c hc => by
    obtain ⟨v, t, e1, e2, e3⟩ := h2 pl c hc
    exact ⟨v, t, e1, x.dat e2, e3⟩⟩
theorem uK_inj {p q c d : Nat} (h : uK p c = uK q d) : p = q ∧ c = d := by
  unfold uK at h
  have h1 : (Sum.inl (p : Int) : Key) = Sum.inl (q : Int) := (List.cons.inj h).1
  have h2 : (Sum.inr (⟨#[c]⟩ : Str) : Key) = Sum.inr ⟨#[d]⟩ := (List.cons.inj (List.cons.inj h).2).1
  have e1 : (p : Int) = (q : Int) := Sum.inl.inj h1
  have e2 : (⟨#[c]⟩ : Str) = ⟨#[d]⟩ := Sum.inr.inj h2
  exact ⟨by omega, sgn_iff.mp (congrArg V.str e2)⟩
theorem UnN.put {H : Hp} {u b : Addr} {C : Nat → Nat → Prop} {Pr : Tree → Prop} {N pl c : Nat} {t : Tree} {v : V} (h : UnN H u C Pr N) (hN : N ≤ 10000) (hb : H b = some (.tup [.int pl, .str ⟨#[c]⟩])) (ht : TAt H t v) (hp : Pr t) :
    ∃ kvs, H u = some (.dT kvs) ∧ DPut H u (.ref b) v (upd H u (.dT (putK kvs (uK pl c) v))) ∧ UnN (upd H u (.dT (putK kvs (uK pl c) v))) u (fun p d => C p d ∨ (p = pl ∧ d = c)) Pr (N + 1) := by
  obtain ⟨kvs, h1, h3, h2⟩ := h
  have tt : Tups H (upd H u (.dT (putK kvs (uK pl c) v))) := fun b ys e => by
    rw [upd_ne (show b ≠ u from fun z => by subst z; rw [h1] at e; cases e)]
    exact e
  refine ⟨kvs, h1, .inr ⟨kvs, uK pl c, b, h1, rfl, hb, Nat.lt_of_le_of_lt h3 (by rw [sizeLine_eq]; omega), rfl⟩, ⟨_, upd_same, Nat.le_trans (length_putK _ _ _) (Nat.succ_le_succ h3), fun p d hc => ?_⟩⟩
  rw [valV_put]
  by_cases e : uK p d = uK pl c
  · rw [if_pos e]
    exact ⟨v, t, rfl, DAt.ext tt _ _ ht, hp⟩
  · rw [if_neg e]
    rcases hc with hc | ⟨rfl, rfl⟩
    · obtain ⟨v', t', e1, e2, e3⟩ := h2 p d hc
      exact ⟨v', t', e1, DAt.ext tt _ _ e2, e3⟩
    · exact (e rfl).elim
theorem rgV_nat (a b : Nat) : rgV (a : Int) (b : Int) = ((List.range (b - a)).map fun i => a + i).map fun i : Nat => V.int i := by
  unfold rgV
  rw [List.map_map, show ((b : Int) - (a : Int)).toNat = b - a by omega]
  refine List.map_congr_left fun i _ => ?_
  show V.int ((a : Int) + (i : Nat)) = V.int ((a + i : Nat) : Int)
  exact congrArg V.int (by omega)
section
variable {P : Program} {w : World} {K : PySem.W.Frag} {mg : Str → Option Value} {base : Heap} {A0 : Ad} {f : Addr} {fd : FuncData}

abbrev N_from_left : List Str := ["letters", "word", "way", "borders", "width", "like", "unlike", "place", "letter", "state"]
theorem sc_from_left : FnScope N_from_left ["letters", "word", "way"] (defScope s_from_left) := ⟨rfl, rfl, rfl, by decide +kernel, rfl, by decide +kernel, by decide +kernel⟩
def spMaker : Sp := fun vs H Q _ => ∃ (L l : List Nat) (way : Str), vs = [.str (S L), .str (S l), .str way] ∧ Ltr L ∧ Few L l ∧ (∀ c ∈ l, c ∈ L) ∧ ∀ H' a xs ts, Ext [] H H' → H' a = some (.lst xs) → TsAt H' ts xs → Good L l.length ts → Q (.ref a) H'
theorem ok_from_left (T : Tx K mg A0) (D_borders_of : Dfn P w K mg base 1 "borders_of" ["word"] spBorders) (D_left_step : Dfn P w K mg base 2 "left_step" ["word", "borders", "way", "place", "letter"] spLeftStep) (D_compared : Dfn P w K mg base 1 "compared" ["letters", "word", "places", "unlike", "like"] spCompared)
    (F : Fd K "from_left" "from_left" s_from_left f fd) : FnOk P w K mg base CX0 3 f fd ["letters", "word", "way"] spMaker := by
  refine fok F sc_from_left (fun vs H Q E h => ?_) (fun cdv A outer s0 H vs Q E hr h => ?_)
  · obtain ⟨_, _, _, rfl, _⟩ := h
    rfl
  · obtain ⟨L, l, way, rfl, hL, hf, hlL, q⟩ := h
    refine ⟨_, (C8.pss_cut (ps_asg (pe_tup (pa_cons (pe_d D_borders_of (hr.mono (by omega)) (pa_cons (pv 1) pa_nil)) (pa_cons (pe_callB call_len_str (by rfl) T.len PySem.boot_len (pa_cons (pv 1) pa_nil)) pa_nil))) (pg_tup rfl (pgs_cons (pg_name (i := 3) sc_from_left.nd rfl (.inl rfl)) (pgs_cons (pg_name (i := 4) sc_from_left.nd rfl (.inr rfl)) pgs_nil))))
      (C8.pss_cut (ps_asg (pe_tup (pa_cons (pe_tup (pa_cons pe_str (pa_cons pe_int (pa_cons (pe_tup (pa_cons pe_str (pa_cons (pe_op op_sub (pv 4) (pe_ix ix_list (pv 3) (pv 4) (fun _ _ => rfl))) (pa_cons (pe_ix ix_list (pv 3) (pv 4) (fun _ _ => rfl)) pa_nil)))) pa_nil)))) (pa_cons pe_dnewT pa_nil))) (pg_tup rfl (pgs_cons (pg_name (i := 5) sc_from_left.nd rfl (.inr rfl)) (pgs_cons (pg_name (i := 6) sc_from_left.nd rfl (.inr rfl)) pgs_nil))))
      (pss_cons (ps_for PassesOwn.never rfl (pi_range1 (by rfl) T.range (pa_cons (pv 4) pa_nil)) (pg_name (i := 7) sc_from_left.nd rfl (.inl rfl))
       (pss_one (ps_for PassesOwn.never rfl (pi_str (pv 0)) (pg_name (i := 8) sc_from_left.nd rfl (.inl rfl))
         (pss_one (ps_dput (hu_of hr) (pv 6) (pe_tup (pa_cons (pv 7) (pa_cons (pv 8) pa_nil))) (pe_op op_catD (pe_tup (pa_cons pe_str pa_nil)) (pe_d D_left_step (hr.mono (by omega)) (pa_cons (pv 1) (pa_cons (pv 3) (pa_cons (pv 2) (pa_cons (pv 7) (pa_cons (pv 8) pa_nil))))))) rfl)))))
      (pss_one (ps_ret (pe_lc (own := [("state", 9)]) (g := gName 9) (tt := tYes) rfl sc_from_left.nd (pi_range1 (by rfl) T.range (pa_cons (pv 4) pa_nil)) (blkOk_by (N := N_from_left) (sc := defScope s_from_left) (by decide +kernel)) (fun _ _ _ _ _ => (pg_name (i := 9) sc_from_left.nd rfl (.inl rfl))) (fun _ _ _ _ _ => pts_nil) (fun _ _ _ _ _ => (pe_d D_compared (hr.mono (by omega)) (pa_cons (pv 0) (pa_cons (pv 1) (pa_cons (pe_listRg rfl (by rfl) T.list (prg_2 (by rfl) T.range (pv 9) (pv 4))) (pa_cons (pv 6) (pa_cons (pv 5) pa_nil))))))))))))), ?_⟩
    have hl1 := hf.1
    have hl4 : l.length ≤ 4 := by rcases hf.2 with h | h <;> omega
    have hL4 := hL.hi
    have hL2 := hL.lo
    refine ⟨fun σ H' => ∃ (a : Addr) (ns : List Int), σ = [some (.str (S L)), some (.str (S l)), some (.str way), some (.ref a), some (.int (l.length : Nat)), none, none, none, none, none] ∧ Ext [] H H' ∧ H' a = some (.lst (ns.map V.int)) ∧ Bord ns l.length, ?_, ?_⟩
    · refine ⟨_, rfl, l, rfl, by omega, fun H1 a ns x1 ha hB => ?_⟩
      refine ⟨_, rfl, S l, rfl, small (by show l.length ≤ _; omega), small (by show 2 ≤ 100000; omega), fun p np => ?_⟩
      refine ⟨p, _, rfl, SqT.of upd_same, rfl, _, _, rfl, _, _, rfl, rfl, ?_⟩
      exact ⟨a, ns, rfl, x1.fresh np, (upd_ne (ne_of_none ha np)).trans ha, hB⟩
    rintro σ H2 ⟨a, ns, rfl, x2, ha2, hB⟩
    have hbl := hB.len
    have hwl : l.length < ns.length := by omega
    have hg := List.getElem?_eq_getElem hwl
    generalize ns[l.length] = bw at hg
    have hbw := hB.lt _ _ hl1 hg
    have hgv : (ns.map V.int)[l.length]? = some (V.int bw) := by rw [List.getElem?_map, hg]; rfl
    refine ⟨fun σ H' => ∃ t u : Addr, σ = [some (.str (S L)), some (.str (S l)), some (.str way), some (.ref a), some (.int (l.length : Nat)), some (.ref t), some (.ref u), none, none, none] ∧ Ext [] H2 H' ∧ H2 u = none ∧ H' u = some (.dT []) ∧ TAt H' (.tell 0 (.go (((l.length : Nat) : Int) - bw) bw)) (.ref t), ?_, ?_⟩
    · refine ⟨_, rfl, _, rfl, _, rfl, a, _, _, _, rfl, rfl, SqL.of ha2, tup_at hgv rfl, _, _, rfl, rfl, _, rfl, _, rfl, a, _, _, _, rfl, rfl, SqL.of ha2, tup_at hgv rfl, small (by show 3 ≤ 100000; omega), fun g ng => ?_⟩
      refine ⟨small (by show 3 ≤ 100000; omega), fun t nt => ?_⟩
      intro u nu
      refine ⟨small (by show 2 ≤ 100000; omega), fun p2 np2 => ⟨p2, _, rfl, SqT.of upd_same, rfl, _, _, rfl, _, _, rfl, rfl, ?_⟩⟩
      have hup : u ≠ p2 := fun z => by
        rw [z, upd_same] at np2
        cases np2
      exact ⟨t, u, rfl, (((Ext.refl.fresh ng).fresh nt).fresh nu).fresh np2, upd_none (upd_none nu), (upd_ne hup).trans upd_same, ((Ext.refl (m := []).fresh nu).fresh np2).dat (mk_tell nt (mk_go ng))⟩
    rintro σ H5 ⟨t, u, rfl, x5, nu2, hu0, hlike⟩
    have x3 := x2.trans x5
    have nuH : H u = none := x2.none List.not_mem_nil nu2
    have ha5 := x5.keep _ _ ha2 List.not_mem_nil
    have hau : a ≠ u := ne_of ha5 hu0 (fun z => nomatch z)
    have hPl : Prt L.length l.length l.length 2 2 (.tell 0 (.go (((l.length : Nat) : Int) - bw) bw)) := ⟨⟨by omega, by omega, by omega, by omega, by omega, by omega⟩, Nat.le_refl _, Nat.le_refl _⟩
    -- the dict
    refine ⟨_, rfl, _, rfl, by omega, by omega, ?_⟩
    rw [Int.toNat_natCast]
    refine for_range (fun i σ H' => ∃ s7 s8 : Option V, σ = [some (.str (S L)), some (.str (S l)), some (.str way), some (.ref a), some (.int ((l.length : Nat) : Int)), some (.ref t), some (.ref u), s7, s8, none] ∧ Ext [u] H5 H' ∧ UnN H' u (fun p c => p < i ∧ c ∈ L) (Prt L.length l.length l.length 2 2) (i * L.length)) ⟨none, none, rfl, Ext.refl, [], hu0, Nat.zero_le _, fun p c h => by omega⟩ ?_ ?_
    · rintro i σ H6 hi ⟨s7, s8, rfl, x6, hU⟩
      have e0i : (0 : Int) + (i : Int) = (i : Int) := Int.zero_add _
      rw [e0i]
      refine ⟨_, rfl, S L, rfl, for_it walk_str (fun m σ H' => ∃ s8 : Option V, σ = [some (.str (S L)), some (.str (S l)), some (.str way), some (.ref a), some (.int ((l.length : Nat) : Int)), some (.ref t), some (.ref u), some (.int i), s8, none] ∧ Ext [u] H5 H' ∧ UnN H' u (fun p c => (p < i ∧ c ∈ L) ∨ (p = i ∧ c ∈ L.take m)) (Prt L.length l.length l.length 2 2) (i * L.length + m))
        ⟨s8, rfl, x6, hU.imp (fun p c h => by simpa using h) (Nat.le_refl _)⟩ (fun _ _ _ _ _ => trivial) ?_ ?_⟩
      · rintro m x σ H7 _ hm ⟨s8, rfl, x7, hU7⟩ ⟨rfl, ch, hch, rfl⟩
        have hchL : L[m]? = some ch := by simpa using hch
        have hnlm : i * L.length + m ≤ 10000 := by
          have h1 : i * L.length ≤ 4 * 4 := Nat.mul_le_mul (by omega) hL4
          have h2 : m < L.length := hm
          omega
        refine ⟨small (by show 1 ≤ 100000; omega), fun p3 np3 => ?_⟩
        have x8 := x7.fresh (o := .tup [.str "go"]) np3
        have x78 := Ext.refl.fresh (m := []) (o := .tup [.str "go"]) np3
        have hgo : DAt _ (.tuple [.str "go"]) (.ref p3) := DAt.tup (vs := [.str "go"]) (ds := [.str "go"]) np3 ⟨_, [], rfl, rfl, rfl⟩
        refine ⟨_, rfl, _, rfl, _, rfl, _, rfl, _, rfl, l, a, way, i, ch, ns, rfl, x8.keep _ _ ha5 (by simpa using hau), hB, by omega, by omega, fun H9 v s q1 x9 hv hs1 hs2 hq1 hq2 => ?_⟩
        refine ⟨[.str "go"], [.int s, .int q1], x9.dat hgo, hv, (by show 1 + 2 ≤ 100000; omega), fun z H10 x10 hz => ?_⟩
        have hz' : TAt H10 (.go s q1) z := hz
        refine ⟨_, rfl, _, rfl, _, rfl, small (by show 2 ≤ 100000; omega), fun kk nkk => ?_⟩
        have x11 := Ext.refl.fresh (m := []) (o := .tup [.int i, .str ⟨#[ch]⟩]) nkk
        have xx := x78.trans (x9.trans (x10.trans x11))
        obtain ⟨kvs, k1, k2, k3⟩ := (hU7.ext xx List.not_mem_nil).put (pl := i) (c := ch) hnlm upd_same (x11.dat hz') ⟨⟨hs1, hs2, hq1, hq2⟩, (Nat.le_succ 1), (Nat.le_succ 1)⟩
        refine ⟨u, _, rfl, k2, _, rfl, (x7.trans xx.any).put List.mem_cons_self hu0 (fun ys z => nomatch z), k3.imp (fun p c h => ?_) (Nat.le_refl _)⟩
        rcases h with h | ⟨rfl, h⟩
        · exact .inl (.inl h)
        · rw [List.take_add_one, hchL] at h
          rcases List.mem_append.mp h with h | h
          · exact .inl (.inr ⟨rfl, h⟩)
          · exact .inr ⟨rfl, by simpa using h⟩
      · rintro σ H7 ⟨s8, rfl, x7, hU7⟩
        refine ⟨_, s8, rfl, x7, hU7.imp (fun p c h => ?_) (by show i * L.length + L.length ≤ (i + 1) * L.length; rw [Nat.succ_mul]; omega)⟩
        have e : L.take (S L).cps.size = L := List.take_of_length_le (Nat.le_refl _)
        rw [e]
        by_cases hp : p = i
        · exact .inr ⟨hp, h.2⟩
        · exact .inl ⟨by omega, h.2⟩
    · rintro σ H6 ⟨s7, s8, rfl, x6, hU⟩
      have xH6 : Ext [] H H6 := ⟨fun b o e _ => x6.keep _ _ (x3.keep _ _ e List.not_mem_nil) (by simpa using ne_of_none e nuH), fun b ys e => x6.tups _ _ (x3.tups _ _ e)⟩
      have hUn : UnAt H6 u (fun i c => i < l.length ∧ c ∈ L) (Prt L.length l.length l.length 2 2) := hU.un fun _ _ h => h
      have hlike6 := x6.dat hlike
      refine ⟨_, rfl, _, rfl, by omega, by omega, fun D nD => ?_⟩
      rw [Int.toNat_natCast]
      refine lc_rel walk_range (fun _ H' => Ext [] H6 H') (fun j H' y => ∃ t, TAt H' t y ∧ Prt L.length l.length l.length 10 69 t) (by omega) (Ext.refl.new nD) (fun _ _ _ _ => trivial) (fun _ _ _ _ tt ⟨t, e1, e2⟩ => ⟨t, DAt.ext tt _ _ e1, e2⟩) (fun _ _ _ h => h.new nD) ?_ ?_
      · rintro i x H7 _ Nx hi x7 ⟨zs, hz⟩ ⟨rfl, rfl⟩ nx
        have e0i : (0 : Int) + (i : Int) = (i : Int) := Int.zero_add _
        refine ⟨rfl, _, rfl, _, rfl, _, rfl, _, rfl, _, _, rfl, rfl, RgOk.of_le (by omega) (by omega) (by omega) (by omega), fun pl npl => ?_⟩
        rw [e0i, rgV_nat]
        have x8 := Ext.refl.fresh (m := []) (o := .lst (((List.range (l.length - i)).map fun j => i + j).map fun i : Nat => V.int i)) npl
        refine ⟨_, rfl, _, rfl, L, l, (List.range (l.length - i)).map fun j => i + j, pl, u, .ref t, _, l.length, 2, 2, rfl, upd_same, fun j hj => ?_, hUn.ext0 (x7.trans x8), (x7.trans x8).dat hlike6, hPl, by omega, hL4, by omega, by rw [List.length_map, List.length_range]; omega, fun H9 t1 v1 x9 ht1 hP1 => ?_⟩
        · obtain ⟨k, hk, rfl⟩ := List.mem_map.mp hj
          rw [List.mem_range] at hk
          omega
        · rw [List.length_map, List.length_range] at hP1
          have := chS_few (b := 2) (k := l.length - i) hf (by omega)
          exact nx v1 H9 (x7.trans (x8.trans x9)) (x8.trans x9).tups (((x8.trans x9).keep _ _ hz List.not_mem_nil).trans hz.symm) ⟨t1, ht1, hP1.1, by have := hP1.2.1; omega, by have := hP1.2.2; omega⟩
      · rintro H7 ys x7 hD hys hR
        obtain ⟨ts, g1, g2, g3⟩ := tsAt_ex hR
        have hts : ts.length = l.length := by omega
        refine q H7 D ys ts (xH6.trans x7) hD g1 (good_of (sB := 69) hL hf (by omega) (by omega) (fun t ht => by rw [hts]; exact g3 t ht) ?_)
        rw [hts]
        have : l.length * 69 ≤ 4 * 69 := Nat.mul_le_mul_right _ hl4
        omega
end
end K21

set_option Elab.async false
set_option linter.all false
set_option maxRecDepth 100000
set_option maxHeartbeats 4000000
/-! makers.py: right slides, from_right -/
namespace K21
open PySem PySem.Spec PyProof.Rows L2
section
variable {P : Program} {w : World} {K : PySem.W.Frag} {mg : Str → Option Value} {base : Heap} {A0 : Ad} {f : Addr} {fd : FuncData}

abbrev N_is_good_slide : List Str := ["word", "place", "by", "width", "at"]
theorem sc_is_good_slide : FnScope N_is_good_slide ["word", "place", "by"] (defScope s_is_good_slide) := ⟨rfl, rfl, rfl, by decide +kernel, rfl, by decide +kernel, by decide +kernel⟩
def spGood : Sp := fun vs H Q _ => ∃ (l : List Nat) (place by' : Nat), vs = [.str (S l), .int place, .int by'] ∧ place < l.length ∧ 1 ≤ by' ∧ by' ≤ l.length ∧ l.length ≤ 8 ∧ ∀ H' b, Ext [] H H' → (by' = l.length → b = true) → Q (.bl b) H'
theorem ok_good_slide (T : Tx K mg A0) (F : Fd K "is_good_slide" "is_good_slide" s_is_good_slide f fd) : FnOk P w K mg base CX0 1 f fd ["word", "place", "by"] spGood := by
  refine fok F sc_is_good_slide (fun vs H Q E h => ?_) (fun cdv A outer s0 H vs Q E hr h => ?_)
  · obtain ⟨_, _, _, rfl, _⟩ := h
    rfl
  · obtain ⟨l, place, b, rfl, hp, hb1, hb2, hl8, q⟩ := h
    refine ⟨_, (pss_cons (ps_set (i := 3) sc_is_good_slide.nd rfl (.inl rfl) (pe_callB call_len_str (by rfl) T.len PySem.boot_len (pa_cons (pv 0) pa_nil)))
      (pss_cons (ps_if (pt_val (pe_callB (cr_any rfl) (by rfl) T.any (by decide +kernel) (pa_cons (pe_lc (own := [("at", 4)]) (g := gName 4) (tt := tYes) rfl sc_is_good_slide.nd (pi_range2 (by rfl) T.range (pa_cons (pe_callB (call_max2 rfl) (by rfl) T.max (by decide +kernel) (pa_cons (pe_op op_add (pv 1) pe_int) (pa_cons (pv 2) pa_nil))) (pa_cons (pv 3) pa_nil))) (blkOk_by (N := N_is_good_slide) (sc := defScope s_is_good_slide) (by decide +kernel)) (fun _ _ _ _ _ => (pg_name (i := 4) sc_is_good_slide.nd rfl (.inl rfl))) (fun _ _ _ _ _ => pts_nil) (fun _ _ _ _ _ => (pe_cmpR op_ne (pe_ix ix_str (pv 0) (pe_op op_sub (pv 4) (pv 2)) (fun _ _ => rfl)) (pe_ix ix_str (pv 0) (pv 4) (fun _ _ => rfl)) (nomark _)))) pa_nil)))
       (pss_one (ps_ret pe_bl))
       pss_nil)
      (pss_one (ps_ret (pe_or (pe_cmpR op_gt (pv 2) (pv 1) (nomark _)) (pe_one (pe_cmpR op_ne (pe_ix ix_str (pv 0) (pe_op op_sub (pv 1) (pv 2)) (fun _ _ => rfl)) (pe_ix ix_str (pv 0) (pv 1) (fun _ _ => rfl)) (nomark _)))))))), ?_⟩
    have hslen : small (n := l.length) (by omega) = small (n := l.length) (by omega) := rfl
    refine ⟨_, rfl, S l, rfl, small (by show l.length ≤ _; omega), ?_⟩
    refine ⟨_, rfl, _, _, rfl, rfl, _, rfl, _, _, rfl, _, rfl, _, _, rfl, ?_⟩
    have elo : (if (b : Int) > (place : Int) + 1 then (b : Int) else (place : Int) + 1) = ((max (place + 1) b : Nat) : Int) := by
      split <;> omega
    rw [elo]
    refine ⟨⟨by omega, by omega, by show -(2 ^ 62) ≤ ((l.length : Nat) : Int); omega, by show ((l.length : Nat) : Int) < 2 ^ 62; omega⟩, fun D nD => ?_⟩
    refine lc_rel walk_range (fun _ H' => Ext [] H H') (fun _ _ y => ∃ b, y = .bl b) (by show (((l.length : Nat) : Int) - _).toNat ≤ _; omega) (Ext.refl.new nD) (fun _ _ _ _ => trivial) (fun _ _ _ _ _ h => h) (fun _ _ _ h => h.new nD) ?_ ?_
    · rintro i x H2 _ Nx hi x2 ⟨zs, hz⟩ ⟨rfl, rfl⟩ nx
      have hi' : i < (((l.length : Nat) : Int) - ((max (place + 1) b : Nat) : Int)).toNat := hi
      have e1 : (((max (place + 1) b : Nat) : Int) + (i : Int)) = ((max (place + 1) b + i : Nat) : Int) := by omega
      have e2 : ((max (place + 1) b + i : Nat) : Int) - (b : Int) = ((max (place + 1) b + i - b : Nat) : Int) := by omega
      have h1 : max (place + 1) b + i < l.length := by omega
      have h2 : max (place + 1) b + i - b < l.length := by omega
      refine ⟨rfl, _, rfl, _, rfl, _, rfl, _, _, rfl, rfl, S l, _, _, rfl, rfl, small (by show l.length ≤ _; omega), (by rw [e1, e2]; exact atI_nat (List.getElem?_eq_getElem h2)), _, rfl, _, rfl, S l, _, _, rfl, rfl, small (by show l.length ≤ _; omega), (by rw [e1]; exact atI_nat (List.getElem?_eq_getElem h1)), rfl, ?_⟩
      exact nx _ _ x2 (Tups.refl _) rfl ⟨_, rfl⟩
    · intro H2 ys x2 hD hlen hR
      obtain ⟨bs, rfl⟩ := bools hR
      refine ⟨D, bs, rfl, SqL.of hD, bs.any id, rfl, ?_⟩
      cases hany : bs.any id with
      | true =>
        refine q _ _ x2 fun hbl => ?_
        exfalso
        have h0 : bs.length = 0 := by
          rw [List.length_map] at hlen
          rw [hlen]
          show (((l.length : Nat) : Int) - ((max (place + 1) b : Nat) : Int)).toNat = 0
          omega
        rw [List.eq_nil_of_length_eq_zero h0] at hany
        cases hany
      | false =>
        refine ⟨_, rfl, _, rfl, _, _, rfl, rfl, _, rfl, iteD2 (fun hgt => q _ _ x2 fun _ => rfl) (fun hgt => ?_)⟩
        have hgt' : ¬ (b : Int) > (place : Int) := hgt
        have e2 : (place : Int) - (b : Int) = ((place - b : Nat) : Int) := by omega
        have h2 : place - b < l.length := by omega
        refine ⟨_, rfl, _, rfl, _, rfl, _, _, rfl, rfl, S l, _, _, rfl, rfl, small (by show l.length ≤ _; omega), (by rw [e2]; exact atI_nat (List.getElem?_eq_getElem h2)), _, rfl, _, rfl, S l, _, _, rfl, rfl, small (by show l.length ≤ _; omega), atI_nat (List.getElem?_eq_getElem hp), rfl, ?_⟩
        exact q _ _ x2 fun hbl => by omega

abbrev N_right_slide : List Str := ["word", "way", "place", "letter", "bad", "good", "by"]
theorem sc_right_slide : FnScope N_right_slide ["word", "way", "place", "letter"] (defScope s_right_slide) := ⟨rfl, rfl, rfl, by decide +kernel, rfl, by decide +kernel, by decide +kernel⟩
def spRight : Sp := fun vs H Q _ => ∃ (l : List Nat) (way : Str) (place c : Nat), vs = [.str (S l), .str way, .int place, .str (S [c])] ∧ place < l.length ∧ l.length ≤ 8 ∧ ∀ H' (x : Int), Ext [] H H' → 1 ≤ x → x ≤ (l.length : Int) → Q (.int x) H'
theorem ok_right_slide (T : Tx K mg A0) (D_last_of : Dfn P w K mg base 1 "last_of" ["word", "letter", "end"] spLast) (D_is_good_slide : Dfn P w K mg base 1 "is_good_slide" ["word", "place", "by"] spGood) (F : Fd K "right_slide" "right_slide" s_right_slide f fd) : FnOk P w K mg base CX0 2 f fd ["word", "way", "place", "letter"] spRight := by
  refine fok F sc_right_slide (fun vs H Q E h => ?_) (fun cdv A outer s0 H vs Q E hr h => ?_)
  · obtain ⟨_, _, _, _, rfl, _⟩ := h
    rfl
  · obtain ⟨l, way, place, c, rfl, hp, hl8, q⟩ := h
    refine ⟨_, (pss_cons (ps_set (i := 4) sc_right_slide.nd rfl (.inl rfl) (pe_op op_sub (pv 2) (pe_d D_last_of (hr.mono (by omega)) (pa_cons (pv 0) (pa_cons (pv 3) (pa_cons (pv 2) pa_nil))))))
      (pss_cons (ps_set (i := 5) sc_right_slide.nd rfl (.inl rfl) (pe_ix ix_list (pe_lc (own := [("by", 6)]) (g := gName 6) rfl sc_right_slide.nd (pi_range2 (by rfl) T.range (pa_cons pe_int (pa_cons (pe_op op_add (pe_callB call_len_str (by rfl) T.len PySem.boot_len (pa_cons (pv 0) pa_nil)) pe_int) pa_nil))) (blkOk_by (N := N_right_slide) (sc := defScope s_right_slide) (by decide +kernel)) (fun _ _ _ _ _ => (pg_name (i := 6) sc_right_slide.nd rfl (.inl rfl))) (fun _ _ _ _ _ => (pts_one (pt_val (pe_d D_is_good_slide (hr.mono (by omega)) (pa_cons (pv 0) (pa_cons (pv 2) (pa_cons (pv 6) pa_nil))))))) (fun _ _ _ _ _ => (pv 6))) pe_int (fun _ _ => rfl)))
      (pss_cons (ps_if (pt_cmpR op_eq (pv 1) pe_str (nomark _))
       (pss_one (ps_ret (pv 4)))
       pss_nil)
      (pss_one (ps_ret (pe_ifExp (pt_cmpR op_eq (pv 1) pe_str (nomark _)) (pv 5) (pe_callB (call_max2 rfl) (by rfl) T.max (by decide +kernel) (pa_cons (pv 4) (pa_cons (pv 5) pa_nil))))))))), ?_⟩
    refine ⟨_, rfl, _, rfl, _, rfl, _, rfl, l, c, place, rfl, by omega, hl8, fun H1 x x1 hx1 hx2 => ?_⟩
    refine ⟨_, _, rfl, rfl, ?_⟩
    refine ⟨_, rfl, S l, rfl, small (by show l.length ≤ _; omega), _, _, rfl, rfl, _, _, rfl, ⟨by omega, by omega, by show -(2 ^ 62) ≤ ((l.length : Nat) : Int) + 1; omega, by show ((l.length : Nat) : Int) + 1 < 2 ^ 62; omega⟩, fun D nD => ?_⟩
    have en : (((((S l).length : Nat) : Int) + 1) - 1).toNat = l.length := by
      show ((((l.length : Nat) : Int) + 1) - 1).toNat = _
      omega
    rw [en]
    refine lc_acc walk_range (fun m zs H' => Ext [] H1 H' ∧ (∃ ks : List Int, zs = ks.map V.int ∧ ∀ y ∈ ks, 1 ≤ y ∧ y ≤ (l.length : Int)) ∧ (m = l.length → zs ≠ [])) (by omega) ⟨Ext.refl.new nD, ⟨[], rfl, fun y hy => (List.not_mem_nil hy).elim⟩, fun h => by omega⟩ (fun _ _ _ _ _ => trivial) ?_ ?_
    · rintro m zs x H7 _ Nx Ns hm ⟨x7, ⟨ks, rfl, hks⟩, hne⟩ hD7 hl7 ⟨rfl, rfl⟩ nx ns'
      have e1 : ((1 : Int) + (m : Int)) = ((m + 1 : Nat) : Int) := by omega
      refine ⟨rfl, _, rfl, _, rfl, _, rfl, l, place, m + 1, (by show [_, _, V.int (1 + (m : Int))] = _; rw [e1]), hp, by omega, by omega, hl8, fun H8 b x8 hb => ⟨b, rfl, ?_⟩⟩
      have hD8 := x8.keep _ _ hD7 List.not_mem_nil
      cases b with
      | true =>
        refine ⟨_, rfl, nx _ _ hD8 ⟨(x7.trans x8).new nD, ⟨ks ++ [1 + (m : Int)], by rw [List.map_append]; rfl, fun z hz => ?_⟩, fun _ => by simp⟩⟩
        rcases List.mem_append.mp hz with h | h
        · exact hks z h
        · rw [List.mem_singleton.mp h]; omega
      | false => exact ns' _ hD8 ⟨x7.trans x8, ⟨ks, rfl, hks⟩, fun h => nomatch hb h⟩
    · rintro H3 zs ⟨x3, ⟨ks, rfl, hks⟩, hne⟩ hD3 hl3
      have hk : ∃ y : Int, (ks.map V.int)[0]? = some (.int y) ∧ 1 ≤ y ∧ y ≤ (l.length : Int) := by
        cases ks with
        | nil => exact (hne rfl rfl).elim
        | cons y r => exact ⟨y, rfl, hks y List.mem_cons_self⟩
      obtain ⟨y, hy, hy1, hy2⟩ := hk
      refine ⟨D, _, _, _, rfl, rfl, SqL.of hD3, tup_at (j := 0) hy, ?_⟩
      have x13 := x1.trans x3
      refine ⟨_, rfl, rfl, _, rfl, iteD2 (fun _ => ⟨_, rfl, q _ _ x13 (by omega) (by omega)⟩) (fun _ => ?_)⟩
      refine ⟨_, rfl, rfl, _, rfl, iteD2 (fun _ => ⟨_, rfl, q _ _ x13 hy1 hy2⟩) (fun _ => ?_)⟩
      refine ⟨_, rfl, _, rfl, _, _, rfl, q _ _ x13 ?_ ?_⟩
      · split <;> omega
      · split <;> omega
end
end K21

set_option Elab.async false
set_option linter.all false
set_option maxRecDepth 100000
set_option maxHeartbeats 4000000
/-! makers.py: from_right -/
namespace K21
open PySem PySem.Spec PyProof.Rows L2
def Gos (wd : Nat) (t : Tree) : Prop := ∃ s : Int, t = .go s 0 ∧ 1 ≤ s ∧ s ≤ (wd : Int)
theorem Gos.prt {nl wd n dB sB : Nat} {t : Tree} (h : Gos wd t) (hn : 1 ≤ n) (hd : 1 ≤ dB) (hs : 1 ≤ sB) : Prt nl wd n dB sB t := by
  obtain ⟨s, rfl, h1, h2⟩ := h
  exact ⟨⟨h1, by omega, Int.le_refl _, by omega⟩, hd, hs⟩
theorem UnAt.imp {H : Hp} {u : Addr} {C : Nat → Nat → Prop} {Pr Pr' : Tree → Prop} (h : UnAt H u C Pr) (hp : ∀ t, Pr t → Pr' t) : UnAt H u C Pr' := by
  obtain ⟨kvs, h1, h2⟩ := h
  exact ⟨kvs, h1, fun pl c hc => by
    obtain ⟨v, t, e1, e2, e3⟩ := h2 pl c hc
    exact ⟨v, t, e1, e2, hp t e3⟩⟩
theorem rgV_0 (n : Nat) : rgV 0 (n : Int) = (List.range n).map fun i : Nat => V.int i := by
  have h := rgV_nat 0 n
  rw [Nat.sub_zero] at h
  have e : (List.range n).map (fun i => 0 + i) = List.range n := by simp
  rw [e] at h
  exact h
section
variable {P : Program} {w : World} {K : PySem.W.Frag} {mg : Str → Option Value} {base : Heap} {A0 : Ad} {f : Addr} {fd : FuncData}

abbrev N_from_right : List Str := ["letters", "word", "way", "width", "unlike", "place", "letter", "border", "is_known", "like", "places", "states"]
theorem sc_from_right : FnScope N_from_right ["letters", "word", "way"] (defScope s_from_right) := ⟨rfl, rfl, rfl, by decide +kernel, rfl, by decide +kernel, by decide +kernel⟩
theorem ok_from_right (T : Tx K mg A0) (D_borders_of : Dfn P w K mg base 1 "borders_of" ["word"] spBorders) (D_right_slide : Dfn P w K mg base 2 "right_slide" ["word", "way", "place", "letter"] spRight) (D_compared : Dfn P w K mg base 1 "compared" ["letters", "word", "places", "unlike", "like"] spCompared)
    (F : Fd K "from_right" "from_right" s_from_right f fd) : FnOk P w K mg base CX0 3 f fd ["letters", "word", "way"] spMaker := by
  refine fok F sc_from_right (fun vs H Q E h => ?_) (fun cdv A outer s0 H vs Q E hr h => ?_)
  · obtain ⟨_, _, _, rfl, _⟩ := h
    rfl
  · obtain ⟨L, l, way, rfl, hL, hf, hlL, q⟩ := h
    refine ⟨_, (C8.pss_cut (ps_par (i := 3) (j := 4) rfl sc_from_right.nd rfl rfl (by decide) rfl rfl (pa_cons (pe_callB call_len_str (by rfl) T.len PySem.boot_len (pa_cons (pv 1) pa_nil)) (pa_cons pe_dnewT pa_nil)) (by rfl))
      (C8.pss_cut (ps_for PassesOwn.never rfl (pi_range1 (by rfl) T.range (pa_cons (pv 3) pa_nil)) (pg_name (i := 5) sc_from_right.nd rfl (.inl rfl))
       (pss_one (ps_for PassesOwn.never rfl (pi_str (pv 0)) (pg_name (i := 6) sc_from_right.nd rfl (.inl rfl))
         (pss_one (ps_dput (hu_of hr) (pv 4) (pe_tup (pa_cons (pv 5) (pa_cons (pv 6) pa_nil))) (pe_tup (pa_cons pe_str (pa_cons (pe_d D_right_slide (hr.mono (by omega)) (pa_cons (pv 1) (pa_cons (pv 2) (pa_cons (pv 5) (pa_cons (pv 6) pa_nil))))) (pa_cons pe_int pa_nil)))) rfl)))))
      (pss_cons (ps_set (i := 7) sc_from_right.nd rfl (.inl rfl) (pe_ix ix_list (pe_d D_borders_of (hr.mono (by omega)) (pa_cons (pv 1) pa_nil)) (pv 3) (fun _ _ => rfl)))
      (C8.pss_cut (ps_set (i := 8) sc_from_right.nd rfl (.inl rfl) (pe_and (pe_cmpR op_eq (pv 2) pe_str (nomark _)) (pe_one (pe_cmpR op_gt (pv 7) pe_int (nomark _)))))
      (C8.pss_cut (ps_set (i := 9) sc_from_right.nd rfl (.inl rfl) (pe_tup (pa_cons pe_str (pa_cons pe_int (pa_cons (pe_tup (pa_cons pe_str (pa_cons (pe_ifExp (pt_cmpR op_eq (pv 2) pe_str (nomark _)) pe_int (pe_op op_sub (pv 3) (pv 7))) (pa_cons (pe_callTy call_int1 (by rfl) T.int (by decide +kernel) (pa_cons (pv 8) pa_nil)) pa_nil)))) pa_nil)))))
      (pss_cons (ps_set (i := 10) sc_from_right.nd rfl (.inl rfl) (pe_revL (pe_listRg rfl (by rfl) T.list (prg_1 (by rfl) T.range (pv 3)))))
      (pss_cons (ps_set (i := 11) sc_from_right.nd rfl (.inl rfl) (pe_lst (pa_cons (pe_d D_compared (hr.mono (by omega)) (pa_cons (pv 0) (pa_cons (pv 1) (pa_cons (pv 10) (pa_cons (pv 4) (pa_cons (pv 9) pa_nil)))))) pa_nil)))
      (pss_cons (ps_if (pt_val (pv 8))
       (pss_one (ps_expr (pe_bm PySem.F.plainAttrs_list PySem.F.slot_list_append PySem.F.type_list_append mt_append (pv 11) (pa_cons (pe_d D_compared (hr.mono (by omega)) (pa_cons (pv 0) (pa_cons (pv 1) (pa_cons (pe_slice sl_list (pv 10) po_none (po_some (pe_op op_sub (pv 3) (pv 7)))) (pa_cons (pv 4) (pa_cons (pv 9) pa_nil)))))) pa_nil))))
       pss_nil)
      (pss_one (ps_ret (pv 11))))))))))), ?_⟩
    have hl1 := hf.1
    have hl4 : l.length ≤ 4 := by rcases hf.2 with h | h <;> omega
    have hL4 := hL.hi
    have hL2 := hL.lo
    refine ⟨fun σ H' => ∃ u : Addr, σ = [some (.str (S L)), some (.str (S l)), some (.str way), some (.int (l.length : Nat)), some (.ref u), none, none, none, none, none, none, none] ∧ Ext [] H H' ∧ H u = none ∧ H' u = some (.dT []), ?_, ?_⟩
    · refine ⟨_, rfl, S l, rfl, small (by show l.length ≤ _; omega), fun u nu => ⟨_, _, rfl, u, rfl, Ext.refl.fresh nu, nu, upd_same⟩⟩
    rintro σ H5 ⟨u, rfl, x5, nuH, hu0⟩
    refine ⟨fun σ H' => ∃ s5 s6 : Option V, σ = [some (.str (S L)), some (.str (S l)), some (.str way), some (.int (l.length : Nat)), some (.ref u), s5, s6, none, none, none, none, none] ∧ Ext [] H H' ∧ UnAt H' u (fun i c => i < l.length ∧ c ∈ L) (Gos l.length), ?_, ?_⟩
    · refine ⟨_, rfl, _, rfl, by omega, by omega, ?_⟩
      rw [Int.toNat_natCast]
      refine for_range (fun i σ H' => ∃ s7 s8 : Option V, σ = [some (.str (S L)), some (.str (S l)), some (.str way), some (.int (l.length : Nat)), some (.ref u), s7, s8, none, none, none, none, none] ∧ Ext [u] H5 H' ∧ UnN H' u (fun p c => p < i ∧ c ∈ L) (Gos l.length) (i * L.length)) ⟨none, none, rfl, Ext.refl, [], hu0, Nat.zero_le _, fun p c h => by omega⟩ ?_ ?_
      · rintro i σ H6 hi ⟨s7, s8, rfl, x6, hU⟩
        have e0i : (0 : Int) + (i : Int) = (i : Int) := Int.zero_add _
        rw [e0i]
        refine ⟨_, rfl, S L, rfl, for_it walk_str (fun m σ H' => ∃ s8 : Option V, σ = [some (.str (S L)), some (.str (S l)), some (.str way), some (.int (l.length : Nat)), some (.ref u), some (.int i), s8, none, none, none, none, none] ∧ Ext [u] H5 H' ∧ UnN H' u (fun p c => (p < i ∧ c ∈ L) ∨ (p = i ∧ c ∈ L.take m)) (Gos l.length) (i * L.length + m))
          ⟨s8, rfl, x6, hU.imp (fun p c h => by simpa using h) (Nat.le_refl _)⟩ (fun _ _ _ _ _ => trivial) ?_ ?_⟩
        · rintro m x σ H7 _ hm ⟨s8, rfl, x7, hU7⟩ ⟨rfl, ch, hch, rfl⟩
          have hchL : L[m]? = some ch := by simpa using hch
          have hnlm : i * L.length + m ≤ 10000 := by
            have h1 : i * L.length ≤ 4 * 4 := Nat.mul_le_mul (by omega) hL4
            have h2 : m < L.length := hm
            omega
          refine ⟨_, rfl, _, rfl, _, rfl, _, rfl, l, way, i, ch, rfl, by omega, by omega, fun H9 s x9 hs1 hs2 => ?_⟩
          refine ⟨small (by show 3 ≤ 100000; omega), fun p3 np3 => ?_⟩
          have x10 := Ext.refl.fresh (m := []) (o := .tup [.str "go", .int s, .int 0]) np3
          refine ⟨_, rfl, _, rfl, _, rfl, small (by show 2 ≤ 100000; omega), fun kk nkk => ?_⟩
          have x11 := Ext.refl.fresh (m := []) (o := .tup [.int i, .str ⟨#[ch]⟩]) nkk
          have xx := x9.trans (x10.trans x11)
          obtain ⟨kvs, k1, k2, k3⟩ := (hU7.ext xx List.not_mem_nil).put (pl := i) (c := ch) hnlm upd_same (x11.dat (mk_go np3)) ⟨s, rfl, hs1, hs2⟩
          refine ⟨u, _, rfl, k2, _, rfl, (x7.trans xx.any).put List.mem_cons_self hu0 (fun ys z => nomatch z), k3.imp (fun p c h => ?_) (Nat.le_refl _)⟩
          rcases h with h | ⟨rfl, h⟩
          · exact .inl (.inl h)
          · rw [List.take_add_one, hchL] at h
            rcases List.mem_append.mp h with h | h
            · exact .inl (.inr ⟨rfl, h⟩)
            · exact .inr ⟨rfl, by simpa using h⟩
        · rintro σ H7 ⟨s8, rfl, x7, hU7⟩
          refine ⟨_, s8, rfl, x7, hU7.imp (fun p c h => ?_) (by show i * L.length + L.length ≤ (i + 1) * L.length; rw [Nat.succ_mul]; omega)⟩
          have e : L.take (S L).cps.size = L := List.take_of_length_le (Nat.le_refl _)
          rw [e]
          by_cases hp : p = i
          · exact .inr ⟨hp, h.2⟩
          · exact .inl ⟨by omega, h.2⟩
      · rintro σ H6 ⟨s7, s8, rfl, x6, hU⟩
        exact ⟨_, _, rfl, ⟨fun b o e _ => x6.keep _ _ (x5.keep _ _ e List.not_mem_nil) (by simpa using ne_of_none e nuH), fun b ys e => x6.tups _ _ (x5.tups _ _ e)⟩, hU.un fun _ _ h => h⟩
    rintro σ H6 ⟨s5, s6, rfl, x6, hU⟩
    refine ⟨_, rfl, l, rfl, by omega, fun H7 a ns x7 ha hB => ?_⟩
    have hbl := hB.len
    have hwl : l.length < ns.length := by omega
    have hg := List.getElem?_eq_getElem hwl
    generalize ns[l.length] = bw at hg
    have hbw := hB.lt _ _ hl1 hg
    obtain ⟨bw, rfl⟩ := Int.eq_ofNat_of_zero_le hbw.1
    have hgv : (ns.map V.int)[l.length]? = some (V.int (bw : Int)) := by rw [List.getElem?_map, hg]; rfl
    refine ⟨_, rfl, a, _, _, _, rfl, rfl, SqL.of ha, tup_at hgv rfl, ?_⟩
    refine ⟨fun σ H' => ∃ b : Bool, σ = [some (.str (S L)), some (.str (S l)), some (.str way), some (.int (l.length : Nat)), some (.ref u), s5, s6, some (.int bw), some (.bl b), none, none, none] ∧ H' = H7, ?_, ?_⟩
    · refine ⟨_, rfl, rfl, _, rfl, iteD2 (fun _ => ?_) (fun _ => ⟨_, rfl, rfl⟩)⟩
      exact ⟨_, rfl, _, _, rfl, rfl, _, rfl, rfl⟩
    rintro σ H' ⟨b, rfl, rfl⟩
    refine ⟨fun σ H'' => ∃ (t : Addr) (s : Int), σ = [some (.str (S L)), some (.str (S l)), some (.str way), some (.int (l.length : Nat)), some (.ref u), s5, s6, some (.int bw), some (.bl b), some (.ref t), none, none] ∧ Ext [] H' H'' ∧ 1 ≤ s ∧ s ≤ (l.length : Int) ∧ TAt H'' (.tell 0 (.go s (if b = true then 1 else 0))) (.ref t), ?_, ?_⟩
    · refine ⟨_, rfl, rfl, _, rfl, iteD2 (fun _ => ?_) (fun _ => ?_)⟩
      · refine ⟨_, rfl, .inr ⟨_, rfl, small (by show 3 ≤ 100000; omega), fun g ng => ⟨small (by show 3 ≤ 100000; omega), fun t nt => ⟨t, 1, rfl, (Ext.refl.fresh ng).fresh nt, by omega, by omega, mk_tell nt (mk_go ng)⟩⟩⟩⟩
      · refine ⟨_, rfl, _, rfl, _, _, rfl, rfl, _, rfl, .inr ⟨_, rfl, small (by show 3 ≤ 100000; omega), fun g ng => ⟨small (by show 3 ≤ 100000; omega), fun t nt => ⟨t, ((l.length : Nat) : Int) - bw, rfl, (Ext.refl.fresh ng).fresh nt, by omega, by omega, mk_tell nt (mk_go ng)⟩⟩⟩⟩
    rintro σ H8 ⟨t, s, rfl, x8, hs1, hs2, hlike⟩
    have hq : 0 ≤ (if b = true then (1 : Int) else 0) ∧ (if b = true then (1 : Int) else 0) < ((if b = true then 2 else 1 : Nat) : Int) := by cases b <;> decide
    generalize hN : (if b = true then 2 else 1 : Nat) = N at hq
    have hN1 : 1 ≤ N ∧ N ≤ 2 := by cases b <;> simp at hN <;> omega
    have hPl : Prt L.length l.length N 2 2 (.tell 0 (.go s (if b = true then 1 else 0))) := ⟨⟨by omega, by omega, hs1, by omega, hq.1, hq.2⟩, Nat.le_refl _, Nat.le_refl _⟩
    have hU8 : UnAt H8 u (fun i c => i < l.length ∧ c ∈ L) (Prt L.length l.length N 2 2) := ((hU.ext0 x7).ext0 x8).imp fun t h => h.prt hN1.1 (by omega) (by omega)
    refine ⟨_, rfl, _, rfl, RgOk.of_le (by omega) (by omega) (by omega) (by omega), fun q1 nq1 => ⟨q1, _, rfl, SqL.of upd_same, fun r1 nr1 => ?_⟩⟩
    have x9 : Ext [] H8 (upd (upd H8 q1 (.lst (rgV 0 ((l.length : Nat) : Int)))) r1 (.lst (rgV 0 ((l.length : Nat) : Int)).reverse)) := (Ext.refl.fresh nq1).fresh nr1
    have erv : (rgV 0 ((l.length : Nat) : Int)).reverse = (List.range l.length).reverse.map fun i : Nat => V.int i := by rw [rgV_0, List.map_reverse]
    have hr1 : (upd (upd H8 q1 (.lst (rgV 0 ((l.length : Nat) : Int)))) r1 (.lst (rgV 0 ((l.length : Nat) : Int)).reverse)) r1 = some (.lst ((List.range l.length).reverse.map fun i : Nat => V.int i)) := by rw [upd_same, erv]
    generalize upd (upd H8 q1 (.lst (rgV 0 ((l.length : Nat) : Int)))) r1 (.lst (rgV 0 ((l.length : Nat) : Int)).reverse) = H9 at x9 hr1
    have hmem : ∀ j ∈ (List.range l.length).reverse, j < l.length := fun j hj => by
      rw [List.mem_reverse, List.mem_range] at hj
      exact hj
    refine ⟨_, rfl, _, rfl, _, rfl, _, rfl, _, rfl, L, l, (List.range l.length).reverse, r1, u, .ref t, _, N, 2, 2, rfl, hr1, hmem, hU8.ext0 x9, x9.dat hlike, hPl, by omega, hL4, by omega, by rw [List.length_reverse, List.length_range]; omega, fun H10 t1 v1 x10 ht1 hP1 => ?_⟩
    rw [List.length_reverse, List.length_range] at hP1
    have hc1 := chS_few (b := 2) (k := l.length) hf (Nat.le_refl _)
    refine ⟨small (by show 1 ≤ 100000; omega), fun sl nsl => ?_⟩
    have x11 := Ext.refl.fresh (m := []) (o := .lst [v1]) nsl
    have ht11 := x11.dat ht1
    have hsl : (upd H10 sl (.lst [v1])) sl = some (.lst [v1]) := upd_same
    generalize upd H10 sl (.lst [v1]) = H11 at x11 ht11 hsl
    have xall : Ext [] H H11 := x6.trans (x7.trans (x8.trans (x9.trans (x10.trans x11))))
    have x911 := x10.trans x11
    have hPx : Prt L.length l.length N 10 69 t1 := ⟨hP1.1, by have := hP1.2.1; omega, by have := hP1.2.2; omega⟩
    refine ⟨_, rfl, b, rfl, ?_⟩
    cases b with
    | false =>
      have eN : N = 1 := by rw [← hN]; rfl
      subst eN
      exact ⟨_, rfl, q H11 sl [v1] [t1] xall hsl (DAts.one ht11) (good_of (sB := 69) hL hf (by show 1 ≤ 1; omega) (by show 1 ≤ 64; omega) (fun t ht => by rw [List.mem_singleton.mp ht]; exact hPx) (by show 1 * 69 ≤ 3000; omega))⟩
    | true =>
      have eN : N = 2 := by rw [← hN]; rfl
      subst eN
      have ecut : cutV ((List.range l.length).reverse.map fun i : Nat => V.int i) none (some (((l.length : Nat) : Int) - (bw : Int))) = ((List.range l.length).reverse.take (l.length - bw)).map fun i : Nat => V.int i := by
        have e1 : (((l.length : Nat) : Int) - (bw : Int)) = ((l.length - bw : Nat) : Int) := by omega
        unfold cutV
        rw [e1, HT.sIx_none, List.length_map, List.length_reverse, List.length_range, sIx_n (by omega), List.drop_zero, Nat.sub_zero, List.map_take]
      refine ⟨_, rfl, .inl ⟨rfl, _, SqL.of hsl⟩, _, rfl, _, rfl, _, rfl, _, rfl, _, rfl, _, _, rfl, rfl, _, rfl, r1, _, rfl, SqL.of (x911.keep _ _ hr1 List.not_mem_nil), fun p2 np2 => ?_⟩
      rw [ecut]
      have x12 := Ext.refl.fresh (m := []) (o := .lst (((List.range l.length).reverse.take (l.length - bw)).map fun i : Nat => V.int i)) np2
      refine ⟨_, rfl, _, rfl, L, l, (List.range l.length).reverse.take (l.length - bw), p2, u, .ref t, _, 2, 2, 2, rfl, upd_same, fun j hj => hmem j (List.mem_of_mem_take hj), (hU8.ext0 x9).ext0 (x911.trans x12), (x911.trans x12).dat (x9.dat hlike), hPl, by omega, hL4, by omega, by rw [List.length_take, List.length_reverse, List.length_range]; omega, fun H13 t2 v2 x13 ht2 hP2 => ?_⟩
      rw [List.length_take, List.length_reverse, List.length_range] at hP2
      have hc2 := chS_few (b := 2) (k := min (l.length - bw) l.length) hf (by omega)
      have hsl13 := (x12.trans x13).keep _ _ hsl List.not_mem_nil
      refine ⟨sl, _, _, rfl, rfl, hsl13, Nat.lt_of_le_of_lt (show [v1].length ≤ 100 by show 1 ≤ 100; omega) (by rw [sizeLine_eq]; omega), ?_⟩
      have nslH : H sl = none := (x6.trans (x7.trans (x8.trans (x9.trans x10)))).none List.not_mem_nil nsl
      have x14 : Ext [] H (upd H13 sl (.lst [v1, v2])) := (xall.trans (x12.trans x13)).new nslH
      have t14 : Tups H13 (upd H13 sl (.lst [v1, v2])) := Tups.lst hsl13
      have hPy : Prt L.length l.length 2 10 69 t2 := ⟨hP2.1, by have := hP2.2.1; omega, by have := hP2.2.2; omega⟩
      refine ⟨_, rfl, q _ sl [v1, v2] [t1, t2] x14 upd_same (DAts.cons (DAt.ext t14 _ _ ((x12.trans x13).dat ht11)) (DAts.one (DAt.ext t14 _ _ ht2))) (good_of (sB := 69) hL hf (by show 1 ≤ 2; omega) (by show 2 ≤ 64; omega) (fun t ht => ?_) (by show 2 * 69 ≤ 3000; omega))⟩
      rcases List.mem_cons.mp ht with rfl | ht
      · exact hPx
      · rw [List.mem_singleton.mp ht]; exact hPy
end
end K21

set_option Elab.async false
set_option linter.all false
set_option maxRecDepth 100000
set_option maxHeartbeats 4000000
/-! {(..): v for .. in .. for .. in ..}: two clauses, keys tuples -/
namespace K21
open PySem PySem.Spec PyProof.Rows L2
theorem turn_out (kx vx t0 i0 t1 i1 : Expr) (f0 f1 : List Expr) (scope : Scope) (pos : Pos) (it : Value) (D : Addr) (env : Env) :
    compTurn (.DictComp kx vx [⟨t0, i0, f0, 0⟩, ⟨t1, i1, f1, 0⟩] scope pos) 0 it (.ref D) env = (do
      standAt i0.pos
      match ← pyNext it with
      | none => pure (.done .next)
      | some v =>
        letOwnedTupleGo t0 it v
        assign t0 env v
        let mut ok := true
        for c in f0 do
          if ok then ok ← isTrue c env (eval c env)
        if ok then
          let x ← eval i1 env
          standAt i1.pos
          let x ← foldedSetIterable i1 env x
          let _ ← runOwn (.compStart (.DictComp kx vx [⟨t0, i0, f0, 0⟩, ⟨t1, i1, f1, 0⟩] scope pos) 1 (← holding [x] (pyIter x)) (.ref D) env) env
        again (.compLoop (.DictComp kx vx [⟨t0, i0, f0, 0⟩, ⟨t1, i1, f1, 0⟩] scope pos) 0 it (.ref D) env)) := by rfl
theorem turn_in (kx vx t0 i0 t1 i1 : Expr) (f0 f1 : List Expr) (scope : Scope) (pos : Pos) (it : Value) (D : Addr) (env : Env) :
    compTurn (.DictComp kx vx [⟨t0, i0, f0, 0⟩, ⟨t1, i1, f1, 0⟩] scope pos) 1 it (.ref D) env = (do
      standAt i1.pos
      match ← pyNext it with
      | none => pure (.done .next)
      | some v =>
        letOwnedTupleGo t1 it v
        assign t1 env v
        let mut ok := true
        for c in f1 do
          if ok then ok ← isTrue c env (eval c env)
        if ok then
          (do
            let kv ← eval kx env
            let vv ← holding [kv] (eval vx env)
            standAt { kx.pos with endLine := vx.pos.endLine, endCol := vx.pos.endCol }
            holding [kv, vv] (dictSet D kv vv))
        again (.compLoop (.DictComp kx vx [⟨t0, i0, f0, 0⟩, ⟨t1, i1, f1, 0⟩] scope pos) 1 it (.ref D) env)) := by rfl
abbrev DC (kx vx t0 i0 t1 i1 : Expr) (f0 f1 : List Expr) (scope : Scope) (pos : Pos) : Expr := .DictComp kx vx [⟨t0, i0, f0, 0⟩, ⟨t1, i1, f1, 0⟩] scope pos
section
variable {prog : Program} {w : World} {A : Around} {R : Result → Shared → Prop} {s : Shared} {kx vx t0 i0 t1 i1 : Expr} {f0 f1 : List Expr} {scope : Scope} {pos : Pos} {it : Value} {D : Addr} {env : Env}
theorem loop_out (hs : ∀ x, foldedSetIterable i1 env x = pure x) (I : Nat → Shared → Prop)
    (turn : ∀ n s, I n s → wpAny (model prog w) A (pyNext it) (fun r s₁ => match r with
      | none => R (.ok .next) s₁
      | some v => wpAny (model prog w) A (letOwnedTupleGo t0 it v) (fun _ s₁' => wpAny (model prog w) A (assign t0 env v) (fun _ s₂ =>
          wpAny (model prog w) A (forIn f0 true fun c r => if r = true then do let ok ← isTrue c env (eval c env); pure (ForInStep.yield ok) else pure (ForInStep.yield r)) (fun ok s₃ =>
            if ok = true then wpAny (model prog w) A (eval i1 env) (fun x s₄ => wpAny (model prog w) A (pyIter x) (fun it1 s₅ =>
              codeAny (model prog w) A (.compStart (DC kx vx t0 i0 t1 i1 f0 f1 scope pos) 1 it1 (.ref D) env) (fun r s' => match r with
                | .ok _ => ∃ m, m < n ∧ I m s'
                | .error _ => False) s₅) (notedBy (model prog w) A env fun e s' => R (.error e) s') s₄) (notedBy (model prog w) A env fun e s' => R (.error e) s') s₃
            else ∃ m, m < n ∧ I m s₃) (notedBy (model prog w) A env fun e s' => R (.error e) s') s₂) (notedBy (model prog w) A env fun e s' => R (.error e) s') s₁') (notedBy (model prog w) A env fun e s' => R (.error e) s') s₁) (notedBy (model prog w) A env fun e s' => R (.error e) s') s)
    (n : Nat) (h : I n s) : codeAny (model prog w) A (.compLoop (DC kx vx t0 i0 t1 i1 f0 f1 scope pos) 0 it (.ref D) env) R s := by
  refine codeAny_loop rfl I (fun n s hI => ?_) n h
  show wpAny _ A ((compTurn (DC kx vx t0 i0 t1 i1 f0 f1 scope pos) 0 it (.ref D) env).onRaise (fun x => do noteFrame x env; theTreesLotGoes x)) _ _ s
  refine wpAny_noted ?_
  rw [turn_out]
  refine wpAny_bind (wpAny_standAt (wpAny_bind (wpAny_mono (turn n s hI) (fun r s₁ h₁ => ?_) fun _ _ h' => h')))
  cases r with
  | none => exact wpAny_pure h₁
  | some v =>
    refine wpAny_bind (wpAny_mono h₁ (fun _ s₁' h₁' => ?_) fun _ _ h' => h')
    refine wpAny_bind (wpAny_mono h₁' (fun _ s₂ h₂ => wpAny_bind (wpAny_mono h₂ (fun ok s₃ h₃ => ?_) fun _ _ h' => h')) fun _ _ h' => h')
    cases ok with
    | false => exact wpAny_pure ⟨rfl, h₃⟩
    | true =>
      refine wpAny_bind (wpAny_mono h₃ (fun x s₄ h₄ => ?_) fun _ _ h' => h')
      refine wpAny_bind (wpAny_standAt (wpAny_bind (wpAny_of_eq (hs x) (wpAny_bind (wpAny_holding (wpAny_mono h₄ (fun it1 s₅ h₅ => ?_) fun _ _ h' => h'))))))
      refine wpAny_bind (wpAny_runOwn ?_)
      rw [Around.mark_none]
      refine codeAny_mono h₅ fun r s' hr => ?_
      cases r with
      | ok f =>
        first
          | exact wpAny_pure ⟨rfl, hr⟩
          | exact wpAny_bind (wpAny_pure (wpAny_pure ⟨rfl, hr⟩))
      | error e => exact hr.elim
theorem loop_in (I : Nat → Shared → Prop)
    (turn : ∀ n s, I n s → wpAny (model prog w) A (pyNext it) (fun r s₁ => match r with
      | none => R (.ok .next) s₁
      | some v => wpAny (model prog w) A (letOwnedTupleGo t1 it v) (fun _ s₁' => wpAny (model prog w) A (assign t1 env v) (fun _ s₂ =>
          wpAny (model prog w) A (forIn f1 true fun c r => if r = true then do let ok ← isTrue c env (eval c env); pure (ForInStep.yield ok) else pure (ForInStep.yield r)) (fun ok s₃ =>
            if ok = true then wpAny (model prog w) A (eval kx env) (fun kv s₄ => wpAny (model prog w) A (eval vx env) (fun vv s₅ =>
              wpAny (model prog w) A (dictSet D kv vv) (fun _ s₆ => ∃ m, m < n ∧ I m s₆) (notedBy (model prog w) A env fun e s' => R (.error e) s') s₅) (notedBy (model prog w) A env fun e s' => R (.error e) s') s₄) (notedBy (model prog w) A env fun e s' => R (.error e) s') s₃
            else ∃ m, m < n ∧ I m s₃) (notedBy (model prog w) A env fun e s' => R (.error e) s') s₂) (notedBy (model prog w) A env fun e s' => R (.error e) s') s₁') (notedBy (model prog w) A env fun e s' => R (.error e) s') s₁) (notedBy (model prog w) A env fun e s' => R (.error e) s') s)
    (n : Nat) (h : I n s) : codeAny (model prog w) A (.compLoop (DC kx vx t0 i0 t1 i1 f0 f1 scope pos) 1 it (.ref D) env) R s := by
  refine codeAny_loop rfl I (fun n s hI => ?_) n h
  show wpAny _ A ((compTurn (DC kx vx t0 i0 t1 i1 f0 f1 scope pos) 1 it (.ref D) env).onRaise (fun x => do noteFrame x env; theTreesLotGoes x)) _ _ s
  refine wpAny_noted ?_
  rw [turn_in]
  refine wpAny_bind (wpAny_standAt (wpAny_bind (wpAny_mono (turn n s hI) (fun r s₁ h₁ => ?_) fun _ _ h' => h')))
  cases r with
  | none => exact wpAny_pure h₁
  | some v =>
    refine wpAny_bind (wpAny_mono h₁ (fun _ s₁' h₁' => ?_) fun _ _ h' => h')
    refine wpAny_bind (wpAny_mono h₁' (fun _ s₂ h₂ => wpAny_bind (wpAny_mono h₂ (fun ok s₃ h₃ => ?_) fun _ _ h' => h')) fun _ _ h' => h')
    cases ok with
    | false => exact wpAny_pure ⟨rfl, h₃⟩
    | true =>
      exact wpAny_bind (wpAny_bind (wpAny_mono h₃ (fun kv s₄ h₄ => wpAny_bind (wpAny_holding (wpAny_mono h₄ (fun vv s₅ h₅ => wpAny_bind (wpAny_standAt (wpAny_holding (wpAny_mono h₅ (fun _ s₆ h₆ => wpAny_pure ⟨rfl, h₆⟩) fun _ _ h' => h')))) fun _ _ h' => h'))) fun _ _ h' => h'))
theorem start1 (h0 : codeAny (model prog w) A (.compLoop (DC kx vx t0 i0 t1 i1 f0 f1 scope pos) 1 it (.ref D) env) R s)
    (h : wpAny (model prog w) A (pyIter it) (fun it' s' => codeAny (model prog w) A (.compLoop (DC kx vx t0 i0 t1 i1 f0 f1 scope pos) 1 it' (.ref D) env) R s')
      (notedBy (model prog w) A env fun x s' => R (.error x) s') s) : codeAny (model prog w) A (.compStart (DC kx vx t0 i0 t1 i1 f0 f1 scope pos) 1 it (.ref D) env) R s := by
  refine codeAny_of_tree ?_
  show wpAny _ _ ((compStart (DC kx vx t0 i0 t1 i1 f0 f1 scope pos) 1 it (.ref D) env).onRaise (fun x => do noteFrame x env; standAt theWindowsPlace)) _ _ s
  refine wpAny_notedAt ?_
  unfold compStart
  show wpAny _ _ (ask >>= _) _ _ s
  refine wpAny_bind (wpAny_askSetting (wpAny_ite ?_))
  split
  · first
      | exact wpAny_bind (wpAny_pure (wpAny_pure (And.intro rfl h0)))
      | exact wpAny_pure (And.intro rfl h0)
  · first
      | exact wpAny_bind (wpAny_rule (wpAny_bind (wpAny_standAt (wpAny_bind (wpAny_mono h (fun it' s' h' => wpAny_pure (And.intro rfl h')) fun _ _ x => x)))))
      | (refine wpAny_bind (wpAny_rule ?_); show wpAny _ _ (standAt i1.pos >>= _) _ _ s; exact wpAny_bind (wpAny_standAt (wpAny_bind (wpAny_mono h (fun it' s' h' => wpAny_pure (And.intro rfl h')) fun _ _ x => x))))
end
theorem dictSetT {X : Cx} {pins : List (Addr × Obj)} {σ : L2.St} {H : Hp} {s : Shared} {E : Value → Shared → Prop} {D b : Addr} {kvs : List (List Key × V)} {k : List Key} {v : V} {r : Value} {Q : Unit → Shared → Prop} (hu : X.A.units + 1 < cLine) (I : Inv X pins σ H s) (hD : H D = some (.dT kvs)) (hz : kvs.length < sizeLine)
    (eb : H b = some (.tup (k.map kV))) (rv : RelV v r) (h : ∀ s', Inv X pins σ (upd H D (.dT (putK kvs k v))) s' → Q () s') : wpAny (model X.prog X.w) X.A (dictSet D (.ref b) r) Q E s := by
  obtain ⟨z, hd, xs, rel, dd⟩ := dt_of I.hok hD
  have hzz : xs.length ≤ sizeLine := by rw [← Paired.length rel]; exact z
  have hl : (putK kvs k v).length ≤ sizeLine := by have := length_putK kvs k v; omega
  refine wpAny_dictSet_heap (hsz := hzz) (Nat.lt_of_succ_lt hu) (key_of I.hok eb) dd fun h' dd' hs => h _ ?_
  obtain ⟨q, es, ep, hq, h2, h3, h4, _, h5⟩ := dd'
  refine d_write I (by rw [hD]; exact True.intro) hs ⟨q, hq⟩ ⟨hl, hd, _, (rel.put k eb rv).keeps fun c ys ec => ?_, q, es, ep, hq, h2, h3, h4, h5⟩
  rw [upd_ne (ne_of ec hD (fun z => nomatch z))]
  exact ec
section
variable {X : Cx}
/-- the reading: behind the first clause's store the second source's own loop -/
def tDc2 (wi : TI) (g : TG) (wi1 : TI) (g1 : TG) (tk tv : TE) (vs vs1 : List Nat) : TE := fun σ H Q => wi σ H fun J H1 => ∀ D, H1 D = none → ∃ W : Nat → Nat → Hp → Prop, (∃ m, W 0 m (upd H1 D (.dT []))) ∧ ∀ i m H, W i m H →
  (J.stop i H ∧ Q (.ref D) H) ∨ (J.go i H ∧ ∃ Nx : Hp → Prop, (∀ H', Nx H' → ∃ m', m' < m ∧ W (i + 1) m' H') ∧ ∀ x H', J.yld i H x H' → g x (wipe σ vs) H' fun σ2 H3 => wipe σ2 vs = wipe σ vs ∧
    wi1 σ2 H3 fun J1 H4 => ∃ W1 : Nat → Nat → Hp → Prop, (∃ m, W1 0 m H4) ∧ ∀ j k H, W1 j k H →
      (J1.stop j H ∧ Nx H) ∨ (J1.go j H ∧ ∃ Nx1 : Hp → Prop, (∀ H', Nx1 H' → ∃ k', k' < k ∧ W1 (j + 1) k' H') ∧ ∀ x H', J1.yld j H x H' → g1 x (wipe σ2 vs1) H' fun σ3 H5 => wipe σ3 vs1 = wipe σ2 vs1 ∧
        tk σ3 H5 fun y H6 => tv σ3 H6 fun z H7 => ∃ (b : Addr) (kvs : List (List Key × V)) (k : List Key), y = .ref b ∧ H7 b = some (.tup (k.map kV)) ∧ H7 D = some (.dT kvs) ∧ kvs.length < sizeLine ∧ Nx1 (upd H7 D (.dT (putK kvs k z)))))
theorem dc2_core {pins : List (Addr × Obj)} {s : Shared} {σ : L2.St} {H : Hp} {Q : VK} {kx vx tg iter tg1 iter1 : Expr} {scope : Scope} {own : List (Str × Nat)} {vs1 : List Nat} {pos pos' : Pos} {wi wi1 : TI} {g g1 : TG} {tk tv : TE} {use : Option (Value → Sem Unit)} {Qf : Value → Shared → Prop}
    (hu : X.A.units + 1 < cLine) (hc : X.calm = true) (hN : X.N.Nodup) (I : Inv X pins σ H s) (hi : PI X tg iter wi) (ok : BlkOk X.N X.env.scope scope own) (hv : ∀ i ∈ vs1, i ∈ own.map (·.2))
    (hg : ∀ (s : Shared) (H : Hp) (C : Addr) (cl : List (Str × Addr)) (fp : List Addr), PG (X.blk s H scope (compEnvC scope cl C X.env) fp) tg g)
    (hi1 : ∀ (s : Shared) (H : Hp) (C : Addr) (cl : List (Str × Addr)) (fp : List Addr), PI (X.blk s H scope (compEnvC scope cl C X.env) fp) tg1 iter1 wi1)
    (hg1 : ∀ (s : Shared) (H : Hp) (C : Addr) (cl : List (Str × Addr)) (fp : List Addr), PG (X.blk s H scope (compEnvC scope cl C X.env) fp) tg1 g1)
    (hk : ∀ (s : Shared) (H : Hp) (C : Addr) (cl : List (Str × Addr)) (fp : List Addr), PE (X.blk s H scope (compEnvC scope cl C X.env) fp) kx tk)
    (he : ∀ (s : Shared) (H : Hp) (C : Addr) (cl : List (Str × Addr)) (fp : List Addr), PE (X.blk s H scope (compEnvC scope cl C X.env) fp) vx tv) (hs : ∀ x, foldedSetIterable iter X.env x = pure x) (hs1 : ∀ env x, foldedSetIterable iter1 env x = pure x)
    (h : tDc2 wi g wi1 g1 tk tv (own.map (·.2)) vs1 σ H Q)
    (hRR : ∀ D C s' m H', Inv X pins σ H' s' → Q (.ref D) H' → s'.heap.Ns C m → FpOk X pins H' C → compPost (model X.prog X.w) X.A X.xe use Qf (.ref D) C (.ok .next) s') :
    wpAny (model X.prog X.w) X.A (comprehension (DC kx vx tg iter tg1 iter1 [] [] scope pos) scope X.env pos' newDict false (eval iter X.env) use) Qf X.xe s := by
  have hfree : ∀ y ∈ scope.names, y.2 = .free → ∃ c, X.env.cells.lookup y.1 = some c := fun y hy e => by
    rcases ok.free y hy e with k | k
    · exact I.ok.has _ (.inl k)
    · exact I.ok.has _ (.inr k)
  refine wpAny_comprehension_free (use := use) rfl hs (closure_ok hfree) ok.kind (fun y hy e => by rw [ok.uniq y hy, e])
    (thn (hi.run pins s σ H _ I h) fun xv s1 hx => thn hx fun itv s2 h2 => ?_)
  obtain ⟨it, fp, tn, J, H2, e, I2, T, st2, f2, q⟩ := h2
  subst e
  refine wpAny_newObj_type (newEnv_comp ?_)
  generalize hD : s2.heap.objs.size = D
  have hDn : H2 D = none := I2.hok.fresh (Nat.le_of_eq hD)
  obtain ⟨W, ⟨m0, w0⟩, turn⟩ := q D hDn
  generalize hs3 : ({ s2 with heap := s2.heap.push { cls := .type "dict", data := .dict #[] } } : Shared) = s3
  have I3 : Inv X pins σ (upd H2 D (.dT [])) s3 := by
    rw [← hs3]
    refine I2.laid (t' := s2.toks) (fun b o e => Heap.get?_push_of_some _ e) (Nat.le_of_eq hD) ?_
    rw [← hD]
    exact dt_empty s2.heap I2.big
  have h3 : s3.heap = s2.heap.push { cls := .type "dict", data := .dict #[] } := by rw [← hs3]
  have sz : ∀ b ∈ fp, b < s2.heap.objs.size := fun b hb => by
    obtain ⟨o, e, _⟩ := T.obj _ _ st2 b hb
    exact Heap.lt_size e
  have f3 : ∀ b ∈ fp, FpOk X pins (upd H2 D (.dT [])) b ∧ b < s3.heap.objs.size := fun b hb => by
    have hlt := sz b hb
    refine ⟨⟨?_, (f2 b hb).2⟩, by rw [h3, Heap.size_push]; exact Nat.lt_succ_of_lt hlt⟩
    rw [upd_ne (by rw [← hD]; exact Nat.ne_of_lt hlt)]
    exact (f2 b hb).1
  have st3 : tn 0 s3.heap := T.keep _ _ _ st2 fun b _ o e => by rw [h3]; exact Heap.get?_push_of_some _ e
  have I4 := block_start I3 ok hN f3
  generalize hcl : cellsFrom (s3.heap.objs.size + 1) scope.names (cloFrom X.env.cells scope.names []) = cl0 at I4
  have pg := hg s3 (upd H2 D (.dT [])) s3.heap.objs.size cl0 fp
  have pk := hk s3 (upd H2 D (.dT [])) s3.heap.objs.size cl0 fp
  have pe := he s3 (upd H2 D (.dT [])) s3.heap.objs.size cl0 fp
  have pi1 := hi1 s3 (upd H2 D (.dT [])) s3.heap.objs.size cl0 fp
  have pg1 := hg1 s3 (upd H2 D (.dT [])) s3.heap.objs.size cl0 fp
  show codeAny _ _ (.compStart (DC kx vx tg iter tg1 iter1 [] [] scope pos) 0 (.ref it) (.ref D) (compEnvC scope cl0 s3.heap.objs.size X.env)) (compPost (model X.prog X.w) X.A X.xe use Qf (.ref D) s3.heap.objs.size) { s3 with heap := pushCells (s3.heap.push { cls := .type "dict", data := .dict #[] }) scope.names }
  have nfp : ∀ b ∈ fp, (upd H2 D (.dT [])) b = none := fun b hb => (f3 b hb).1.1
  generalize hce : compEnvC scope cl0 s3.heap.objs.size X.env = ce at I4 pg pk pe pi1 pg1 ⊢
  have cL : ce.locals = s3.heap.objs.size := by subst hce; rfl
  generalize hH3 : upd H2 D (.dT []) = H3 at I3 I4 pg pk pe pi1 pg1 w0 nfp f3
  generalize hs4 : ({ s3 with heap := pushCells (s3.heap.push { cls := .type "dict", data := .dict #[] }) scope.names } : Shared) = s4 at I4 ⊢
  have st4 : tn 0 s4.heap := T.keep _ _ _ st3 fun b _ o e => by rw [← hs4]; exact pushCells_keeps _ _ _ _ (Heap.get?_push_of_some _ e)
  have stat : ∀ {σ' : L2.St} {H' : Hp} {s' : Shared}, Inv (X.blk s3 H3 scope ce fp) [] σ' H' s' → (∀ b ∈ fp, H' b = none) → ∀ b ∈ fp, FpOk (X.blk s3 H3 scope ce fp) [] H' b := fun {σ' H' s'} I' hn b hb =>
    ⟨hn b hb, (I'.ok.exf b hb).1, I'.ok.exfs b hb, .inl hb, fun x c e => (I'.ok.exf b hb).2 x c e, fun p hp => absurd (show p ∈ ([] : List (Addr × Obj)) ++ [] from hp) (by simp)⟩
  have loop : codeAny (model X.prog X.w) X.A (.compLoop (DC kx vx tg iter tg1 iter1 [] [] scope pos) 0 (.ref it) (.ref D) ce) (compPost (model X.prog X.w) X.A X.xe use Qf (.ref D) s3.heap.objs.size) s4 := by
    refine loop_out (hs1 ce) (fun n s' => ∃ i H', Inv (X.blk s3 H3 scope ce fp) [] (wipe σ (own.map (·.2))) H' s' ∧ tn i s'.heap ∧ (∀ b ∈ fp, H' b = none) ∧ W i n H') ?_ m0 ⟨0, H3, I4, st4, nfp, w0⟩
    rintro n s5 ⟨i, H5, I5, st5, n5, w5⟩
    rcases turn i n H5 w5 with ⟨stop, qq⟩ | ⟨go, Nx, hNx, step⟩
    · have td := T.done (X.blk s3 H3 scope ce fp) rfl rfl rfl hc i [] s5 _ H5 (fun _ _ => False) I5 (stat I5 n5) st5 stop
      refine thnF td fun r s6 ⟨hr, I6⟩ => ?_
      subst hr
      have I7 : Inv X pins σ H5 s6 := I3.call' (ch := fp) I6.os I6.base I6.hok I6.bare fun b hb => ⟨(f3 b hb).1.2.2.2.1, (f3 b hb).1.2.1, (f3 b hb).1.2.2.2.2.1, (f3 b hb).1.2.2.2.2.2⟩
      have nC : H5 s3.heap.objs.size = none := by
        have z : H5 ce.locals = none := I6.free
        rw [cL] at z
        exact z
      obtain ⟨m, hn, _⟩ := I6.loc
      have hn : s6.heap.Ns ce.locals m := hn
      rw [cL] at hn
      exact hRR D s3.heap.objs.size s6 m H5 I7 qq hn (I3.fpOk (Nat.le_refl _) nC)
    · have ti := T.item (X.blk s3 H3 scope ce fp) rfl rfl rfl hc i [] s5 _ H5 (fun _ _ => False) I5 (stat I5 n5) st5 go
      refine thnF ti fun r s6 ⟨u, hr, h6⟩ => ?_
      subst hr
      refine thnF h6 fun _ s7 ⟨x, H7, I7, r7, y7, st7, n7⟩ => ?_
      have I7' := I7.pinned (stat I7 n7) (T.obj _ _ st7)
      refine thnF (pg.run _ s7 _ H7 x u _ I7' r7 (step x H7 y7)) fun _ s8 ⟨σ8, H8, I8, hw8, q8⟩ => ?_
      show wpAny _ _ (pure true) _ _ _
      refine wpAny_pure ?_
      have fin : ∀ {σ9 : L2.St} {s' : Shared} {H' : Hp}, Inv (X.blk s3 H3 scope ce fp) ([] ++ pinsAt fp s7.heap) σ9 H' s' → (wipe σ (own.map (·.2))).length = σ9.length → (∀ (j : Nat) v, (wipe σ (own.map (·.2)))[j]? = some (some v) → σ9[j]? = some (some v)) → Nx H' →
          ∃ m, m < n ∧ ∃ i H', Inv (X.blk s3 H3 scope ce fp) [] (wipe σ (own.map (·.2))) H' s' ∧ tn i s'.heap ∧ (∀ b ∈ fp, H' b = none) ∧ W i m H' := fun {σ9 s' H'} I' hl hk nx => by
        obtain ⟨m', hm, w'⟩ := hNx H' nx
        have pin' : ∀ b ∈ fp, ∀ o, s7.heap.get? b = some o → s'.heap.get? b = some o ∧ H' b = none := fun b hb o e =>
          let z := I'.pin (b, o) (List.mem_append_right _ (List.mem_append_right _ (mem_pinsAt hb e)))
          ⟨z.1, z.2.1⟩
        refine ⟨m', hm, i + 1, H', (I'.unpinned (pins := [])).weak hl hk, T.keep _ _ _ st7 fun b hb o e => (pin' b hb o e).1, fun b hb => ?_, w'⟩
        obtain ⟨o, e, _⟩ := T.obj _ _ st7 b hb
        exact (pin' b hb o e).2
      have hl8 : (wipe σ (own.map (·.2))).length = σ8.length := by rw [← hw8, wipe_length]
      have hk9 : ∀ (j : Nat) v, (wipe σ (own.map (·.2)))[j]? = some (some v) → (wipe σ8 vs1)[j]? = some (some v) := fun j v e => by
        rw [← hw8] at e
        obtain ⟨e1, e2⟩ := wipe_some e
        rw [wipe_out fun z => e2 (hv j z)]
        exact e1
      refine thnF (pi1.run _ s8 σ8 H8 _ I8 q8) fun xv s10 hx => thnF hx fun itv s11 h11 => ?_
      obtain ⟨it1, fp1, tn1, J1, H11, e1, I11, T1, st11, f11, W1, ⟨m1, w1⟩, turn1⟩ := h11
      subst e1
      have stat1 : ∀ {H' : Hp}, (∀ b ∈ fp1, H' b = none) → ∀ b ∈ fp1, FpOk (X.blk s3 H3 scope ce fp) ([] ++ pinsAt fp s7.heap) H' b := fun hn b hb => ⟨hn b hb, (f11 b hb).2⟩
      have loop1 : codeAny (model X.prog X.w) X.A (.compLoop (DC kx vx tg iter tg1 iter1 [] [] scope pos) 1 (.ref it1) (.ref D) ce)
          (fun r s' => match r with
            | .ok _ => ∃ m, m < n ∧ ∃ i H', Inv (X.blk s3 H3 scope ce fp) [] (wipe σ (own.map (·.2))) H' s' ∧ tn i s'.heap ∧ (∀ b ∈ fp, H' b = none) ∧ W i m H'
            | .error _ => False) s11 := by
        refine loop_in (fun k s' => ∃ j H', Inv (X.blk s3 H3 scope ce fp) ([] ++ pinsAt fp s7.heap) (wipe σ8 vs1) H' s' ∧ tn1 j s'.heap ∧ (∀ b ∈ fp1, H' b = none) ∧ W1 j k H') ?_ m1 ⟨0, H11, I11.weak (wipe_length _ _) (fun j v e => (wipe_some e).1), st11, fun b hb => (f11 b hb).1, w1⟩
        rintro k s12 ⟨j, H12, I12, st12, n12, w12⟩
        rcases turn1 j k H12 w12 with ⟨stop1, nx1⟩ | ⟨go1, Nx1, hNx1, step1⟩
        · refine thnF (T1.done (X.blk s3 H3 scope ce fp) rfl rfl rfl hc j _ s12 (wipe σ8 vs1) H12 (fun _ _ => False) I12 (stat1 n12) st12 stop1) fun r s13 ⟨hr, I13⟩ => ?_
          subst hr
          exact fin I13 (hl8.trans (wipe_length σ8 vs1).symm) hk9 nx1
        · refine thnF (T1.item (X.blk s3 H3 scope ce fp) rfl rfl rfl hc j _ s12 (wipe σ8 vs1) H12 (fun _ _ => False) I12 (stat1 n12) st12 go1) fun r s13 ⟨u1, hr, h13⟩ => ?_
          subst hr
          refine thnF h13 fun _ s14 ⟨x1, H14, I14, r14, y14, st14, n14⟩ => ?_
          have I14' := I14.pinned (stat1 n14) (T1.obj _ _ st14)
          refine thnF (pg1.run _ s14 (wipe σ8 vs1) H14 x1 u1 _ I14' r14 (step1 x1 H14 y14)) fun _ s15 ⟨σ15, H15, I15, hw15, q15⟩ => ?_
          show wpAny _ _ (pure true) _ _ _
          refine wpAny_pure ?_
          have fin1 : ∀ {s' : Shared} {H' : Hp}, Inv (X.blk s3 H3 scope ce fp) (([] ++ pinsAt fp s7.heap) ++ pinsAt fp1 s14.heap) σ15 H' s' → Nx1 H' → ∃ m, m < k ∧ ∃ j H', Inv (X.blk s3 H3 scope ce fp) ([] ++ pinsAt fp s7.heap) (wipe σ8 vs1) H' s' ∧ tn1 j s'.heap ∧ (∀ b ∈ fp1, H' b = none) ∧ W1 j m H' := fun {s' H'} I' nx => by
            obtain ⟨m', hm, w'⟩ := hNx1 H' nx
            have pin' : ∀ b ∈ fp1, ∀ o, s14.heap.get? b = some o → s'.heap.get? b = some o ∧ H' b = none := fun b hb o e =>
              let z := I'.pin (b, o) (List.mem_append_right _ (List.mem_append_right _ (mem_pinsAt hb e)))
              ⟨z.1, z.2.1⟩
            refine ⟨m', hm, j + 1, H', I'.unpinned.weak (by rw [← hw15, wipe_length]) (fun j v e => by rw [← hw15] at e; exact (wipe_some e).1), T1.keep _ _ _ st14 fun b hb o e => (pin' b hb o e).1, fun b hb => ?_, w'⟩
            obtain ⟨o, e, _⟩ := T1.obj _ _ st14 b hb
            exact (pin' b hb o e).2
          refine thnF (pk.run _ s15 σ15 H15 _ I15 q15) fun z s17 ⟨yk, H17, I17, r17, q17⟩ => ?_
          refine thnF (pe.run _ s17 σ15 H17 _ I17 q17) fun z2 s18 ⟨yv, H18, I18, r18, b, kvs, ky, ek, hb18, hD18, hz18, nx⟩ => ?_
          subst ek
          cases r17
          exact dictSetT (X := X.blk s3 H3 scope ce fp) hu I18 hD18 hz18 hb18 r18 fun s19 I19 => fin1 I19 nx
      exact start1 loop1 (T1.self X.A 0 _ _ _ st11 loop1)
  exact codeAny_compStart_dict loop (T.self X.A 0 _ _ _ st4 loop)
/-- name = {..} on one line, the name a local -/
theorem ps_setDc2 {i : Nat} {y : Str} {py : Pos} {kx vx tg iter tg1 iter1 : Expr} {scope : Scope} {own : List (Str × Nat)} {vs1 : List Nat} {pos spos : Pos} {wi wi1 : TI} {g g1 : TG} {tk tv : TE}
    (hu : X.A.units + 1 < cLine) (hc : X.calm = true) (hN : X.N.Nodup) (hy : X.N[i]? = some y) (hyl : X.env.scope.names.lookup y = some .local)
    (hsw : swapsWith (DC kx vx tg iter tg1 iter1 [] [] scope pos) (some (.Name y py)) spos.line X.env = pure true) (hi : PI X tg iter wi) (ok : BlkOk X.N X.env.scope scope own) (hv : ∀ i ∈ vs1, i ∈ own.map (·.2))
    (hg : ∀ (s : Shared) (H : Hp) (C : Addr) (cl : List (Str × Addr)) (fp : List Addr), PG (X.blk s H scope (compEnvC scope cl C X.env) fp) tg g)
    (hi1 : ∀ (s : Shared) (H : Hp) (C : Addr) (cl : List (Str × Addr)) (fp : List Addr), PI (X.blk s H scope (compEnvC scope cl C X.env) fp) tg1 iter1 wi1)
    (hg1 : ∀ (s : Shared) (H : Hp) (C : Addr) (cl : List (Str × Addr)) (fp : List Addr), PG (X.blk s H scope (compEnvC scope cl C X.env) fp) tg1 g1)
    (hk : ∀ (s : Shared) (H : Hp) (C : Addr) (cl : List (Str × Addr)) (fp : List Addr), PE (X.blk s H scope (compEnvC scope cl C X.env) fp) kx tk)
    (he : ∀ (s : Shared) (H : Hp) (C : Addr) (cl : List (Str × Addr)) (fp : List Addr), PE (X.blk s H scope (compEnvC scope cl C X.env) fp) vx tv) (hs : ∀ x, foldedSetIterable iter X.env x = pure x := by intro _; rfl) (hs1 : ∀ env x, foldedSetIterable iter1 env x = pure x := by intro _ _; rfl) :
    PS X (.Assign [.Name y py] (DC kx vx tg iter tg1 iter1 [] [] scope pos) spos) (tAsg (tDc2 wi g wi1 g1 tk tv (own.map (·.2)) vs1) (gName i)) := by
  refine ⟨fun pins s σ H D I h => ?_⟩
  rw [exec_Assign_Name_used _ _ _ _ hsw]
  refine wpAny_bind (wpAny_standAt (wpAny_bind ?_))
  show wpAny _ X.A (do let _ ← comprehension (DC kx vx tg iter tg1 iter1 [] [] scope pos) scope X.env (firstIterPos [⟨tg, iter, [], 0⟩, ⟨tg1, iter1, [], 0⟩] pos) newDict false (eval iter X.env) (some (assign (.Name y py) X.env))) _ _ s
  have h : tDc2 wi g wi1 g1 tk tv (own.map (·.2)) vs1 σ H (fun x H1 => gName i x σ H1 D.nx) := h
  refine wpAny_bind (thn (dc2_core (Qf := fun _ s' => SP X pins D .next s') hu hc hN I hi ok hv hg hi1 hg1 hk he hs hs1 h fun L C s' m H' I' q hn f => ?_) fun _ s' hq => wpAny_pure (wpAny_pure hq))
  show wpAny _ _ (assign (.Name y py) X.env (.ref L)) _ _ _
  refine wpAny_assign_Name (store_ok2 (v := V.ref L) I' hN hy (.inl hyl) rfl (fun s2 I2 ⟨a, sb, ha⟩ => ?_) (.inr hyl))
  obtain ⟨f0, f1, f2, f3, f4, f5⟩ := f
  have haC : C ≠ a := by
    rcases ha with z | z
    · rw [z]; exact f1
    · exact fun e => f4 y a z e.symm
  refine ⟨m, hn.sameBut sb haC, fun h3 sb3 => ?_⟩
  exact ⟨_, H', I2.turned (t' := s2.toks) (fun b o hb e => (sb3.2 b hb).trans e) f0 f1 f3 f4 f5, q⟩
theorem sw_trueD {kx vx : Expr} {gs : List Comprehension} {scope : Scope} {pos py : Pos} {y : Str} {l : Nat} {env : Env} (hk : env.scope.kind = .function) (hy : env.scope.names.lookup y = some .local) (hl : (py.line == pos.line) = true)
    (ha : (scope.names.any fun (n, k) => n == y && (k == .local || k == .cell)) = false) : swapsWith (.DictComp kx vx gs scope pos) (some (.Name y py)) l env = pure true := by
  have ky : env.kindOf y = some .local := hy
  have hb : env.blockKind = .function := by unfold Env.blockKind; rw [hk]; rfl
  unfold swapsWith
  simp only [hb, ky, ha, Expr.pos, hl]
  rfl
end
end K21

set_option Elab.async false
set_option linter.all false
set_option maxRecDepth 100000
set_option maxHeartbeats 4000000
/-! makers.py: by_one_letter -/
namespace K21
open PySem PySem.Spec PyProof.Rows L2
theorem UnN.len {H : Hp} {u : Addr} {C : Nat → Nat → Prop} {Pr : Tree → Prop} {N : Nat} (h : UnN H u C Pr N) {kvs : List (List Key × V)} (e : H u = some (.dT kvs)) : kvs.length ≤ N := by
  obtain ⟨kvs', h1, h2, _⟩ := h
  rw [h1] at e
  cases e
  exact h2
section
variable {P : Program} {w : World} {K : PySem.W.Frag} {mg : Str → Option Value} {base : Heap} {A0 : Ad} {f : Addr} {fd : FuncData}

abbrev N_by_one_letter : List Str := ["letters", "word", "way", "width", "last", "goes", "unlike", "letter", "place"]
theorem sc_by_one_letter : FnScope N_by_one_letter ["letters", "word", "way"] (defScope s_by_one_letter) := ⟨rfl, rfl, rfl, by decide +kernel, rfl, by decide +kernel, by decide +kernel⟩
theorem ok_by_one_letter (T : Tx K mg A0) (D_last_of : Dfn P w K mg base 1 "last_of" ["word", "letter", "end"] spLast) (D_compared : Dfn P w K mg base 1 "compared" ["letters", "word", "places", "unlike", "like"] spCompared)
    (F : Fd K "by_one_letter" "by_one_letter" s_by_one_letter f fd) : FnOk P w K mg base CX0 2 f fd ["letters", "word", "way"] spMaker := by
  refine fok F sc_by_one_letter (fun vs H Q E h => ?_) (fun cdv A outer s0 H vs Q E hr h => ?_)
  · obtain ⟨_, _, _, rfl, _⟩ := h
    rfl
  · obtain ⟨L, l, way, rfl, hL, hf, hlL, q⟩ := h
    refine ⟨_, (pss_cons (ps_set (i := 3) sc_by_one_letter.nd rfl (.inr rfl) (pe_callB call_len_str (by rfl) T.len PySem.boot_len (pa_cons (pv 1) pa_nil)))
      (pss_cons (ps_set (i := 4) sc_by_one_letter.nd rfl (.inr rfl) (pe_tup (pa_cons pe_str (pa_cons pe_int (pa_cons pe_int pa_nil)))))
      (C8.pss_cut (ps_if (pt_cmpR op_eq (pv 2) pe_str (nomark _))
       (pss_cons (ps_setLc (i := 5) (own := [("letter", 7)]) (g := gName 7) (tt := tYes) rfl sc_by_one_letter.nd rfl rfl (sw_true rfl rfl rfl (by decide +kernel)) (pi_str (pv 0)) (blkOk_by (N := N_by_one_letter) (sc := defScope s_by_one_letter) (by decide +kernel)) (fun _ _ _ _ _ => (pg_name (i := 7) sc_by_one_letter.nd rfl (.inl rfl))) (fun _ _ _ _ _ => pts_nil) (fun _ _ _ _ _ => (pe_tup (pa_cons pe_str (pa_cons (pe_op op_sub (pe_op op_sub (pv 3) pe_int) (pe_d D_last_of (hr.mono (by omega)) (pa_cons (pv 1) (pa_cons (pv 7) (pa_cons (pe_op op_sub (pv 3) pe_int) pa_nil))))) (pa_cons pe_int pa_nil))))))
        (pss_one (ps_set (i := 4) sc_by_one_letter.nd rfl (.inr rfl) (pe_tup (pa_cons pe_str (pa_cons (pe_op op_sub (pv 3) pe_int) (pa_cons (pe_callTy call_tuple_of (by rfl) T.tuple (by decide +kernel) (pa_cons (pv 5) pa_nil)) pa_nil)))))))
       pss_nil)
      (C8.pss_cut (ps_if (pt_cmpR op_eq (pv 2) pe_str (nomark _))
       (pss_one (ps_set (i := 4) sc_by_one_letter.nd rfl (.inr rfl) (pe_tup (pa_cons pe_str (pa_cons (pv 3) (pa_cons (pe_callTy call_tuple_of (by rfl) T.tuple (by decide +kernel) (pa_cons (pe_lc (own := [("letter", 7)]) (g := gName 7) (tt := tYes) rfl sc_by_one_letter.nd (pi_str (pv 0)) (blkOk_by (N := N_by_one_letter) (sc := defScope s_by_one_letter) (by decide +kernel)) (fun _ _ _ _ _ => (pg_name (i := 7) sc_by_one_letter.nd rfl (.inl rfl))) (fun _ _ _ _ _ => pts_nil) (fun _ _ _ _ _ => (pe_tup (pa_cons pe_str (pa_cons (pe_op op_sub (pv 3) (pe_d D_last_of (hr.mono (by omega)) (pa_cons (pv 1) (pa_cons (pv 7) (pa_cons (pv 3) pa_nil))))) (pa_cons pe_int pa_nil)))))) pa_nil)) pa_nil))))))
       pss_nil)
      (pss_cons (ps_setDc2 (i := 6) (own := [("place", 8), ("letter", 7)]) (vs1 := [7]) (g := gName 8) (g1 := gName 7) (hu_of hr) rfl sc_by_one_letter.nd rfl rfl (sw_trueD rfl rfl rfl (by decide +kernel)) (pi_range1 (by rfl) T.range (pa_cons (pv 3) pa_nil)) (blkOk_by (N := N_by_one_letter) (sc := defScope s_by_one_letter) (by decide +kernel)) (by decide) (fun _ _ _ _ _ => (pg_name (i := 8) sc_by_one_letter.nd rfl (.inl rfl))) (fun _ _ _ _ _ => (pi_str (pv 0))) (fun _ _ _ _ _ => (pg_name (i := 7) sc_by_one_letter.nd rfl (.inl rfl))) (fun _ _ _ _ _ => (pe_tup (pa_cons (pv 8) (pa_cons (pv 7) pa_nil)))) (fun _ _ _ _ _ => (pv 4)))
      (pss_one (ps_ret (pe_lst (pa_cons (pe_d D_compared (hr.mono (by omega)) (pa_cons (pv 0) (pa_cons (pv 1) (pa_cons (pe_listRg rfl (by rfl) T.list (prg_1 (by rfl) T.range (pv 3))) (pa_cons (pv 6) (pa_cons (pe_tup (pa_cons pe_str (pa_cons pe_int (pa_cons (pv 4) pa_nil)))) pa_nil)))))) pa_nil))))))))), ?_⟩
    have hl1 := hf.1
    have hl4 : l.length ≤ 4 := by rcases hf.2 with h | h <;> omega
    have hL3 : L.length ≤ 3 := by rcases hf.2 with h | h <;> omega
    have hL2 := hL.lo
    have eS : (S l).length = l.length := rfl
    refine ⟨_, rfl, S l, rfl, small (by show l.length ≤ _; omega), ?_⟩
    refine ⟨small (by show 3 ≤ 100000; omega), fun g0 ng0 => ?_⟩
    have x0 : Ext [] H (upd H g0 (.tup [.str "go", .int 1, .int 0])) := Ext.refl.fresh ng0
    have ht0 : TAt (upd H g0 (.tup [.str "go", .int 1, .int 0])) (.go 1 0) (.ref g0) := mk_go ng0
    generalize upd H g0 (.tup [.str "go", .int 1, .int 0]) = H0 at x0 ht0
    have hP0 : Prt L.length l.length 1 2 4 (.go 1 0) := ⟨⟨by omega, by omega, by omega, by omega⟩, by decide, by decide⟩
    have hread : ∀ {p : Nat} {ts : List Tree}, p ≤ l.length → ts.length = L.length → (∀ t ∈ ts, Prt L.length l.length 1 1 1 t) → Prt L.length l.length 1 2 4 (.read p ts) := fun {p ts} hp hts h => by
      refine ⟨⟨by omega, by omega, hts, oks_iff.mpr fun t ht => (h t ht).1⟩, ?_, ?_⟩
      · have := depths_le (ts := ts) (d := 1) fun t ht => (h t ht).2.1
        show depths ts + 1 ≤ 2
        omega
      · have := sizes_le (ts := ts) (m := 1) fun t ht => (h t ht).2.2
        show sizes ts + 1 ≤ 4
        omega
    refine ⟨fun σ H' => ∃ (v : V) (t : Tree) (s5 : Option V), σ = [some (.str (S L)), some (.str (S l)), some (.str way), some (.int (l.length : Nat)), some v, s5, none, none, none] ∧ Ext [] H0 H' ∧ TAt H' t v ∧ Prt L.length l.length 1 2 4 t, ?_, ?_⟩
    · refine ⟨_, rfl, rfl, _, rfl, iteD2 (fun _ => ?_) (fun _ => ⟨.ref g0, _, none, rfl, Ext.refl, ht0, hP0⟩)⟩
      refine ⟨_, rfl, S L, rfl, fun D nD => ?_⟩
      refine lc_rel walk_str (fun _ H' => Ext [] H0 H') (fun j H' y => ∃ t, TAt H' t y ∧ Prt L.length l.length 1 1 1 t) (by show L.length ≤ _; omega) (Ext.refl.new nD) (fun _ _ _ _ => trivial) (fun _ _ _ _ tt ⟨t, e1, e2⟩ => ⟨t, DAt.ext tt _ _ e1, e2⟩) (fun _ _ _ h => h.new nD) ?_ ?_
      · rintro m x H4 _ Nx hm x4 ⟨zs, hz⟩ ⟨rfl, ch, hch, rfl⟩ nx
        have ew : ((l.length : Nat) : Int) - 1 = ((l.length - 1 : Nat) : Int) := by omega
        refine ⟨rfl, _, rfl, _, _, rfl, rfl, _, rfl, _, rfl, _, rfl, _, _, rfl, rfl, l, ch, l.length - 1, (by show [_, _, V.int (((l.length : Nat) : Int) - 1)] = _; rw [ew]), by omega, by omega, fun H5 x x5 h1 h2 => ?_⟩
        refine ⟨_, _, rfl, rfl, small (by show 3 ≤ 100000; omega), fun p np => ?_⟩
        have x6 := Ext.refl.fresh (m := []) (o := .tup [.str "go", .int (((l.length : Nat) : Int) - 1 - x), .int 0]) np
        exact nx _ _ (x4.trans (x5.trans x6)) (x5.trans x6).tups (((x5.trans x6).keep _ _ hz List.not_mem_nil).trans hz.symm) ⟨_, mk_go np, ⟨by omega, by omega, by omega, by omega⟩, Nat.le_refl 1, Nat.le_refl 1⟩
      · rintro H4 ys x4 hD hys hR
        obtain ⟨ts, g1, g2, g3⟩ := tsAt_ex hR
        have hys' : ys.length = L.length := hys
        refine ⟨_, rfl, _, _, rfl, rfl, _, rfl, D, ys, rfl, .inl ⟨SqL.of hD, fun p1 np1 => ?_⟩⟩
        refine ⟨small (by show 3 ≤ 100000; omega), fun p2 np2 => ?_⟩
        have ew : ((l.length : Nat) : Int) - 1 = ((l.length - 1 : Nat) : Int) := by omega
        have g1' := (Ext.refl (m := [])|>.fresh (o := .tup ys) np1).dats g1
        refine ⟨.ref p2, .read (((l.length : Nat) : Int) - 1) ts, _, rfl, (x4.fresh np1).fresh np2, mk_read np2 upd_same g1', ?_⟩
        rw [ew]
        exact hread (by omega) (by omega) g3
    rintro σ H1 ⟨v1, t1, s5, rfl, x1, ht1, hP1⟩
    refine ⟨fun σ H' => ∃ (v : V) (t : Tree), σ = [some (.str (S L)), some (.str (S l)), some (.str way), some (.int (l.length : Nat)), some v, s5, none, none, none] ∧ Ext [] H1 H' ∧ TAt H' t v ∧ Prt L.length l.length 1 2 4 t, ?_, ?_⟩
    · refine ⟨_, rfl, rfl, _, rfl, iteD2 (fun _ => ?_) (fun _ => ⟨v1, t1, rfl, Ext.refl, ht1, hP1⟩)⟩
      refine ⟨_, rfl, _, rfl, S L, rfl, fun D nD => ?_⟩
      refine lc_rel walk_str (fun _ H' => Ext [] H1 H') (fun j H' y => ∃ t, TAt H' t y ∧ Prt L.length l.length 1 1 1 t) (by show L.length ≤ _; omega) (Ext.refl.new nD) (fun _ _ _ _ => trivial) (fun _ _ _ _ tt ⟨t, e1, e2⟩ => ⟨t, DAt.ext tt _ _ e1, e2⟩) (fun _ _ _ h => h.new nD) ?_ ?_
      · rintro m x H4 _ Nx hm x4 ⟨zs, hz⟩ ⟨rfl, ch, hch, rfl⟩ nx
        refine ⟨rfl, _, rfl, _, rfl, _, rfl, _, rfl, l, ch, l.length, rfl, by omega, by omega, fun H5 x x5 h1 h2 => ?_⟩
        refine ⟨_, _, rfl, rfl, small (by show 3 ≤ 100000; omega), fun p np => ?_⟩
        have x6 := Ext.refl.fresh (m := []) (o := .tup [.str "go", .int (((l.length : Nat) : Int) - x), .int 0]) np
        exact nx _ _ (x4.trans (x5.trans x6)) (x5.trans x6).tups (((x5.trans x6).keep _ _ hz List.not_mem_nil).trans hz.symm) ⟨_, mk_go np, ⟨by omega, by omega, by omega, by omega⟩, Nat.le_refl 1, Nat.le_refl 1⟩
      · rintro H4 ys x4 hD hys hR
        obtain ⟨ts, g1, g2, g3⟩ := tsAt_ex hR
        have hys' : ys.length = L.length := hys
        refine ⟨D, ys, rfl, .inl ⟨SqL.of hD, fun p1 np1 => ?_⟩⟩
        refine ⟨small (by show 3 ≤ 100000; omega), fun p2 np2 => ?_⟩
        have g1' := (Ext.refl (m := [])|>.fresh (o := .tup ys) np1).dats g1
        exact ⟨.ref p2, .read ((l.length : Nat) : Int) ts, rfl, (x4.fresh np1).fresh np2, mk_read np2 upd_same g1', hread (by omega) (by omega) g3⟩
    rintro σ H2 ⟨v2, t2, rfl, x2, ht2, hP2⟩
    have xH2 : Ext [] H H2 := x0.trans (x1.trans x2)
    -- the dict
    refine ⟨_, rfl, _, rfl, by omega, by omega, fun D nD => ?_⟩
    rw [Int.toNat_natCast]
    refine ⟨fun i m H' => m = l.length - i ∧ i ≤ l.length ∧ Ext [] H2 H' ∧ UnN H' D (fun p c => p < i ∧ c ∈ L) (Prt L.length l.length 1 3 5) (i * L.length), ⟨l.length, by simp, Nat.zero_le _, Ext.refl.new nD, [], upd_same, Nat.zero_le _, fun p c h => by omega⟩, ?_⟩
    rintro i m H3 ⟨rfl, hi, x3, hU⟩
    by_cases hlt : i < l.length
    · refine .inr ⟨hlt, fun H' => i + 1 ≤ l.length ∧ Ext [] H2 H' ∧ UnN H' D (fun p c => p < i + 1 ∧ c ∈ L) (Prt L.length l.length 1 3 5) ((i + 1) * L.length), fun H' h => ⟨l.length - (i + 1), by omega, rfl, h.1, h.2.1, h.2.2⟩, ?_⟩
      rintro x H' ⟨rfl, rfl⟩
      have e0i : (0 : Int) + (i : Int) = (i : Int) := Int.zero_add _
      refine ⟨rfl, _, rfl, S L, rfl, fun j k H' => k = L.length - j ∧ j ≤ L.length ∧ Ext [] H2 H' ∧ UnN H' D (fun p c => (p < i ∧ c ∈ L) ∨ (p = i ∧ c ∈ L.take j)) (Prt L.length l.length 1 3 5) (i * L.length + j), ⟨L.length, by simp, Nat.zero_le _, x3, hU.imp (fun p c h => by simpa using h) (Nat.le_refl _)⟩, ?_⟩
      rintro j k H4 ⟨rfl, hj, x4, hU4⟩
      by_cases hjl : j < L.length
      · refine .inr ⟨hjl, fun H' => j + 1 ≤ L.length ∧ Ext [] H2 H' ∧ UnN H' D (fun p c => (p < i ∧ c ∈ L) ∨ (p = i ∧ c ∈ L.take (j + 1))) (Prt L.length l.length 1 3 5) (i * L.length + (j + 1)), fun H' h => ⟨L.length - (j + 1), by omega, rfl, h.1, h.2.1, h.2.2⟩, ?_⟩
        rintro x H' ⟨rfl, ch, hch, rfl⟩
        have hchL : L[j]? = some ch := by simpa using hch
        have hnlm : i * L.length + j ≤ 10000 := by
          have h1 : i * L.length ≤ 4 * 3 := Nat.mul_le_mul (by omega) hL3
          omega
        refine ⟨rfl, _, rfl, _, rfl, small (by show 2 ≤ 100000; omega), fun kk nkk => ?_⟩
        have x5 := Ext.refl.fresh (m := []) (o := .tup [.int ((0 : Int) + (i : Int)), .str ⟨#[ch]⟩]) nkk
        have hkey : ∀ G : Hp, (upd G kk (.tup [.int ((0 : Int) + (i : Int)), .str ⟨#[ch]⟩])) kk = some (.tup [.int (i : Int), .str ⟨#[ch]⟩]) := fun G => by rw [upd_same, e0i]
        obtain ⟨kvs, k1, k2, k3⟩ := (hU4.ext x5 List.not_mem_nil).put (pl := i) (c := ch) (t := t2) (v := v2) hnlm (hkey _) ((x4.trans x5).dat ht2) ⟨hP2.1, by have := hP2.2.1; omega, by have := hP2.2.2; omega⟩
        refine ⟨_, rfl, kk, kvs, uK i ch, rfl, hkey _, k1, Nat.lt_of_le_of_lt ((hU4.ext x5 List.not_mem_nil).len k1) (by rw [sizeLine_eq]; omega), hjl, (x4.trans x5).new nD, k3.imp (fun p c h => ?_) (Nat.le_refl _)⟩
        rcases h with h | ⟨rfl, h⟩
        · exact .inl (.inl h)
        · rw [List.take_add_one, hchL] at h
          rcases List.mem_append.mp h with h | h
          · exact .inl (.inr ⟨rfl, h⟩)
          · exact .inr ⟨rfl, by simpa using h⟩
      · have ej : j = L.length := by omega
        subst ej
        refine .inl ⟨Nat.le_refl _, hlt, x4, hU4.imp (fun p c h => ?_) (by rw [Nat.succ_mul]; omega)⟩
        rw [List.take_of_length_le (Nat.le_refl _)]
        by_cases hp : p = i
        · exact .inr ⟨hp, h.2⟩
        · exact .inl ⟨by omega, h.2⟩
    · have ei : i = l.length := by omega
      subst ei
      refine .inl ⟨Nat.le_refl _, ?_⟩
      have hUn : UnAt H3 D (fun i c => i < l.length ∧ c ∈ L) (Prt L.length l.length 1 3 5) := hU.un fun _ _ h => h
      refine ⟨_, rfl, _, rfl, _, rfl, _, rfl, RgOk.of_le (by omega) (by omega) (by omega) (by omega), fun pl npl => ?_⟩
      rw [rgV_0]
      have x4 := Ext.refl.fresh (m := []) (o := .lst ((List.range l.length).map fun i : Nat => V.int i)) npl
      refine ⟨_, rfl, _, rfl, small (by show 3 ≤ 100000; omega), fun tp ntp => ?_⟩
      have x5 := Ext.refl.fresh (m := []) (o := .tup [.str "tell", .int 0, v2]) ntp
      have hlike := mk_tell (n := 0) ntp ((x3.trans x4).dat ht2)
      refine ⟨L, l, List.range l.length, pl, D, .ref tp, .tell 0 t2, 1, 3, 5, rfl, x5.keep _ _ upd_same List.not_mem_nil, fun j hj => List.mem_range.mp hj, hUn.ext0 (x4.trans x5), hlike, ⟨⟨by omega, by omega, hP2.1⟩, by have := hP2.2.1; show t2.depth + 1 ≤ 3; omega, by have := hP2.2.2; show t2.size + 1 ≤ 5; omega⟩, by omega, by omega, by omega, by rw [List.length_range]; omega, fun H6 t6 v6 x6 ht6 hP6 => ?_⟩
      rw [List.length_range] at hP6
      have hc1 := chS_few (b := 5) (k := l.length) hf (Nat.le_refl _)
      refine ⟨small (by show 1 ≤ 100000; omega), fun sl nsl => ?_⟩
      have x7 := Ext.refl.fresh (m := []) (o := .lst [v6]) nsl
      exact q _ sl [v6] [t6] (xH2.trans (x3.trans (x4.trans (x5.trans (x6.trans x7))))) upd_same (DAts.one (x7.dat ht6)) (good_of (sB := 150) hL hf (by show 1 ≤ 1; omega) (by show 1 ≤ 64; omega) (fun t ht => by
        rw [List.mem_singleton.mp ht]
        exact ⟨hP6.1, by have := hP6.2.1; omega, by have := hP6.2.2; omega⟩) (by show 1 * 150 ≤ 3000; omega))
end
end K21

set_option Elab.async false
set_option linter.all false
set_option maxRecDepth 100000
set_option maxHeartbeats 4000000
/-! Knower: what it knows, goes -/
namespace K21
open PySem PySem.Spec PyProof.Rows L2
/-- a knowledge with unknown last sign -/
structure Kok (L l k : List Nat) : Prop where
  len : k.length = l.length
  sgn : ∀ c ∈ k, c ∈ 46 :: L
  last : k.getLast? = some 46
/-- one that is grown: any signs -/
structure Kin (L l k : List Nat) : Prop where
  len : k.length = l.length
  sgn : ∀ c ∈ k, c ∈ 46 :: L
theorem Kok.kin {L l k : List Nat} (h : Kok L l k) : Kin L l k := ⟨h.len, h.sgn⟩
def allL (A : List Nat) : Nat → List (List Nat)
  | 0 => [[]]
  | n + 1 => (A.map fun a => (allL A n).map (a :: ·)).flatten
theorem allL_len (A : List Nat) : ∀ n, (allL A n).length = A.length ^ n
  | 0 => rfl
  | n + 1 => by
    have key : ∀ B : List Nat, ((B.map fun a => (allL A n).map (a :: ·)).flatten).length = B.length * A.length ^ n := by
      intro B
      induction B with
      | nil => simp
      | cons b r ih =>
        rw [List.map_cons, List.flatten_cons, List.length_append, List.length_map, allL_len A n, ih, List.length_cons, Nat.succ_mul, Nat.add_comm]
    show ((A.map fun a => (allL A n).map (a :: ·)).flatten).length = _
    rw [key A, Nat.pow_succ, Nat.mul_comm]
theorem allL_mem {A : List Nat} : ∀ {n : Nat} {k : List Nat}, k.length = n → (∀ c ∈ k, c ∈ A) → k ∈ allL A n
  | 0, k, h, _ => by
    rw [List.eq_nil_of_length_eq_zero h]
    exact List.mem_singleton.mpr rfl
  | n + 1, [], h, _ => by simp at h
  | n + 1, c :: k, h, hc => by
    refine List.mem_flatten.mpr ⟨(allL A n).map (c :: ·), List.mem_map.mpr ⟨c, hc c List.mem_cons_self, rfl⟩, List.mem_map.mpr ⟨k, allL_mem (by simpa using h) fun d hd => hc d (List.mem_cons_of_mem _ hd), rfl⟩⟩
theorem kok_few {L l : List Nat} {ks : List (List Nat)} (nd : ks.Nodup) (h : ∀ k ∈ ks, Kok L l k) (hl : 1 ≤ l.length) : ks.length ≤ (L.length + 1) ^ (l.length - 1) := by
  have hs : ks ⊆ (allL (46 :: L) (l.length - 1)).map (· ++ [46]) := fun k hk => by
    obtain ⟨h1, h2, h3⟩ := h k hk
    obtain ⟨r, hr⟩ := List.getLast?_eq_some_iff.mp h3
    refine List.mem_map.mpr ⟨r, allL_mem ?_ fun c hc => h2 c (by rw [hr]; exact List.mem_append_left _ hc), hr.symm⟩
    rw [hr, List.length_append] at h1
    have : r.length + 1 = l.length := h1
    omega
  have := nd.length_le_of_subset hs
  rw [List.length_map, allL_len] at this
  exact this
theorem slid_kok {L l k : List Nat} {s : Nat} (h : Kin L l k) (hs : 1 ≤ s) (hl : 1 ≤ l.length) : Kok L l (slidN k s) := by
  refine ⟨by rw [slidN_length, h.len], fun c hc => ?_, ?_⟩
  · unfold slidN at hc
    rcases List.mem_append.mp hc with hc | hc
    · exact h.sgn c (List.mem_of_mem_drop hc)
    · rw [List.eq_of_mem_replicate hc]
      exact List.mem_cons_self
  · unfold slidN
    have e : min s k.length = (min s k.length - 1) + 1 := by have := h.len; omega
    rw [e, List.replicate_succ', ← List.append_assoc, List.getLast?_concat]
mutual
theorem ok_mono {nl w n n' : Nat} (h : n ≤ n') : ∀ t : Tree, t.ok nl w n → t.ok nl w n'
  | .go s q, ⟨h1, h2, h3, h4⟩ => ⟨h1, h2, h3, by omega⟩
  | .tell m t, ⟨h1, h2, h3⟩ => ⟨h1, h2, ok_mono h t h3⟩
  | .read p ts, ⟨h1, h2, h3, h4⟩ => ⟨h1, h2, h3, oks_mono h ts h4⟩
theorem oks_mono {nl w n n' : Nat} (h : n ≤ n') : ∀ ts : List Tree, oks nl w n ts → oks nl w n' ts
  | [], _ => trivial
  | t :: ts, ⟨h1, h2⟩ => ⟨ok_mono h t h1, oks_mono h ts h2⟩
end
theorem Prt.mono {nl wd n n' d d' s s' : Nat} {t : Tree} (h : Prt nl wd n d s t) (hn : n ≤ n') (hd : d ≤ d') (hs : s ≤ s') : Prt nl wd n' d' s' t := ⟨ok_mono hn t h.1, Nat.le_trans h.2.1 hd, Nat.le_trans h.2.2 hs⟩
/-- a Knower's attributes -/
def kf (L l : List Nat) (kl : Addr) : List (Str × V) := putF "knowns" (.ref kl) (putF "word" (.str (S l)) (putF "letters" (.str (S L)) []))
theorem kf_l {L l : List Nat} {kl : Addr} : (kf L l kl).lookup ("letters" : Str) = some (.str (S L)) := by
  unfold kf
  rw [look_ne (by decide +kernel), look_ne (by decide +kernel), look_same]
theorem kf_w {L l : List Nat} {kl : Addr} : (kf L l kl).lookup ("word" : Str) = some (.str (S l)) := by
  unfold kf
  rw [look_ne (by decide +kernel), look_same]
theorem kf_k {L l : List Nat} {kl : Addr} : (kf L l kl).lookup ("knowns" : Str) = some (.ref kl) := look_same
theorem kf_no {L l : List Nat} {kl : Addr} {m : Str} (h1 : m ≠ "knowns") (h2 : m ≠ "word") (h3 : m ≠ "letters") : (kf L l kl).lookup m = none := by
  unfold kf
  rw [look_ne h1, look_ne h2, look_ne h3]
  rfl
def kS (k : List Nat) : V := .str (S k)
theorem kS_inj {a b : List Nat} : kS a = kS b ↔ a = b := by
  constructor
  · intro h
    have h : V.str (S a) = V.str (S b) := h
    injection h with h
    injection h with h
    have := congrArg Array.toList h
    simpa using this
  · intro h
    rw [h]
theorem eqV_kS (a b : List Nat) : eqV (kS a) (kS b) = decide (a = b) := by
  show (S a == S b) = _
  by_cases h : a = b
  · rw [h]; simp
  · rw [decide_eq_false h, beq_eq_false_iff_ne]
    exact fun z => h (kS_inj.mp (congrArg V.str z))
theorem inV_kS (k : List Nat) (ks : List (List Nat)) : inV (kS k) (ks.map kS) = decide (k ∈ ks) := by
  unfold inV
  induction ks with
  | nil => simp
  | cons a r ih =>
    rw [List.map_cons, List.any_cons, ih, eqV_kS]
    by_cases h : a = k
    · simp [h]
    · have h' : ¬ k = a := fun z => h z.symm
      simp [h, h']
theorem flat_kS (ks : List (List Nat)) : (ks.map kS).all flatV = true := by
  rw [List.all_eq_true]
  intro x hx
  obtain ⟨k, _, rfl⟩ := List.mem_map.mp hx
  rfl
/-- a Knower stands at x, its list at kl -/
def KnAt (A0 : Ad) (H : Hp) (x kl : Addr) (L l : List Nat) (ks : List (List Nat)) : Prop := (∃ dx, H x = some (.ins A0.Knower dx (kf L l kl))) ∧ H kl = some (.lst (ks.map kS)) ∧ ks.Nodup ∧ ∀ k ∈ ks, Kok L l k
theorem KnAt.ext {A0 : Ad} {H H' : Hp} {x kl : Addr} {L l : List Nat} {ks : List (List Nat)} (h : KnAt A0 H x kl L l ks) (e : Ext [] H H') : KnAt A0 H' x kl L l ks := by
  obtain ⟨⟨dx, h1⟩, h2, h3⟩ := h
  exact ⟨⟨dx, e.keep _ _ h1 List.not_mem_nil⟩, e.keep _ _ h2 List.not_mem_nil, h3⟩
section
variable {P : Program} {w : World} {K : PySem.W.Frag} {mg : Str → Option Value} {base : Heap} {A0 : Ad} {f : Addr} {fd : FuncData}

abbrev N_Knower_init : List Str := ["self", "letters", "word"]
theorem sc_Knower_init : FnScope N_Knower_init ["self", "letters", "word"] (defScope s_Knower_init) := ⟨rfl, rfl, rfl, by decide +kernel, rfl, by decide +kernel, by decide +kernel⟩
def spKnI (A0 : Ad) : Sp := fun vs H Q _ => ∃ (x dx : Addr) (L l : List Nat), vs = [.ref x, .str (S L), .str (S l)] ∧ H x = some (.ins A0.Knower dx []) ∧ 1 ≤ l.length ∧ l.length ≤ 8 ∧ ∀ H' kl, H kl = none → Ext [x] H H' → KnAt A0 H' x kl L l [List.replicate l.length 46] → Q .non H'
theorem ok_KnI (T : Tx K mg A0) (F : Fd K "__init__" "Knower.__init__" s_Knower_init f fd) : FnOk P w K mg base CX0 1 f fd ["self", "letters", "word"] (spKnI A0) := by
  refine fok F sc_Knower_init (fun vs H Q E h => ?_) (fun cdv A outer s0 H vs Q E hr h => ?_)
  · obtain ⟨_, _, _, _, rfl, _⟩ := h
    rfl
  · obtain ⟨x, dx, L, l, rfl, hx, hl1, hl8, q⟩ := h
    refine ⟨_, (pss_cons (ps_fld (pv 0) (pv 1) rfl)
      (pss_cons (ps_fld (pv 0) (pv 2) rfl)
      (pss_one (ps_fld (pv 0) (pe_lst (pa_cons (pe_op op_mulS pe_str (pe_callB call_len_str (by rfl) T.len PySem.boot_len (pa_cons (pv 2) pa_nil))) pa_nil)) rfl)))), ?_⟩
    refine ⟨_, rfl, _, rfl, x, _, dx, _, rfl, hx, T.clKnower, T.nKnower_letters, by decide, ?_⟩
    refine ⟨_, rfl, _, rfl, x, _, dx, _, rfl, upd_same, T.clKnower, T.nKnower_word, Nat.lt_of_le_of_lt (putF_len (n := 0) (fs := []) (Nat.le_refl 0)) (by decide), ?_⟩
    rw [upd_upd]
    have x1 : Ext [x] H (upd H x (.ins A0.Knower dx (putF "word" (.str (S l)) (putF "letters" (.str (S L)) [])))) := Ext.refl.put List.mem_cons_self hx (fun ys z => nomatch z)
    have hx1 : (upd H x (.ins A0.Knower dx (putF "word" (.str (S l)) (putF "letters" (.str (S L)) [])))) x = _ := upd_same
    have hup : ∀ a : Addr, (upd H x (.ins A0.Knower dx (putF "word" (.str (S l)) (putF "letters" (.str (S L)) [])))) a = none → H a = none := fun a h => upd_none h
    generalize upd H x (.ins A0.Knower dx (putF "word" (.str (S l)) (putF "letters" (.str (S L)) []))) = H1 at x1 hx1 hup
    have e0 : mulS "." (((S l).length : Nat) : Int).toNat = S (List.replicate l.length 46) := by
      rw [Int.toNat_natCast, mulS_dot]
      rfl
    refine ⟨_, rfl, S l, rfl, small (by show l.length ≤ _; omega), ".", (((S l).length : Nat) : Int), rfl, rfl, by omega, (by show ((l.length : Nat) : Int) ≤ 1000; omega), by decide +kernel, small (by show 1 ≤ 100000; omega), fun kl nkl => ?_⟩
    rw [e0]
    have hxk := ne_of_none hx1 nkl
    refine ⟨_, rfl, x, _, dx, _, rfl, (by rw [upd_ne hxk]; exact hx1), T.clKnower, T.nKnower_knowns, Nat.lt_of_le_of_lt (putF_len (n := 1) (putF_len (n := 0) (fs := []) (Nat.le_refl 0))) (by decide), ?_⟩
    have x2 : Ext [x] H (upd (upd H1 kl (.lst [.str (S (List.replicate l.length 46))])) x (.ins A0.Knower dx (kf L l kl))) := (x1.fresh nkl).put List.mem_cons_self hx (fun ys z => nomatch z)
    refine q _ kl (hup kl nkl) x2 ⟨⟨dx, upd_same⟩, (upd_ne hxk.symm).trans upd_same, List.nodup_cons.mpr ⟨List.not_mem_nil, List.nodup_nil⟩, fun k hk => ?_⟩
    rw [List.mem_singleton.mp hk]
    refine ⟨List.length_replicate, fun c hc => by rw [List.eq_of_mem_replicate hc]; exact List.mem_cons_self, ?_⟩
    rw [show l.length = (l.length - 1) + 1 by omega, List.replicate_succ', List.getLast?_concat]

abbrev N_Knower_goes : List Str := ["self", "seen", "width", "by", "known", "offset"]
theorem sc_Knower_goes : FnScope N_Knower_goes ["self", "seen"] (defScope s_Knower_goes) := ⟨rfl, rfl, rfl, by decide +kernel, rfl, by decide +kernel, by decide +kernel⟩
def spGoes (A0 : Ad) : Sp := fun vs H Q _ => ∃ (x kl : Addr) (L l seen : List Nat) (ks : List (List Nat)), vs = [.ref x, .str (S seen)] ∧ KnAt A0 H x kl L l ks ∧ Kin L l seen ∧ 1 ≤ l.length ∧ l.length ≤ 8 ∧ ks.length ≤ 1000 ∧
  ∀ H' ks' t v, Ext [kl] H H' → KnAt A0 H' x kl L l ks' → ks.length ≤ ks'.length → TAt H' t v → Prt L.length l.length ks'.length 1 1 t → Q v H'
theorem ok_goes (T : Tx K mg A0) (D_fits : Dfn P w K mg base 1 "fits" ["known", "word", "offset"] spFits) (D_slid : Dfn P w K mg base 1 "slid" ["known", "by"] spSlid) (F : Fd K "goes" "Knower.goes" s_Knower_goes f fd) : FnOk P w K mg base CX0 2 f fd ["self", "seen"] (spGoes A0) := by
  refine fok F sc_Knower_goes (fun vs H Q E h => ?_) (fun cdv A outer s0 H vs Q E hr h => ?_)
  · obtain ⟨_, _, _, _, _, _, rfl, _⟩ := h
    rfl
  · obtain ⟨x, kl, L, l, seen, ks, rfl, hK, hseen, hl1, hl8, hkl, q⟩ := h
    refine ⟨_, (pss_cons (ps_set (i := 2) sc_Knower_goes.nd rfl (.inl rfl) (pe_callB call_len_str (by rfl) T.len PySem.boot_len (pa_cons (pe_fld (pv 0) rfl) pa_nil)))
      (pss_cons (ps_set (i := 3) sc_Knower_goes.nd rfl (.inl rfl) (pe_ix ix_list (pe_lc (own := [("offset", 5)]) (g := gName 5) rfl sc_Knower_goes.nd (pi_range2 (by rfl) T.range (pa_cons pe_int (pa_cons (pe_op op_add (pv 2) pe_int) pa_nil))) (blkOk_by (N := N_Knower_goes) (sc := defScope s_Knower_goes) (by decide +kernel)) (fun _ _ _ _ _ => (pg_name (i := 5) sc_Knower_goes.nd rfl (.inl rfl))) (fun _ _ _ _ _ => (pts_one (pt_val (pe_d D_fits (hr.mono (by omega)) (pa_cons (pv 1) (pa_cons (pe_fldK (K := K) rfl (pv 0) rfl) (pa_cons (pv 5) pa_nil))))))) (fun _ _ _ _ _ => (pv 5))) pe_int (fun _ _ => rfl)))
      (pss_cons (ps_set (i := 4) sc_Knower_goes.nd rfl (.inl rfl) (pe_d D_slid (hr.mono (by omega)) (pa_cons (pv 1) (pa_cons (pv 3) pa_nil))))
      (C8.pss_cut (ps_if (pt_cmpR op_notIn_seq (pv 4) (pe_fld (pv 0) rfl) rfl)
       (pss_one (ps_expr (pe_bm PySem.F.plainAttrs_list PySem.F.slot_list_append PySem.F.type_list_append mt_append (pe_fld (pv 0) rfl) (pa_cons (pv 4) pa_nil))))
       pss_nil)
      (pss_one (ps_ret (pe_tup (pa_cons pe_str (pa_cons (pv 3) (pa_cons (pe_bm PySem.F.plainAttrs_list PySem.F.slot_list_index PySem.F.type_list_index mt_index (pe_fld (pv 0) rfl) (pa_cons (pv 4) pa_nil)) pa_nil)))))))))), ?_⟩
    obtain ⟨⟨dx, hx⟩, hks, hnd, hok⟩ := id hK
    refine ⟨_, rfl, x, _, dx, _, _, rfl, hx, T.clKnower, T.nKnower_word, kf_w, S l, rfl, small (by show l.length ≤ _; omega), ?_⟩
    refine ⟨_, rfl, _, _, rfl, rfl, _, _, rfl, ⟨by omega, by omega, by show -(2 ^ 62) ≤ ((l.length : Nat) : Int) + 1; omega, by show ((l.length : Nat) : Int) + 1 < 2 ^ 62; omega⟩, fun D nD => ?_⟩
    have en : (((((S l).length : Nat) : Int) + 1) - 1).toNat = l.length := by
      show ((((l.length : Nat) : Int) + 1) - 1).toNat = _
      omega
    rw [en]
    refine lc_acc walk_range (fun m zs H' => Ext [] H H' ∧ (∃ ms : List Nat, zs = ms.map (fun i : Nat => V.int i) ∧ ∀ y ∈ ms, 1 ≤ y ∧ y ≤ l.length) ∧ (m = l.length → zs ≠ [])) (by omega) ⟨Ext.refl.new nD, ⟨[], rfl, fun y hy => (List.not_mem_nil hy).elim⟩, fun h => by omega⟩ (fun _ _ _ _ _ => trivial) ?_ ?_
    · rintro m zs y H7 _ Nx Ns hm ⟨x7, ⟨ms, rfl, hms⟩, hne⟩ hD7 hl7 ⟨rfl, rfl⟩ nx ns'
      have e1 : ((1 : Int) + (m : Int)) = ((m + 1 : Nat) : Int) := by omega
      refine ⟨rfl, _, rfl, _, rfl, x, _, dx, _, _, rfl, x7.keep _ _ hx List.not_mem_nil, T.clKnower, T.nKnower_word, kf_w, _, rfl, seen, l, m + 1, (by show [_, _, V.int (1 + (m : Int))] = _; rw [e1]), by have := hseen.len; omega, by omega, fun H8 b x8 hb => ⟨b, rfl, ?_⟩⟩
      have hD8 := x8.keep _ _ hD7 List.not_mem_nil
      cases b with
      | true =>
        refine ⟨_, rfl, nx _ _ hD8 ⟨(x7.trans x8).new nD, ⟨ms ++ [m + 1], by rw [List.map_append]; show _ = _ ++ [V.int ((m + 1 : Nat) : Int)]; rw [← e1], fun z hz => ?_⟩, fun _ => by simp⟩⟩
        rcases List.mem_append.mp hz with h | h
        · exact hms z h
        · rw [List.mem_singleton.mp h]; omega
      | false => exact ns' _ hD8 ⟨x7.trans x8, ⟨ms, rfl, hms⟩, fun h => nomatch hb (by have := hseen.len; omega)⟩
    · rintro H3 zs ⟨x3, ⟨ms, rfl, hms⟩, hne⟩ hD3 hl3
      have hk : ∃ y : Nat, (ms.map (fun i : Nat => V.int i))[0]? = some (.int y) ∧ 1 ≤ y ∧ y ≤ l.length := by
        cases ms with
        | nil => exact (hne rfl rfl).elim
        | cons y r => exact ⟨y, rfl, hms y List.mem_cons_self⟩
      obtain ⟨y, hy, hy1, hy2⟩ := hk
      refine ⟨D, _, _, _, rfl, rfl, SqL.of hD3, tup_at (j := 0) hy, ?_⟩
      have hsl := hseen.len
      refine ⟨_, rfl, _, rfl, seen, y, rfl, by omega, by omega, ?_⟩
      have hkn := slid_kok hseen hy1 hl1
      generalize slidN seen y = kn at hkn
      have hx3 := x3.keep _ _ hx List.not_mem_nil
      have hks3 := x3.keep _ _ hks List.not_mem_nil
      refine ⟨fun σ H' => ∃ ks' : List (List Nat), σ = [some (.ref x), some (.str (S seen)), some (.int (l.length : Nat)), some (.int y), some (.str (S kn)), none] ∧ Ext [kl] H H' ∧ KnAt A0 H' x kl L l ks' ∧ ks.length ≤ ks'.length ∧ kn ∈ ks', ?_, ?_⟩
      · refine ⟨_, rfl, _, rfl, x, _, dx, _, _, rfl, hx3, T.clKnower, T.nKnower_knowns, kf_k, kl, _, rfl, .inl (SqL.of hks3), rfl, flat_kS ks, _, rfl, ?_⟩
        show if (!inV (kS kn) (ks.map kS)) = true then _ else _
        rw [inV_kS]
        refine iteNN2 (fun hin => ⟨ks, rfl, x3.any, hK.ext x3, Nat.le_refl _, hin⟩) (fun hin => ?_)
        refine ⟨_, rfl, x, _, dx, _, _, rfl, hx3, T.clKnower, T.nKnower_knowns, kf_k, .inl ⟨rfl, _, SqL.of hks3⟩, _, rfl, kl, _, _, rfl, rfl, hks3, Nat.lt_of_le_of_lt (show (ks.map kS).length ≤ 1000 by rw [List.length_map]; exact hkl) (by rw [sizeLine_eq]; omega), ?_⟩
        have hxk : x ≠ kl := ne_of hx3 hks3 (fun z => nomatch z)
        refine ⟨ks ++ [kn], rfl, x3.any.put List.mem_cons_self hks (fun ys z => nomatch z), ⟨⟨dx, (upd_ne hxk).trans hx3⟩, by rw [upd_same, List.map_append]; rfl, ?_, fun k hk => ?_⟩, by rw [List.length_append]; omega, List.mem_append_right _ List.mem_cons_self⟩
        · rw [List.nodup_append]
          exact ⟨hnd, List.nodup_cons.mpr ⟨List.not_mem_nil, List.nodup_nil⟩, fun a ha b hb z => hin (by rw [List.mem_singleton.mp hb] at z; rw [← z]; exact ha)⟩
        · rcases List.mem_append.mp hk with h | h
          · exact hok k h
          · rw [List.mem_singleton.mp h]; exact hkn
      · rintro σ H4 ⟨ks', rfl, x4, hK4, hle, hmem⟩
        obtain ⟨⟨dx4, hx4⟩, hks4, hnd4, hok4⟩ := id hK4
        have hix : ks'.idxOf kn < ks'.length := List.idxOf_lt_length_of_mem hmem
        have hgx : ks'[ks'.idxOf kn]? = some kn := by rw [List.getElem?_eq_getElem hix, List.getElem_idxOf hix]
        refine ⟨_, rfl, _, rfl, x, _, dx4, _, _, rfl, hx4, T.clKnower, T.nKnower_knowns, kf_k, .inl ⟨rfl, _, SqL.of hks4⟩, _, rfl, kl, ks'.map kS, kS kn, ks'.idxOf kn, kS kn, rfl, rfl, SqL.of hks4, rfl, flat_kS ks', by rw [List.getElem?_map, hgx]; rfl, by rw [eqV_kS, decide_eq_true rfl], fun m z' hm hz => ?_, ?_⟩
        · rw [List.getElem?_map] at hz
          obtain ⟨k', hk', rfl⟩ := Option.map_eq_some_iff.mp hz
          rw [eqV_kS]
          refine decide_eq_false fun z => ?_
          subst z
          have hml : m < ks'.length := by omega
          rw [List.getElem?_eq_getElem hml] at hk'
          have h1 : ks'[m] = ks'[ks'.idxOf k'] := by rw [Option.some.inj hk', List.getElem_idxOf hix]
          have := (List.getElem_inj hnd4).mp h1
          omega
        · refine ⟨small (by show 3 ≤ 100000; omega), fun p np => ?_⟩
          have x5 : Ext [] H4 (upd H4 p (.tup [.str "go", .int y, .int (ks'.idxOf kn : Nat)])) := Ext.refl.fresh np
          exact q _ ks' (.go y (ks'.idxOf kn : Nat)) _ (x4.trans x5.any) (hK4.ext x5) hle (mk_go np) ⟨⟨by omega, by omega, by omega, by omega⟩, Nat.le_refl 1, Nat.le_refl 1⟩
end
end K21

set_option Elab.async false
set_option linter.all false
set_option maxRecDepth 100000
set_option maxHeartbeats 4000000
/-! Knower: grown, all_states -/
namespace K21
open PySem PySem.Spec PyProof.Rows L2
theorem set_text {k : List Nat} {p c : Nat} (hp : p < k.length) : (cutS (S k) none (some (p : Int)) ++ (⟨#[c]⟩ : Str)) ++ cutS (S k) (some ((p : Int) + 1)) none = S (k.set p c) := by
  have e1 : cutS (S k) none (some (p : Int)) = S (k.take p) := by
    rw [S_cut, HT.sIx_none, sIx_n (by omega)]; rfl
  have e2 : cutS (S k) (some ((p : Int) + 1)) none = S (k.drop (p + 1)) := by
    have e : ((p : Int) + 1) = ((p + 1 : Nat) : Int) := by omega
    rw [e, S_cut, HT.sIx_none, sIx_n (by omega), List.take_of_length_le (by rw [List.length_drop]; omega)]
  rw [e1, e2]
  show (S (k.take p) ++ S [c]) ++ S (k.drop (p + 1)) = _
  rw [S_append, S_append, List.append_assoc, List.set_eq_take_append_cons_drop, if_pos hp]; rfl
theorem cut_len (k : List Nat) (lo hi : Option Int) : (cutS (S k) lo hi).length ≤ k.length := by
  rw [S_cut]
  show ((k.drop _).take _).length ≤ k.length
  rw [List.length_take, List.length_drop]
  omega
theorem kin_set {L l k : List Nat} {p c : Nat} (h : Kin L l k) (hc : c ∈ L) : Kin L l (k.set p c) := by
  refine ⟨by rw [List.length_set]; exact h.len, fun d hd => ?_⟩
  rcases List.mem_or_eq_of_mem_set hd with h1 | h1
  · exact h.sgn d h1
  · rw [h1]; exact List.mem_cons_of_mem _ hc
theorem prts_mono {nl wd n n' d s : Nat} {ts : List Tree} (h : ∀ t ∈ ts, Prt nl wd n d s t) (hn : n ≤ n') : ∀ t ∈ ts, Prt nl wd n' d s t := fun t ht => (h t ht).mono hn (Nat.le_refl _) (Nat.le_refl _)
section
variable {P : Program} {w : World} {K : PySem.W.Frag} {mg : Str → Option Value} {base : Heap} {A0 : Ad} {f : Addr} {fd : FuncData}

abbrev N_Knower_grown : List Str := ["self", "seen", "places", "place", "parts", "letter", "more", "is_like"]
theorem sc_Knower_grown : FnScope N_Knower_grown ["self", "seen", "places"] (defScope s_Knower_grown) := ⟨rfl, rfl, rfl, by decide +kernel, rfl, by decide +kernel, by decide +kernel⟩
def spGrown (A0 : Ad) (d : Nat) : Sp := fun vs H Q _ => ∃ (x kl pl : Addr) (L l seen ps : List Nat) (ks : List (List Nat)), vs = [.ref x, .str (S seen), .ref pl] ∧ KnAt A0 H x kl L l ks ∧ Kin L l seen ∧ Few L l ∧ Ltr L ∧ (∀ c ∈ l, c ∈ L) ∧ H pl = some (.lst (ps.map fun i : Nat => V.int i)) ∧ (∀ i ∈ ps, i < l.length) ∧ ps.length < d ∧ ps.length ≤ 8 ∧
  ∀ H' ks' t v, Ext [kl] H H' → KnAt A0 H' x kl L l ks' → ks.length ≤ ks'.length → TAt H' t v → Prt L.length l.length ks'.length (2 + ps.length) (chS L.length 2 ps.length) t → Q v H'
theorem ok_grown (T : Tx K mg A0) (M_goes : Mtd P w K mg base 2 A0.Knower "goes" ["self", "seen"] (spGoes A0)) (F : Fd K "grown" "Knower.grown" s_Knower_grown f fd) (hM : Meth K A0.Knower "grown" f) (hb : Binds K fd ["self", "seen", "places"] []) : ∀ d, FnOk P w K mg base CX0 (d + 3) f fd ["self", "seen", "places"] (spGrown A0 d)
  | 0 => by
    refine fok F sc_Knower_grown (fun vs H Q E h => ?_) (fun cdv A outer s0 H vs Q E hr h => ?_)
    · obtain ⟨_, _, _, _, _, _, _, _, rfl, _⟩ := h
      rfl
    · obtain ⟨_, _, _, _, _, _, _, _, _, _, _, _, _, _, _, _, hd, _⟩ := h
      omega
  | d + 1 => by
    have M_grown : Mtd P w K mg base (d + 3) A0.Knower "grown" ["self", "seen", "places"] (spGrown A0 d) := ⟨f, fd, hM, ok_grown T M_goes F hM hb d, hb⟩
    refine fok F sc_Knower_grown (fun vs H Q E h => ?_) (fun cdv A outer s0 H vs Q E hr h => ?_)
    · obtain ⟨_, _, _, _, _, _, _, _, rfl, _⟩ := h
      rfl
    · obtain ⟨x, kl, pl, L, l, seen, ps, ks, rfl, hK, hseen, hf, hL, hlL, hpl, hps, hd, hp8, q⟩ := h
      refine ⟨_, (pss_cons (ps_if (pt_cmpR op_eq (pe_callB call_len_seq (by rfl) T.len PySem.boot_len (pa_cons (pv 2) pa_nil)) pe_int (nomark _))
       (pss_one (ps_ret (pe_tup (pa_cons pe_str (pa_cons pe_int (pa_cons (pe_mD (pv 0) T.clKnower M_goes (hr.mono (by omega)) (pa_cons (pv 1) pa_nil)) pa_nil))))))
       pss_nil)
      (pss_cons (ps_par (i := 3) (j := 4) rfl sc_Knower_grown.nd rfl rfl (by decide) rfl rfl (pa_cons (pe_ix ix_list (pv 2) pe_int (fun _ _ => rfl)) (pa_cons (pe_lst pa_nil) pa_nil)) (by rfl))
      (pss_cons (ps_for PassesOwn.never rfl (pi_str (pe_fld (pv 0) rfl)) (pg_name (i := 5) sc_Knower_grown.nd rfl (.inl rfl))
       (pss_cons (ps_set (i := 6) sc_Knower_grown.nd rfl (.inl rfl) (pe_op op_add_str (pe_op op_add_str (pe_slice sl_str (pv 1) po_none (po_some (pv 3))) (pv 5)) (pe_slice sl_str (pv 1) (po_some (pe_op op_add (pv 3) pe_int)) po_none)))
        (pss_cons (ps_set (i := 7) sc_Knower_grown.nd rfl (.inl rfl) (pe_cmpR op_eq (pv 5) (pe_ix ix_str (pe_fld (pv 0) rfl) (pv 3) (fun _ _ => rfl)) (nomark _)))
        (pss_one (ps_expr (pe_bm PySem.F.plainAttrs_list PySem.F.slot_list_append PySem.F.type_list_append mt_append (pv 4) (pa_cons (pe_ifExp (pt_val (pv 7)) (pe_mD (pv 0) T.clKnower M_grown (hr.mono (by omega)) (pa_cons (pv 6) (pa_cons (pe_slice sl_list (pv 2) (po_some pe_int) po_none) pa_nil))) (pe_mD (pv 0) T.clKnower M_goes (hr.mono (by omega)) (pa_cons (pv 6) pa_nil))) pa_nil)))))))
      (pss_one (ps_ret (pe_tup (pa_cons pe_str (pa_cons (pv 3) (pa_cons (pe_callTy call_tuple_of (by rfl) T.tuple (by decide +kernel) (pa_cons (pv 4) pa_nil)) pa_nil))))))))), ?_⟩
      have hl1 := hf.1
      have hl4 : l.length ≤ 4 := by rcases hf.2 with h | h <;> omega
      have hL3 : L.length ≤ 3 := by rcases hf.2 with h | h <;> omega
      have hL2 := hL.lo
      have hsl := hseen.len
      have hno : ∀ {m : Str}, m ≠ "knowns" → m ≠ "word" → m ≠ "letters" → (kf L l kl).lookup m = none := kf_no
      have few : ∀ {H' : Hp} {ks' : List (List Nat)}, KnAt A0 H' x kl L l ks' → ks'.length ≤ 1000 := fun {H' ks'} h => by
        obtain ⟨_, _, h1, h2⟩ := h
        have := kok_few h1 h2 hl1
        rcases hf.2 with ⟨e1, e2⟩ | ⟨e1, e2⟩
        · rw [e1] at this
          have h3 : (2 + 1) ^ (l.length - 1) ≤ (2 + 1) ^ 3 := Nat.pow_le_pow_right (by omega) (by omega)
          omega
        · rw [e1] at this
          have h3 : (3 + 1) ^ (l.length - 1) ≤ (3 + 1) ^ 2 := Nat.pow_le_pow_right (by omega) (by omega)
          omega
      obtain ⟨⟨dx, hx⟩, hks, _, _⟩ := id hK
      refine ⟨_, rfl, pl, _, rfl, .inl (SqL.of hpl), rfl, _, rfl, iteD2 (fun h0 => ?_) (fun h0 => ?_)⟩
      · have hn0 : ps.length = 0 := by
          have := V.int.inj h0
          rw [List.length_map] at this
          omega
        refine ⟨_, rfl, x, dx, _, rfl, hx, hno (by decide +kernel) (by decide +kernel) (by decide +kernel), _, rfl, x, kl, L, l, seen, ks, rfl, hK, hseen, hl1, by omega, few hK, fun H1 ks1 t v x1 hK1 hle ht hP => ?_⟩
        refine ⟨small (by show 3 ≤ 100000; omega), fun p np => ?_⟩
        have x2 : Ext [] H1 (upd H1 p (.tup [.str "tell", .int 0, v])) := Ext.refl.fresh np
        refine q _ ks1 (.tell 0 t) _ (x1.trans x2.any) (hK1.ext x2) hle (mk_tell np ht) ⟨⟨by omega, by omega, hP.1⟩, ?_, ?_⟩
        · have := hP.2.1
          show t.depth + 1 ≤ _
          omega
        · have := hP.2.2
          rw [hn0]
          show t.size + 1 ≤ 2
          omega
      · have hn1 : ps ≠ [] := fun z => by
          subst z
          exact h0 rfl
        obtain ⟨place, ps', rfl⟩ : ∃ a r, ps = a :: r := by
          cases ps with
          | nil => exact (hn1 rfl).elim
          | cons a r => exact ⟨a, r, rfl⟩
        have hpw := hps place List.mem_cons_self
        have hpl' : ps'.length + 1 = (place :: ps').length := rfl
        have hplk : kl ≠ pl := fun z => by
          rw [z, hpl] at hks
          cases ks with
          | nil => exact nomatch hks
          | cons k r => exact nomatch hks
        refine ⟨_, rfl, pl, _, _, .int place, rfl, rfl, SqL.of hpl, tup_at (j := 0) rfl, Nat.zero_le _, fun lp nlp => ⟨_, _, rfl, ?_⟩⟩
        have x1 : Ext [] H (upd H lp (.lst [])) := Ext.refl.fresh nlp
        have hlp1 : (upd H lp (.lst [])) lp = some (.lst []) := upd_same
        have hlpk : kl ≠ lp := ne_of_none hks nlp
        have hcs := chS_ge (b := 2) (nl := L.length) (by omega) ps'.length
        refine ⟨_, rfl, x, _, dx, _, _, rfl, x1.keep _ _ hx List.not_mem_nil, T.clKnower, T.nKnower_letters, kf_l, S L, rfl, for_it walk_str (fun i σ H' => ∃ (ks1 : List (List Nat)) (ts : List Tree) (vs : List V) (s5 s6 s7 : Option V), σ = [some (.ref x), some (.str (S seen)), some (.ref pl), some (.int place), some (.ref lp), s5, s6, s7] ∧ Ext [kl] H H' ∧ KnAt A0 H' x kl L l ks1 ∧ ks.length ≤ ks1.length ∧ H' lp = some (.lst vs) ∧ TsAt H' ts vs ∧ ts.length = i ∧ ∀ t ∈ ts, Prt L.length l.length ks1.length (2 + ps'.length) (chS L.length 2 ps'.length) t)
          ⟨ks, [], [], _, _, _, rfl, x1.any, hK.ext x1, Nat.le_refl _, hlp1, rfl, rfl, fun t ht => (List.not_mem_nil ht).elim⟩ (fun _ _ _ _ _ => trivial) ?_ ?_⟩
        · rintro i y σ _ H2 hi ⟨ks1, ts, vs, s5, s6, s7, rfl, x2, hK2, hle2, hlp2, hts2, hti, hP2⟩ ⟨rfl, ch, hch, rfl⟩
          have hcL : ch ∈ L := List.mem_of_getElem? (by simpa using hch)
          obtain ⟨⟨dx2, hx2⟩, hks2, _, _⟩ := id hK2
          have hpl2 := x2.keep _ _ hpl (by simpa using hplk.symm)
          have hgw := List.getElem?_eq_getElem hpw
          -- more
          refine ⟨_, rfl, _, rfl, _, rfl, S seen, rfl, small (by show seen.length ≤ _; omega), _, rfl, _, _, rfl, rfl, small (Nat.le_trans (Nat.succ_le_succ (cut_len seen none (some (place : Int)))) (by omega)), _, rfl, _, rfl, _, _, rfl, rfl, _, rfl, S seen, rfl, small (by show seen.length ≤ _; omega), _, _, rfl, rfl, ?_, ?_⟩
          · refine small ?_
            have h1 := cut_len seen none (some (place : Int))
            have h2 := cut_len seen (some ((place : Int) + 1)) none
            show ((cutS (S seen) none (some (place : Int)) ++ (⟨#[ch]⟩ : Str)).cps.size) + _ ≤ _
            have h3 : (cutS (S seen) none (some (place : Int)) ++ (⟨#[ch]⟩ : Str)).cps.size = (cutS (S seen) none (some (place : Int))).cps.size + 1 := Array.size_append ..
            rw [h3]
            have h4 : (cutS (S seen) none (some (place : Int))).cps.size ≤ seen.length := h1
            omega
          rw [set_text (by omega)]
          have hmore := kin_set (p := place) hseen hcL
          generalize seen.set place ch = more at hmore
          -- is_like
          refine ⟨_, rfl, _, rfl, x, _, dx2, _, _, rfl, hx2, T.clKnower, T.nKnower_word, kf_w, _, rfl, S l, _, _, rfl, rfl, small (by show l.length ≤ _; omega), atI_nat hgw, rfl, ?_⟩
          generalize hb0 : decide (V.str (⟨#[ch]⟩ : Str) = V.str ⟨#[l[place]]⟩) = b
          -- what is put
          have put : ∀ H3 ks3 t v, Ext [kl] H2 H3 → KnAt A0 H3 x kl L l ks3 → ks1.length ≤ ks3.length → TAt H3 t v → Prt L.length l.length ks3.length (2 + ps'.length) (chS L.length 2 ps'.length) t →
              H3 lp = some (.lst vs) ∧ Ext [kl] H (upd H3 lp (.lst (vs ++ [v]))) ∧ KnAt A0 (upd H3 lp (.lst (vs ++ [v]))) x kl L l ks3 ∧ TsAt (upd H3 lp (.lst (vs ++ [v]))) (ts ++ [t]) (vs ++ [v]) ∧ ∀ u ∈ ts ++ [t], Prt L.length l.length ks3.length (2 + ps'.length) (chS L.length 2 ps'.length) u := fun H3 ks3 t v x3 hK3 hle3 ht hPt => by
            have hlp3 := x3.keep _ _ hlp2 (by simpa using hlpk.symm)
            have tt := Tups.lst (o := .lst (vs ++ [v])) hlp3
            obtain ⟨⟨dx3, hx3⟩, hks3, h3, h4⟩ := hK3
            have hxl : x ≠ lp := ne_of hx3 hlp3 (fun z => nomatch z)
            refine ⟨hlp3, (x2.trans x3).new nlp, ⟨⟨dx3, (upd_ne hxl).trans hx3⟩, (upd_ne hlpk).trans hks3, h3, h4⟩, ?_, fun u hu => ?_⟩
            · unfold TsAt
              rw [encs_append]
              exact DAts.ext tt _ _ ((x3.dats hts2).append (DAts.one ht))
            · rcases List.mem_append.mp hu with h | h
              · exact prts_mono hP2 hle3 u h
              · rw [List.mem_singleton.mp h]; exact hPt
          have hvl : vs.length ≤ 100 := by
            rw [hts2.length, encs_length]
            have : i < L.length := hi
            omega
          refine ⟨_, rfl, .inl ⟨rfl, _, SqL.of hlp2⟩, _, rfl, b, rfl, ?_⟩
          cases b with
          | true =>
            refine ⟨_, rfl, x, dx2, _, rfl, hx2, hno (by decide +kernel) (by decide +kernel) (by decide +kernel), _, rfl, _, rfl, _, rfl, pl, _, rfl, SqL.of hpl2, fun q1 nq1 => ?_⟩
            have ecut : cutV ((place :: ps').map fun i : Nat => V.int i) (some 1) none = ps'.map fun i : Nat => V.int i := by
              unfold cutV
              rw [show (1 : Int) = ((1 : Nat) : Int) from rfl, sIx_n (by rw [List.length_map]; show 1 ≤ ps'.length + 1; omega), HT.sIx_none, List.map_cons, List.drop_succ_cons, List.drop_zero, List.length_cons, Nat.add_sub_cancel, List.take_of_length_le (Nat.le_refl _)]
            rw [ecut]
            have x4 : Ext [] H2 (upd H2 q1 (.lst (ps'.map fun i : Nat => V.int i))) := Ext.refl.fresh nq1
            refine ⟨x, kl, q1, L, l, more, ps', ks1, rfl, hK2.ext x4, hmore, hf, hL, hlL, upd_same, fun j hj => hps j (List.mem_cons_of_mem _ hj), by omega, by omega, fun H3 ks3 t v x3 hK3 hle3 ht hPt => ?_⟩
            obtain ⟨p1, p2, p3, p4, p5⟩ := put H3 ks3 t v (x4.any.trans x3) hK3 hle3 ht hPt
            refine ⟨lp, vs, _, rfl, rfl, p1, Nat.lt_of_le_of_lt hvl (by rw [sizeLine_eq]; omega), ks3, ts ++ [t], vs ++ [v], _, _, _, rfl, p2, p3, by omega, upd_same, p4, by rw [List.length_append, hti]; rfl, p5⟩
          | false =>
            refine ⟨_, rfl, x, dx2, _, rfl, hx2, hno (by decide +kernel) (by decide +kernel) (by decide +kernel), _, rfl, x, kl, L, l, more, ks1, rfl, hK2, hmore, hl1, by omega, few hK2, fun H3 ks3 t v x3 hK3 hle3 ht hPt => ?_⟩
            obtain ⟨p1, p2, p3, p4, p5⟩ := put H3 ks3 t v x3 hK3 hle3 ht (hPt.mono (Nat.le_refl _) (by omega) (by omega))
            refine ⟨lp, vs, _, rfl, rfl, p1, Nat.lt_of_le_of_lt hvl (by rw [sizeLine_eq]; omega), ks3, ts ++ [t], vs ++ [v], _, _, _, rfl, p2, p3, by omega, upd_same, p4, by rw [List.length_append, hti]; rfl, p5⟩
        · rintro σ H2 ⟨ks1, ts, vs, s5, s6, s7, rfl, x2, hK2, hle2, hlp2, hts2, hti, hP2⟩
          have hti' : ts.length = L.length := hti
          refine ⟨_, rfl, _, rfl, lp, vs, rfl, .inl ⟨SqL.of hlp2, fun p1 np1 => ?_⟩⟩
          refine ⟨small (by show 3 ≤ 100000; omega), fun p2 np2 => ?_⟩
          have x5 : Ext [] H2 (upd (upd H2 p1 (.tup vs)) p2 (.tup [.str "read", .int place, .ref p1])) := (Ext.refl.fresh np1).fresh np2
          have g1' := (Ext.refl (m := [])|>.fresh (o := .tup vs) np1).dats hts2
          refine q _ ks1 (.read place ts) _ (x2.trans x5.any) (hK2.ext x5) hle2 (mk_read np2 upd_same g1') ⟨⟨by omega, by omega, hti', oks_iff.mpr fun t ht => (hP2 t ht).1⟩, ?_, ?_⟩
          · have := depths_le (ts := ts) (d := 2 + ps'.length) fun t ht => (hP2 t ht).2.1
            show depths ts + 1 ≤ 2 + (ps'.length + 1)
            omega
          · have := sizes_le (ts := ts) (m := chS L.length 2 ps'.length) fun t ht => (hP2 t ht).2.2
            rw [hti'] at this
            show sizes ts + 1 ≤ L.length * chS L.length 2 ps'.length + 1
            omega
end
end K21

set_option Elab.async false
set_option linter.all false
set_option maxRecDepth 100000
set_option maxHeartbeats 4000000
/-! Knower: all_states -/
namespace K21
open PySem PySem.Spec PyProof.Rows L2
theorem chS_le {L l : List Nat} (h : Few L l) : ((L.length + 1) ^ (l.length - 1)) * chS L.length 2 l.length ≤ 3000 := by
  rcases h.2 with ⟨h1, h2⟩ | ⟨h1, h2⟩
  · rw [h1]
    have h0 := h.1
    have : l.length = 1 ∨ l.length = 2 ∨ l.length = 3 ∨ l.length = 4 := by omega
    rcases this with e | e | e | e <;> rw [e] <;> decide
  · rw [h1]
    have h0 := h.1
    have : l.length = 1 ∨ l.length = 2 ∨ l.length = 3 := by omega
    rcases this with e | e | e <;> rw [e] <;> decide
theorem pow_few {L l : List Nat} (h : Few L l) : (L.length + 1) ^ (l.length - 1) ≤ 64 := by
  rcases h.2 with ⟨h1, h2⟩ | ⟨h1, h2⟩
  · rw [h1]
    have : l.length - 1 = 0 ∨ l.length - 1 = 1 ∨ l.length - 1 = 2 ∨ l.length - 1 = 3 := by omega
    rcases this with e | e | e | e <;> rw [e] <;> decide
  · rw [h1]
    have : l.length - 1 = 0 ∨ l.length - 1 = 1 ∨ l.length - 1 = 2 := by omega
    rcases this with e | e | e <;> rw [e] <;> decide
/-- what the loop keeps -/
def AlI (A0 : Ad) (H : Hp) (x kl lf : Addr) (L l : List Nat) (m : Nat) (σ : L2.St) (H' : Hp) : Prop := ∃ (ks : List (List Nat)) (ts : List Tree) (vs : List V) (s2 s3 : Option V), σ = [some (.ref x), some (.ref lf), s2, s3, none] ∧ Ext [kl] H H' ∧ KnAt A0 H' x kl L l ks ∧ H' lf = some (.lst vs) ∧ TsAt H' ts vs ∧
  ts.length ≤ ks.length ∧ 1 ≤ ks.length ∧ m = 1001 - ts.length ∧ ∀ t ∈ ts, Prt L.length l.length ks.length (2 + l.length) (chS L.length 2 l.length) t
section
variable {P : Program} {w : World} {K : PySem.W.Frag} {mg : Str → Option Value} {base : Heap} {A0 : Ad} {f : Addr} {fd : FuncData}

abbrev N_Knower_all_states : List Str := ["self", "found", "known", "places", "place"]
theorem sc_Knower_all_states : FnScope N_Knower_all_states ["self"] (defScope s_Knower_all_states) := ⟨rfl, rfl, rfl, by decide +kernel, rfl, by decide +kernel, by decide +kernel⟩
def spAll (A0 : Ad) : Sp := fun vs H Q _ => ∃ (x kl : Addr) (L l : List Nat), vs = [.ref x] ∧ KnAt A0 H x kl L l [List.replicate l.length 46] ∧ Few L l ∧ Ltr L ∧ (∀ c ∈ l, c ∈ L) ∧
  ∀ H' a xs ts, Ext [kl] H H' → H' a = some (.lst xs) → TsAt H' ts xs → Good L l.length ts → Q (.ref a) H'
theorem chS_mono {nl b : Nat} (h : 1 ≤ nl) : ∀ {i j : Nat}, i ≤ j → chS nl b i ≤ chS nl b j
  | i, 0, h' => by rw [Nat.le_zero.mp h']; exact Nat.le_refl _
  | i, j + 1, h' => by
    by_cases e : i = j + 1
    · rw [e]; exact Nat.le_refl _
    · have h1 := chS_mono (b := b) h (i := i) (j := j) (by omega)
      have h2 : chS nl b j ≤ nl * chS nl b j := Nat.le_mul_of_pos_left _ h
      show _ ≤ nl * chS nl b j + 1
      omega
theorem ok_all_states (T : Tx K mg A0) (M_grown : Mtd P w K mg base 8 A0.Knower "grown" ["self", "seen", "places"] (spGrown A0 5)) (F : Fd K "all_states" "Knower.all_states" s_Knower_all_states f fd) : FnOk P w K mg base CX0 9 f fd ["self"] (spAll A0) := by
  refine fok F sc_Knower_all_states (fun vs H Q E h => ?_) (fun cdv A outer s0 H vs Q E hr h => ?_)
  · obtain ⟨_, _, _, _, rfl, _⟩ := h
    rfl
  · obtain ⟨x, kl, L, l, rfl, hK, hf, hL, hlL, q⟩ := h
    refine ⟨_, (pss_cons (ps_set (i := 1) sc_Knower_all_states.nd rfl (.inl rfl) (pe_lst pa_nil))
      (pss_cons (ps_while PassesOwn.never (pt_cmpR op_lt (pe_callB call_len_seq (by rfl) T.len PySem.boot_len (pa_cons (pv 1) pa_nil)) (pe_callB call_len_seq (by rfl) T.len PySem.boot_len (pa_cons (pe_fld (pv 0) rfl) pa_nil)) (nomark _))
       (pss_cons (ps_set (i := 2) sc_Knower_all_states.nd rfl (.inr rfl) (pe_ix ix_list (pe_fld (pv 0) rfl) (pe_callB call_len_seq (by rfl) T.len PySem.boot_len (pa_cons (pv 1) pa_nil)) (fun _ _ => rfl)))
        (pss_cons (ps_setLc (i := 3) (own := [("place", 4)]) (g := gName 4) rfl sc_Knower_all_states.nd rfl rfl (sw_true rfl rfl rfl (by decide +kernel)) (pi_range1 (by rfl) T.range (pa_cons (pe_callB call_len_str (by rfl) T.len PySem.boot_len (pa_cons (pv 2) pa_nil)) pa_nil)) (blkOk_by (N := N_Knower_all_states) (sc := defScope s_Knower_all_states) (by decide +kernel)) (fun _ _ _ _ _ => (pg_name (i := 4) sc_Knower_all_states.nd rfl (.inl rfl))) (fun _ _ _ _ _ => (pts_one (pt_cmpR op_eq (pe_ix ix_str (pv 2) (pv 4) (fun _ _ => rfl)) pe_str (nomark _)))) (fun _ _ _ _ _ => (pv 4)))
        (pss_one (ps_expr (pe_bm PySem.F.plainAttrs_list PySem.F.slot_list_append PySem.F.type_list_append mt_append (pv 1) (pa_cons (pe_mD (pv 0) T.clKnower M_grown (hr.mono (by omega)) (pa_cons (pv 2) (pa_cons (pe_revL (pv 3)) pa_nil))) pa_nil)))))))
      (pss_one (ps_ret (pv 1))))), ?_⟩
    have hl1 := hf.1
    have hl4 : l.length ≤ 4 := by rcases hf.2 with h | h <;> omega
    have hL2 := hL.lo
    have few : ∀ {H' : Hp} {ks' : List (List Nat)}, KnAt A0 H' x kl L l ks' → ks'.length ≤ (L.length + 1) ^ (l.length - 1) := fun {H' ks'} h => by
      obtain ⟨_, _, h1, h2⟩ := h
      exact kok_few h1 h2 hl1
    have hpow := pow_few hf
    obtain ⟨_, hks0, _, _⟩ := id hK
    refine ⟨Nat.zero_le _, fun lf nlf => ?_⟩
    have hlk : kl ≠ lf := ne_of_none hks0 nlf
    have x1 : Ext [] H (upd H lf (.lst [])) := Ext.refl.fresh nlf
    refine ⟨AlI A0 H x kl lf L l, ⟨1001, _, [], [], none, none, rfl, x1.any, hK.ext x1, upd_same, rfl, Nat.zero_le _, Nat.le_refl 1, rfl, fun t ht => (List.not_mem_nil ht).elim⟩, ?_⟩
    rintro m σ H2 ⟨ks, ts, vs, s2, s3, rfl, x2, hK2, hlf, hts, htk, hk1, rfl, hP⟩
    obtain ⟨⟨dx, hx⟩, hks, hnd, hok⟩ := id hK2
    have hvt : vs.length = ts.length := by rw [hts.length, encs_length]
    have hk64 := few hK2
    refine ⟨_, rfl, lf, vs, rfl, .inl (SqL.of hlf), _, rfl, x, _, dx, _, _, rfl, hx, T.clKnower, T.nKnower_knowns, kf_k, kl, _, rfl, .inl (SqL.of hks), _, _, rfl, rfl, _, rfl, iteD2 (fun hlt => ?_) (fun hlt => ?_)⟩
    · have hlt' : ts.length < ks.length := by
        have : ((vs.length : Nat) : Int) < ((ks.map kS).length : Nat) := hlt
        rw [List.length_map] at this
        omega
      refine ⟨fun σ' H' => ∃ m' < 1001 - ts.length, AlI A0 H x kl lf L l m' σ' H', fun σ' H' h => by
        obtain ⟨m', h1, h2⟩ := h
        exact ⟨m', h1, h2⟩, ?_⟩
      have hg := List.getElem?_eq_getElem hlt'
      generalize ks[ts.length] = k at hg
      have hgv : (ks.map kS)[vs.length]? = some (kS k) := by rw [hvt, List.getElem?_map, hg]; rfl
      have hkok := hok k (List.mem_of_getElem? hg)
      have hkl := hkok.len
      refine ⟨_, rfl, x, _, dx, _, _, rfl, hx, T.clKnower, T.nKnower_knowns, kf_k, _, rfl, lf, vs, rfl, .inl (SqL.of hlf), kl, _, _, _, rfl, rfl, SqL.of hks, tup_at hgv rfl, ?_⟩
      refine ⟨_, rfl, S k, rfl, small (by show k.length ≤ _; omega), _, rfl, by show -(2 ^ 62) ≤ ((k.length : Nat) : Int); omega, by show ((k.length : Nat) : Int) < 2 ^ 62; omega, fun D nD => ?_⟩
      have en : ((((S k).length : Nat) : Int)).toNat = k.length := Int.toNat_natCast _
      rw [en]
      refine lc_acc walk_range (fun m zs H' => Ext [] H2 H' ∧ (∃ ps : List Nat, zs = ps.map (fun i : Nat => V.int i) ∧ ∀ y ∈ ps, y < l.length)) (by omega) ⟨Ext.refl.new nD, ⟨[], rfl, fun y hy => (List.not_mem_nil hy).elim⟩⟩ (fun _ _ _ _ _ => trivial) ?_ ?_
      · rintro m zs y H7 _ Nx Ns hm ⟨x7, ⟨ps, rfl, hps⟩⟩ hD7 hl7 ⟨rfl, rfl⟩ nx ns'
        have e0m : (0 : Int) + (m : Int) = (m : Int) := Int.zero_add _
        have hgm := List.getElem?_eq_getElem (show m < k.length from hm)
        refine ⟨rfl, _, rfl, _, rfl, S k, _, _, rfl, rfl, small (by show k.length ≤ _; omega), (by rw [e0m]; exact atI_nat hgm), rfl, _, rfl, iteD2 (fun _ => ⟨_, rfl, nx _ _ hD7 ⟨x7.new nD, ps ++ [m], ?_, fun z hz => ?_⟩⟩) (fun _ => ns' _ hD7 ⟨x7, ps, rfl, hps⟩)⟩
        · rw [List.map_append]
          show _ = _ ++ [V.int (m : Int)]
          rw [← e0m]
        · rcases List.mem_append.mp hz with h | h
          · exact hps z h
          · rw [List.mem_singleton.mp h]; omega
      · rintro H3 zs ⟨x3, ⟨ps, rfl, hps⟩⟩ hD3 hl3
        rw [List.length_map] at hl3
        have hlf3 := x3.keep _ _ hlf List.not_mem_nil
        have hno : ∀ {m : Str}, m ≠ "knowns" → m ≠ "word" → m ≠ "letters" → (kf L l kl).lookup m = none := kf_no
        refine ⟨_, rfl, .inl ⟨rfl, _, SqL.of hlf3⟩, _, rfl, x, dx, _, rfl, x3.keep _ _ hx List.not_mem_nil, hno (by decide +kernel) (by decide +kernel) (by decide +kernel), _, rfl, _, rfl, D, _, rfl, SqL.of hD3, fun rp nrp => ?_⟩
        have x4 : Ext [] H3 (upd H3 rp (.lst (ps.map fun i : Nat => V.int i).reverse)) := Ext.refl.fresh nrp
        refine ⟨x, kl, rp, L, l, k, ps.reverse, ks, rfl, (hK2.ext x3).ext x4, hkok.kin, hf, hL, hlL, by rw [upd_same, List.map_reverse], fun i hi => hps i (List.mem_reverse.mp hi), by rw [List.length_reverse]; omega, by rw [List.length_reverse]; omega, fun H5 ks5 t v x5 hK5 hle ht hPt => ?_⟩
        rw [List.length_reverse] at hPt
        have x25 : Ext [kl] H2 H5 := x3.any.trans (x4.any.trans x5)
        have hlf5 := x25.keep _ _ hlf (by simpa using hlk.symm)
        have tt := Tups.lst (o := .lst (vs ++ [v])) hlf5
        obtain ⟨⟨dx5, hx5⟩, hks5, hnd5, hok5⟩ := id hK5
        have hxl : x ≠ lf := ne_of hx5 hlf5 (fun z => nomatch z)
        have hk5 := few hK5
        refine ⟨lf, vs, _, rfl, rfl, hlf5, Nat.lt_of_le_of_lt (show vs.length ≤ 1000 by omega) (by rw [sizeLine_eq]; omega), 1001 - (ts.length + 1), by omega, ks5, ts ++ [t], vs ++ [v], _, _, rfl, (x2.trans x25).new nlf, ⟨⟨dx5, (upd_ne hxl).trans hx5⟩, (upd_ne hlk).trans hks5, hnd5, hok5⟩, upd_same, ?_, by rw [List.length_append]; show ts.length + 1 ≤ _; omega, by omega, by rw [List.length_append]; rfl, fun u hu => ?_⟩
        · unfold TsAt
          rw [encs_append]
          exact DAts.ext tt _ _ ((x25.dats hts).append (DAts.one ht))
        · rcases List.mem_append.mp hu with h | h
          · exact prts_mono hP hle u h
          · rw [List.mem_singleton.mp h]
            exact hPt.mono (Nat.le_refl _) (by omega) (chS_mono (by omega) (by omega))
    · have heq : ts.length = ks.length := by
        have : ¬ ((vs.length : Nat) : Int) < ((ks.map kS).length : Nat) := hlt
        rw [List.length_map] at this
        omega
      refine ⟨_, rfl, q H2 lf vs ts x2 hlf hts (good_of (sB := chS L.length 2 l.length) hL hf (by omega) (by omega) (fun t ht => by rw [heq]; exact (hP t ht).mono (Nat.le_refl _) (by omega) (Nat.le_refl _)) ?_)⟩
      have h1 : ts.length * chS L.length 2 l.length ≤ ((L.length + 1) ^ (l.length - 1)) * chS L.length 2 l.length := Nat.mul_le_mul_right _ (by omega)
      exact Nat.le_trans h1 (chS_le hf)
end
end K21

set_option Elab.async false
set_option linter.all false
set_option maxRecDepth 100000
set_option maxHeartbeats 4000000
/-! made -/
namespace K21
open PySem PySem.Spec PyProof.Rows L2
theorem iteB2 {b : Bool} {A B : Prop} (h1 : b = true → A) (h2 : b = false → B) : if b = true then A else B := by
  cases b with
  | true => exact h1 rfl
  | false => exact h2 rfl
def ways : List V := ((vFROM_LEFT ++ vBY_ONE_STATE) ++ vFROM_RIGHT) ++ [.str "all knowledge"]
section
variable {P : Program} {w : World} {K : PySem.W.Frag} {mg : Str → Option Value} {base : Heap} {A0 : Ad} {f : Addr} {fd : FuncData}

abbrev N_made : List Str := ["letters", "word", "way", "states"]
theorem sc_made : FnScope N_made ["letters", "word", "way"] (defScope s_made) := ⟨rfl, rfl, rfl, by decide +kernel, rfl, by decide +kernel, by decide +kernel⟩
def spMade (A0 : Ad) : Sp := fun vs H Q _ => ∃ (L l : List Nat) (way : Str), vs = [.str (S L), .str (S l), .str way] ∧ Ltr L ∧ Few L l ∧ (∀ c ∈ l, c ∈ L) ∧ inV (.str way) ways = true ∧ ∀ H' a ts, Ext [] H H' → SrAt A0 H' a L l.length ts → Good L l.length ts → Q (.ref a) H'
theorem ok_made (T : Tx K mg A0) (D_check_words : Dfn P w K mg base 2 "check_words" ["letters", "words"] spCheckWords) (D_from_left : Dfn P w K mg base 3 "from_left" ["letters", "word", "way"] spMaker) (D_by_one_letter : Dfn P w K mg base 2 "by_one_letter" ["letters", "word", "way"] spMaker)
    (D_from_right : Dfn P w K mg base 3 "from_right" ["letters", "word", "way"] spMaker) (D_Knower : Mkr P w K mg base 1 "Knower" A0.Knower ["self", "letters", "word"] (spKnI A0)) (M_all_states : Mtd P w K mg base 9 A0.Knower "all_states" ["self"] (spAll A0))
    (D_Searcher : Mkr P w K mg base 14 "Searcher" A0.Searcher ["self", "letters", "width", "states"] (spSearcher A0)) (F : Fd K "made" "made" s_made f fd) : FnOk P w K mg base CX0 16 f fd ["letters", "word", "way"] (spMade A0) := by
  refine fok F sc_made (fun vs H Q E h => ?_) (fun cdv A outer s0 H vs Q E hr h => ?_)
  · obtain ⟨_, _, _, rfl, _⟩ := h
    rfl
  · obtain ⟨L, l, way, rfl, hL, hf, hlL, hway, q⟩ := h
    refine ⟨_, (pss_cons (ps_expr (pe_d D_check_words (hr.mono (by omega)) (pa_cons (pv 0) (pa_cons (pe_lst (pa_cons (pv 1) pa_nil)) pa_nil))))
      (pss_cons (ps_if (PW.pt (pw_or (pt_not (pt_val (pe_callB call_is3 (by rfl) T.isinstance (by decide +kernel) (pa_cons (pv 2) (pa_cons (pe_bltn (v := .ty "str") (by rfl) T.str (by decide +kernel) rfl) pa_nil))))) (pw_or1 (pt_cmpR op_notIn_seq (pv 2) (pe_op op_catA (pe_op op_catA (pe_op op_catA (pe_glob (v := .ref A0.FROM_LEFT) rfl T.mFROM_LEFT rfl) (pe_glob (v := .ref A0.BY_ONE_STATE) rfl T.mBY_ONE_STATE rfl)) (pe_glob (v := .ref A0.FROM_RIGHT) rfl T.mFROM_RIGHT rfl)) (pe_tup (pa_cons (pe_gl rfl T.mALL_KNOWN) pa_nil))) rfl))))
       (pss_one ps_never)
       pss_nil)
      (C8.pss_cut (ps_if (pt_cmpR op_in_seq (pv 2) (pe_glob (v := .ref A0.FROM_LEFT) rfl T.mFROM_LEFT rfl) rfl)
       (pss_one (ps_set (i := 3) sc_made.nd rfl (.inl rfl) (pe_d D_from_left (hr.mono (by omega)) (pa_cons (pv 0) (pa_cons (pv 1) (pa_cons (pv 2) pa_nil))))))
       (pss_one (ps_if (pt_cmpR op_in_seq (pv 2) (pe_glob (v := .ref A0.BY_ONE_STATE) rfl T.mBY_ONE_STATE rfl) rfl)
         (pss_one (ps_set (i := 3) sc_made.nd rfl (.inl rfl) (pe_d D_by_one_letter (hr.mono (by omega)) (pa_cons (pv 0) (pa_cons (pv 1) (pa_cons (pv 2) pa_nil))))))
         (pss_one (ps_if (pt_cmpR op_in_seq (pv 2) (pe_glob (v := .ref A0.FROM_RIGHT) rfl T.mFROM_RIGHT rfl) rfl)
           (pss_one (ps_set (i := 3) sc_made.nd rfl (.inl rfl) (pe_d D_from_right (hr.mono (by omega)) (pa_cons (pv 0) (pa_cons (pv 1) (pa_cons (pv 2) pa_nil))))))
           (pss_one (ps_set (i := 3) sc_made.nd rfl (.inl rfl) (pe_mD0 (pe_mkD D_Knower (hr.mono (by omega)) (pa_cons (pv 0) (pa_cons (pv 1) pa_nil))) T.clKnower M_all_states (hr.mono (by omega))))))))))
      (pss_cons (ps_if (pt_cmpR op_gt (pe_callB call_len_seq (by rfl) T.len PySem.boot_len (pa_cons (pv 3) pa_nil)) (pe_gl rfl T.mMOST_STATES) (nomark _))
       (pss_one ps_never)
       pss_nil)
      (pss_one (ps_ret (pe_mkD D_Searcher (hr.mono (by omega)) (pa_cons (pv 0) (pa_cons (pe_callB call_len_str (by rfl) T.len PySem.boot_len (pa_cons (pv 1) pa_nil)) (pa_cons (pv 3) pa_nil)))))))))), ?_⟩
    have hl1 := hf.1
    have hl4 : l.length ≤ 4 := by rcases hf.2 with h | h <;> omega
    refine ⟨_, rfl, _, rfl, small (by show 1 ≤ 100000; omega), fun wl nwl => ?_⟩
    have x0 : Ext [] H (upd H wl (.lst [.str (S l)])) := Ext.refl.fresh nwl
    refine ⟨L, l, wl, rfl, upd_same, hL, hl1, by omega, hlL, fun H1 x1 => ?_⟩
    refine ⟨_, rfl, .inl ⟨_, rfl, true, rfl, iteF ?_⟩⟩
    refine ⟨_, rfl, A0.FROM_LEFT, A0.BY_ONE_STATE, _, _, rfl, rfl, T.tFROM_LEFT _, T.tBY_ONE_STATE _, small (by show 3 + 3 ≤ 100000; omega), (fun z => nomatch z), (fun _ z => nomatch z), fun _ _ p1 np1 => ?_⟩
    refine ⟨p1, A0.FROM_RIGHT, _, _, rfl, rfl, SqT.of upd_same, T.tFROM_RIGHT _, small (by show 6 + 4 ≤ 100000; omega), (fun z => nomatch z), (fun _ z => nomatch z), fun _ _ p2 np2 => ?_⟩
    refine ⟨small (by show 1 ≤ 100000; omega), fun p3 np3 => ?_⟩
    have hp2 := (Ext.refl (m := [])|>.fresh (o := .tup [.str "all knowledge"]) np3).tups p2 _ upd_same
    refine ⟨p2, p3, _, _, rfl, rfl, SqT.of hp2, SqT.of upd_same, small (by show 10 + 1 ≤ 100000; omega), (fun z => nomatch z), (fun _ z => nomatch z), fun _ _ p4 np4 => ?_⟩
    refine ⟨p4, ways, rfl, .inr (SqT.of upd_same), rfl, rfl, _, rfl, iteF' (by show (!inV (.str way) ways) = false; rw [hway]; rfl) ?_⟩
    have x2 := (((x0.trans x1).fresh (o := .tup (vFROM_LEFT ++ vBY_ONE_STATE)) np1).fresh (o := .tup ((vFROM_LEFT ++ vBY_ONE_STATE) ++ vFROM_RIGHT)) np2).fresh (o := .tup [.str "all knowledge"]) np3 |>.fresh (o := .tup ways) np4
    refine ⟨fun σ H' => ∃ (a : Addr) (xs : List V) (ts : List Tree), σ = [some (.str (S L)), some (.str (S l)), some (.str way), some (.ref a)] ∧ Ext [] H H' ∧ H' a = some (.lst xs) ∧ TsAt H' ts xs ∧ Good L l.length ts, ?_, ?_⟩
    · refine ⟨_, rfl, A0.FROM_LEFT, _, rfl, .inr (T.tFROM_LEFT _), rfl, rfl, _, rfl, iteB2 (fun _ => ?_) (fun _ => ?_)⟩
      · exact ⟨_, rfl, _, rfl, _, rfl, L, l, way, rfl, hL, hf, hlL, fun H3 a xs ts x3 ha hts G => ⟨a, xs, ts, rfl, x2.trans x3, ha, hts, G⟩⟩
      · refine ⟨_, rfl, A0.BY_ONE_STATE, _, rfl, .inr (T.tBY_ONE_STATE _), rfl, rfl, _, rfl, iteB2 (fun _ => ?_) (fun _ => ?_)⟩
        · exact ⟨_, rfl, _, rfl, _, rfl, L, l, way, rfl, hL, hf, hlL, fun H3 a xs ts x3 ha hts G => ⟨a, xs, ts, rfl, x2.trans x3, ha, hts, G⟩⟩
        · refine ⟨_, rfl, A0.FROM_RIGHT, _, rfl, .inr (T.tFROM_RIGHT _), rfl, rfl, _, rfl, iteB2 (fun _ => ?_) (fun _ => ?_)⟩
          · exact ⟨_, rfl, _, rfl, _, rfl, L, l, way, rfl, hL, hf, hlL, fun H3 a xs ts x3 ha hts G => ⟨a, xs, ts, rfl, x2.trans x3, ha, hts, G⟩⟩
          · refine ⟨_, rfl, _, rfl, fun x dx nx nd hne => ⟨x, dx, L, l, rfl, upd_same, hl1, by omega, fun H3 kl nkl x3 hK => ⟨rfl, ?_⟩⟩⟩
            have x4 : Ext [] _ H3 := made_ext nx nd x3
            have nkH := upd_none (upd_none nkl)
            obtain ⟨⟨dx3, hx3⟩, _⟩ := id hK
            refine ⟨x, dx3, _, rfl, hx3, kf_no (by decide +kernel) (by decide +kernel) (by decide +kernel), x, kl, L, l, rfl, hK, hf, hL, hlL, fun H5 a xs ts x5 ha hts G => ⟨a, xs, ts, rfl, x2.trans ⟨fun b o e _ => x5.keep _ _ (x4.keep _ _ e List.not_mem_nil) (by simpa using ne_of_none e nkH), fun b ys e => x5.tups _ _ (x4.tups _ _ e)⟩, ha, hts, G⟩⟩
    · rintro σ H3 ⟨a, xs, ts, rfl, x3, ha, hts, G⟩
      have hxl : xs.length = ts.length := by rw [hts.length, encs_length]
      refine ⟨_, rfl, a, xs, rfl, .inl (SqL.of ha), _, _, rfl, rfl, _, rfl, iteN (by have := G.n64; omega) ?_⟩
      refine ⟨_, rfl, _, rfl, S l, rfl, small (by show l.length ≤ _; omega), _, rfl, fun x dx nx nd hne => ?_⟩
      have hx0 : ∀ b o, H3 b = some o → (upd (upd H3 dx (.own x)) x (.ins A0.Searcher dx [])) b = some o := fun b o h => by rw [upd_ne (ne_of_none h nx), upd_ne (ne_of_none h nd)]; exact h
      refine ⟨x, a, dx, L, l.length, ts, xs, rfl, upd_same, hx0 _ _ ha, DAts.ext (fun b ys h => hx0 _ _ h) _ _ hts, G, fun H5 x5 hS => ⟨rfl, q H5 x ts (x3.trans (made_ext nx nd x5)) hS G⟩⟩
end
end K21

set_option Elab.async false
set_option linter.all false
set_option maxRecDepth 100000
set_option maxHeartbeats 4000000
/-! the law's matter -/
namespace K21
open PySem PySem.Spec PyProof.Rows L2
def ways8 : List V := [.str "plain", .str "borders", .str "strict borders", .str "by letters", .str "bad letter", .str "good end", .str "both", .str "both and known"]
def ways3 : List V := [.str "last letter", .str "letter behind", .str "all knowledge"]
theorem ways_in : ∀ v ∈ ways8 ++ ways3, ∃ z : Str, v = .str z ∧ inV (.str z) ways = true := by
  have key : ∀ zs : List Str, (∀ z ∈ zs, inV (.str z) ways = true) → ∀ v ∈ zs.map V.str, ∃ z : Str, v = .str z ∧ inV (.str z) ways = true := fun zs h v hv => by
    obtain ⟨z, hz, rfl⟩ := List.mem_map.mp hv
    exact ⟨z, rfl, h z hz⟩
  exact key ["plain", "borders", "strict borders", "by letters", "bad letter", "good end", "both", "both and known", "last letter", "letter behind", "all knowledge"] (by decide +kernel)
section
variable {P : Program} {w : World} {K : PySem.W.Frag} {mg : Str → Option Value} {base : Heap} {A0 : Ad} {f : Addr} {fd : FuncData}

abbrev N_l_made_ways : List Str := ["_law_found"]
theorem sc_l_made_ways : FnScope N_l_made_ways [] (defScope s_l_made_ways) := ⟨rfl, rfl, rfl, by decide +kernel, rfl, by decide +kernel, by decide +kernel⟩
def spWays : Sp := fun vs H Q _ => vs = [] ∧ ∀ H' a, Ext [] H H' → H' a = some (.lst (ways8 ++ ways3)) → Q (.ref a) H'
theorem ok_ways (T : Tx K mg A0) (F : Fd K "_law_made_ways" "_law_made_ways" s_l_made_ways f fd) : FnOk P w K mg base CX0 1 f fd [] spWays := by
  refine fok F sc_l_made_ways (fun vs H Q E h => ?_) (fun cdv A outer s0 H vs Q E hr h => ?_)
  · obtain ⟨rfl, _⟩ := h
    rfl
  · obtain ⟨rfl, q⟩ := h
    refine ⟨_, (pss_cons (ps_set (i := 0) sc_l_made_ways.nd rfl (.inl rfl) (pe_lst (pa_cons pe_str (pa_cons pe_str (pa_cons pe_str (pa_cons pe_str (pa_cons pe_str (pa_cons pe_str (pa_cons pe_str (pa_cons pe_str pa_nil))))))))))
      (pss_one (ps_ret (pe_op op_cat (pv 0) (pe_lst (pa_cons pe_str (pa_cons pe_str (pa_cons pe_str pa_nil)))))))), ?_⟩
    refine ⟨small (by show 8 ≤ 100000; omega), fun a na => ?_⟩
    refine ⟨_, rfl, small (by show 3 ≤ 100000; omega), fun b nb => ?_⟩
    have hab : a ≠ b := ne_of_none (upd_same (H := H) (a := a)) nb
    refine ⟨a, b, ways8, ways3, rfl, rfl, (upd_ne hab).trans upd_same, upd_same, small (by show 8 + 3 ≤ 100000; omega), fun c nc => ?_⟩
    exact q _ c (((Ext.refl.fresh na).fresh nb).fresh nc) upd_same

/-- widths that the law takes -/
def Wid (L : List Nat) (wd : Nat) : Prop := 1 ≤ wd ∧ ((L.length = 2 ∧ wd ≤ 4) ∨ (L.length = 3 ∧ wd ≤ 3))
abbrev N_l_matter_of : List Str := ["_law_pen", "_law_most", "_law_letters", "_law_width", "_law_words", "_law_way", "_law_other", "_law_many", "_law_trees", "_law_k", "_law_tree"]
theorem sc_l_matter_of : FnScope N_l_matter_of ["_law_pen", "_law_most"] (defScope s_l_matter_of) := ⟨rfl, rfl, rfl, by decide +kernel, rfl, by decide +kernel, by decide +kernel⟩
def spMatter (A0 : Ad) : Sp := fun vs H Q _ => ∃ (p c : Addr) (n : Nat), vs = [.ref p, .int 4] ∧ Pen H p c (n + 20000) ∧
  ∀ H' a wl tl xs ts L l ws, Ext [p] H H' → Pen H' p c n → H' a = some (.tup [.str (S L), .ref wl, .ref tl]) → H' wl = some (.lst (.str (S l) :: ws)) → H' tl = some (.lst xs) → TsAt H' ts xs → Good L l.length ts → Few L l → (∀ c ∈ l, c ∈ L) → Q (.ref a) H'
theorem ok_matter (T : Tx K mg A0) (D_l_draw : Dfn P w K mg base 1 "_law_draw" ["_law_pen", "_law_many"] spDraw) (D_l_pick : Dfn P w K mg base 2 "_law_pick" ["_law_pen", "_law_menu"] spPick) (D_l_letters_of : Dfn P w K mg base 2 "_law_letters_of" ["_law_pen", "_law_many"] spLettersOf) (D_l_word_of : Dfn P w K mg base 3 "_law_word_of" ["_law_pen", "_law_letters", "_law_size"] spWordOf)
    (D_l_tree_of : Dfn P w K mg base 6 "_law_tree_of" ["_law_pen", "_law_letters", "_law_width", "_law_many", "_law_depth"] (spTreeOf 4)) (D_l_bent_tree : Dfn P w K mg base 12 "_law_bent_tree" ["_law_pen", "_law_tree", "_law_width", "_law_many", "_law_chance"] (spBent 10)) (D_l_made_ways : Dfn P w K mg base 1 "_law_made_ways" [] spWays) (D_made : Dfn P w K mg base 16 "made" ["letters", "word", "way"] (spMade A0))
    (F : Fd K "_law_matter_of" "_law_matter_of" s_l_matter_of f fd) : FnOk P w K mg base CX0 17 f fd ["_law_pen", "_law_most"] (spMatter A0) := by
  refine fok F sc_l_matter_of (fun vs H Q E h => ?_) (fun cdv A outer s0 H vs Q E hr h => ?_)
  · obtain ⟨_, _, _, rfl, _⟩ := h
    rfl
  · obtain ⟨p, c, n, rfl, hP, q⟩ := h
    refine ⟨_, (C8.pss_cut (ps_set (i := 2) sc_l_matter_of.nd rfl (.inr rfl) (pe_d D_l_letters_of (hr.mono (by omega)) (pa_cons (pv 0) (pa_cons (pe_d D_l_pick (hr.mono (by omega)) (pa_cons (pv 0) (pa_cons (pe_lst (pa_cons pe_int (pa_cons pe_int (pa_cons pe_int pa_nil)))) pa_nil))) pa_nil))))
      (C8.pss_cut (ps_set (i := 3) sc_l_matter_of.nd rfl (.inr rfl) (pe_op op_add pe_int (pe_d D_l_draw (hr.mono (by omega)) (pa_cons (pv 0) (pa_cons (pe_ifExp (pt_cmpR op_eq (pe_callB call_len_str (by rfl) T.len PySem.boot_len (pa_cons (pv 2) pa_nil)) pe_int (nomark _)) (pv 1) (pe_op op_sub (pv 1) pe_int)) pa_nil)))))
      (pss_cons (ps_set (i := 4) sc_l_matter_of.nd rfl (.inl rfl) (pe_lst (pa_cons (pe_d D_l_word_of (hr.mono (by omega)) (pa_cons (pv 0) (pa_cons (pv 2) (pa_cons (pv 3) pa_nil)))) pa_nil)))
      (pss_cons (ps_set (i := 5) sc_l_matter_of.nd rfl (.inr rfl) (pe_d D_l_draw (hr.mono (by omega)) (pa_cons (pv 0) (pa_cons pe_int pa_nil))))
      (C8.pss_cut (ps_if (pt_cmpR op_eq (pv 5) pe_int (nomark _))
       (pss_cons (ps_set (i := 6) sc_l_matter_of.nd rfl (.inl rfl) (pe_d D_l_word_of (hr.mono (by omega)) (pa_cons (pv 0) (pa_cons (pv 2) (pa_cons (pv 3) pa_nil)))))
        (pss_one (ps_set (i := 4) sc_l_matter_of.nd rfl (.inl rfl) (pe_op op_cat (pv 4) (pe_op op_rep (pe_lst (pa_cons (pv 6) pa_nil)) (pe_callTy call_int1 (by rfl) T.int (by decide +kernel) (pa_cons (pe_cmpR op_ne (pv 6) (pe_ix ix_list (pv 4) pe_int (fun _ _ => rfl)) (nomark _)) pa_nil)))))))
       pss_nil)
      (pss_cons (ps_if (pt_cmpR op_ge (pv 5) pe_int (nomark _))
       (pss_cons (ps_set (i := 7) sc_l_matter_of.nd rfl (.inr rfl) (pe_op op_add pe_int (pe_d D_l_draw (hr.mono (by omega)) (pa_cons (pv 0) (pa_cons pe_int pa_nil)))))
        (pss_one (ps_ret (pe_tup (pa_cons (pv 2) (pa_cons (pv 4) (pa_cons (pe_lc (own := [("_law_k", 9)]) (g := gName 9) (tt := tYes) rfl sc_l_matter_of.nd (pi_range1 (by rfl) T.range (pa_cons (pv 7) pa_nil)) (blkOk_by (N := N_l_matter_of) (sc := defScope s_l_matter_of) (by decide +kernel)) (fun _ _ _ _ _ => (pg_name (i := 9) sc_l_matter_of.nd rfl (.inl rfl))) (fun _ _ _ _ _ => pts_nil) (fun _ _ _ _ _ => (pe_d D_l_tree_of (hr.mono (by omega)) (pa_cons (pv 0) (pa_cons (pv 2) (pa_cons (pv 3) (pa_cons (pv 7) (pa_cons pe_int pa_nil)))))))) pa_nil)))))))
       pss_nil)
      (pss_cons (ps_set (i := 8) sc_l_matter_of.nd rfl (.inr rfl) (pe_callTy call_list_of (by rfl) T.list (by decide +kernel) (pa_cons (pe_fld (pe_d D_made (hr.mono (by omega)) (pa_cons (pv 2) (pa_cons (pe_ix ix_list (pv 4) pe_int (fun _ _ => rfl)) (pa_cons (pe_d D_l_pick (hr.mono (by omega)) (pa_cons (pv 0) (pa_cons (pe_d0 D_l_made_ways (hr.mono (by omega))) pa_nil))) pa_nil)))) rfl) pa_nil)))
      (C8.pss_cut (ps_if (pt_cmpR op_gt (pv 5) pe_int (nomark _))
       (pss_one (ps_set (i := 8) sc_l_matter_of.nd rfl (.inr rfl) (pe_lc (own := [("_law_tree", 10)]) (g := gName 10) (tt := tYes) rfl sc_l_matter_of.nd (pi_list (pv 8)) (blkOk_by (N := N_l_matter_of) (sc := defScope s_l_matter_of) (by decide +kernel)) (fun _ _ _ _ _ => (pg_name (i := 10) sc_l_matter_of.nd rfl (.inl rfl))) (fun _ _ _ _ _ => pts_nil) (fun _ _ _ _ _ => (pe_d D_l_bent_tree (hr.mono (by omega)) (pa_cons (pv 0) (pa_cons (pv 10) (pa_cons (pv 3) (pa_cons (pe_callB (call_len_seqK (K := K) rfl) (by rfl) T.len PySem.boot_len (pa_cons (pv 8) pa_nil)) (pa_cons (pe_op op_mul pe_int (pv 5)) pa_nil))))))))))
       pss_nil)
      (pss_one (ps_ret (pe_tup (pa_cons (pv 2) (pa_cons (pv 4) (pa_cons (pv 8) pa_nil)))))))))))))), ?_⟩
    -- the letters
    refine ⟨fun σ H' => ∃ L : List Nat, σ = [some (.ref p), some (.int 4), some (.str (S L)), none, none, none, none, none, none, none, none] ∧ Ext [p] H H' ∧ Pen H' p c (n + 19990) ∧ Ltr L ∧ (L.length = 2 ∨ L.length = 3), ?_, ?_⟩
    · refine ⟨_, rfl, _, rfl, small (by show 3 ≤ 100000; omega), fun ml nml => ?_⟩
      have x0 : Ext [] H (upd H ml (.lst [.int 2, .int 2, .int 3])) := Ext.refl.fresh nml
      refine ⟨p, c, n + 19999, _, rfl, (hP.ext0 x0).le (by omega), .inr ⟨ml, _, rfl, upd_same, by show 1 ≤ 3; omega, by show 3 ≤ 1000; omega, fun H1 r v x1 hP1 hv => ?_⟩⟩
      have hv' : ∃ m : Nat, v = .int m ∧ (m = 2 ∨ m = 3) := by
        have hm := List.mem_of_getElem? hv
        rcases List.mem_cons.mp hm with h | hm
        · exact ⟨2, h, .inl rfl⟩
        rcases List.mem_cons.mp hm with h | hm
        · exact ⟨2, h, .inl rfl⟩
        exact ⟨3, List.mem_singleton.mp hm, .inr rfl⟩
      obtain ⟨m, rfl, hm⟩ := hv'
      refine ⟨p, c, n + 19990, m, rfl, hP1.le (by omega), by omega, fun H2 L x2 hP2 hLl hLn hLs => ?_⟩
      exact ⟨L, rfl, x0.any.trans (x1.trans x2), hP2, ⟨by omega, by omega, hLn, hLs⟩, by omega⟩
    rintro σ H1 ⟨L, rfl, x1, hP1, hL, hL23⟩
    -- the width
    refine ⟨fun σ H' => ∃ wd : Nat, σ = [some (.ref p), some (.int 4), some (.str (S L)), some (.int wd), none, none, none, none, none, none, none] ∧ Ext [p] H1 H' ∧ Pen H' p c (n + 19980) ∧ Wid L wd, ?_, ?_⟩
    · refine ⟨_, rfl, _, rfl, S L, rfl, small (by show L.length ≤ _; omega), rfl, _, rfl, iteD2 (fun h2 => ?_) (fun h2 => ?_)⟩
      · have hl2 : L.length = 2 := by
          have := V.int.inj h2
          have : ((L.length : Nat) : Int) = 2 := this
          omega
        refine ⟨_, rfl, p, c, n + 19980, 4, rfl, hP1.le (by omega), by decide, by decide, fun H2 r x2 hP2 hr2 => ⟨_, _, rfl, rfl, 1 + r, ?_, x2, hP2, by omega, .inl ⟨hl2, by omega⟩⟩⟩
        show [_, _, _, some (V.int (1 + (r : Int))), _, _, _, _, _, _, _] = _
        rw [show (1 + (r : Int)) = ((1 + r : Nat) : Int) by omega]
      · have hl3 : L.length = 3 := by
          rcases hL23 with h | h
          · exfalso
            apply h2
            show V.int ((L.length : Nat) : Int) = V.int 2
            rw [h]; rfl
          · exact h
        refine ⟨_, rfl, _, _, rfl, rfl, p, c, n + 19980, 3, rfl, hP1.le (by omega), by decide, by decide, fun H2 r x2 hP2 hr2 => ⟨_, _, rfl, rfl, 1 + r, ?_, x2, hP2, by omega, .inr ⟨hl3, by omega⟩⟩⟩
        show [_, _, _, some (V.int (1 + (r : Int))), _, _, _, _, _, _, _] = _
        rw [show (1 + (r : Int)) = ((1 + r : Nat) : Int) by omega]
    rintro σ H2 ⟨wd, rfl, x2, hP2, hW⟩
    have hwd4 : wd ≤ 4 := by rcases hW.2 with h | h <;> omega
    have hwd1 := hW.1
    have hlo := hL.lo
    have hhi := hL.hi
    -- words
    refine ⟨_, rfl, _, rfl, _, rfl, p, c, n + 19970, wd, L, rfl, hP2.le (by omega), by omega, by omega, by omega, fun H3 l x3 hP3 hll hlL => ?_⟩
    subst hll
    have hf : Few L l := hW
    refine ⟨small (by show 1 ≤ 100000; omega), fun wl0 nwl0 => ?_⟩
    have x4 : Ext [] H3 (upd H3 wl0 (.lst [.str (S l)])) := Ext.refl.fresh nwl0
    have hwl0 : (upd H3 wl0 (.lst [.str (S l)])) wl0 = some (.lst [.str (S l)]) := upd_same
    have hP4 := hP3.ext0 x4
    generalize upd H3 wl0 (.lst [.str (S l)]) = H4 at x4 hwl0 hP4
    refine ⟨_, rfl, p, c, n + 19960, 6, rfl, hP4.le (by omega), by decide, by decide, fun H5 way x5 hP5 hway => ?_⟩
    have hwl0p : wl0 ≠ p := by
      obtain ⟨b, l', ns, hp, _⟩ := hP4
      exact ne_of hwl0 hp (fun z => nomatch z)
    have hwl5 := x5.keep _ _ hwl0 (by simpa using hwl0p)
    have x05 : Ext [p] H H5 := x1.trans (x2.trans (x3.trans (x4.any.trans x5)))
    refine ⟨fun σ H' => ∃ (wl : Addr) (ws : List V) (s6 : Option V), σ = [some (.ref p), some (.int 4), some (.str (S L)), some (.int l.length), some (.ref wl), some (.int way), s6, none, none, none, none] ∧ Ext [p] H5 H' ∧ Pen H' p c (n + 19950) ∧ H' wl = some (.lst (.str (S l) :: ws)), ?_, ?_⟩
    · refine ⟨_, rfl, rfl, _, rfl, iteD2 (fun _ => ?_) (fun _ => ⟨wl0, [], none, rfl, Ext.refl, hP5.le (by omega), hwl5⟩)⟩
      refine ⟨_, rfl, _, rfl, _, rfl, p, c, n + 19950, l.length, L, rfl, hP5.le (by omega), by omega, by omega, by omega, fun H6 o x6 hP6 hol hoL => ?_⟩
      have hwl6 := x6.keep _ _ hwl5 (by simpa using hwl0p)
      refine ⟨_, rfl, _, rfl, small (by show 1 ≤ 100000; omega), fun ol nol => ?_⟩
      have x7 : Ext [] H6 (upd H6 ol (.lst [.str (S o)])) := Ext.refl.fresh nol
      have hol7 : (upd H6 ol (.lst [.str (S o)])) ol = some (.lst [.str (S o)]) := upd_same
      have hwl7 := x7.keep _ _ hwl6 List.not_mem_nil
      have hP7 := hP6.ext0 x7
      generalize upd H6 ol (.lst [.str (S o)]) = H7 at x7 hol7 hwl7 hP7
      refine ⟨_, rfl, _, rfl, wl0, _, _, .str (S l), rfl, rfl, SqL.of hwl7, tup_at (j := 0) rfl, rfl, .inr ⟨_, rfl, ?_⟩⟩
      generalize hk : (if (!decide (V.str (S o) = V.str (S l))) = true then (1 : Int) else 0) = k
      have hk2 : 0 ≤ k ∧ k ≤ 1 := by rw [← hk]; split <;> omega
      refine ⟨ol, k, _, rfl, rfl, hol7, by omega, by omega, small (by show 1 * k.toNat ≤ _; omega), fun rl nrl => ?_⟩
      have x8 : Ext [] H7 (upd H7 rl (.lst (List.replicate k.toNat [V.str (S o)]).flatten)) := Ext.refl.fresh nrl
      refine ⟨wl0, rl, _, _, rfl, rfl, x8.keep _ _ hwl7 List.not_mem_nil, upd_same, small ?_, fun wl nwl => ?_⟩
      · have hk3 : k = 0 ∨ k = 1 := by omega
        rcases hk3 with rfl | rfl
        · show 1 + 0 ≤ 100000; omega
        · show 1 + 1 ≤ 100000; omega
      · refine ⟨wl, _, _, rfl, (x6.trans (x7.any.trans (x8.any.fresh nwl))), (hP7.ext0 (x8.fresh nwl)), upd_same⟩
    rintro σ H6 ⟨wl, ws, s6, rfl, x6, hP6, hwl6⟩
    have hwlp : wl ≠ p := by
      obtain ⟨b, l', ns, hp, _⟩ := hP6
      exact ne_of hwl6 hp (fun z => nomatch z)
    have x06 := x05.trans x6
    have hl8 : l.length ≤ 8 := by omega
    refine ⟨_, rfl, _, _, rfl, rfl, _, rfl, iteD2 (fun hge => ?_) (fun hge => ?_)⟩
    · -- trees drawn
      refine ⟨_, rfl, p, c, n + 19940, 3, rfl, hP6.le (by omega), by decide, by decide, fun H7 r x7 hP7 hr => ⟨_, _, rfl, rfl, ?_⟩⟩
      have hwl7 := x7.keep _ _ hwl6 (by simpa using hwlp)
      have em : (1 + (r : Int)) = ((1 + r : Nat) : Int) := by omega
      refine ⟨_, rfl, _, rfl, _, rfl, _, rfl, by show -(2 ^ 62) ≤ 1 + (r : Int); omega, by show 1 + (r : Int) < 2 ^ 62; omega, fun D nD => ?_⟩
      have en : (1 + (r : Int)).toNat = 1 + r := by omega
      rw [en]
      have hDp := hP7.neP nD
      have hDc := hP7.neC nD
      have b3 : bd 3 = 186 := rfl
      refine lc_rel walk_range (fun i H' => Ext [p] H7 H' ∧ Pen H' p c (n + (1 + r - i) * bd 3)) (fun j H' y => ∃ t, TAt H' t y ∧ (t.ok L.length l.length (1 + r) ∧ t.depth ≤ 10 ∧ t.size ≤ 40)) (by omega) ⟨Ext.refl.new nD, (hP7.le (by rw [b3]; omega)).new (H0 := H) hDp hDc⟩ (fun _ _ _ _ => trivial) (fun _ _ _ _ tt ⟨t, e1, e2⟩ => ⟨t, DAt.ext tt _ _ e1, e2⟩) (fun i H' o h => ⟨h.1.new nD, h.2.new (H0 := H) hDp hDc⟩) ?_ ?_
      · rintro i x _ H8 Nx hi ⟨x8, hP8⟩ ⟨zs, hz⟩ ⟨rfl, rfl⟩ nx
        have hPn := hP8.le (m := n + (1 + r - (i + 1)) * bd 3 + bd 3) (by
          rw [show 1 + r - i = 1 + r - (i + 1) + 1 by omega, Nat.succ_mul]; omega)
        refine ⟨rfl, _, rfl, _, rfl, _, rfl, _, rfl, p, c, _, l.length, 1 + r, 3, L, ?_, hPn, by omega, by omega, hwd1, hl8, by omega, by omega, fun H9 t v x9 hP9 ht hok hd hs => ?_⟩
        · show [_, _, _, V.int (1 + (r : Int)), _] = _
          rw [em]; rfl
        · have hs40 : szB 3 = 40 := rfl
          exact nx v H9 ⟨x8.trans x9, hP9⟩ x9.tups ((x9.keep _ _ hz (by simpa using hDp.symm)).trans hz.symm) ⟨t, ht, hok, by omega, by omega⟩
      · rintro H8 ys ⟨x8, hP8⟩ hD hys hR
        obtain ⟨ts, g1, g2, g3⟩ := tsAt_ex hR
        refine ⟨small (by show 3 ≤ 100000; omega), fun a na => ?_⟩
        have x9 : Ext [] H8 (upd H8 a (.tup [.str (S L), .ref wl, .ref D])) := Ext.refl.fresh na
        have hsz : sizes ts ≤ ts.length * 40 := sizes_le (m := 40) fun t ht => (g3 t ht).2.2
        have htl : ts.length = 1 + r := by omega
        have hmul : ts.length * 40 ≤ 3 * 40 := Nat.mul_le_mul_right _ (by omega)
        exact q _ a wl D ys ts L l ws (x06.trans (x7.trans (x8.trans x9.any))) ((hP8.ext0 x9).le (by omega)) upd_same ((x8.trans x9.any).keep _ _ hwl7 (by simpa using hwlp)) (x9.keep _ _ hD List.not_mem_nil) (x9.dats g1) ⟨hL, hwd1, hl8, by omega, by omega, fun t ht => by rw [htl]; exact (g3 t ht).1, fun t ht => (g3 t ht).2.1, by omega⟩ hf hlL
    · -- trees made
      refine ⟨_, rfl, _, rfl, wl, _, _, .str (S l), rfl, rfl, SqL.of hwl6, tup_at (j := 0) rfl, _, rfl, rfl, fun H7 wa x7 hwa => ?_⟩
      refine ⟨p, c, n + 19940, _, rfl, (hP6.ext0 x7).le (by omega), .inr ⟨wa, _, rfl, hwa, by show 1 ≤ 11; omega, by show 11 ≤ 1000; omega, fun H8 r v x8 hP8 hv => ?_⟩⟩
      obtain ⟨wz, rfl, hwz⟩ := ways_in _ (List.mem_of_getElem? hv)
      refine ⟨L, l, wz, rfl, hL, hf, hlL, hwz, fun H9 sa ts0 x9 hS G0 => ?_⟩
      obtain ⟨dx, fs, tp, sxs, hA, hlet, hwid, hst, htp, hsxs⟩ := id hS
      refine ⟨sa, _, dx, fs, _, rfl, hA, T.clSearcher, T.nSearcher_states, hst, tp, sxs, rfl, .inr (SqT.of htp), fun tl ntl => ?_⟩
      have x10 : Ext [] H9 (upd H9 tl (.lst sxs)) := Ext.refl.fresh ntl
      have hwl10 := ((x7.any.trans x8).trans (x9.any.trans x10.any)).keep _ _ hwl6 (by simpa using hwlp)
      have hP10 := (hP8.ext0 x9).ext0 x10
      have hts10 := x10.dats hsxs
      have htl10 : (upd H9 tl (.lst sxs)) tl = some (.lst sxs) := upd_same
      have x610 : Ext [p] H6 (upd H9 tl (.lst sxs)) := (x7.any.trans x8).trans (x9.any.trans x10.any)
      generalize upd H9 tl (.lst sxs) = H10 at x10 hwl10 hP10 hts10 htl10 x610
      have htlp : tl ≠ p := by
        obtain ⟨b, l', ns, hp, _⟩ := hP10
        exact ne_of htl10 hp (fun z => nomatch z)
      have hxl : sxs.length = ts0.length := by rw [hsxs.length, encs_length]
      have hG64 := G0.n64
      have hG1 := G0.n1
      have hGs := G0.siz
      refine ⟨fun σ H' => ∃ (tl : Addr) (xs : List V) (ts : List Tree) (s7 s9 s10 : Option V), σ = [some (.ref p), some (.int 4), some (.str (S L)), some (.int l.length), some (.ref wl), some (.int way), s6, s7, some (.ref tl), s9, s10] ∧ Ext [p] H10 H' ∧ Pen H' p c n ∧ H' tl = some (.lst xs) ∧ TsAt H' ts xs ∧ Good L l.length ts, ?_, ?_⟩
      · refine ⟨_, rfl, _, _, rfl, rfl, _, rfl, iteD2 (fun hgt => ?_) (fun hgt => ⟨tl, sxs, ts0, _, _, _, rfl, Ext.refl, hP10.le (by omega), htl10, hts10, G0⟩)⟩
        have hway0 : 0 < way := by
          have : (way : Int) > 0 := hgt
          omega
        have hway4 : ¬ (way : Int) ≥ 4 := hge
        refine ⟨_, rfl, tl, rfl, ⟨_, SqL.of htl10⟩, fun D nD => ?_⟩
        have hDp := hP10.neP nD
        have hDc := hP10.neC nD
        refine lc_rel walk_list (fun i H' => Ext [p] H10 H' ∧ Pen H' p c (n + 4 * sizes (ts0.drop i))) (fun j H' y => ∃ u, TAt H' u y ∧ (u.ok L.length l.length ts0.length ∧ ∀ t, ts0[j]? = some t → u.size ≤ t.size ∧ u.depth ≤ t.depth)) (by omega) ⟨Ext.refl.new nD, (hP10.le (by rw [List.drop_zero]; omega)).new (H0 := H) hDp hDc⟩ (fun _ _ _ x => SqL.of (x.1.keep _ _ htl10 (by simpa using htlp))) (fun _ _ _ _ tt ⟨t, e1, e2⟩ => ⟨t, DAt.ext tt _ _ e1, e2⟩) (fun i H' o h => ⟨h.1.new nD, h.2.new (H0 := H) hDp hDc⟩) ?_ ?_
        · rintro i y H4 _ Nx hi ⟨x4, hP4⟩ ⟨zs, hz⟩ ⟨rfl, hy⟩ nx
          obtain ⟨d', hd', hy'⟩ := hts10.get' hy
          obtain ⟨u, hu, rfl⟩ := encs_get' hd'
          have hmem := List.mem_of_getElem? hu
          rw [drop_at hu] at hP4
          have hPn := hP4.le (m := n + 4 * sizes (ts0.drop (i + 1)) + 4 * u.size) (by show _ ≤ n + 4 * (u.size + sizes _); omega)
          have e9 : (9 : Int) * (way : Int) = ((9 * way : Nat) : Int) := by omega
          refine ⟨rfl, _, rfl, _, rfl, _, rfl, _, rfl, tl, sxs, rfl, .inl (SqL.of (x4.keep _ _ htl10 (by simpa using htlp))), _, rfl, _, _, rfl, rfl, .inl ⟨by decide, by decide⟩, p, c, _, l.length, ts0.length, 9 * way, L.length, u, y, ?_, hPn, x4.dat hy', G0.ok u hmem, by omega, G0.dep u hmem, hl8, hG1, by omega, by omega, by omega, fun H5 t2 v2 x5 hP5 ht2 hok2 hd2 hs2 => ?_⟩
          · show [_, _, _, V.int (sxs.length : Nat), V.int ((9 : Int) * (way : Int))] = _
            rw [e9, hxl]
          · exact nx v2 H5 ⟨x4.trans x5, hP5⟩ x5.tups ((x5.keep _ _ hz (by simpa using hDp.symm)).trans hz.symm) ⟨t2, ht2, hok2, fun t ht => by
              rw [hu] at ht
              cases ht
              exact ⟨hs2, hd2⟩⟩
        · rintro H4 ys ⟨x4, hP4⟩ hD hys hR
          obtain ⟨us, g1, g2, g3⟩ := tsAt_ex2 hR
          have hul : us.length = ts0.length := by omega
          have hpt := sizes_ptw (us := us) (ts := ts0) hul fun i u t hu ht => (g3 i u hu).2 t ht
          refine ⟨D, ys, us, _, _, _, rfl, x4, hP4.le (by omega), hD, g1, ⟨hL, hwd1, hl8, by omega, by omega, fun t ht => ?_, fun t ht => ?_, by omega⟩⟩
          · obtain ⟨j, hj⟩ := List.mem_iff_getElem?.mp ht
            rw [hul]
            exact (g3 j t hj).1
          · obtain ⟨j, hj⟩ := List.mem_iff_getElem?.mp ht
            have hjl := (List.getElem?_eq_some_iff.mp hj).1
            have hg := List.getElem?_eq_getElem (show j < ts0.length by omega)
            have h1 := ((g3 j t hj).2 _ hg).2
            have h2 := G0.dep _ (List.mem_of_getElem? hg)
            omega
      · rintro σ H11 ⟨tl', xs, ts, s7, s9, s10, rfl, x11, hP11, htl', hts', G⟩
        have hwl11 := x11.keep _ _ hwl10 (by simpa using hwlp)
        refine ⟨_, rfl, _, rfl, _, rfl, small (by show 3 ≤ 100000; omega), fun a na => ?_⟩
        have x12 : Ext [] H11 (upd H11 a (.tup [.str (S L), .ref wl, .ref tl'])) := Ext.refl.fresh na
        exact q _ a wl tl' xs ts L l ws (x06.trans (x610.trans (x11.trans x12.any))) (hP11.ext0 x12) upd_same (x12.keep _ _ hwl11 List.not_mem_nil) (x12.keep _ _ htl' List.not_mem_nil) (x12.dats hts') G hf hlL
end
end K21

set_option Elab.async false
set_option linter.all false
set_option maxRecDepth 100000
set_option maxHeartbeats 4000000
/-! the law -/
namespace K21
open PySem PySem.Spec PyProof.Rows L2
theorem mul2 (l : List Nat) : mulS (S l) 2 = S (l ++ l) := by
  unfold mulS
  show (⟨(l ++ (l ++ [])).toArray⟩ : Str) = _
  rw [List.append_nil]
section
variable {P : Program} {w : World} {K : PySem.W.Frag} {mg : Str → Option Value} {base : Heap} {A0 : Ad} {f : Addr} {fd : FuncData}

abbrev N_law : List Str := ["_law_script", "_law_pen", "_law_turn", "_law_letters", "_law_words", "_law_trees", "_law_searcher", "_law_k", "_law_size", "_law_text", "_law_j"]
theorem sc_law : FnScope N_law ["_law_script"] (defScope s_law) := ⟨rfl, rfl, rfl, by decide +kernel, rfl, by decide +kernel, by decide +kernel⟩
def spLaw (K : PySem.W.Frag) : Sp := fun vs H Q _ => ∃ (a : Addr) (ns : List Int), vs = [.ref a] ∧ SqL K H a (ns.map V.int) ∧ ns.length ≤ 100000 ∧ ∀ H', Q (.bl true) H'
theorem ok_law (T : Tx K mg A0) (D_l_pen_of : Dfn P w K mg base 1 "_law_pen_of" ["_law_script"] (spPenOf K)) (D_l_draw : Dfn P w K mg base 1 "_law_draw" ["_law_pen", "_law_many"] spDraw) (D_l_pick : Dfn P w K mg base 2 "_law_pick" ["_law_pen", "_law_menu"] spPick)
    (D_l_matter_of : Dfn P w K mg base 17 "_law_matter_of" ["_law_pen", "_law_most"] (spMatter A0)) (D_Searcher : Mkr P w K mg base 14 "Searcher" A0.Searcher ["self", "letters", "width", "states"] (spSearcher A0)) (D_l_follows : Dfn P w K mg base 15 "_law_follows" ["_law_searcher", "_law_letters", "_law_width", "_law_trees", "_law_text"] (spFollows A0))
    (F : Fd K "law" "law" s_law f fd) : FnOk P w K mg base CX0 18 f fd ["_law_script"] (spLaw K) := by
  refine fok F sc_law (fun vs H Q E h => ?_) (fun cdv A outer s0 H vs Q E hr h => ?_)
  · obtain ⟨_, _, rfl, _⟩ := h
    rfl
  · obtain ⟨a, ns, rfl, ha, hl, q⟩ := h
    refine ⟨_, (pss_cons (ps_set (i := 1) sc_law.nd rfl (.inr rfl) (pe_d D_l_pen_of (hr.mono (by omega)) (pa_cons (pv 0) pa_nil)))
      (pss_cons (ps_for PassesOwn.never rfl (pi_range1 (by rfl) T.range (pa_cons pe_int pa_nil)) (pg_name (i := 2) sc_law.nd rfl (.inl rfl))
       (pss_cons (ps_asg (pe_d D_l_matter_of (hr.mono (by omega)) (pa_cons (pv 1) (pa_cons pe_int pa_nil))) (pg_tup rfl (pgs_cons (pg_name (i := 3) sc_law.nd rfl (.inr rfl)) (pgs_cons (pg_name (i := 4) sc_law.nd rfl (.inl rfl)) (pgs_cons (pg_name (i := 5) sc_law.nd rfl (.inl rfl)) pgs_nil)))))
        (pss_cons (ps_set (i := 6) sc_law.nd rfl (.inl rfl) (pe_mkD D_Searcher (hr.mono (by omega)) (pa_cons (pv 3) (pa_cons (pe_callB call_len_str (by rfl) T.len PySem.boot_len (pa_cons (pe_ix ix_list (pv 4) pe_int (fun _ _ => rfl)) pa_nil)) (pa_cons (pv 5) pa_nil)))))
        (pss_one (ps_for PassesOwn.never rfl (pi_range1 (by rfl) T.range (pa_cons pe_int pa_nil)) (pg_name (i := 7) sc_law.nd rfl (.inl rfl))
         (pss_cons (ps_set (i := 8) sc_law.nd rfl (.inl rfl) (pe_d D_l_pick (hr.mono (by omega)) (pa_cons (pv 1) (pa_cons (pe_lst (pa_cons (pe_d D_l_draw (hr.mono (by omega)) (pa_cons (pv 1) (pa_cons pe_int pa_nil))) (pa_cons (pe_d D_l_draw (hr.mono (by omega)) (pa_cons (pv 1) (pa_cons pe_int pa_nil))) pa_nil))) pa_nil))))
          (pss_cons (ps_set (i := 9) sc_law.nd rfl (.inl rfl) (pe_join pe_str (pe_lc (own := [("_law_j", 10)]) (g := gName 10) (tt := tYes) rfl sc_law.nd (pi_range1 (by rfl) T.range (pa_cons (pv 8) pa_nil)) (blkOk_by (N := N_law) (sc := defScope s_law) (by decide +kernel)) (fun _ _ _ _ _ => (pg_name (i := 10) sc_law.nd rfl (.inl rfl))) (fun _ _ _ _ _ => pts_nil) (fun _ _ _ _ _ => (pe_d D_l_pick (hr.mono (by omega)) (pa_cons (pv 1) (pa_cons (pv 3) pa_nil)))))))
          (C8.pss_cut (ps_if (pt_cmpR op_eq (pe_d D_l_draw (hr.mono (by omega)) (pa_cons (pv 1) (pa_cons pe_int pa_nil))) pe_int (nomark _))
           (pss_one (ps_set (i := 9) sc_law.nd rfl (.inl rfl) (pe_op op_add_str (pv 9) (pe_op op_mulS (pe_ix ix_list (pv 4) pe_int (fun _ _ => rfl)) pe_int))))
           pss_nil)
          (pss_one (ps_if (pt_not (pt_val (pe_d D_l_follows (hr.mono (by omega)) (pa_cons (pv 6) (pa_cons (pv 3) (pa_cons (pe_callB call_len_str (by rfl) T.len PySem.boot_len (pa_cons (pe_ix ix_list (pv 4) pe_int (fun _ _ => rfl)) pa_nil)) (pa_cons (pv 5) (pa_cons (pv 9) pa_nil))))))))
           (pss_one (ps_ret pe_bl))
           pss_nil))))))))))
      (pss_one (ps_ret pe_bl)))), ?_⟩
    refine ⟨_, rfl, a, ns, rfl, ha, hl, fun H1 p c x1 hP1 => ?_⟩
    have hbig : (2 : Nat) ^ 59 = 576460752303423488 := by decide
    refine ⟨3, rfl, by omega, by omega, ?_⟩
    refine for_range (fun i σ H' => ∃ s2 s3 s4 s5 s6 s7 s8 s9 : Option V, σ = [some (.ref a), some (.ref p), s2, s3, s4, s5, s6, s7, s8, s9, none] ∧ Pen H' p c (1000000 - i * 30000)) ⟨_, _, _, _, _, _, _, _, rfl, hP1.le (by rw [hbig]; omega)⟩ ?_ ?_
    · rintro i σ H2 hi ⟨s2, s3, s4, s5, s6, s7, s8, s9, rfl, hP2⟩
      have hi3 : i < 3 := hi
      refine ⟨_, rfl, p, c, 1000000 - i * 30000 - 20000, rfl, hP2.le (by omega), fun H3 ma wl tl xs ts L l ws x3 hP3 hma hwl htl hts G hf hlL => ?_⟩
      refine ⟨ma, _, rfl, SqT.of hma, rfl, _, _, rfl, _, _, rfl, _, _, rfl, rfl, ?_⟩
      have hl8 := G.w8
      refine ⟨_, rfl, _, rfl, wl, _, _, .str (S l), rfl, rfl, SqL.of hwl, tup_at (j := 0) rfl, S l, rfl, small (by show l.length ≤ _; omega), _, rfl, fun x dx nx nd hne => ?_⟩
      have hx0 : ∀ b o, H3 b = some o → (upd (upd H3 dx (.own x)) x (.ins A0.Searcher dx [])) b = some o := fun b o h => by rw [upd_ne (ne_of_none h nx), upd_ne (ne_of_none h nd)]; exact h
      refine ⟨x, tl, dx, L, l.length, ts, xs, rfl, upd_same, hx0 _ _ htl, DAts.ext (fun b ys h => hx0 _ _ h) _ _ hts, G, fun H4 x4 hS => ⟨rfl, ?_⟩⟩
      have x34 : Ext [] H3 H4 := made_ext nx nd x4
      have hP4 := hP3.ext0 x34
      have hwl4 := x34.keep _ _ hwl List.not_mem_nil
      have htl4 := x34.keep _ _ htl List.not_mem_nil
      have hts4 := x34.dats hts
      have hnp : ∀ {b : Addr} {ys : List V}, H4 b = some (.lst ys) → b ≠ p := fun {b ys} h => by
        obtain ⟨_, _, _, hp, _⟩ := hP4
        exact ne_of h hp (fun z => nomatch z)
      have hwlp := hnp hwl4
      have htlp := hnp htl4
      have hxp : x ≠ p := by
        obtain ⟨_, _, _, hp, _⟩ := hP4
        obtain ⟨_, _, _, _, hA, _⟩ := hS
        exact ne_of hA hp (fun z => nomatch z)
      refine ⟨4, rfl, by omega, by omega, ?_⟩
      refine for_range (fun k σ H' => ∃ s7 s8 s9 : Option V, σ = [some (.ref a), some (.ref p), some (.int ((0 : Int) + (i : Int))), some (.str (S L)), some (.ref wl), some (.ref tl), some (.ref x), s7, s8, s9, none] ∧ Ext [p] H4 H' ∧ Pen H' p c (1000000 - i * 30000 - 20000 - k * 100)) ⟨_, _, _, rfl, Ext.refl, hP4.le (by omega)⟩ ?_ ?_
      · rintro k σ H5 hk ⟨s7, s8, s9, rfl, x5, hP5⟩
        have hk4 : k < 4 := hk
        generalize hB : 1000000 - i * 30000 - 20000 - k * 100 = B at hP5
        have hB2 : 1000000 - i * 30000 - 20000 - (k + 1) * 100 = B - 100 := by omega
        have hB1 : 100 ≤ B := by omega
        rw [hB2]
        -- size
        refine ⟨_, rfl, _, rfl, p, c, B - 1, 9, rfl, hP5.le (by omega), by decide, by decide, fun H6 r1 x6 hP6 hr1 => ?_⟩
        refine ⟨_, rfl, p, c, B - 2, 41, rfl, hP6.le (by omega), by decide, by decide, fun H7 r2 x7 hP7 hr2 => ?_⟩
        refine ⟨small (by show 2 ≤ 100000; omega), fun ml nml => ?_⟩
        have x8 : Ext [] H7 (upd H7 ml (.lst [.int r1, .int r2])) := Ext.refl.fresh nml
        refine ⟨p, c, B - 3, _, rfl, (hP7.ext0 x8).le (by omega), .inr ⟨ml, _, rfl, upd_same, by show 1 ≤ 2; omega, by show 2 ≤ 1000; omega, fun H9 r v x9 hP9 hv => ?_⟩⟩
        have hv' : ∃ m : Nat, v = .int m ∧ m ≤ 40 := by
          have hm := List.mem_of_getElem? hv
          rcases List.mem_cons.mp hm with h | hm
          · exact ⟨r1, h, by omega⟩
          · exact ⟨r2, List.mem_singleton.mp hm, by omega⟩
        obtain ⟨m, rfl, hm40⟩ := hv'
        have x59 : Ext [p] H5 H9 := (x6.trans x7).trans (x8.any.trans x9)
        -- text
        refine ⟨⟨_, rfl⟩, _, rfl, _, rfl, by omega, by omega, fun D nD => ?_⟩
        have em : ((m : Int)).toNat = m := Int.toNat_natCast m
        rw [em]
        have hDp := hP9.neP nD
        have hDc := hP9.neC nD
        have hLl := G.ltr.lo
        have hLh := G.ltr.hi
        refine lc_rel walk_range (fun i H' => Ext [p] H9 H' ∧ Pen H' p c (B - 50 + (m - i))) (fun _ _ y => ∃ ch ∈ L, y = V.str (S [ch])) (by omega) ⟨Ext.refl.new nD, (hP9.le (by omega)).new (H0 := H) hDp hDc⟩ (fun _ _ _ _ => trivial) (fun _ _ _ _ _ h => h) (fun i H' o h => ⟨h.1.new nD, h.2.new (H0 := H) hDp hDc⟩) ?_ ?_
        · rintro j y _ H10 Nx hj ⟨x10, hP10⟩ ⟨zs, hz⟩ ⟨rfl, rfl⟩ nx'
          have hPn := hP10.le (m := B - 50 + (m - (j + 1)) + 1) (by omega)
          refine ⟨rfl, _, rfl, _, rfl, p, c, _, _, rfl, hPn, .inl ⟨L, rfl, by omega, by omega, fun H11 ch x11 hP11 hc => ?_⟩⟩
          exact nx' _ _ ⟨x10.trans x11, hP11⟩ x11.tups ((x11.keep _ _ hz (by simpa using hDp.symm)).trans hz.symm) ⟨ch, hc, rfl⟩
        · rintro H10 ys ⟨x10, hP10⟩ hD hys hR
          obtain ⟨tx, h1, h2, h3⟩ := strs_S hR
          refine ⟨_, D, tx.map fun x => S [x], rfl, rfl, .inl (h3 ▸ SqL.of hD), ?_, ?_⟩
          · rw [sum_ones, List.length_map]
            show tx.length + tx.length * 0 ≤ _
            omega
          rw [join_S]
          have htx : tx.length ≤ 40 := by omega
          have x410 : Ext [p] H4 H10 := x5.trans (x59.trans x10)
          refine ⟨fun σ H' => ∃ ty : List Nat, σ = [some (.ref a), some (.ref p), some (.int ((0 : Int) + (i : Int))), some (.str (S L)), some (.ref wl), some (.ref tl), some (.ref x), some (.int ((0 : Int) + (k : Int))), some (.int m), some (.str (S ty)), none] ∧ Ext [p] H4 H' ∧ Pen H' p c (B - 100) ∧ ty.length ≤ 100 ∧ ∀ c ∈ ty, c ∈ L, ?_, ?_⟩
          · refine ⟨_, rfl, p, c, B - 60, 2, rfl, hP10.le (by omega), by decide, by decide, fun H11 r3 x11 hP11 hr3 => ⟨rfl, _, rfl, iteD2 (fun _ => ?_) (fun _ => ⟨tx, rfl, x410.trans x11, hP11.le (by omega), by omega, h2⟩)⟩⟩
            have hwl11 := (x410.trans x11).keep _ _ hwl4 (by simpa using hwlp)
            refine ⟨_, rfl, _, rfl, wl, _, _, .str (S l), rfl, rfl, SqL.of hwl11, tup_at (j := 0) rfl, S l, 2, rfl, rfl, by decide, by decide, (by show l.length ≤ 1000; omega), ?_⟩
            have e2 : mulS (S l) (2 : Int).toNat = S (l ++ l) := mul2 l
            rw [e2]
            refine ⟨_, _, rfl, rfl, small (by show tx.length + (l ++ l).length ≤ _; rw [List.length_append]; omega), ?_⟩
            rw [S_append]
            refine ⟨tx ++ (l ++ l), rfl, x410.trans x11, hP11.le (by omega), by rw [List.length_append, List.length_append]; omega, fun c hc => ?_⟩
            rcases List.mem_append.mp hc with h | h
            · exact h2 c h
            · rcases List.mem_append.mp h with h | h
              · exact hlL c h
              · exact hlL c h
          · rintro σ H12 ⟨ty, rfl, x12, hP12, hty, htyL⟩
            have hwl12 := x12.keep _ _ hwl4 (by simpa using hwlp)
            refine ⟨_, rfl, _, rfl, _, rfl, wl, _, _, .str (S l), rfl, rfl, SqL.of hwl12, tup_at (j := 0) rfl, S l, rfl, small (by show l.length ≤ _; omega), _, rfl, _, rfl, x, tl, L, ty, l.length, ts, xs, rfl, hS.ext x12 (by simpa using hxp), x12.keep _ _ htl4 (by simpa using htlp), x12.dats hts4, G, htyL, by omega, fun H13 x13 => ⟨true, rfl, iteF ?_⟩⟩
            exact ⟨_, _, _, rfl, x12.trans x13.any, hP12.ext0 x13⟩
      · rintro σ H5 ⟨s7, s8, s9, rfl, x5, hP5⟩
        have e4 : (4 : Int).toNat = 4 := rfl
        rw [e4] at hP5
        exact ⟨_, _, _, _, _, _, _, _, rfl, hP5.le (by omega)⟩
    · rintro σ H2 ⟨s2, s3, s4, s5, s6, s7, s8, s9, rfl, hP2⟩
      exact q _
end
end K21

set_option Elab.async false
set_option linter.all false
set_option maxRecDepth 100000
set_option maxHeartbeats 4000000
/-! the facts, the theorem -/
namespace K21
open PySem PySem.Spec PyProof.Rows L2
theorem ba' {a b : Bool} (h : (a && b) = true) : a = true ∧ b = true := Bool.and_eq_true_iff.mp h
theorem eqO' {x y : Option (Option Value)} (h : He.eqO x y = true) : x = y := He.eqO_ok h
section
variable {P : Program} {w : World} {K : PySem.W.Frag} {h : Heap} {mg : Str → Option Value} {base : Heap}
def ad (K : PySem.W.Frag) : Ad := ⟨He.ga K "Turn", He.ga K "Searcher", He.ga K "Knower", He.ga K "WindowTurn", He.ga K "Trace", He.ga K "FROM_LEFT", He.ga K "BY_ONE_STATE", He.ga K "FROM_RIGHT"⟩
theorem mint (X : K.In h) (G : h.Ns mainGlobals mg) {x : Str} {i : Int} (c : (He.Fa.int x i).ok K = true) : ∃ u, mg x = some u ∧ RelV (.int i) u := by
  obtain ⟨t, e⟩ := He.int_ok X G c
  exact ⟨_, e, t, rfl⟩
theorem mstr (X : K.In h) (G : h.Ns mainGlobals mg) {x z : Str} (c : (He.Fa.str x z).ok K = true) : ∃ u, mg x = some u ∧ RelV (.str z) u := by
  obtain ⟨t, e⟩ := He.str_ok X G c
  exact ⟨_, e, t, rfl⟩
theorem tx (X : K.In h) (G : h.Ns mainGlobals mg) (c : Says K) : Tx K mg (ad K) := by
  have e := c.e
  obtain ⟨e2, _⟩ := ba' (show ((He.tupB K "FROM_LEFT" [.str "borders", .str "strict borders", .str "by letters"] && He.tupB K "BY_ONE_STATE" [.str "plain", .str "last letter", .str "letter behind"] && He.tupB K "FROM_RIGHT" [.str "bad letter", .str "good end", .str "both", .str "both and known"]) && cutB K) = true from e)
  obtain ⟨e3, tC⟩ := ba' e2
  obtain ⟨tA, tB⟩ := ba' e3
  exact {
    isinstance := He.free_ok X G (c.d.fact 46 (f := .free "isinstance") rfl),
    len := He.free_ok X G (c.d.fact 47 (f := .free "len") rfl),
    set := He.free_ok X G (c.d.fact 48 (f := .free "set") rfl),
    all := He.free_ok X G (c.d.fact 49 (f := .free "all") rfl),
    any := He.free_ok X G (c.d.fact 50 (f := .free "any") rfl),
    enumerate := He.free_ok X G (c.d.fact 51 (f := .free "enumerate") rfl),
    zip := He.free_ok X G (c.d.fact 52 (f := .free "zip") rfl),
    min := He.free_ok X G (c.d.fact 53 (f := .free "min") rfl),
    max := He.free_ok X G (c.d.fact 54 (f := .free "max") rfl),
    range := He.free_ok X G (c.d.fact 55 (f := .free "range") rfl),
    list := He.free_ok X G (c.d.fact 56 (f := .free "list") rfl),
    tuple := He.free_ok X G (c.d.fact 57 (f := .free "tuple") rfl),
    sum := He.free_ok X G (c.d.fact 58 (f := .free "sum") rfl),
    int := He.free_ok X G (c.d.fact 59 (f := .free "int") rfl),
    abs := He.free_ok X G (c.d.fact 60 (f := .free "abs") rfl),
    str := He.free_ok X G (c.d.fact 61 (f := .free "str") rfl),
    bool := He.free_ok X G (c.d.fact 62 (f := .free "bool") rfl),
    mMOST_WIDTH := mint X G (c.d.fact 63 (f := .int "MOST_WIDTH" 8) rfl),
    mMOST_WORDS := mint X G (c.d.fact 64 (f := .int "MOST_WORDS" 3) rfl),
    mMOST_STATES := mint X G (c.d.fact 65 (f := .int "MOST_STATES" 64) rfl),
    mMOST_LEVELS := mint X G (c.d.fact 66 (f := .int "MOST_LEVELS" 40) rfl),
    mMOST_NODES := mint X G (c.d.fact 67 (f := .int "MOST_NODES" 3000) rfl),
    mMOST_TOLD := mint X G (c.d.fact 68 (f := .int "MOST_TOLD" 3) rfl),
    mMOST_LETTERS := mint X G (c.d.fact 69 (f := .int "MOST_LETTERS" 5000) rfl),
    mSMALL := mstr X G (c.d.fact 70 (f := .str "SMALL" "abcdefghijklmnopqrstuvwxyz") rfl),
    mALL_KNOWN := mstr X G (c.d.fact 71 (f := .str "ALL_KNOWN" "all knowledge") rfl),
    clTurn := He.cls_ok (c.d.fact 72 (f := .cls "Turn") rfl),
    nTurn_reads := He.noat_ok (c.d.fact 74 (f := .noat "Turn" "reads") rfl),
    nTurn_tells := He.noat_ok (c.d.fact 75 (f := .noat "Turn" "tells") rfl),
    nTurn_known := He.noat_ok (c.d.fact 76 (f := .noat "Turn" "known") rfl),
    nTurn_slide := He.noat_ok (c.d.fact 77 (f := .noat "Turn" "slide") rfl),
    nTurn_after := He.noat_ok (c.d.fact 78 (f := .noat "Turn" "after") rfl),
    clSearcher := He.cls_ok (c.d.fact 79 (f := .cls "Searcher") rfl),
    nSearcher_letters := He.noat_ok (c.d.fact 81 (f := .noat "Searcher" "letters") rfl),
    nSearcher_width := He.noat_ok (c.d.fact 82 (f := .noat "Searcher" "width") rfl),
    nSearcher_states := He.noat_ok (c.d.fact 83 (f := .noat "Searcher" "states") rfl),
    nSearcher_nodes := He.noat_ok (c.d.fact 84 (f := .noat "Searcher" "nodes") rfl),
    clKnower := He.cls_ok (c.d.fact 85 (f := .cls "Knower") rfl),
    nKnower_letters := He.noat_ok (c.d.fact 87 (f := .noat "Knower" "letters") rfl),
    nKnower_word := He.noat_ok (c.d.fact 88 (f := .noat "Knower" "word") rfl),
    nKnower_knowns := He.noat_ok (c.d.fact 89 (f := .noat "Knower" "knowns") rfl),
    clWindowTurn := He.cls_ok (c.d.fact 93 (f := .cls "WindowTurn") rfl),
    nWindowTurn_reads := He.noat_ok (c.d.fact 95 (f := .noat "WindowTurn" "reads") rfl),
    nWindowTurn_numbers := He.noat_ok (c.d.fact 96 (f := .noat "WindowTurn" "numbers") rfl),
    nWindowTurn_slide := He.noat_ok (c.d.fact 97 (f := .noat "WindowTurn" "slide") rfl),
    nWindowTurn_state := He.noat_ok (c.d.fact 98 (f := .noat "WindowTurn" "state") rfl),
    clTrace := He.cls_ok (c.d.fact 100 (f := .cls "Trace") rfl),
    nTrace_windows := He.noat_ok (c.d.fact 102 (f := .noat "Trace" "windows") rfl),
    nTrace_told := He.noat_ok (c.d.fact 103 (f := .noat "Trace" "told") rfl),
    nTrace_cost := He.noat_ok (c.d.fact 104 (f := .noat "Trace" "cost") rfl),
    mFROM_LEFT := (He.glo_ok X G (c.d.fact 16 (f := .glo "FROM_LEFT") rfl)),
    tFROM_LEFT := fun H => He.tupB_ok tA H,
    mBY_ONE_STATE := (He.glo_ok X G (c.d.fact 17 (f := .glo "BY_ONE_STATE") rfl)),
    tBY_ONE_STATE := fun H => He.tupB_ok tB H,
    mFROM_RIGHT := (He.glo_ok X G (c.d.fact 18 (f := .glo "FROM_RIGHT") rfl)),
    tFROM_RIGHT := fun H => He.tupB_ok tC H }
theorem is_cut_fd (c : Says K) : ∃ fd, Fd K "is_cut" "Turn.is_cut" s_Turn_is_cut (gC K) fd ∧ PropOf K (He.ga K "Turn") "is_cut" (pC K) (gC K) := by
  have e := c.e
  obtain ⟨_, hc⟩ := ba' (show ((He.tupB K "FROM_LEFT" [.str "borders", .str "strict borders", .str "by letters"] && He.tupB K "BY_ONE_STATE" [.str "plain", .str "last letter", .str "letter behind"] && He.tupB K "FROM_RIGHT" [.str "bad letter", .str "good end", .str "both", .str "both and known"]) && cutB K) = true from e)
  unfold cutB at hc
  obtain ⟨h1, hc⟩ := ba' hc
  obtain ⟨h2, hc⟩ := ba' hc
  obtain ⟨h3, hc⟩ := ba' hc
  obtain ⟨h4, hc⟩ := ba' hc
  obtain ⟨h5, c2⟩ := ba' hc
  have hrec : ∃ rest, PySem.W.recIn K (pC K) "property" = some (.ref (gC K) :: rest) := by
    unfold gC
    split at h4
    · rename_i g rest q
      rw [q]
      exact ⟨rest, rfl⟩
    · cases h4
  have hg := c.g
  unfold fnAt at hg
  refine (?_ : ∃ fd, Fd K "is_cut" "Turn.is_cut" s_Turn_is_cut (gC K) fd) |>.elim fun fd F => ⟨fd, F, ⟨eqO' h1, eqO' h2, of_decide_eq_true h3, hrec⟩⟩
  cases q : K.lookup (gC K) with
  | none =>
    rw [q] at c2
    cases c2
  | some o =>
    obtain ⟨oc, od, dt, osl⟩ := o
    rw [q] at c2 hg
    cases dt with
    | func fd =>
      obtain ⟨n1, n2, n3, n4, n5, n6, n7, n8, n9, n10, n11, n12, n13, n14, n15⟩ := fd
      have e2 : (some (n1, n2, n3, n4, n5, n6, n7, n15) : He.FnW) = gval := hg
      unfold gval at e2
      simp only [Option.some.injEq, Prod.mk.injEq] at e2
      obtain ⟨h1, h2, h3, h4, h5, h6, h7, h8⟩ := e2
      subst h1 h2 h3 h4 h5 h6 h7 h8
      obtain ⟨k1, k2⟩ := ba' (show (PySem.W.codeIn K n13 "Turn.is_cut" && (He.dflB K n8 [] && He.kwdB K n9 [])) = true from c2)
      obtain ⟨k3, k4⟩ := ba' k2
      exact ⟨_, ⟨oc, od, n8, n9, n10, n11, n12, n13, n14, osl, rfl, q, k1, He.dflB_ok k3, He.kwdB_ok k4⟩, h5⟩
    | _ => cases c2
theorem law_ok (X : K.In h) (G : h.Ns mainGlobals mg) (c : Says K) : ∃ fd : FuncData, (∀ (s : Shared) (v : Value), BindsTo s fd ⟨[v], []⟩ [("_law_script", v)]) ∧ ∀ base : Heap, FnOk P w K mg base CX0 18 (He.ga K "law") fd ["_law_script"] (spLaw K) := by
  have T := tx X G c
  obtain ⟨fd0, F0⟩ := c.d.def_ 46 (d := d_law) rfl
  refine ⟨fd0, fun s v => (F0.bindsA (ps := ["_law_script"]) fun _ _ _ _ _ _ us hl => match us, hl with | [_], _ => rfl) s [v] rfl, fun base => ?_⟩
  have D_slid : Dfn P w K mg base (1) "slid" ["known", "by"] spSlid := by
    obtain ⟨fd, F⟩ := c.d.def_ 5 (d := d_slid) rfl
    exact ⟨_, fd, ok_slid T  F, (He.glo_ok X G (c.d.fact 5 (f := .glo "slid") rfl)), F.kp, F.bindsN fun _ _ _ _ _ _ us hl => match us, hl with | [_, _], _ => rfl⟩
  have D_put_in : Dfn P w K mg base (1) "put_in" ["known", "place", "letter"] spPutIn := by
    obtain ⟨fd, F⟩ := c.d.def_ 7 (d := d_put_in) rfl
    exact ⟨_, fd, ok_put_in T  F, (He.glo_ok X G (c.d.fact 7 (f := .glo "put_in") rfl)), F.kp, F.bindsN fun _ _ _ _ _ _ us hl => match us, hl with | [_, _, _], _ => rfl⟩
  have D_is_word : Dfn P w K mg base (1) "is_word" ["letters", "value"] spIsWord := by
    obtain ⟨fd, F⟩ := c.d.def_ 1 (d := d_is_word) rfl
    exact ⟨_, fd, ok_is_word T  F, (He.glo_ok X G (c.d.fact 1 (f := .glo "is_word") rfl)), F.kp, F.bindsN fun _ _ _ _ _ _ us hl => match us, hl with | [_, _], _ => rfl⟩
  have D_fits : Dfn P w K mg base (1) "fits" ["known", "word", "offset"] spFits := by
    obtain ⟨fd, F⟩ := c.d.def_ 4 (d := d_fits) rfl
    exact ⟨_, fd, ok_fits T  F, (He.glo_ok X G (c.d.fact 4 (f := .glo "fits") rfl)), F.kp, F.bindsN fun _ _ _ _ _ _ us hl => match us, hl with | [_, _, _], _ => rfl⟩
  have D_check_text : Dfn P w K mg base (1) "check_text" ["letters", "text"] spCheckText := by
    obtain ⟨fd, F⟩ := c.d.def_ 3 (d := d_check_text) rfl
    exact ⟨_, fd, ok_check_text T  F, (He.glo_ok X G (c.d.fact 3 (f := .glo "check_text") rfl)), F.kp, F.bindsN fun _ _ _ _ _ _ us hl => match us, hl with | [_, _], _ => rfl⟩
  have D_check_letters : Dfn P w K mg base (1) "check_letters" ["letters"] spCheckLetters := by
    obtain ⟨fd, F⟩ := c.d.def_ 0 (d := d_check_letters) rfl
    exact ⟨_, fd, ok_check_letters T  F, (He.glo_ok X G (c.d.fact 0 (f := .glo "check_letters") rfl)), F.kp, F.bindsN fun _ _ _ _ _ _ us hl => match us, hl with | [_], _ => rfl⟩
  have D_check_words : Dfn P w K mg base (2) "check_words" ["letters", "words"] spCheckWords := by
    obtain ⟨fd, F⟩ := c.d.def_ 2 (d := d_check_words) rfl
    exact ⟨_, fd, ok_check_words T D_check_letters D_is_word F, (He.glo_ok X G (c.d.fact 2 (f := .glo "check_words") rfl)), F.kp, F.bindsN fun _ _ _ _ _ _ us hl => match us, hl with | [_, _], _ => rfl⟩
  have D_is_number : Dfn P w K mg base (1) "is_number" ["value", "least", "most"] spIsNumber := by
    obtain ⟨fd, F⟩ := c.d.def_ 10 (d := d_is_number) rfl
    exact ⟨_, fd, ok_is_number T  F, (He.glo_ok X G (c.d.fact 10 (f := .glo "is_number") rfl)), F.kp, F.bindsN fun _ _ _ _ _ _ us hl => match us, hl with | [_, _, _], _ => rfl⟩
  have D_is_head : Dfn P w K mg base (2) "is_head" ["tree", "letters", "width", "states"] spIsHead := by
    obtain ⟨fd, F⟩ := c.d.def_ 11 (d := d_is_head) rfl
    exact ⟨_, fd, ok_is_head T D_is_number F, (He.glo_ok X G (c.d.fact 11 (f := .glo "is_head") rfl)), F.kp, F.bindsN fun _ _ _ _ _ _ us hl => match us, hl with | [_, _, _, _], _ => rfl⟩
  have D_within : Dfn P w K mg base (1) "within" ["tree"] spWithin := by
    obtain ⟨fd, F⟩ := c.d.def_ 12 (d := d_within) rfl
    exact ⟨_, fd, ok_within T  F, (He.glo_ok X G (c.d.fact 12 (f := .glo "within") rfl)), F.kp, F.bindsN fun _ _ _ _ _ _ us hl => match us, hl with | [_], _ => rfl⟩
  have D_checked : Dfn P w K mg base (13) "checked" ["tree", "letters", "width", "states", "level", "number"] (spChecked 10) := by
    obtain ⟨fd, F⟩ := c.d.def_ 13 (d := d_checked) rfl
    exact ⟨_, fd, ok_checked T D_is_head D_within F (He.glo_ok X G (c.d.fact 13 (f := .glo "checked") rfl)) F.kp (F.bindsN fun _ _ _ _ _ _ us hl => match us, hl with | [_, _, _, _, _, _], _ => rfl) 10, (He.glo_ok X G (c.d.fact 13 (f := .glo "checked") rfl)), F.kp, F.bindsN fun _ _ _ _ _ _ us hl => match us, hl with | [_, _, _, _, _, _], _ => rfl⟩
  have D_kept : Dfn P w K mg base (11) "kept" ["tree"] (spKept 10) := by
    obtain ⟨fd, F⟩ := c.d.def_ 14 (d := d_kept) rfl
    exact ⟨_, fd, ok_kept T  F (He.glo_ok X G (c.d.fact 14 (f := .glo "kept") rfl)) F.kp (F.bindsN fun _ _ _ _ _ _ us hl => match us, hl with | [_], _ => rfl) 10, (He.glo_ok X G (c.d.fact 14 (f := .glo "kept") rfl)), F.kp, F.bindsN fun _ _ _ _ _ _ us hl => match us, hl with | [_], _ => rfl⟩
  have D_Searcher : Mkr P w K mg base (14) "Searcher" (ad K).Searcher ["self", "letters", "width", "states"] (spSearcher (ad K)) := by
    obtain ⟨fd, F⟩ := c.d.def_ 15 (d := d_Searcher_init) rfl
    exact ⟨_, fd, He.mkr_ok (c.d.fact 80 (f := .mkr "Searcher") rfl), ok_Searcher T D_check_letters D_is_number D_checked D_kept F, (He.glo_ok X G (c.d.fact 15 (f := .glo "Searcher") rfl)), F.bindsN fun _ _ _ _ _ _ us hl => match us, hl with | [_, _, _, _], _ => rfl⟩
  have D_Turn : Mkr P w K mg base (1) "Turn" (ad K).Turn ["self", "reads", "tells", "known", "slide", "after"] (spTurn (ad K)) := by
    obtain ⟨fd, F⟩ := c.d.def_ 6 (d := d_Turn_init) rfl
    exact ⟨_, fd, He.mkr_ok (c.d.fact 73 (f := .mkr "Turn") rfl), ok_Turn T  F, (He.glo_ok X G (c.d.fact 6 (f := .glo "Turn") rfl)), F.bindsN fun _ _ _ _ _ _ us hl => match us, hl with | [_, _, _, _, _, _], _ => rfl⟩
  have D_is_cut : Prp P w K mg base 1 (ad K).Turn "is_cut" ["self"] (spCut (ad K)) := by
    obtain ⟨fd, F, M⟩ := is_cut_fd c
    exact ⟨_, _, fd, M, ok_cut T F, F.bindsN fun _ _ _ _ _ _ us hl => match us, hl with | [_], _ => rfl⟩
  have D_go_through : Dfn P w K mg base (13) "go_through" ["searcher", "tree", "past", "found"] (spGo (ad K) 10) := by
    obtain ⟨fd, F⟩ := c.d.def_ 8 (d := d_go_through) rfl
    exact ⟨_, fd, ok_go_through T D_Turn D_slid D_put_in F (He.glo_ok X G (c.d.fact 8 (f := .glo "go_through") rfl)) F.kp (F.bindsN fun _ _ _ _ _ _ us hl => match us, hl with | [_, _, _, _], _ => rfl) 10, (He.glo_ok X G (c.d.fact 8 (f := .glo "go_through") rfl)), F.kp, F.bindsN fun _ _ _ _ _ _ us hl => match us, hl with | [_, _, _, _], _ => rfl⟩
  have D_turns : Dfn P w K mg base (14) "turns" ["searcher", "standing"] (spTurns (ad K)) := by
    obtain ⟨fd, F⟩ := c.d.def_ 9 (d := d_turns) rfl
    exact ⟨_, fd, ok_turns T D_go_through F, (He.glo_ok X G (c.d.fact 9 (f := .glo "turns") rfl)), F.kp, F.bindsN fun _ _ _ _ _ _ us hl => match us, hl with | [_, _], _ => rfl⟩
  have M_does : Mtd P w K mg base (1) (ad K).WindowTurn "does" ["self", "searcher", "tree", "view"] (spDoes (ad K)) := by
    obtain ⟨fd, F⟩ := c.d.def_ 32 (d := d_WindowTurn_does) rfl
    exact ⟨_, fd, He.meth_ok (c.d.fact 99 (f := .meth "WindowTurn" "does") rfl), ok_does T  F, F.bindsN fun _ _ _ _ _ _ us hl => match us, hl with | [_, _, _, _], _ => rfl⟩
  have D_WindowTurn : Mkr P w K mg base (2) "WindowTurn" (ad K).WindowTurn ["self", "searcher", "state", "view"] (spWin (ad K)) := by
    obtain ⟨fd, F⟩ := c.d.def_ 31 (d := d_WindowTurn_init) rfl
    exact ⟨_, fd, He.mkr_ok (c.d.fact 94 (f := .mkr "WindowTurn") rfl), ok_Win T M_does F, (He.glo_ok X G (c.d.fact 31 (f := .glo "WindowTurn") rfl)), F.bindsN fun _ _ _ _ _ _ us hl => match us, hl with | [_, _, _, _], _ => rfl⟩
  have D_Trace : Mkr P w K mg base (1) "Trace" (ad K).Trace ["self", "windows", "told"] (spTraceI (ad K)) := by
    obtain ⟨fd, F⟩ := c.d.def_ 33 (d := d_Trace_init) rfl
    exact ⟨_, fd, He.mkr_ok (c.d.fact 101 (f := .mkr "Trace") rfl), ok_TraceI T  F, (He.glo_ok X G (c.d.fact 32 (f := .glo "Trace") rfl)), F.bindsN fun _ _ _ _ _ _ us hl => match us, hl with | [_, _, _], _ => rfl⟩
  have D_trace : Dfn P w K mg base (4) "trace" ["searcher", "text"] (spTrace (ad K)) := by
    obtain ⟨fd, F⟩ := c.d.def_ 34 (d := d_trace) rfl
    exact ⟨_, fd, ok_trace T D_check_text D_WindowTurn D_Trace F, (He.glo_ok X G (c.d.fact 33 (f := .glo "trace") rfl)), F.kp, F.bindsN fun _ _ _ _ _ _ us hl => match us, hl with | [_, _], _ => rfl⟩
  have D_l_search : Dfn P w K mg base (1) "_law_search" ["_law_letters", "_law_width", "_law_trees", "_law_text"] spSearch := by
    obtain ⟨fd, F⟩ := c.d.def_ 44 (d := d_l_search) rfl
    exact ⟨_, fd, ok_search T  F, (He.glo_ok X G (c.d.fact 43 (f := .glo "_law_search") rfl)), F.kp, F.bindsN fun _ _ _ _ _ _ us hl => match us, hl with | [_, _, _, _], _ => rfl⟩
  have D_l_follows : Dfn P w K mg base (15) "_law_follows" ["_law_searcher", "_law_letters", "_law_width", "_law_trees", "_law_text"] (spFollows (ad K)) := by
    obtain ⟨fd, F⟩ := c.d.def_ 45 (d := d_l_follows) rfl
    exact ⟨_, fd, ok_follows T D_l_search D_trace D_turns D_is_cut F, (He.glo_ok X G (c.d.fact 44 (f := .glo "_law_follows") rfl)), F.kp, F.bindsN fun _ _ _ _ _ _ us hl => match us, hl with | [_, _, _, _, _], _ => rfl⟩
  have D_l_pen_of : Dfn P w K mg base (1) "_law_pen_of" ["_law_script"] (spPenOf K) := by
    obtain ⟨fd, F⟩ := c.d.def_ 35 (d := d_l_pen_of) rfl
    exact ⟨_, fd, ok_pen_of T  F, (He.glo_ok X G (c.d.fact 34 (f := .glo "_law_pen_of") rfl)), F.kp, F.bindsN fun _ _ _ _ _ _ us hl => match us, hl with | [_], _ => rfl⟩
  have D_l_draw : Dfn P w K mg base (1) "_law_draw" ["_law_pen", "_law_many"] spDraw := by
    obtain ⟨fd, F⟩ := c.d.def_ 36 (d := d_l_draw) rfl
    exact ⟨_, fd, ok_draw T  F, (He.glo_ok X G (c.d.fact 35 (f := .glo "_law_draw") rfl)), F.kp, F.bindsN fun _ _ _ _ _ _ us hl => match us, hl with | [_, _], _ => rfl⟩
  have D_l_pick : Dfn P w K mg base (2) "_law_pick" ["_law_pen", "_law_menu"] spPick := by
    obtain ⟨fd, F⟩ := c.d.def_ 37 (d := d_l_pick) rfl
    exact ⟨_, fd, ok_pick T D_l_draw F, (He.glo_ok X G (c.d.fact 36 (f := .glo "_law_pick") rfl)), F.kp, F.bindsN fun _ _ _ _ _ _ us hl => match us, hl with | [_, _], _ => rfl⟩
  have D_l_letters_of : Dfn P w K mg base (2) "_law_letters_of" ["_law_pen", "_law_many"] spLettersOf := by
    obtain ⟨fd, F⟩ := c.d.def_ 38 (d := d_l_letters_of) rfl
    exact ⟨_, fd, ok_letters_of T D_l_draw F, (He.glo_ok X G (c.d.fact 37 (f := .glo "_law_letters_of") rfl)), F.kp, F.bindsN fun _ _ _ _ _ _ us hl => match us, hl with | [_, _], _ => rfl⟩
  have D_l_word_of : Dfn P w K mg base (3) "_law_word_of" ["_law_pen", "_law_letters", "_law_size"] spWordOf := by
    obtain ⟨fd, F⟩ := c.d.def_ 39 (d := d_l_word_of) rfl
    exact ⟨_, fd, ok_word_of T D_l_pick F, (He.glo_ok X G (c.d.fact 38 (f := .glo "_law_word_of") rfl)), F.kp, F.bindsN fun _ _ _ _ _ _ us hl => match us, hl with | [_, _, _], _ => rfl⟩
  have D_l_tree_of : Dfn P w K mg base (6) "_law_tree_of" ["_law_pen", "_law_letters", "_law_width", "_law_many", "_law_depth"] (spTreeOf 4) := by
    obtain ⟨fd, F⟩ := c.d.def_ 40 (d := d_l_tree_of) rfl
    exact ⟨_, fd, ok_tree_of T D_l_draw D_l_pick F (He.glo_ok X G (c.d.fact 39 (f := .glo "_law_tree_of") rfl)) F.kp (F.bindsN fun _ _ _ _ _ _ us hl => match us, hl with | [_, _, _, _, _], _ => rfl) 4, (He.glo_ok X G (c.d.fact 39 (f := .glo "_law_tree_of") rfl)), F.kp, F.bindsN fun _ _ _ _ _ _ us hl => match us, hl with | [_, _, _, _, _], _ => rfl⟩
  have D_l_bent_tree : Dfn P w K mg base (12) "_law_bent_tree" ["_law_pen", "_law_tree", "_law_width", "_law_many", "_law_chance"] (spBent 10) := by
    obtain ⟨fd, F⟩ := c.d.def_ 41 (d := d_l_bent_tree) rfl
    exact ⟨_, fd, ok_bent T D_l_draw F (He.glo_ok X G (c.d.fact 40 (f := .glo "_law_bent_tree") rfl)) F.kp (F.bindsN fun _ _ _ _ _ _ us hl => match us, hl with | [_, _, _, _, _], _ => rfl) 10, (He.glo_ok X G (c.d.fact 40 (f := .glo "_law_bent_tree") rfl)), F.kp, F.bindsN fun _ _ _ _ _ _ us hl => match us, hl with | [_, _, _, _, _], _ => rfl⟩
  have D_borders_of : Dfn P w K mg base (1) "borders_of" ["word"] spBorders := by
    obtain ⟨fd, F⟩ := c.d.def_ 16 (d := d_borders_of) rfl
    exact ⟨_, fd, ok_borders T  F, (He.glo_ok X G (c.d.fact 19 (f := .glo "borders_of") rfl)), F.kp, F.bindsN fun _ _ _ _ _ _ us hl => match us, hl with | [_], _ => rfl⟩
  have D_steps_down : Dfn P w K mg base (1) "steps_down" ["borders", "size"] spSteps := by
    obtain ⟨fd, F⟩ := c.d.def_ 17 (d := d_steps_down) rfl
    exact ⟨_, fd, ok_steps T  F, (He.glo_ok X G (c.d.fact 20 (f := .glo "steps_down") rfl)), F.kp, F.bindsN fun _ _ _ _ _ _ us hl => match us, hl with | [_, _], _ => rfl⟩
  have D_last_of : Dfn P w K mg base (1) "last_of" ["word", "letter", "end"] spLast := by
    obtain ⟨fd, F⟩ := c.d.def_ 18 (d := d_last_of) rfl
    exact ⟨_, fd, ok_last T  F, (He.glo_ok X G (c.d.fact 21 (f := .glo "last_of") rfl)), F.kp, F.bindsN fun _ _ _ _ _ _ us hl => match us, hl with | [_, _, _], _ => rfl⟩
  have D_compared : Dfn P w K mg base (1) "compared" ["letters", "word", "places", "unlike", "like"] spCompared := by
    obtain ⟨fd, F⟩ := c.d.def_ 19 (d := d_compared) rfl
    exact ⟨_, fd, ok_compared T  F, (He.glo_ok X G (c.d.fact 22 (f := .glo "compared") rfl)), F.kp, F.bindsN fun _ _ _ _ _ _ us hl => match us, hl with | [_, _, _, _, _], _ => rfl⟩
  have D_left_step : Dfn P w K mg base (2) "left_step" ["word", "borders", "way", "place", "letter"] spLeftStep := by
    obtain ⟨fd, F⟩ := c.d.def_ 20 (d := d_left_step) rfl
    exact ⟨_, fd, ok_left_step T D_steps_down F, (He.glo_ok X G (c.d.fact 23 (f := .glo "left_step") rfl)), F.kp, F.bindsN fun _ _ _ _ _ _ us hl => match us, hl with | [_, _, _, _, _], _ => rfl⟩
  have D_from_left : Dfn P w K mg base (3) "from_left" ["letters", "word", "way"] spMaker := by
    obtain ⟨fd, F⟩ := c.d.def_ 21 (d := d_from_left) rfl
    exact ⟨_, fd, ok_from_left T D_borders_of D_left_step D_compared F, (He.glo_ok X G (c.d.fact 24 (f := .glo "from_left") rfl)), F.kp, F.bindsN fun _ _ _ _ _ _ us hl => match us, hl with | [_, _, _], _ => rfl⟩
  have D_is_good_slide : Dfn P w K mg base (1) "is_good_slide" ["word", "place", "by"] spGood := by
    obtain ⟨fd, F⟩ := c.d.def_ 23 (d := d_is_good_slide) rfl
    exact ⟨_, fd, ok_good_slide T  F, (He.glo_ok X G (c.d.fact 26 (f := .glo "is_good_slide") rfl)), F.kp, F.bindsN fun _ _ _ _ _ _ us hl => match us, hl with | [_, _, _], _ => rfl⟩
  have D_right_slide : Dfn P w K mg base (2) "right_slide" ["word", "way", "place", "letter"] spRight := by
    obtain ⟨fd, F⟩ := c.d.def_ 24 (d := d_right_slide) rfl
    exact ⟨_, fd, ok_right_slide T D_last_of D_is_good_slide F, (He.glo_ok X G (c.d.fact 27 (f := .glo "right_slide") rfl)), F.kp, F.bindsN fun _ _ _ _ _ _ us hl => match us, hl with | [_, _, _, _], _ => rfl⟩
  have D_from_right : Dfn P w K mg base (3) "from_right" ["letters", "word", "way"] spMaker := by
    obtain ⟨fd, F⟩ := c.d.def_ 25 (d := d_from_right) rfl
    exact ⟨_, fd, ok_from_right T D_borders_of D_right_slide D_compared F, (He.glo_ok X G (c.d.fact 28 (f := .glo "from_right") rfl)), F.kp, F.bindsN fun _ _ _ _ _ _ us hl => match us, hl with | [_, _, _], _ => rfl⟩
  have D_by_one_letter : Dfn P w K mg base (2) "by_one_letter" ["letters", "word", "way"] spMaker := by
    obtain ⟨fd, F⟩ := c.d.def_ 22 (d := d_by_one_letter) rfl
    exact ⟨_, fd, ok_by_one_letter T D_last_of D_compared F, (He.glo_ok X G (c.d.fact 25 (f := .glo "by_one_letter") rfl)), F.kp, F.bindsN fun _ _ _ _ _ _ us hl => match us, hl with | [_, _, _], _ => rfl⟩
  have D_Knower : Mkr P w K mg base (1) "Knower" (ad K).Knower ["self", "letters", "word"] (spKnI (ad K)) := by
    obtain ⟨fd, F⟩ := c.d.def_ 26 (d := d_Knower_init) rfl
    exact ⟨_, fd, He.mkr_ok (c.d.fact 86 (f := .mkr "Knower") rfl), ok_KnI T  F, (He.glo_ok X G (c.d.fact 29 (f := .glo "Knower") rfl)), F.bindsN fun _ _ _ _ _ _ us hl => match us, hl with | [_, _, _], _ => rfl⟩
  have M_goes : Mtd P w K mg base (2) (ad K).Knower "goes" ["self", "seen"] (spGoes (ad K)) := by
    obtain ⟨fd, F⟩ := c.d.def_ 27 (d := d_Knower_goes) rfl
    exact ⟨_, fd, He.meth_ok (c.d.fact 90 (f := .meth "Knower" "goes") rfl), ok_goes T D_fits D_slid F, F.bindsN fun _ _ _ _ _ _ us hl => match us, hl with | [_, _], _ => rfl⟩
  have M_grown : Mtd P w K mg base (8) (ad K).Knower "grown" ["self", "seen", "places"] (spGrown (ad K) 5) := by
    obtain ⟨fd, F⟩ := c.d.def_ 28 (d := d_Knower_grown) rfl
    exact ⟨_, fd, He.meth_ok (c.d.fact 91 (f := .meth "Knower" "grown") rfl), ok_grown T M_goes F (He.meth_ok (c.d.fact 91 (f := .meth "Knower" "grown") rfl)) (F.bindsN fun _ _ _ _ _ _ us hl => match us, hl with | [_, _, _], _ => rfl) 5, F.bindsN fun _ _ _ _ _ _ us hl => match us, hl with | [_, _, _], _ => rfl⟩
  have M_all_states : Mtd P w K mg base (9) (ad K).Knower "all_states" ["self"] (spAll (ad K)) := by
    obtain ⟨fd, F⟩ := c.d.def_ 29 (d := d_Knower_all_states) rfl
    exact ⟨_, fd, He.meth_ok (c.d.fact 92 (f := .meth "Knower" "all_states") rfl), ok_all_states T M_grown F, F.bindsN fun _ _ _ _ _ _ us hl => match us, hl with | [_], _ => rfl⟩
  have D_made : Dfn P w K mg base (16) "made" ["letters", "word", "way"] (spMade (ad K)) := by
    obtain ⟨fd, F⟩ := c.d.def_ 30 (d := d_made) rfl
    exact ⟨_, fd, ok_made T D_check_words D_from_left D_by_one_letter D_from_right D_Knower M_all_states D_Searcher F, (He.glo_ok X G (c.d.fact 30 (f := .glo "made") rfl)), F.kp, F.bindsN fun _ _ _ _ _ _ us hl => match us, hl with | [_, _, _], _ => rfl⟩
  have D_l_made_ways : Dfn P w K mg base (1) "_law_made_ways" [] spWays := by
    obtain ⟨fd, F⟩ := c.d.def_ 43 (d := d_l_made_ways) rfl
    exact ⟨_, fd, ok_ways T  F, (He.glo_ok X G (c.d.fact 42 (f := .glo "_law_made_ways") rfl)), F.kp, F.bindsN fun _ _ _ _ _ _ us hl => match us, hl with | [], _ => rfl⟩
  have D_l_matter_of : Dfn P w K mg base (17) "_law_matter_of" ["_law_pen", "_law_most"] (spMatter (ad K)) := by
    obtain ⟨fd, F⟩ := c.d.def_ 42 (d := d_l_matter_of) rfl
    exact ⟨_, fd, ok_matter T D_l_draw D_l_pick D_l_letters_of D_l_word_of D_l_tree_of D_l_bent_tree D_l_made_ways D_made F, (He.glo_ok X G (c.d.fact 41 (f := .glo "_law_matter_of") rfl)), F.kp, F.bindsN fun _ _ _ _ _ _ us hl => match us, hl with | [_, _], _ => rfl⟩
  exact ok_law T D_l_pen_of D_l_draw D_l_pick D_l_matter_of D_Searcher D_l_follows F0
end
end K21
open PySem PySem.W PySem.Calls PyProof.Rows
set_option maxHeartbeats 0 in
theorem PySem.Challenge.cw_wordskips_k21_whole_searches_by_turns_holds : PySem.Challenge.rw_wordskips_k21_whole_searches_by_turns.Holds := by
  w_on; o_law
  refine HandSHeadRun.head_any (r := K21.R) (q := view K21.R.prog [82]) (H := K21.hookE) (ob := K21.ob) (M := 7000) (loose := K21.loose) (d := HandSHeadRun.topDef K21.R.prog 82) (kwd := []) K21.ob_eq
    (by kernel_rfl) (fun s => by kernel_rfl) K21.run (by kernel_rfl) (by kernel_rfl) (by kernel_rfl) (by rfl) (by first | assumption | decide +kernel) (by decide +kernel) ⟨rfl, rfl, rfl, rfl, rfl, by decide +kernel⟩ ?hw ?hc
  case hw => w_witness2
  case hc =>
    refine L2.walk_ofE (l := PySem.Challenge.rw_wordskips_k21_whole_searches_by_turns) (n := 63) (k := 18) (x := "_law_script") (CX := L2.CX0) rfl (by decide) (by kernel_rfl) ⟨rfl, by decide, by decide⟩ ?F (fun _ _ _ _ z => z)
    intro w mg fa h Y G hmg0
    obtain ⟨K, KX, c⟩ := Y
    have hmg : mg ("law" : PySem.Str) = some (.ref fa) := by
      have e : (HandSHeadRun.topDef K21.R.prog 82).name = ("law" : PySem.Str) := by kernel_rfl
      rw [← e]
      exact hmg0
    have e := hmg.symm.trans (He.glo_ok KX G (c.d.fact 45 (f := .glo "law") rfl))
    cases e
    obtain ⟨fd, hb, hF⟩ := K21.law_ok (P := (PySem.Challenge.rw_wordskips_k21_whole_searches_by_turns).prog) (w := w) KX G c
    refine ⟨K, fd, K21.spLaw K, KX, hb, fun H a ns hl _ hS => ⟨a, ns, rfl, hS, by omega, fun _ => rfl⟩, fun base _ _ => hF base⟩

